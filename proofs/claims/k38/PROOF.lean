import PyProof.Rows.All
import HandS.HeadEnd
import HandS.Head2
import HandS.HeadHook3
import HandS.HeadHook4
import HandS.ExcField
import HandS.Words
import Wide.All
import OpenK.AllK
import Wide.FinOn
import HandS.ForMost
import HandS.ForExc
import HandS.Wide
import HandS.IsInst
import HandS.TupAny
import HandS.TupMul
import HandS.Zip
import HandS.Walk
import HandS.Conv
import HandS.Codes
import HandS.TryOnly
import HandS.More
import HandS.TupLe
import HandS.Steps
import HandS.Lambda
import KE.GoesEnum
import KE.GoesZip
import HandS.Style
import PyProof.Rows.SeqMore
import HandS.CallLocal
import HandS.SortInts
import HandS.SortRule
import HandS.Deep
import HandS.SetKeys
import HandS.Iter
import HandS.Rev
import PyProof.EqAt
import HandS.CallSlots
import HandS.WordsExc
import HandS.ExcInitHot
import HandS.ExcIs
import HandS.ExcCtx
import KE.KExcIs
import HandS.SuiteRaise
import HandS.EndTab
import HandS.HeadWalk
import HandS.Flow
import KE.KStrBytes
import PySem.Challenge.RW_lostdisk_k38_befalls_refused
set_option Elab.async false
set_option linter.all false
set_option maxRecDepth 100000
set_option maxHeartbeats 1000000
namespace HC
open PySem PySem.Spec L2 PyProof.Rows
def ddF (x : Str) (st : Stmt) : He.DefD := ⟨(x, none), x, x, defArgs st, defBody st, defScope st, [], []⟩
def ddI (c q : Str) (st : Stmt) : He.DefD := ⟨(c, some "__init__"), "__init__", q, defArgs st, defBody st, defScope st, [], []⟩
abbrev AlY : Type := He.AlT × Bool
def obsY0 (fa : List He.Fa) (fn : List He.DefD) (ts : List He.Tab) (ex : List (PySem.W.Frag → Bool)) (K : PySem.W.Frag) : AlY := (He.obsT fa fn ts K, ex.all fun f => f K)
def obsY (n : Nat) (fa : List He.Fa) (fn : List He.DefD) (ts : List He.Tab) (ex : List (PySem.W.Frag → Bool)) (g : Addr → Option Obj) : AlY := obsY0 fa fn ts ex (He.frG g (List.range n))
def valY (fn : List He.DefD) (ts : List He.Tab) (w : World) : AlY := (He.valT fn ts w, true)
def SaysY (fa : List He.Fa) (fn : List He.DefD) (ts : List He.Tab) (ex : List (PySem.W.Frag → Bool)) (w : World) (K : PySem.W.Frag) : Prop := obsY0 fa fn ts ex K = valY fn ts w
def hookY (n : Nat) (fa : List He.Fa) (fn : List He.DefD) (ts : List He.Tab) (ex : List (PySem.W.Frag → Bool)) : PySem.W.Hook where
  α := AlY
  obs := fun s => obsY n fa fn ts ex s.heap.get?
  val := fun w => valY fn ts w
  says := fun w h => ∃ K : PySem.W.Frag, K.In h ∧ SaysY fa fn ts ex w K
  of := fun _ _ e => ⟨_, He.frG_in, e⟩
  keeps := fun _ _ _ ⟨K, hK, c⟩ k => ⟨K, PySem.W.Frag.In.keeps hK k, c⟩
theorem obsY_eq {n : Nat} {fa : List He.Fa} {fn : List He.DefD} {ts : List He.Tab} {ex : List (PySem.W.Frag → Bool)} {g : Addr → Option Obj} {s : Shared} (h : ∀ a, g a = s.heap.get? a) : obsY n fa fn ts ex g = (hookY n fa fn ts ex).obs s := by
  have e : g = s.heap.get? := funext h
  rw [e] <;> rfl
def obsT0 (n : Nat) (fa : List He.Fa) (fn : List He.DefD) (ts : List He.Tab) (ex : List (PySem.W.Frag → Bool)) (g : Addr → Option Obj) : AlY := obsY0 fa fn ts ex (He.frT g (List.range n))
def tabs0 (n : Nat) (tf : List He.Defn) (g : Addr → Option Obj) : Bool := He.tabsB g tf (He.frT g (List.range n))
abbrev AlZ : Type := AlY × Bool
def obsZ (n : Nat) (fa : List He.Fa) (fn : List He.DefD) (ts : List He.Tab) (ex : List (PySem.W.Frag → Bool)) (tf : List He.Defn) (g : Addr → Option Obj) : AlZ := (obsT0 n fa fn ts ex g, tabs0 n tf g)
def TabsIn (tf : List He.Defn) (K : PySem.W.Frag) (h : Heap) : Prop := ∀ p ∈ tf, PySem.W.codeHdIn K (He.cT K p).1 (He.cT K p).2 = true ∧ K.lookup (He.cT K p).2 = none ∧ h.get? (He.cT K p).2 = some { cls := .none, data := .fields #[] }
theorem tabsIn_of {n : Nat} {tf : List He.Defn} {h : Heap} (e : tabs0 n tf h.get? = true) : TabsIn tf (He.frT h.get? (List.range n)) h := fun p hp => by
  obtain ⟨h3, h4⟩ := He.ba (List.all_eq_true.mp e p hp)
  refine ⟨h3, ?_⟩
  revert h4
  cases q : h.get? (He.cT (He.frT h.get? (List.range n)) p).2 with
  | none => exact fun z => by cases z
  | some o => exact fun z => ⟨He.frT_none q z, by rw [He.emptyTab_eq z]⟩
def hookZ (n : Nat) (fa : List He.Fa) (fn : List He.DefD) (ts : List He.Tab) (ex : List (PySem.W.Frag → Bool)) (tf : List He.Defn) : PySem.W.Hook where
  α := AlZ
  obs := fun s => obsZ n fa fn ts ex tf s.heap.get?
  val := fun w => (valY fn ts w, true)
  says := fun w h => ∃ K : PySem.W.Frag, K.In h ∧ SaysY fa fn ts ex w K ∧ TabsIn tf K h
  of := fun _ _ e => ⟨_, He.frT_in, congrArg Prod.fst e, tabsIn_of (congrArg Prod.snd e)⟩
  keeps := fun _ _ _ ⟨K, hK, c, t⟩ k => ⟨K, PySem.W.Frag.In.keeps hK k, c, fun p hp => ⟨(t p hp).1, (t p hp).2.1, k _ _ (t p hp).2.2⟩⟩
theorem obsZ_eq {n : Nat} {fa : List He.Fa} {fn : List He.DefD} {ts : List He.Tab} {ex : List (PySem.W.Frag → Bool)} {tf : List He.Defn} {g : Addr → Option Obj} {s : Shared} (h : ∀ a, g a = s.heap.get? a) : obsZ n fa fn ts ex tf g = (hookZ n fa fn ts ex tf).obs s := by
  have e : g = s.heap.get? := funext h
  rw [e] <;> rfl
def tabNd (xs : List He.Defn) : PySem.W.Frag → Bool := fun K => decide (xs.map fun p => (He.cT K p).2).Nodup
def tabV (K : PySem.W.Frag) : Option Str → Option (Option Value)
  | none => some none
  | some y => some (some (.ref (He.ga K y)))
def inTabB (T x : Str) (f : Option Str) : PySem.W.Frag → Bool := fun K => He.eqO (PySem.W.nsIn K (He.ga K T) x) (tabV K f)
def oexB (x : Str) : PySem.W.Frag → Bool := fun K => (match K.lookup (He.ga K x) with
  | some ⟨.type c, _, .cls cd, sl⟩ => decide (c = "type") && ((match cd.mro, sl.toList with
    | .ref C' :: bm, [_, _, _, _, some (.builtin n), _] => decide (C' = He.ga K x) && (decide (n = "ValueError.__new__") && (cd.hasDict && (!cd.hasDel && PySem.HandSPX.refsVE bm)))
    | _, _ => false))
  | _ => false) && (He.eqO (PySem.W.findIn K (.ref (He.ga K x)) "__setattr__") (some (some (.builtin "object.__setattr__"))) && (decide (PySem.W.subIn K (.ref (He.ga K x)) (.type "BaseException") = some true) &&
    (decide (PySem.W.typeIn K (.ref (He.ga K x)) = some (.type "type")) && PySem.W.keepIn K (.ref (He.ga K x)))))
def initB (x : Str) : PySem.W.Frag → Bool := fun K => He.eqO (PySem.W.findIn K (.ref (He.ga K x)) "__init__") (some (some (.ref (He.ma K (He.ga K x) "__init__")))) && decide (PySem.W.typeIn K (.ref (He.ma K (He.ga K x) "__init__")) = some (.type "function"))
def xckB (x : Str) : PySem.W.Frag → Bool := fun K => (PySem.W.clsIn K (He.ga K x)).isSome && (He.eqO (PySem.W.findIn K (.ref (He.ga K x)) "__getattribute__") (some (some (.builtin "BaseException.__getattribute__"))) && (He.eqO (PySem.W.findIn K (.ref (He.ga K x)) "__getattr__") (some none) &&
  (decide (PySem.W.subIn K (.ref (He.ga K x)) (.type "BaseException") = some true) && (He.eqO (PySem.W.findIn K (.ref (He.ga K x)) "__class__") (some (some (.builtin "object.__class__"))) && (He.eqO (PySem.W.specialIn K (.builtin "object.__class__") "__get__") (some (some (.builtin "getset_descriptor.__get__"))) &&
  (decide (PySem.W.takesIn K (.builtin "object.__class__") = some true) && decide (PySem.W.mroIn K (He.ga K x) (.type "object") = some true)))))))
def kitQV (K : PySem.W.Frag) : Option Str → Value
  | none => .type "ValueError"
  | some y => .ref (He.ga K y)
def kitQB (x : Str) (y : Option Str) (b : Bool) : PySem.W.Frag → Bool := fun K => decide (PySem.W.kitOne K (.ref (He.ga K x)) (kitQV K y) = some b)
def xfcB (x : Str) : PySem.W.Frag → Bool := fun K => L2.xfB K (He.ga K x)
section
open HandSHeadRun
variable {E : Option PySem.W.SharedT} {n : Nat} {fa : List He.Fa} {ts : List He.Tab} {ex : List (PySem.W.Frag → Bool)} {w : World}
theorem obs_add {fn fn2 : List He.DefD} {K : PySem.W.Frag} (h1 : obsY0 fa fn ts ex K = valY fn ts w) (h2 : obsY0 [] fn2 [] [] K = valY fn2 [] w) : obsY0 fa (fn ++ fn2) ts ex K = valY (fn ++ fn2) ts w := by
  have a1 : ((fa.all fun f => f.ok K) && fn.all fun d => d.ok K) = true := congrArg (fun z : AlY => z.1.1.1) h1
  have a2 : fn.map (fun d => He.fnW K d.at_) = fn.map He.DefD.val := congrArg (fun z : AlY => z.1.1.2) h1
  have a3 : ts.map (fun t => He.dicW K (t.1 K)) = ts.map fun t => some (He.keysIn w.params t.2) := congrArg (fun z : AlY => z.1.2) h1
  have a4 : (ex.all fun f => f K) = true := congrArg (fun z : AlY => z.2) h1
  have b1 : (([] : List He.Fa).all (fun f => f.ok K) && fn2.all fun d => d.ok K) = true := congrArg (fun z : AlY => z.1.1.1) h2
  have b2 : fn2.map (fun d => He.fnW K d.at_) = fn2.map He.DefD.val := congrArg (fun z : AlY => z.1.1.2) h2
  obtain ⟨c1, c2⟩ := Bool.and_eq_true_iff.mp a1
  have c3 := (Bool.and_eq_true_iff.mp b1).2
  show ((((fa.all fun f => f.ok K) && (fn ++ fn2).all fun d => d.ok K, (fn ++ fn2).map fun d => He.fnW K d.at_), ts.map fun t => He.dicW K (t.1 K)), ex.all fun f => f K) = (((true, (fn ++ fn2).map He.DefD.val), ts.map fun t => some (He.keysIn w.params t.2)), true)
  rw [List.all_append, List.map_append, List.map_append, c1, c2, c3, a2, a3, a4, b2]
  rfl
theorem run_add {fn fn2 : List He.DefD} (h1 : E.map (fun s => obsY n fa fn ts ex (getT s)) = some (valY fn ts w)) (h2 : E.map (fun s => obsY n [] fn2 [] [] (getT s)) = some (valY fn2 [] w)) :
    E.map (fun s => obsY n fa (fn ++ fn2) ts ex (getT s)) = some (valY (fn ++ fn2) ts w) := by
  cases E with
  | none => cases h1
  | some s => exact congrArg some (obs_add (Option.some.inj h1) (Option.some.inj h2))
theorem run_addT {fn fn2 : List He.DefD} (h1 : E.map (fun s => obsT0 n fa fn ts ex (getT s)) = some (valY fn ts w)) (h2 : E.map (fun s => obsT0 n [] fn2 [] [] (getT s)) = some (valY fn2 [] w)) :
    E.map (fun s => obsT0 n fa (fn ++ fn2) ts ex (getT s)) = some (valY (fn ++ fn2) ts w) := by
  cases E with
  | none => cases h1
  | some s => exact congrArg some (obs_add (Option.some.inj h1) (Option.some.inj h2))
theorem run_join {α β : Type} {f : PySem.W.SharedT → α} {g : PySem.W.SharedT → β} {a : α} {b : β} (h1 : E.map f = some a) (h2 : E.map g = some b) : E.map (fun s => (f s, g s)) = some (a, b) := by
  cases E with
  | none => cases h1
  | some s => exact congrArg some (Prod.ext (Option.some.inj h1) (Option.some.inj h2))
theorem run_join3 {α β γ : Type} {f : PySem.W.SharedT → α} {g : PySem.W.SharedT → β} {k : PySem.W.SharedT → γ} {a : α} {b : β} {c : γ} (h1 : E.map (fun s => (f s, g s)) = some (a, b)) (h2 : E.map k = some c) : E.map (fun s => (f s, g s, k s)) = some (a, b, c) := by
  cases E with
  | none => cases h1
  | some s =>
    have e := Option.some.inj h1
    have e1 : f s = a := congrArg Prod.fst e
    have e2 : g s = b := congrArg Prod.snd e
    have e3 : k s = c := Option.some.inj h2
    show some (f s, g s, k s) = _
    rw [e1, e2, e3]
end
end HC
namespace Law
open PySem PySem.Spec L2 HC PyProof.Rows
set_option maxHeartbeats 0
def top (i : Nat) : Stmt := PySem.Challenge.pw_lostdisk_k38_befalls_refused.main.body.getD i (.Pass ⟨0, 0, 0, 0⟩)
def lxs : List Str := [("_law_disk_right" : Str), ("law" : Str)]
abbrev s_law_next : Stmt := top 26
abbrev s_law_block : Stmt := top 32
abbrev s_law_refused : Stmt := top 37
abbrev s_look_disk : Stmt := top 15
abbrev s_look_place : Stmt := top 16
abbrev s_look_there : Stmt := top 17
abbrev s_bad_block : Stmt := top 20
abbrev s_lose_disk : Stmt := top 19
abbrev s_put_spare : Stmt := top 21
abbrev s_is_full_block : Stmt := top 18
abbrev s_spoil_block : Stmt := top 22
abbrev s_law_disk_right : Stmt := top 39
abbrev s_law_mixed : Stmt := top 24
abbrev s_law_numbers : Stmt := top 25
abbrev s_law_head : Stmt := top 35
abbrev s_law_wide : Stmt := top 31
abbrev s_law_store : Stmt := top 36
abbrev s_law_times : Stmt := top 28
abbrev s_law_parities : Stmt := top 29
abbrev s_law_fulls : Stmt := top 33
abbrev s_law_many : Stmt := top 27
abbrev s_law_gone : Stmt := top 34
abbrev s_law_world : Stmt := top 30
abbrev s_law_world_of : Stmt := top 38
abbrev s_law : Stmt := top 40
def innerOf (s : Stmt) (j : Nat) : Stmt := match s with | .ClassDef _ _ _ b _ _ _ _ _ _ _ => b.getD j (.Pass ⟨0, 0, 0, 0⟩) | _ => s
def faL0 : List He.Fa := [.glo ("law" : Str), .free ("ValueError" : Str), .free ("all" : Str), .free ("int" : Str), .free ("isinstance" : Str), .free ("len" : Str), .free ("min" : Str), .free ("range" : Str), .free ("str" : Str), .free ("sum" : Str), .free ("tuple" : Str), .free ("zip" : Str), .glo ("_law_next" : Str), .glo ("_law_block" : Str), .glo ("_law_refused" : Str), .glo ("look_disk" : Str), .glo ("look_place" : Str), .glo ("look_there" : Str), .glo ("bad_block" : Str), .glo ("lose_disk" : Str), .glo ("put_spare" : Str), .glo ("is_full_block" : Str), .glo ("spoil_block" : Str), .glo ("_law_disk_right" : Str), .glo ("_law_mixed" : Str), .glo ("_law_numbers" : Str), .glo ("_law_head" : Str), .glo ("_law_wide" : Str), .glo ("_law_store" : Str), .glo ("_law_times" : Str)]
def faL1 : List He.Fa := [.glo ("_law_parities" : Str), .glo ("_law_fulls" : Str), .glo ("_law_many" : Str), .glo ("_law_gone" : Str), .glo ("_law_world" : Str), .glo ("_law_world_of" : Str), .glo ("Gone" : Str), .exc ("Gone" : Str), .exm ("Gone" : Str) ("DiskError" : Str) true, .glo ("NoPlace" : Str), .exc ("NoPlace" : Str), .exm ("NoPlace" : Str) ("DiskError" : Str) true, .glo ("NoSpare" : Str), .exc ("NoSpare" : Str), .exm ("NoSpare" : Str) ("DiskError" : Str) true, .glo ("There" : Str), .exc ("There" : Str), .exm ("There" : Str) ("DiskError" : Str) true, .glo ("Growing" : Str), .glo ("Halfway" : Str), .glo ("Lost" : Str), .glo ("NoStore" : Str), .glo ("NoText" : Str), .glo ("NotGrowing" : Str), .glo ("TooFew" : Str), .glo ("Untold" : Str), .glo ("DiskError" : Str)]
def faL : List He.Fa := faL0 ++ faL1
def fnL0 : List He.DefD := [ddF ("_law_next" : Str) s_law_next, ddF ("_law_block" : Str) s_law_block, ddF ("_law_refused" : Str) s_law_refused, ddF ("look_disk" : Str) s_look_disk, ddF ("look_place" : Str) s_look_place, ddF ("look_there" : Str) s_look_there, ddF ("bad_block" : Str) s_bad_block, ddF ("lose_disk" : Str) s_lose_disk, ddF ("put_spare" : Str) s_put_spare, ddF ("is_full_block" : Str) s_is_full_block, ddF ("spoil_block" : Str) s_spoil_block, ddF ("_law_disk_right" : Str) s_law_disk_right, ddF ("_law_mixed" : Str) s_law_mixed, ddF ("_law_numbers" : Str) s_law_numbers, ddF ("_law_head" : Str) s_law_head, ddF ("_law_wide" : Str) s_law_wide, ddF ("_law_store" : Str) s_law_store, ddF ("_law_times" : Str) s_law_times, ddF ("_law_parities" : Str) s_law_parities, ddF ("_law_fulls" : Str) s_law_fulls, ddF ("_law_many" : Str) s_law_many, ddF ("_law_gone" : Str) s_law_gone, ddF ("_law_world" : Str) s_law_world, ddF ("_law_world_of" : Str) s_law_world_of, ddF ("law" : Str) s_law]
def fnL : List He.DefD := fnL0
def tsL0 : List He.Tab := []
def tsL : List He.Tab := tsL0
def exL0 : List (PySem.W.Frag → Bool) := [(tabNd (lxs.map fun x => (x, none))), xckB ("Gone" : Str), kitQB ("Gone" : Str) (some ("Gone" : Str)) true, kitQB ("Gone" : Str) (some ("Growing" : Str)) false, kitQB ("Gone" : Str) (some ("Halfway" : Str)) false, kitQB ("Gone" : Str) (some ("Lost" : Str)) false, kitQB ("Gone" : Str) (some ("NoPlace" : Str)) false, kitQB ("Gone" : Str) (some ("NoSpare" : Str)) false, kitQB ("Gone" : Str) (some ("NoStore" : Str)) false, kitQB ("Gone" : Str) (some ("NoText" : Str)) false, kitQB ("Gone" : Str) (some ("NotGrowing" : Str)) false, kitQB ("Gone" : Str) (some ("There" : Str)) false, kitQB ("Gone" : Str) (some ("TooFew" : Str)) false, kitQB ("Gone" : Str) (some ("Untold" : Str)) false, kitQB ("Gone" : Str) none true, xckB ("NoPlace" : Str), kitQB ("NoPlace" : Str) (some ("Gone" : Str)) false, kitQB ("NoPlace" : Str) (some ("Growing" : Str)) false, kitQB ("NoPlace" : Str) (some ("Halfway" : Str)) false, kitQB ("NoPlace" : Str) (some ("Lost" : Str)) false, kitQB ("NoPlace" : Str) (some ("NoPlace" : Str)) true, kitQB ("NoPlace" : Str) (some ("NoSpare" : Str)) false, kitQB ("NoPlace" : Str) (some ("NoStore" : Str)) false, kitQB ("NoPlace" : Str) (some ("NoText" : Str)) false, kitQB ("NoPlace" : Str) (some ("NotGrowing" : Str)) false, kitQB ("NoPlace" : Str) (some ("There" : Str)) false, kitQB ("NoPlace" : Str) (some ("TooFew" : Str)) false, kitQB ("NoPlace" : Str) (some ("Untold" : Str)) false, kitQB ("NoPlace" : Str) none true, xckB ("NoSpare" : Str)]
def exL1 : List (PySem.W.Frag → Bool) := [kitQB ("NoSpare" : Str) (some ("Gone" : Str)) false, kitQB ("NoSpare" : Str) (some ("Growing" : Str)) false, kitQB ("NoSpare" : Str) (some ("Halfway" : Str)) false, kitQB ("NoSpare" : Str) (some ("Lost" : Str)) false, kitQB ("NoSpare" : Str) (some ("NoPlace" : Str)) false, kitQB ("NoSpare" : Str) (some ("NoSpare" : Str)) true, kitQB ("NoSpare" : Str) (some ("NoStore" : Str)) false, kitQB ("NoSpare" : Str) (some ("NoText" : Str)) false, kitQB ("NoSpare" : Str) (some ("NotGrowing" : Str)) false, kitQB ("NoSpare" : Str) (some ("There" : Str)) false, kitQB ("NoSpare" : Str) (some ("TooFew" : Str)) false, kitQB ("NoSpare" : Str) (some ("Untold" : Str)) false, kitQB ("NoSpare" : Str) none true, xckB ("There" : Str), kitQB ("There" : Str) (some ("Gone" : Str)) false, kitQB ("There" : Str) (some ("Growing" : Str)) false, kitQB ("There" : Str) (some ("Halfway" : Str)) false, kitQB ("There" : Str) (some ("Lost" : Str)) false, kitQB ("There" : Str) (some ("NoPlace" : Str)) false, kitQB ("There" : Str) (some ("NoSpare" : Str)) false, kitQB ("There" : Str) (some ("NoStore" : Str)) false, kitQB ("There" : Str) (some ("NoText" : Str)) false, kitQB ("There" : Str) (some ("NotGrowing" : Str)) false, kitQB ("There" : Str) (some ("There" : Str)) true, kitQB ("There" : Str) (some ("TooFew" : Str)) false, kitQB ("There" : Str) (some ("Untold" : Str)) false, kitQB ("There" : Str) none true]
def exL : List (PySem.W.Frag → Bool) := exL0 ++ exL1
def nmL0 : List Str := [("DiskError" : Str), ("NoPlace" : Str), ("Halfway" : Str), ("Gone" : Str), ("There" : Str), ("NoSpare" : Str), ("Growing" : Str), ("NotGrowing" : Str), ("TooFew" : Str), ("NoStore" : Str), ("Lost" : Str), ("Untold" : Str), ("NoText" : Str), ("look_disk" : Str), ("look_place" : Str), ("look_there" : Str), ("is_full_block" : Str), ("lose_disk" : Str), ("bad_block" : Str), ("put_spare" : Str), ("spoil_block" : Str), ("_law_mixed" : Str), ("_law_numbers" : Str), ("_law_next" : Str), ("_law_many" : Str), ("_law_times" : Str), ("_law_parities" : Str), ("_law_world" : Str), ("_law_wide" : Str), ("_law_block" : Str)]
def nmL1 : List Str := [("_law_fulls" : Str), ("_law_gone" : Str), ("_law_head" : Str), ("_law_store" : Str), ("_law_refused" : Str), ("_law_world_of" : Str), ("_law_disk_right" : Str)]
def nmL : List Str := nmL0 ++ nmL1
abbrev RL : PySem.W.OpenRow := PySem.W.OpenLaw.row PySem.Challenge.rw_lostdisk_k38_befalls_refused
abbrev tfL : List He.Defn := lxs.map fun x => (x, none)
abbrev hkL : PySem.W.Hook := hookZ 2000 faL fnL tsL exL tfL
def obL (s : PySem.W.SharedT) : AlZ := obsZ 2000 faL fnL tsL exL tfL (HandSHeadRun.getT s)
theorem obL_eq (s : PySem.W.SharedT) : obL s = hkL.obs s.abs := obsZ_eq (HandSHeadRun.getT_eq s)
open PySem.W PySem.Calls in
theorem runAF (w : World) (os : OsState) : ((HandSHeadRun.endF (HandSHeadRun.stepQ (HandSHeadRun.denQ HandSHeadRun.tabQ) RL.prog (w.withFollow "special-get-raises" false)) 30000 RL.prog (w.withFollow "special-get-raises" false) os).map fun s => (HandSHeadRun.looksF RL.prog (boot_heap (World.params (w.withFollow "special-get-raises" false))) s.abs, HandSHeadRun.seenQ (PySem.W.view RL.prog [40]) nmL (importedModules RL.prog.main.body) (fun s => PySem.W.xlAt (PySem.W.view RL.prog [40]) [] s && PySem.W.recOk RL.toRowW.records s) s.abs)) = some (true, PySem.W.openGood (PySem.W.view RL.prog [40]) nmL) := by
  kernel_rfl
theorem runBF (w : World) (os : OsState) : ((HandSHeadRun.endF (HandSHeadRun.stepQ (HandSHeadRun.denQ HandSHeadRun.tabQ) RL.prog (w.withFollow "special-get-raises" false)) 30000 RL.prog (w.withFollow "special-get-raises" false) os).map fun s => obsT0 2000 faL [] tsL exL (HandSHeadRun.getT s)) = some (valY [] tsL (w.withFollow "special-get-raises" false)) := by
  kernel_rfl
theorem run0F (w : World) (os : OsState) : ((HandSHeadRun.endF (HandSHeadRun.stepQ (HandSHeadRun.denQ HandSHeadRun.tabQ) RL.prog (w.withFollow "special-get-raises" false)) 30000 RL.prog (w.withFollow "special-get-raises" false) os).map fun s => obsT0 2000 [] fnL0 [] [] (HandSHeadRun.getT s)) = some (valY fnL0 [] (w.withFollow "special-get-raises" false)) := by
  kernel_rfl
theorem runCF (w : World) (os : OsState) : ((HandSHeadRun.endF (HandSHeadRun.stepQ (HandSHeadRun.denQ HandSHeadRun.tabQ) RL.prog (w.withFollow "special-get-raises" false)) 30000 RL.prog (w.withFollow "special-get-raises" false) os).map fun s => tabs0 2000 tfL (HandSHeadRun.getT s)) = some true := by
  kernel_rfl
theorem runJF (w : World) (os : OsState) : ((HandSHeadRun.endF (HandSHeadRun.stepQ (HandSHeadRun.denQ HandSHeadRun.tabQ) RL.prog (w.withFollow "special-get-raises" false)) 30000 RL.prog (w.withFollow "special-get-raises" false) os).map fun s => obL s) = some (valY fnL tsL (w.withFollow "special-get-raises" false), true) := by
  have h := (run_join (run_addT (runBF w os) (run0F w os)) (runCF w os))
  exact h
open PySem.W PySem.Calls in
theorem runKF (w : World) (os : OsState) : ((HandSHeadRun.endF (HandSHeadRun.stepQ (HandSHeadRun.denQ HandSHeadRun.tabQ) RL.prog (w.withFollow "special-get-raises" false)) 30000 RL.prog (w.withFollow "special-get-raises" false) os).map fun s => (HandSHeadRun.looksF RL.prog (boot_heap (World.params (w.withFollow "special-get-raises" false))) s.abs, HandSHeadRun.seenQ (PySem.W.view RL.prog [40]) nmL (importedModules RL.prog.main.body) (fun s => PySem.W.xlAt (PySem.W.view RL.prog [40]) [] s && PySem.W.recOk RL.toRowW.records s) s.abs, obL s)) = some (true, PySem.W.openGood (PySem.W.view RL.prog [40]) nmL, (valY fnL tsL (w.withFollow "special-get-raises" false), true)) := run_join3 (runAF w os) (runJF w os)
theorem runF (w : World) : HandSHeadRun.RunEq RL (PySem.W.view RL.prog [40]) hkL obL 30000 nmL (w.withFollow "special-get-raises" false) := fun os => runKF w os
open PySem.W PySem.Calls in
theorem runAT (w : World) (os : OsState) : ((HandSHeadRun.endF (HandSHeadRun.stepQ (HandSHeadRun.denQ HandSHeadRun.tabQ) RL.prog (w.withFollow "special-get-raises" true)) 30000 RL.prog (w.withFollow "special-get-raises" true) os).map fun s => (HandSHeadRun.looksF RL.prog (boot_heap (World.params (w.withFollow "special-get-raises" true))) s.abs, HandSHeadRun.seenQ (PySem.W.view RL.prog [40]) nmL (importedModules RL.prog.main.body) (fun s => PySem.W.xlAt (PySem.W.view RL.prog [40]) [] s && PySem.W.recOk RL.toRowW.records s) s.abs)) = some (true, PySem.W.openGood (PySem.W.view RL.prog [40]) nmL) := by
  kernel_rfl
theorem runBT (w : World) (os : OsState) : ((HandSHeadRun.endF (HandSHeadRun.stepQ (HandSHeadRun.denQ HandSHeadRun.tabQ) RL.prog (w.withFollow "special-get-raises" true)) 30000 RL.prog (w.withFollow "special-get-raises" true) os).map fun s => obsT0 2000 faL [] tsL exL (HandSHeadRun.getT s)) = some (valY [] tsL (w.withFollow "special-get-raises" true)) := by
  kernel_rfl
theorem run0T (w : World) (os : OsState) : ((HandSHeadRun.endF (HandSHeadRun.stepQ (HandSHeadRun.denQ HandSHeadRun.tabQ) RL.prog (w.withFollow "special-get-raises" true)) 30000 RL.prog (w.withFollow "special-get-raises" true) os).map fun s => obsT0 2000 [] fnL0 [] [] (HandSHeadRun.getT s)) = some (valY fnL0 [] (w.withFollow "special-get-raises" true)) := by
  kernel_rfl
theorem runCT (w : World) (os : OsState) : ((HandSHeadRun.endF (HandSHeadRun.stepQ (HandSHeadRun.denQ HandSHeadRun.tabQ) RL.prog (w.withFollow "special-get-raises" true)) 30000 RL.prog (w.withFollow "special-get-raises" true) os).map fun s => tabs0 2000 tfL (HandSHeadRun.getT s)) = some true := by
  kernel_rfl
theorem runJT (w : World) (os : OsState) : ((HandSHeadRun.endF (HandSHeadRun.stepQ (HandSHeadRun.denQ HandSHeadRun.tabQ) RL.prog (w.withFollow "special-get-raises" true)) 30000 RL.prog (w.withFollow "special-get-raises" true) os).map fun s => obL s) = some (valY fnL tsL (w.withFollow "special-get-raises" true), true) := by
  have h := (run_join (run_addT (runBT w os) (run0T w os)) (runCT w os))
  exact h
open PySem.W PySem.Calls in
theorem runKT (w : World) (os : OsState) : ((HandSHeadRun.endF (HandSHeadRun.stepQ (HandSHeadRun.denQ HandSHeadRun.tabQ) RL.prog (w.withFollow "special-get-raises" true)) 30000 RL.prog (w.withFollow "special-get-raises" true) os).map fun s => (HandSHeadRun.looksF RL.prog (boot_heap (World.params (w.withFollow "special-get-raises" true))) s.abs, HandSHeadRun.seenQ (PySem.W.view RL.prog [40]) nmL (importedModules RL.prog.main.body) (fun s => PySem.W.xlAt (PySem.W.view RL.prog [40]) [] s && PySem.W.recOk RL.toRowW.records s) s.abs, obL s)) = some (true, PySem.W.openGood (PySem.W.view RL.prog [40]) nmL, (valY fnL tsL (w.withFollow "special-get-raises" true), true)) := run_join3 (runAT w os) (runJT w os)
theorem runT (w : World) : HandSHeadRun.RunEq RL (PySem.W.view RL.prog [40]) hkL obL 30000 nmL (w.withFollow "special-get-raises" true) := fun os => runKT w os
theorem run (w : World) : HandSHeadRun.RunEq RL (PySem.W.view RL.prog [40]) hkL obL 30000 nmL w := PySem.W.byRow2 "special-get-raises" (P := fun w => HandSHeadRun.RunEq RL (PySem.W.view RL.prog [40]) hkL obL 30000 nmL w) runF runT w
end Law
set_option maxHeartbeats 4000000
namespace HC
open PySem L2
inductive Dv where
  | non | bl (b : Bool) | int (i : Int) | str (x : Str) | ref (a : Addr) | ty (n : String)
  | tup (xs : List Dv)
  | rol (xs : List Dv)
  | tuc (xs : List Dv)
  | exc (c : Str) (f : Option Int)
inductive Cell where
  | lst (xs : List Dv)
  | dic (kvs : List (Key × Dv))
  | dit (kvs : List (List Key × Dv))
  | fdc (kvs : List (Key × Dv))
  | obj (C : Addr) (fs : List (Str × Dv))
  | tab (x : Str)
  | cod (q : Str)
abbrev Ms := Addr → Option Cell
def mup (M : Ms) (a : Addr) (c : Cell) : Ms := fun b => if b = a then some c else M b
theorem mup_same {M : Ms} {a : Addr} {c : Cell} : mup M a c a = some c := if_pos rfl
theorem mup_ne {M : Ms} {a b : Addr} {c : Cell} (h : b ≠ a) : mup M a c b = M b := if_neg h
theorem mup_mup {M : Ms} {a : Addr} {c d : Cell} : mup (mup M a c) a d = mup M a d := by
  funext b; unfold mup; split <;> rfl
theorem mup_self {M : Ms} {a : Addr} {c : Cell} (h : M a = some c) : mup M a c = M := by
  funext b; unfold mup; split
  · subst b; exact h.symm
  · rfl
theorem ne_of_new {M : Ms} {a p : Addr} {c : Cell} (h : M a = some c) (h' : M p = none) : a ≠ p := by
  intro e; subst e; rw [h] at h'; cases h'
def SqF (K : PySem.W.Frag) (H : Hp) (a : Addr) (xs : List V) : Prop := (∃ o, H a = some (.frz o (.lst xs))) ∨ SqL K (fun _ => none) a xs
theorem SqF.l {K : PySem.W.Frag} {H : Hp} {a : Addr} {xs : List V} (h : SqF K H a xs) : SqL K H a xs := by
  rcases h with ⟨o, h⟩ | h
  · exact .inl (.inr ⟨o, h⟩)
  · rcases h with (h | ⟨_, h⟩) | h
    · cases h
    · cases h
    · exact .inr h
def SqC (H : Hp) (a : Addr) (xs : List V) : Prop := ∃ o : Obj, H a = some (.frz o (.tup xs)) ∧ o.dict = none
theorem SqC.t {K : PySem.W.Frag} {H : Hp} {a : Addr} {xs : List V} (h : SqC H a xs) : SqT K H a xs := by
  obtain ⟨o, h, _⟩ := h
  exact .inl (.inr ⟨o, h⟩)
def SqX (K : PySem.W.Frag) (H : Hp) (a : Addr) (c : Str) (f : Option Int) : Prop := ∃ (C : Addr) (oe : Obj) (u : HO), PySem.W.nsIn K mainGlobals c = some (some (.ref C)) ∧ H a = some (.frz oe u) ∧ oe.cls = .ref C ∧ (∃ vs, oe.data = .fields vs) ∧
  match f with
  | none => oe.dict = none
  | some r => ∃ dx od, oe.dict = some dx ∧ H dx = some (.frz od (.xd [(("row" : Str), .int r)]))
mutual
def Rep (K : PySem.W.Frag) (H : Hp) : Dv → V → Prop
  | .non, v => v = .non
  | .bl b, v => v = .bl b
  | .int i, v => v = .int i
  | .str x, v => v = .str x
  | .ref a, v => v = .ref a
  | .ty n, v => v = .ty n
  | .tup ds, v => ∃ a vs, v = .ref a ∧ SqT K H a vs ∧ Reps K H ds vs
  | .rol ds, v => ∃ a vs, v = .ref a ∧ SqF K H a vs ∧ Reps K H ds vs
  | .tuc ds, v => ∃ a vs, v = .ref a ∧ SqC H a vs ∧ Reps K H ds vs
  | .exc c f, v => ∃ a, v = .ref a ∧ SqX K H a c f
def Reps (K : PySem.W.Frag) (H : Hp) : List Dv → List V → Prop
  | [], vs => vs = []
  | d :: ds, vs => ∃ v r, vs = v :: r ∧ Rep K H d v ∧ Reps K H ds r
end
structure Tp (K : PySem.W.Frag) (H H' : Hp) : Prop where
  t : ∀ a vs, SqT K H a vs → SqT K H' a vs
  f : ∀ a vs, SqF K H a vs → SqF K H' a vs
  c : ∀ a vs, SqC H a vs → SqC H' a vs
  d : ∀ a o u, H a = some (.frz o u) → H' a = some (.frz o u)
theorem Tp.refl {K : PySem.W.Frag} (H : Hp) : Tp K H H := ⟨fun _ _ h => h, fun _ _ h => h, fun _ _ h => h, fun _ _ _ h => h⟩
theorem Tp.trans {K : PySem.W.Frag} {H H1 H2 : Hp} (a : Tp K H H1) (b : Tp K H1 H2) : Tp K H H2 := ⟨fun x vs h => b.t x vs (a.t x vs h), fun x vs h => b.f x vs (a.f x vs h), fun x vs h => b.c x vs (a.c x vs h), fun x o u h => b.d x o u (a.d x o u h)⟩
def Soft : Option HO → Prop
  | none => True
  | some (.lst _) => True
  | some (.dK _) => True
  | some (.dT _) => True
  | some (.ins _ _ _) => True
  | _ => False
theorem Tp.put {K : PySem.W.Frag} {H : Hp} {a : Addr} {o : HO} (h : Soft (H a)) : Tp K H (upd H a o) := by
  refine ⟨fun b vs q => ?_, fun b vs q => ?_, fun b vs ⟨ob, q, hd⟩ => ⟨ob, (upd_ne (fun e => by subst e; rw [q] at h; exact h)).trans q, hd⟩, fun b o u q => (upd_ne (fun e => by subst e; rw [q] at h; exact h)).trans q⟩
  · rcases q with (q | ⟨ob, q⟩) | q
    · refine .inl (.inl ?_)
      rw [upd_ne]
      · exact q
      · intro e; subst e; rw [q] at h; exact h
    · refine .inl (.inr ⟨ob, ?_⟩)
      rw [upd_ne]
      · exact q
      · intro e; subst e; rw [q] at h; exact h
    · exact .inr q
  · rcases q with ⟨ob, q⟩ | q
    · refine .inl ⟨ob, ?_⟩
      rw [upd_ne]
      · exact q
      · intro e; subst e; rw [q] at h; exact h
    · exact .inr q
theorem SqX.mono {K : PySem.W.Frag} {H H' : Hp} {a : Addr} {c : Str} {f : Option Int} (h : SqX K H a c f) (t : Tp K H H') : SqX K H' a c f := by
  obtain ⟨C, oe, u, h1, h2, h3, h4, h5⟩ := h
  refine ⟨C, oe, u, h1, t.d _ _ _ h2, h3, h4, ?_⟩
  cases f with
  | none => exact h5
  | some r =>
    obtain ⟨dx, od, e, q⟩ := h5
    exact ⟨dx, od, e, t.d _ _ _ q⟩
section
variable {K : PySem.W.Frag} {H H' : Hp}
mutual
theorem Rep.mono (t : Tp K H H') : ∀ {d : Dv} {v : V}, Rep K H d v → Rep K H' d v
  | .non, _, h => by simpa only [Rep] using h
  | .bl _, _, h => by simpa only [Rep] using h
  | .int _, _, h => by simpa only [Rep] using h
  | .str _, _, h => by simpa only [Rep] using h
  | .ref _, _, h => by simpa only [Rep] using h
  | .ty _, _, h => by simpa only [Rep] using h
  | .tup ds, _, h => by
    simp only [Rep] at h ⊢
    obtain ⟨a, vs, e, q, r⟩ := h
    exact ⟨a, vs, e, t.t _ _ q, Reps.mono t r⟩
  | .rol ds, _, h => by
    simp only [Rep] at h ⊢
    obtain ⟨a, vs, e, q, r⟩ := h
    exact ⟨a, vs, e, t.f _ _ q, Reps.mono t r⟩
  | .tuc ds, _, h => by
    simp only [Rep] at h ⊢
    obtain ⟨a, vs, e, q, r⟩ := h
    exact ⟨a, vs, e, t.c _ _ q, Reps.mono t r⟩
  | .exc c f, _, h => by
    simp only [Rep] at h ⊢
    obtain ⟨a, e, q⟩ := h
    exact ⟨a, e, q.mono t⟩
theorem Reps.mono (t : Tp K H H') : ∀ {ds : List Dv} {vs : List V}, Reps K H ds vs → Reps K H' ds vs
  | [], _, h => by simpa only [Reps] using h
  | d :: ds, _, h => by
    simp only [Reps] at h ⊢
    obtain ⟨v, r, e, q, z⟩ := h
    exact ⟨v, r, e, Rep.mono t q, Reps.mono t z⟩
end
theorem Reps.nil : Reps K H [] [] := by simp only [Reps]
theorem Reps.cons {d : Dv} {v : V} {ds : List Dv} {vs : List V} (h : Rep K H d v) (r : Reps K H ds vs) : Reps K H (d :: ds) (v :: vs) := by
  simp only [Reps]
  exact ⟨v, vs, rfl, h, r⟩
theorem Reps.cons_inv {d : Dv} {ds : List Dv} {vs : List V} (h : Reps K H (d :: ds) vs) : ∃ v r, vs = v :: r ∧ Rep K H d v ∧ Reps K H ds r := by
  simpa only [Reps] using h
theorem Reps.nil_inv {vs : List V} (h : Reps K H [] vs) : vs = [] := by simpa only [Reps] using h
theorem Reps.length : ∀ {ds : List Dv} {vs : List V}, Reps K H ds vs → ds.length = vs.length
  | [], _, h => by rw [h.nil_inv]; rfl
  | d :: ds, _, h => by
    obtain ⟨v, r, rfl, _, z⟩ := h.cons_inv
    simp [Reps.length z]
theorem Reps.append : ∀ {ds es : List Dv} {vs ws : List V}, Reps K H ds vs → Reps K H es ws → Reps K H (ds ++ es) (vs ++ ws)
  | [], _, _, _, h, h' => by rw [h.nil_inv]; exact h'
  | d :: ds, _, _, _, h, h' => by
    obtain ⟨v, r, rfl, q, z⟩ := h.cons_inv
    exact Reps.cons q (Reps.append z h')
theorem Reps.get : ∀ {ds : List Dv} {vs : List V} {i : Nat} {d : Dv}, Reps K H ds vs → ds[i]? = some d → ∃ v, vs[i]? = some v ∧ Rep K H d v
  | [], _, _, _, _, e => by simp at e
  | d :: ds, _, 0, x, h, e => by
    obtain ⟨v, r, rfl, q, z⟩ := h.cons_inv
    simp at e; subst e
    exact ⟨v, rfl, q⟩
  | d :: ds, _, i + 1, x, h, e => by
    obtain ⟨v, r, rfl, q, z⟩ := h.cons_inv
    obtain ⟨w, h1, h2⟩ := Reps.get (i := i) z (by simpa using e)
    exact ⟨w, by simpa using h1, h2⟩
theorem Reps.take : ∀ {ds : List Dv} {vs : List V} (n : Nat), Reps K H ds vs → Reps K H (ds.take n) (vs.take n)
  | _, _, 0, _ => by simpa using Reps.nil
  | [], _, n + 1, h => by rw [h.nil_inv]; simpa using Reps.nil
  | d :: ds, _, n + 1, h => by
    obtain ⟨v, r, rfl, q, z⟩ := h.cons_inv
    simpa using Reps.cons q (Reps.take n z)
theorem Reps.drop : ∀ {ds : List Dv} {vs : List V} (n : Nat), Reps K H ds vs → Reps K H (ds.drop n) (vs.drop n)
  | _, _, 0, h => by simpa using h
  | [], _, n + 1, h => by rw [h.nil_inv]; simpa using Reps.nil
  | d :: ds, _, n + 1, h => by
    obtain ⟨v, r, rfl, q, z⟩ := h.cons_inv
    simpa using Reps.drop n z
theorem Reps.set : ∀ {ds : List Dv} {vs : List V} {d : Dv} {v : V} (i : Nat), Reps K H ds vs → Rep K H d v → Reps K H (ds.set i d) (vs.set i v)
  | [], _, _, _, _, h, _ => by rw [h.nil_inv]; simpa using Reps.nil
  | d :: ds, _, _, _, 0, h, q' => by
    obtain ⟨v, r, rfl, q, z⟩ := h.cons_inv
    simpa using Reps.cons q' z
  | d :: ds, _, _, _, i + 1, h, q' => by
    obtain ⟨v, r, rfl, q, z⟩ := h.cons_inv
    simpa using Reps.cons q (Reps.set i z q')
theorem Reps.eraseIdx : ∀ {ds : List Dv} {vs : List V} (i : Nat), Reps K H ds vs → Reps K H (ds.eraseIdx i) (vs.eraseIdx i)
  | [], _, _, h => by rw [h.nil_inv]; simpa using Reps.nil
  | d :: ds, _, 0, h => by
    obtain ⟨v, r, rfl, q, z⟩ := h.cons_inv
    simpa using z
  | d :: ds, _, i + 1, h => by
    obtain ⟨v, r, rfl, q, z⟩ := h.cons_inv
    simpa using Reps.cons q (Reps.eraseIdx i z)
theorem Reps.rev {ds : List Dv} {vs : List V} (h : Reps K H ds vs) : Reps K H ds.reverse vs.reverse := by
  induction ds generalizing vs with
  | nil => rw [h.nil_inv]; simpa using Reps.nil
  | cons d ds ih =>
    obtain ⟨v, r, rfl, q, z⟩ := h.cons_inv
    simpa using Reps.append (ih z) (Reps.cons q Reps.nil)
theorem Reps.ints : ∀ {ns : List Int} {vs : List V}, Reps K H (ns.map Dv.int) vs → vs = ns.map V.int
  | [], _, h => by simpa using h.nil_inv
  | n :: ns, _, h => by
    obtain ⟨v, r, rfl, q, z⟩ := Reps.cons_inv (d := .int n) (ds := ns.map Dv.int) (by simpa using h)
    have e : v = .int n := by simpa only [Rep] using q
    rw [e, Reps.ints z]; rfl
theorem Reps.of_ints : ∀ (ns : List Int), Reps K H (ns.map Dv.int) (ns.map V.int)
  | [] => by simpa using Reps.nil
  | n :: ns => Reps.cons (by simp only [Rep]) (Reps.of_ints ns)
theorem Reps.bools : ∀ {ns : List Bool} {vs : List V}, Reps K H (ns.map Dv.bl) vs → vs = ns.map V.bl
  | [], _, h => by simpa using h.nil_inv
  | n :: ns, _, h => by
    obtain ⟨v, r, rfl, q, z⟩ := Reps.cons_inv (d := .bl n) (ds := ns.map Dv.bl) (by simpa using h)
    have e : v = .bl n := by simpa only [Rep] using q
    rw [e, Reps.bools z]; rfl
theorem Reps.replicate {d : Dv} {v : V} (h : Rep K H d v) : ∀ (n : Nat), Reps K H (List.replicate n d) (List.replicate n v)
  | 0 => Reps.nil
  | n + 1 => Reps.cons h (Reps.replicate h n)
end
def lamQ (x : Str) : Str := x ++ ".<locals>." ++ "<lambda>"
def lamP (K : PySem.W.Frag) (x : Str) : Addr := (He.cT K (x, none)).2
def RepC (K : PySem.W.Frag) (H : Hp) (a : Addr) : Cell → Prop
  | .tab x => a = lamP K x ∧ LamX.TabS H a (lamQ x)
  | .cod q => H a = some (LamX.CodeO a q)
  | .lst ds => ∃ vs, H a = some (.lst vs) ∧ Reps K H ds vs
  | .dic kds => ∃ kvs, H a = some (.dK kvs) ∧ Paired (fun (p : Key × Dv) (q : Key × V) => p.1 = q.1 ∧ Rep K H p.2 q.2) kds kvs
  | .dit kds => ∃ kvs, H a = some (.dT kvs) ∧ Paired (fun (p : List Key × Dv) (q : List Key × V) => p.1 = q.1 ∧ Rep K H p.2 q.2) kds kvs
  | .fdc kds => ∃ kvs o, H a = some (.frz o (.dK kvs)) ∧ Paired (fun (p : Key × Dv) (q : Key × V) => p.1 = q.1 ∧ Rep K H p.2 q.2) kds kvs
  | .obj C fs => ∃ dx vs, H a = some (.ins C dx vs) ∧ Paired (fun (p : Str × Dv) (q : Str × V) => p.1 = q.1 ∧ Rep K H p.2 q.2) fs vs
def Cell.sf : Cell → Bool
  | .fdc _ => false
  | .tab _ => false
  | .cod _ => false
  | _ => true
def View (K : PySem.W.Frag) (M : Ms) (H : Hp) : Prop := ∀ a c, M a = some c → RepC K H a c
def Sub (M M' : Ms) : Prop := ∀ a c, M a = some c → M' a = some c
theorem Sub.refl (M : Ms) : Sub M M := fun _ _ h => h
theorem Sub.trans {M M1 M2 : Ms} (a : Sub M M1) (b : Sub M1 M2) : Sub M M2 := fun x c h => b x c (a x c h)
theorem Sub.new {M : Ms} {p : Addr} {c : Cell} (h : M p = none) : Sub M (mup M p c) := fun b d e => by
  rw [mup_ne (ne_of_new e h)]; exact e
theorem Sub.mut {M M' : Ms} {p : Addr} {c : Cell} (s : Sub M M') (h : M p = none) : Sub M (mup M' p c) := fun b d e => by
  rw [mup_ne (ne_of_new e h)]; exact s b d e
theorem Sub.free {M M' : Ms} (s : Sub M M') {p : Addr} (h : M' p = none) : M p = none := by
  cases q : M p with
  | none => rfl
  | some c => rw [s p c q] at h; cases h
theorem Sub.both {M M' : Ms} {p : Addr} {c : Cell} (s : Sub M M') : Sub (mup M p c) (mup M' p c) := fun b d e => by
  by_cases h : b = p
  · subst h; rw [mup_same] at e ⊢; exact e
  · rw [mup_ne h] at e ⊢; exact s b d e
section
variable {K : PySem.W.Frag} {M M' : Ms} {H H' : Hp} {a : Addr}
theorem View.sub (v : View K M' H) (s : Sub M M') : View K M H := fun a c e => v a c (s a c e)
theorem RepC.ne {c : Cell} (h : RepC K H a c) : H a ≠ none := by
  cases c with
  | lst ds => obtain ⟨vs, e, _⟩ := h; rw [e]; exact fun q => nomatch q
  | dic ds => obtain ⟨vs, e, _⟩ := h; rw [e]; exact fun q => nomatch q
  | dit ds => obtain ⟨vs, e, _⟩ := h; rw [e]; exact fun q => nomatch q
  | fdc ds => obtain ⟨vs, o, e, _⟩ := h; rw [e]; exact fun q => nomatch q
  | obj C ds => obtain ⟨dx, vs, e, _⟩ := h; rw [e]; exact fun q => nomatch q
  | tab x => obtain ⟨_, ps, e, _⟩ := h; rw [e]; exact fun q => nomatch q
  | cod q => have h : H a = some (LamX.CodeO a q) := h; rw [h]; exact fun q => nomatch q
theorem View.free (v : View K M H) (h : H a = none) : M a = none := by
  cases q : M a with
  | none => rfl
  | some c => exact ((v a c q).ne h).elim
theorem View.soft (v : View K M H) {c : Cell} (h : M a = some c) (hs : c.sf = true := by rfl) : Soft (H a) := by
  have r := v a c h
  cases c with
  | lst ds => obtain ⟨vs, e, _⟩ := r; rw [e]; trivial
  | dic ds => obtain ⟨vs, e, _⟩ := r; rw [e]; trivial
  | dit ds => obtain ⟨vs, e, _⟩ := r; rw [e]; trivial
  | fdc ds => cases hs
  | obj C ds => obtain ⟨dx, vs, e, _⟩ := r; rw [e]; trivial
  | tab xs => cases hs
  | cod q => cases hs
def TpE (H H' : Hp) : Prop := ∀ b o, H b = some o → ((∃ ps, o = .tbl ps) ∨ ∃ φ, o = .ext φ) → H' b = some o
theorem TpE.tab {H H' : Hp} (x : TpE H H') {P : Addr} {q : Str} (t : LamX.TabS H P q) : LamX.TabS H' P q := by
  obtain ⟨ps, h1, h2, h3⟩ := t
  refine ⟨ps, x _ _ h1 (.inl ⟨_, rfl⟩), h2, fun pos cv hc => ?_⟩
  obtain ⟨c, e1, e2⟩ := h3 pos cv hc
  exact ⟨c, e1, x _ _ e2 (.inr ⟨_, rfl⟩)⟩
theorem TpE.soft {H : Hp} {a : Addr} {o : HO} (hs : Soft (H a)) : TpE H (upd H a o) := fun b u q hu => (upd_ne (fun z => by
  subst z
  rw [q] at hs
  rcases hu with ⟨_, rfl⟩ | ⟨_, rfl⟩ <;> exact hs)).trans q
theorem RepC.keep {c : Cell} (r : RepC K H a c) (t : Tp K H H') (e : H' a = H a) (x : TpE H H') : RepC K H' a c := by
  cases c with
  | tab y => exact ⟨r.1, x.tab r.2⟩
  | cod q => exact e.trans r
  | lst ds =>
    obtain ⟨vs, h, q⟩ := r
    exact ⟨vs, e.trans h, q.mono t⟩
  | dic ds =>
    obtain ⟨vs, h, q⟩ := r
    exact ⟨vs, e.trans h, Paired.mapP q fun _ _ z => ⟨z.1, z.2.mono t⟩⟩
  | dit ds =>
    obtain ⟨vs, h, q⟩ := r
    exact ⟨vs, e.trans h, Paired.mapP q fun _ _ z => ⟨z.1, z.2.mono t⟩⟩
  | fdc ds =>
    obtain ⟨vs, o, h, q⟩ := r
    exact ⟨vs, o, e.trans h, Paired.mapP q fun _ _ z => ⟨z.1, z.2.mono t⟩⟩
  | obj C ds =>
    obtain ⟨dx, vs, h, q⟩ := r
    exact ⟨dx, vs, e.trans h, Paired.mapP q fun _ _ z => ⟨z.1, z.2.mono t⟩⟩
theorem View.put {o : HO} {c : Cell} (v : View K M H) (hs : Soft (H a)) (r : RepC K (upd H a o) a c) : View K (mup M a c) (upd H a o) := fun b d e => by
  by_cases h : b = a
  · subst h; rw [mup_same] at e; cases e; exact r
  · rw [mup_ne h] at e
    exact (v b d e).keep (Tp.put hs) (upd_ne h) (TpE.soft hs)
theorem View.new {o : HO} (v : View K M H) (h : H a = none) : View K M (upd H a o) := fun b d e => by
  refine (v b d e).keep (Tp.put (by rw [h]; trivial)) (upd_ne ?_) (TpE.soft (by rw [h]; trivial))
  intro z; subst z; exact (v b d e).ne h
theorem Tp.new {o : HO} (h : H a = none) : Tp K H (upd H a o) := Tp.put (by rw [h]; trivial)
end
abbrev Env' := List (Option Dv)
structure RepE (K : PySem.W.Frag) (H : Hp) (ρ : Env') (σ : L2.St) : Prop where
  len : ρ.length = σ.length
  at' : ∀ (i : Nat) (d : Dv), ρ[i]? = some (some d) → ∃ v, σ[i]? = some (some v) ∧ Rep K H d v
section
variable {K : PySem.W.Frag} {H H' : Hp} {ρ : Env'} {σ : L2.St}
theorem RepE.mono (r : RepE K H ρ σ) (t : Tp K H H') : RepE K H' ρ σ := ⟨r.len, fun i d e => let ⟨v, h, q⟩ := r.at' i d e; ⟨v, h, q.mono t⟩⟩
theorem RepE.set {d : Dv} {v : V} (r : RepE K H ρ σ) (i : Nat) (q : Rep K H d v) : RepE K H (ρ.set i (some d)) (σ.set i (some v)) := by
  refine ⟨by simp [r.len], fun j e h => ?_⟩
  by_cases hj : i = j
  · subst hj
    have hl : i < ρ.length := by
      have := (List.getElem?_eq_some_iff.mp h).1
      simpa using this
    rw [List.getElem?_set_self hl] at h
    cases h
    exact ⟨v, List.getElem?_set_self (by rw [← r.len]; exact hl), q⟩
  · rw [List.getElem?_set_ne hj] at h
    obtain ⟨w, h1, h2⟩ := r.at' j e h
    exact ⟨w, by rw [List.getElem?_set_ne hj]; exact h1, h2⟩
theorem RepE.drop (r : RepE K H ρ σ) (i : Nat) (x : Option V) : RepE K H (ρ.set i none) (σ.set i x) := by
  refine ⟨by simp [r.len], fun j e h => ?_⟩
  by_cases hj : i = j
  · subst hj
    have hl : i < ρ.length := by
      have := (List.getElem?_eq_some_iff.mp h).1
      simpa using this
    rw [List.getElem?_set_self hl] at h
    cases h
  · rw [List.getElem?_set_ne hj] at h
    obtain ⟨w, h1, h2⟩ := r.at' j e h
    exact ⟨w, by rw [List.getElem?_set_ne hj]; exact h1, h2⟩
def wipeA (ρ : Env') : List Nat → Env'
  | [] => ρ
  | v :: vs => (wipeA ρ vs).set v none
theorem RepE.wipe (r : RepE K H ρ σ) : ∀ (vs : List Nat), RepE K H (wipeA ρ vs) (wipe σ vs)
  | [] => r
  | v :: vs => (RepE.wipe r vs).drop v none
end
def SubE : Env' → Env' → Prop
  | [], [] => True
  | none :: r, _ :: r' => SubE r r'
  | some d :: r, y :: r' => y = some d ∧ SubE r r'
  | _, _ => False
theorem SubE.refl : ∀ (ρ : Env'), SubE ρ ρ
  | [] => True.intro
  | none :: r => SubE.refl r
  | some d :: r => ⟨rfl, SubE.refl r⟩
theorem SubE.rep {K : PySem.W.Frag} {H : Hp} : ∀ {ρ ρ' : Env'} {σ : L2.St}, SubE ρ ρ' → RepE K H ρ' σ → RepE K H ρ σ := fun {ρ ρ' σ} h r => by
  have len : ∀ {ρ ρ' : Env'}, SubE ρ ρ' → ρ.length = ρ'.length := by
    intro ρ
    induction ρ with
    | nil => intro ρ' h; cases ρ' with
      | nil => rfl
      | cons _ _ => exact h.elim
    | cons x r ih => intro ρ' h; cases ρ' with
      | nil => cases x <;> exact h.elim
      | cons y r' =>
        cases x with
        | none => simp [ih (show SubE r r' from h)]
        | some d => simp [ih (show SubE r r' from h.2)]
  have get : ∀ {ρ ρ' : Env'}, SubE ρ ρ' → ∀ (i : Nat) (d : Dv), ρ[i]? = some (some d) → ρ'[i]? = some (some d) := by
    intro ρ
    induction ρ with
    | nil => intro ρ' h i d e; simp at e
    | cons x r ih => intro ρ' h i d e; cases ρ' with
      | nil => cases x <;> exact h.elim
      | cons y r' =>
        cases x with
        | none =>
          cases i with
          | zero => simp at e
          | succ i => simpa using ih (show SubE r r' from h) i d (by simpa using e)
        | some f =>
          cases i with
          | zero => simp at e; subst e; simp [h.1]
          | succ i => simpa using ih (show SubE r r' from h.2) i d (by simpa using e)
  exact ⟨(len h).trans r.len, fun i d e => r.at' i d (get h i d e)⟩
def startA (n : Nat) (ds : List Dv) : Env' := ds.map some ++ List.replicate (n - ds.length) none
theorem repE_start {K : PySem.W.Frag} {H : Hp} {N : List Str} {ds : List Dv} {vs : List V} (h : Reps K H ds vs) : RepE K H (startA N.length ds) (L2.start N vs) := by
  have hl := h.length
  refine ⟨by simp [startA, L2.start, hl], fun i d e => ?_⟩
  unfold startA at e
  unfold L2.start
  by_cases hi : i < ds.length
  · rw [List.getElem?_append_left (by simpa using hi), List.getElem?_map] at e
    cases q : ds[i]? with
    | none => rw [q] at e; cases e
    | some d' =>
      rw [q] at e; cases e
      obtain ⟨v, h1, h2⟩ := h.get q
      refine ⟨v, ?_, h2⟩
      rw [List.getElem?_append_left (by simpa [← hl] using hi), List.getElem?_map, h1]; rfl
  · rw [List.getElem?_append_right (by simpa using hi), List.getElem?_replicate] at e
    split at e <;> cases e
abbrev DK := Dv → Ms → Prop
abbrev RE := Env' → Ms → DK → Prop
abbrev RT := Env' → Ms → (Bool → Ms → Prop) → Prop
abbrev RA := Env' → Ms → (List Dv → Ms → Prop) → Prop
structure Ends' where
  nx : Env' → Ms → Prop
  rt : DK
  bk : Env' → Ms → Prop := fun _ _ => False
  ct : Env' → Ms → Prop := fun _ _ => False
abbrev RS := Ends' → Env' → Ms → Prop
def wk (N : Env' → Ms → Prop) : Env' → Ms → Prop := fun ρ M => ∃ ρ' M', SubE ρ' ρ ∧ Sub M' M ∧ N ρ' M'
def wkM (N : Ms → Prop) : Ms → Prop := fun M => ∃ M', Sub M' M ∧ N M'
def onS {α : Type} (o : Option α) (Q : α → Prop) : Prop := match o with | some a => Q a | none => False
theorem onS_ex {α : Type} {o : Option α} {Q : α → Prop} (h : onS o Q) : ∃ a, o = some a ∧ Q a := by
  cases o with
  | none => exact h.elim
  | some a => exact ⟨a, rfl, h⟩
theorem onS_of {α : Type} {o : Option α} {Q : α → Prop} {a : α} (e : o = some a) (h : Q a) : onS o Q := by subst e; exact h
def onIf (b : Bool) (A B : Prop) : Prop := match b with | true => A | false => B
theorem onIf_dec {c A B : Prop} {inst : Decidable c} (h1 : c → A) (h2 : ¬ c → B) : onIf (@decide c inst) A B := by
  by_cases h : c
  · rw [show @decide c inst = true from decide_eq_true h]; exact h1 h
  · rw [show @decide c inst = false from decide_eq_false h]; exact h2 h
theorem onIf_ndec {c A B : Prop} {inst : Decidable c} (h1 : ¬ c → A) (h2 : c → B) : onIf (!@decide c inst) A B := by
  by_cases h : c
  · rw [show @decide c inst = true from decide_eq_true h]; exact h2 h
  · rw [show @decide c inst = false from decide_eq_false h]; exact h1 h
theorem onIf_b {b : Bool} {A B : Prop} (h1 : b = true → A) (h2 : b = false → B) : onIf b A B := by
  cases b
  · exact h2 rfl
  · exact h1 rfl
theorem onIf_T {b : Bool} {A B : Prop} (h : b = true) (q : A) : onIf b A B := by subst h; exact q
theorem onIf_F {b : Bool} {A B : Prop} (h : b = false) (q : B) : onIf b A B := by subst h; exact q
def onB (d : Dv) (Q : Bool → Prop) : Prop := match d with | .bl b => Q b | _ => False
theorem onB_ex {d : Dv} {Q : Bool → Prop} (h : onB d Q) : ∃ b, d = .bl b ∧ Q b := by
  cases d <;> first | exact h.elim | exact ⟨_, rfl, h⟩
def onI (d : Dv) (Q : Int → Prop) : Prop := match d with | .int b => Q b | _ => False
theorem onI_ex {d : Dv} {Q : Int → Prop} (h : onI d Q) : ∃ b, d = .int b ∧ Q b := by
  cases d <;> first | exact h.elim | exact ⟨_, rfl, h⟩
def onI2 (d f : Dv) (Q : Int → Int → Prop) : Prop := match d, f with | .int a, .int b => Q a b | _, _ => False
theorem onI2_ex {d f : Dv} {Q : Int → Int → Prop} (h : onI2 d f Q) : ∃ a b, d = .int a ∧ f = .int b ∧ Q a b := by
  cases d <;> first | exact h.elim | skip
  cases f <;> first | exact h.elim | exact ⟨_, _, rfl, rfl, h⟩
def LkV (K : PySem.W.Frag) (H : Hp) (Q : DK) (Q' : VK) : Prop := ∀ v H' d M', Tp K H H' → Rep K H' d v → View K M' H' → Q d M' → Q' v H'
def LkB (K : PySem.W.Frag) (H : Hp) (Q : Bool → Ms → Prop) (Q' : Bool → Hp → Prop) : Prop := ∀ b H' M', Tp K H H' → View K M' H' → Q b M' → Q' b H'
def LkA (K : PySem.W.Frag) (H : Hp) (Q : List Dv → Ms → Prop) (Q' : List V → Hp → Prop) : Prop := ∀ vs H' ds M', Tp K H H' → Reps K H' ds vs → View K M' H' → Q ds M' → Q' vs H'
def LkS (K : PySem.W.Frag) (H : Hp) (Q : Env' → Ms → Prop) (Q' : L2.St → Hp → Prop) : Prop := ∀ σ H' ρ M', Tp K H H' → RepE K H' ρ σ → View K M' H' → Q ρ M' → Q' σ H'
structure LkD (K : PySem.W.Frag) (H : Hp) (D : Ends') (D' : Ends) : Prop where
  nx : LkS K H D.nx D'.nx
  rt : LkV K H D.rt D'.rt
  bk : LkS K H D.bk D'.bk
  ct : LkS K H D.ct D'.ct
section
variable {K : PySem.W.Frag} {H H1 : Hp}
theorem LkV.up {Q : DK} {Q' : VK} (l : LkV K H Q Q') (t : Tp K H H1) : LkV K H1 Q Q' := fun v H' d M' t' => l v H' d M' (t.trans t')
theorem LkB.up {Q : Bool → Ms → Prop} {Q' : Bool → Hp → Prop} (l : LkB K H Q Q') (t : Tp K H H1) : LkB K H1 Q Q' := fun v H' M' t' => l v H' M' (t.trans t')
theorem LkA.up {Q : List Dv → Ms → Prop} {Q' : List V → Hp → Prop} (l : LkA K H Q Q') (t : Tp K H H1) : LkA K H1 Q Q' := fun v H' d M' t' => l v H' d M' (t.trans t')
theorem LkS.up {Q : Env' → Ms → Prop} {Q' : L2.St → Hp → Prop} (l : LkS K H Q Q') (t : Tp K H H1) : LkS K H1 Q Q' := fun v H' d M' t' => l v H' d M' (t.trans t')
theorem LkD.up {D : Ends'} {D' : Ends} (l : LkD K H D D') (t : Tp K H H1) : LkD K H1 D D' := ⟨l.nx.up t, l.rt.up t, l.bk.up t, l.ct.up t⟩
end
def cE (K : PySem.W.Frag) (t : RE) : TE := fun σ H Q' => ∃ ρ M Q, RepE K H ρ σ ∧ View K M H ∧ t ρ M Q ∧ LkV K H Q Q'
def cT (K : PySem.W.Frag) (t : RT) : TT := fun σ H Q' => ∃ ρ M Q, RepE K H ρ σ ∧ View K M H ∧ t ρ M Q ∧ LkB K H Q Q'
def cA (K : PySem.W.Frag) (t : RA) : TA := fun σ H Q' => ∃ ρ M Q, RepE K H ρ σ ∧ View K M H ∧ t ρ M Q ∧ LkA K H Q Q'
def cS (K : PySem.W.Frag) (t : RS) : TS := fun D' σ H => ∃ ρ M D, RepE K H ρ σ ∧ View K M H ∧ t D ρ M ∧ LkD K H D D'
def AE (X : Cx) (e : Expr) (t : RE) : Prop := PE X e (cE X.K t)
def AT (X : Cx) (e : Expr) (t : RT) : Prop := PT X e (cT X.K t)
def AW (X : Cx) (e : Expr) (t : RT) : Prop := PW X e (cT X.K t)
def AA (X : Cx) (es : List Expr) (t : RA) : Prop := PA X es (cA X.K t)
def AS (X : Cx) (st : Stmt) (t : RS) : Prop := PS X st (cS X.K t)
def ASs (X : Cx) (sts : List Stmt) (t : RS) : Prop := PSs X sts (cS X.K t)
theorem pe_imp {X : Cx} {e : Expr} {t t' : TE} (h : PE X e t) (f : ∀ σ H Q, t' σ H Q → t σ H Q) : PE X e t' := ⟨fun pins s σ H Q I q => h.run pins s σ H Q I (f _ _ _ q)⟩
theorem pt_imp {X : Cx} {e : Expr} {t t' : TT} (h : PT X e t) (f : ∀ σ H Q, t' σ H Q → t σ H Q) : PT X e t' := ⟨fun pins s σ H Q I q => h.run pins s σ H Q I (f _ _ _ q)⟩
theorem pw_imp {X : Cx} {e : Expr} {t t' : TT} (h : PW X e t) (f : ∀ σ H Q, t' σ H Q → t σ H Q) : PW X e t' := ⟨fun wh pins s σ H Q I q => h.run wh pins s σ H Q I (f _ _ _ q)⟩
theorem pa_imp {X : Cx} {e : List Expr} {t t' : TA} (h : PA X e t) (f : ∀ σ H Q, t' σ H Q → t σ H Q) : PA X e t' := ⟨fun pos pins s σ H Q I q => h.run pos pins s σ H Q I (f _ _ _ q)⟩
theorem ps_imp {X : Cx} {e : Stmt} {t t' : TS} (h : PS X e t) (f : ∀ D σ H, t' D σ H → t D σ H) : PS X e t' := ⟨fun pins s σ H D I q => h.run pins s σ H D I (f _ _ _ q)⟩
theorem pss_imp {X : Cx} {e : List Stmt} {t t' : TS} (h : PSs X e t) (f : ∀ D σ H, t' D σ H → t D σ H) : PSs X e t' := ⟨fun pins s σ H D I q => h.run pins s σ H D I (f _ _ _ q)⟩
section
variable {X : Cx} {a b c e : Expr} {ta tb tc te : RE} {pos : Pos}
def aC (d : Dv) : RE := fun _ M Q => Q d M
def aVar (i : Nat) : RE := fun ρ M Q => onS ρ[i]? fun o => onS o fun d => Q d M
theorem ae_c {d : Dv} {v : V} (h : PE X e (tC v)) (r : ∀ H, Rep X.K H d v) : AE X e (aC d) := pe_imp h fun σ H Q ⟨ρ, M, Q1, _, hv, q, k⟩ => k v H d M (Tp.refl H) (r H) hv q
theorem ae_int {i j pos} : AE X (.Constant (.int i) j pos) (aC (.int i)) := ae_c pe_int fun _ => by simp only [Rep]
theorem ae_bl {b j pos} : AE X (.Constant (.bool b) j pos) (aC (.bl b)) := ae_c pe_bl fun _ => by simp only [Rep]
theorem ae_non {j pos} : AE X (.Constant .none j pos) (aC .non) := ae_c pe_non fun _ => by simp only [Rep]
theorem ae_str {x j pos} : AE X (.Constant (.str x) j pos) (aC (.str x)) := ae_c pe_str fun _ => by simp only [Rep]
theorem av (i : Nat) {x : Str} (hN : X.N[i]? = some x := by rfl) (hv : Vis X.env.scope x := by first | exact Or.inl rfl | exact Or.inr (Or.inl rfl) | exact Or.inr (Or.inr rfl)) (hd : (x == ("__debug__" : Str)) = false := by decide)
    (hcd : (x == ("__classdict__" : Str)) = false := by decide) : AE X (.Name x pos) (aVar i) :=
  pe_imp (pe_var hN hv hd hcd) fun σ H Q ⟨ρ, M, Q1, hr, hv, q, k⟩ => by
    obtain ⟨o, e, q⟩ := onS_ex q
    obtain ⟨d, e', q⟩ := onS_ex q
    subst e'
    obtain ⟨v, h1, h2⟩ := hr.at' i d e
    exact ⟨v, h1, k v H d M (Tp.refl H) h2 hv q⟩
theorem ae_gint {x : Str} {i : Int} {t : Tok} (hg : Gl X x) (hm : X.mg x = some (.int i t)) (hd : (x == ("__debug__" : Str)) = false := by decide) : AE X (.Name x pos) (aC (.int i)) :=
  ae_c (pe_glob hg hm (v := .int i) ⟨_, rfl⟩ hd) fun _ => by simp only [Rep]
theorem ae_gty {x : Str} {n : String} (hg : Gl X x) (hm : X.mg x = none) (hv : bootBuiltins x = some (.type n)) (hn : x ≠ "__name__" := by decide) (hd : (x == ("__debug__" : Str)) = false := by decide) : AE X (.Name x pos) (aC (.ty n)) :=
  ae_c (pe_bltn hg hm hv (v := .ty n) rfl hn hd) fun _ => by simp only [Rep]
theorem seqE {K : PySem.W.Frag} {ρ : Env'} {σ : L2.St} {M : Ms} {H : Hp} {t : RE} {Q : DK} {Q' : VK} (hr : RepE K H ρ σ) (hv : View K M H) (h : t ρ M Q) (k : LkV K H Q Q') : cE K t σ H Q' := ⟨ρ, M, Q, hr, hv, h, k⟩
abbrev AR2 := Dv → Dv → Ms → DK → Prop
abbrev AR1 := Dv → Ms → DK → Prop
def Ab2 (K : PySem.W.Frag) (r : R2) (ar : AR2) : Prop := ∀ H M x y dx dy Q Q', Rep K H dx x → Rep K H dy y → View K M H → ar dx dy M Q → LkV K H Q Q' → r x y H Q'
def Ab1 (K : PySem.W.Frag) (r : V → Hp → VK → Prop) (ar : AR1) : Prop := ∀ H M x dx Q Q', Rep K H dx x → View K M H → ar dx M Q → LkV K H Q Q' → r x H Q'
def aOp (ar : AR2) (ta tb : RE) : RE := fun ρ M Q => ta ρ M fun x M1 => tb ρ M1 fun y M2 => ar x y M2 Q
def aUn (ar : AR1) (ta : RE) : RE := fun ρ M Q => ta ρ M fun x M1 => ar x M1 Q
theorem aop_imp {K : PySem.W.Frag} {r : R2} {ar : AR2} (h : Ab2 K r ar) : ∀ σ H Q, cE K (aOp ar ta tb) σ H Q → tOp r (cE K ta) (cE K tb) σ H Q := fun σ H Q' ⟨ρ, M, Q, hr, hv, q, k⟩ =>
  seqE hr hv q fun v H1 d M1 t1 r1 v1 q1 => seqE (hr.mono t1) v1 q1 fun v2 H2 d2 M2 t2 r2 v2' q2 => h H2 M2 v v2 d d2 Q Q' (r1.mono t2) r2 v2' q2 (k.up (t1.trans t2))
theorem ae_op {op : Operator} {r : R2} {ar : AR2} (ho : OpR X (binaryOp op) r) (h : Ab2 X.K r ar) (ha : AE X a ta) (hb : AE X b tb) : AE X (.BinOp a op b pos) (aOp ar ta tb) := pe_imp (pe_op ho ha hb) (aop_imp h)
theorem ae_un {op : UnaryOp} {r : V → Hp → VK → Prop} {ar : AR1} (ho : UnR X (unaryOp op) r) (h : Ab1 X.K r ar) (ha : AE X a ta) : AE X (.UnaryOp op a pos) (aUn ar ta) :=
  pe_imp (pe_un ho ha) fun σ H Q' ⟨ρ, M, Q, hr, hv, q, k⟩ => seqE hr hv q fun v H1 d M1 t1 r1 v1 q1 => h H1 M1 v d Q Q' r1 v1 q1 (k.up t1)
theorem ae_cmp {op : CmpOp} {r : R2} {ar : AR2} (ho : OpR X (compareOp op) r) (h : Ab2 X.K r ar) (ha : AE X a ta) (hb : AE X b tb) (hm : behindInMarks op b = false) : AE X (.Compare a [op] [b] pos) (aOp ar ta tb) := pe_imp (pe_cmpR ho ha hb hm) (aop_imp h)
def aB (t : RE) : RT := fun ρ M Q => t ρ M fun d M1 => onB d fun b => Q b M1
theorem tb_imp {K : PySem.W.Frag} {t : RE} : ∀ σ H Q, cT K (aB t) σ H Q → tB (cE K t) σ H Q := fun σ H Q' ⟨ρ, M, Q, hr, hv, q, k⟩ =>
  seqE hr hv q fun v H1 d M1 t1 r1 v1 q1 => by
    obtain ⟨b, e, q1⟩ := onB_ex q1
    exact ⟨b, by subst e; simpa only [Rep] using r1, k b H1 M1 t1 v1 q1⟩
theorem at_cmp {op : CmpOp} {r : R2} {ar : AR2} (ho : OpR X (compareOp op) r) (h : Ab2 X.K r ar) (ha : AE X a ta) (hb : AE X b tb) (hm : behindInMarks op b = false) : AT X (.Compare a [op] [b] pos) (aB (aOp ar ta tb)) :=
  pt_imp (pt_cmpR ho ha hb hm) fun σ H Q' h' => by
    obtain ⟨ρ, M, Q, hr, hv, q, k⟩ := h'
    exact aop_imp h σ H _ ⟨ρ, M, _, hr, hv, q, fun v H1 d M1 t1 r1 v1 q1 => by
      obtain ⟨b, e, q1⟩ := onB_ex q1
      exact ⟨b, by subst e; simpa only [Rep] using r1, k b H1 M1 t1 v1 q1⟩⟩
theorem at_val (h : AE X e te) (he : ∀ whole, isTrue e X.env whole = (do let v ← whole; standAt e.pos; holding [v] (truthy v)) := by intro _; rfl) : AT X e (aB te) := pt_imp (pt_val h he) tb_imp
def truA : Dv → Ms → Option Bool
  | .non, _ => some false
  | .bl b, _ => some b
  | .int i, _ => some (i != 0)
  | .tup xs, _ => some (!xs.isEmpty)
  | .rol xs, _ => some (!xs.isEmpty)
  | .ref a, M => match M a with | some (.lst xs) => some (!xs.isEmpty) | some (.dic xs) => some (!xs.isEmpty) | _ => none
  | _, _ => none
def aTru (t : RE) : RT := fun ρ M Q => t ρ M fun d M1 => onS (truA d M1) fun b => Q b M1
theorem Reps.isEmpty {K : PySem.W.Frag} {H : Hp} {ds : List Dv} {vs : List V} (h : Reps K H ds vs) : vs.isEmpty = ds.isEmpty := by
  have := h.length
  cases ds <;> cases vs <;> simp at this ⊢
theorem paired_isEmpty {α β : Type} {R : α → β → Prop} {l : List α} {m : List β} (h : Paired R l m) : m.isEmpty = l.isEmpty := by
  cases h <;> rfl
theorem truA_ok {K : PySem.W.Frag} {M : Ms} {H : Hp} {d : Dv} {v : V} {b : Bool} (r : Rep K H d v) (hv : View K M H) (h : truA d M = some b) : TruV K v H b := by
  cases d with
  | non => simp only [Rep] at r; subst r; simp only [truA, Option.some.injEq] at h; exact h.symm
  | bl k => simp only [Rep] at r; subst r; simp only [truA, Option.some.injEq] at h; exact h.symm
  | int i => simp only [Rep] at r; subst r; simp only [truA, Option.some.injEq] at h; exact h.symm
  | str i => simp [truA] at h
  | ty i => simp [truA] at h
  | tuc i => simp [truA] at h
  | exc i j => simp [truA] at h
  | tup ds =>
    simp only [Rep] at r
    obtain ⟨a, vs, rfl, q, z⟩ := r
    simp only [truA, Option.some.injEq] at h
    exact .inr (.inl ⟨vs, q, by rw [z.isEmpty]; exact h.symm⟩)
  | rol ds =>
    simp only [Rep] at r
    obtain ⟨a, vs, rfl, q, z⟩ := r
    simp only [truA, Option.some.injEq] at h
    exact .inl ⟨vs, q.l, by rw [z.isEmpty]; exact h.symm⟩
  | ref a =>
    simp only [Rep] at r; subst r
    simp only [truA] at h
    cases e : M a with
    | none => rw [e] at h; cases h
    | some c =>
      rw [e] at h
      cases c with
      | lst xs =>
        obtain ⟨vs, h1, h2⟩ := hv a _ e
        simp only [Option.some.injEq] at h
        exact .inl ⟨vs, .inl (.inl h1), by rw [h2.isEmpty]; exact h.symm⟩
      | dic xs =>
        obtain ⟨vs, h1, h2⟩ := hv a _ e
        simp only [Option.some.injEq] at h
        exact .inr (.inr ⟨vs, h1, by rw [paired_isEmpty h2]; exact h.symm⟩)
      | dit xs => cases h
      | fdc xs => cases h
      | obj C xs => cases h
      | tab xs => cases h
      | cod q => cases h
theorem at_tru (h : AE X e te) (he : ∀ whole, isTrue e X.env whole = (do let v ← whole; standAt e.pos; holding [v] (truthy v)) := by intro _; rfl) : AT X e (aTru te) :=
  pt_imp (pt_truth h he) fun σ H Q' ⟨ρ, M, Q, hr, hv, q, k⟩ => seqE hr hv q fun v H1 d M1 t1 r1 v1 q1 => by
    obtain ⟨b, e, q1⟩ := onS_ex q1
    exact ⟨b, truA_ok r1 v1 e, k b H1 M1 t1 v1 q1⟩
def aAnd (t u : RT) : RT := fun ρ M Q => t ρ M fun b M1 => onIf b (u ρ M1 Q) (Q false M1)
def aOr (t u : RT) : RT := fun ρ M Q => t ρ M fun b M1 => onIf b (Q true M1) (u ρ M1 Q)
def aNot (t : RT) : RT := fun ρ M Q => t ρ M fun b M1 => Q (!b) M1
theorem seqT {K : PySem.W.Frag} {ρ : Env'} {σ : L2.St} {M : Ms} {H : Hp} {t : RT} {Q : Bool → Ms → Prop} {Q' : Bool → Hp → Prop} (hr : RepE K H ρ σ) (hv : View K M H) (h : t ρ M Q) (k : LkB K H Q Q') : cT K t σ H Q' := ⟨ρ, M, Q, hr, hv, h, k⟩
variable {tA tBb : RT} {rest : List Expr}
theorem AW.pt (h : AW X e tA) : AT X e tA := PW.pt h
theorem aw_and1 (ha : AT X a tA) : AW X (.BoolOp .And [a] pos) tA := pw_and1 ha
theorem aw_or1 (ha : AT X a tA) : AW X (.BoolOp .Or [a] pos) tA := pw_or1 ha
theorem aw_and (ha : AT X a tA) (hb : AW X (.BoolOp .And (b :: rest) pos) tBb) : AW X (.BoolOp .And (a :: b :: rest) pos) (aAnd tA tBb) :=
  pw_imp (pw_and ha hb) fun σ H Q' ⟨ρ, M, Q, hr, hv, q, k⟩ => seqT hr hv q fun b H1 M1 t1 v1 q1 => by
    cases b with
    | true => exact seqT (hr.mono t1) v1 q1 (k.up t1)
    | false => exact k _ _ _ t1 v1 q1
theorem aw_or (ha : AT X a tA) (hb : AW X (.BoolOp .Or (b :: rest) pos) tBb) : AW X (.BoolOp .Or (a :: b :: rest) pos) (aOr tA tBb) :=
  pw_imp (pw_or ha hb) fun σ H Q' ⟨ρ, M, Q, hr, hv, q, k⟩ => seqT hr hv q fun b H1 M1 t1 v1 q1 => by
    cases b with
    | false => exact seqT (hr.mono t1) v1 q1 (k.up t1)
    | true => exact k _ _ _ t1 v1 q1
theorem at_not (ha : AT X a tA) : AT X (.UnaryOp .Not a pos) (aNot tA) :=
  pt_imp (pt_not ha) fun σ H Q' ⟨ρ, M, Q, hr, hv, q, k⟩ => seqT hr hv q fun b H1 M1 t1 v1 q1 => k _ _ _ t1 v1 q1
def aAndV (t u : RE) : RE := fun ρ M Q => t ρ M fun x M1 => onB x fun b => onIf b (u ρ M1 Q) (Q (.bl false) M1)
def aOrV (t u : RE) : RE := fun ρ M Q => t ρ M fun x M1 => onB x fun b => onIf b (Q (.bl true) M1) (u ρ M1 Q)
def aNotV (t : RE) : RE := fun ρ M Q => t ρ M fun x M1 => onB x fun b => Q (.bl (!b)) M1
theorem rep_bl {K : PySem.W.Frag} {H : Hp} {b : Bool} : Rep K H (.bl b) (.bl b) := by simp only [Rep]
theorem rep_int {K : PySem.W.Frag} {H : Hp} {i : Int} : Rep K H (.int i) (.int i) := by simp only [Rep]
theorem rep_str {K : PySem.W.Frag} {H : Hp} {i : Str} : Rep K H (.str i) (.str i) := by simp only [Rep]
theorem rep_non {K : PySem.W.Frag} {H : Hp} : Rep K H .non .non := by simp only [Rep]
theorem rep_ref {K : PySem.W.Frag} {H : Hp} {a : Addr} : Rep K H (.ref a) (.ref a) := by simp only [Rep]
theorem rep_tup {K : PySem.W.Frag} {H : Hp} {a : Addr} {vs : List V} {ds : List Dv} (h : SqT K H a vs) (r : Reps K H ds vs) : Rep K H (.tup ds) (.ref a) := by
  simp only [Rep]; exact ⟨a, vs, rfl, h, r⟩
theorem ae_and1 (ha : AE X a ta) : AE X (.BoolOp .And [a] pos) ta := pe_one ha
theorem ae_or1 (ha : AE X a ta) : AE X (.BoolOp .Or [a] pos) ta := pe_one ha
theorem ae_and (ha : AE X a ta) (hb : AE X (.BoolOp .And (b :: rest) pos) tb) : AE X (.BoolOp .And (a :: b :: rest) pos) (aAndV ta tb) :=
  pe_imp (pe_and ha hb) fun σ H Q' ⟨ρ, M, Q, hr, hv, q, k⟩ => seqE hr hv q fun v H1 d M1 t1 r1 v1 q1 => by
    obtain ⟨b, e, q1⟩ := onB_ex q1
    subst e
    refine ⟨b, by simpa only [Rep] using r1, ?_⟩
    cases b with
    | true => exact seqE (hr.mono t1) v1 q1 (k.up t1)
    | false => exact k _ _ _ _ t1 rep_bl v1 q1
theorem ae_or (ha : AE X a ta) (hb : AE X (.BoolOp .Or (b :: rest) pos) tb) : AE X (.BoolOp .Or (a :: b :: rest) pos) (aOrV ta tb) :=
  pe_imp (pe_or ha hb) fun σ H Q' ⟨ρ, M, Q, hr, hv, q, k⟩ => seqE hr hv q fun v H1 d M1 t1 r1 v1 q1 => by
    obtain ⟨b, e, q1⟩ := onB_ex q1
    subst e
    refine ⟨b, by simpa only [Rep] using r1, ?_⟩
    cases b with
    | false => exact seqE (hr.mono t1) v1 q1 (k.up t1)
    | true => exact k _ _ _ _ t1 rep_bl v1 q1
theorem ae_not (ha : AE X a ta) : AE X (.UnaryOp .Not a pos) (aNotV ta) :=
  pe_imp (pe_not ha) fun σ H Q' ⟨ρ, M, Q, hr, hv, q, k⟩ => seqE hr hv q fun v H1 d M1 t1 r1 v1 q1 => by
    obtain ⟨b, e, q1⟩ := onB_ex q1
    subst e
    exact ⟨b, by simpa only [Rep] using r1, k _ _ _ _ t1 rep_bl v1 q1⟩
def aIf (t : RT) (ta tb : RE) : RE := fun ρ M Q => t ρ M fun b M1 => onIf b (ta ρ M1 Q) (tb ρ M1 Q)
theorem ae_if (hc : AT X c tA) (ha : AE X a ta) (hb : AE X b tb) : AE X (.IfExp c a b pos) (aIf tA ta tb) :=
  pe_imp (pe_ifExp hc ha hb) fun σ H Q' ⟨ρ, M, Q, hr, hv, q, k⟩ => seqT hr hv q fun b H1 M1 t1 v1 q1 => by
    cases b with
    | true => exact seqE (hr.mono t1) v1 q1 (k.up t1)
    | false => exact seqE (hr.mono t1) v1 q1 (k.up t1)
end
section
variable {X : Cx}
def arI (C : Int → Int → Prop) (g : Int → Int → Dv) : AR2 := fun x y M Q => onI2 x y fun i j => C i j ∧ Q (g i j) M
def arI0 (g : Int → Int → Dv) : AR2 := fun x y M Q => onI2 x y fun i j => Q (g i j) M
theorem ab_I {K : PySem.W.Frag} {C : Int → Int → Prop} {g : Int → Int → Int} : Ab2 K (rI C fun i j => .int (g i j)) (arI C fun i j => .int (g i j)) := fun H M x y dx dy Q Q' rx ry hv q0 k => by
  obtain ⟨i, j, e1, e2, hc, q⟩ := onI2_ex q0
  subst e1 e2
  exact ⟨i, j, by simpa only [Rep] using rx, by simpa only [Rep] using ry, hc, k _ _ _ _ (Tp.refl H) rep_int hv q⟩
theorem ab_I0 {K : PySem.W.Frag} {g : Int → Int → Int} : Ab2 K (rI0 fun i j => .int (g i j)) (arI0 fun i j => .int (g i j)) := fun H M x y dx dy Q Q' rx ry hv q0 k => by
  obtain ⟨i, j, e1, e2, q⟩ := onI2_ex q0
  subst e1 e2
  exact ⟨i, j, by simpa only [Rep] using rx, by simpa only [Rep] using ry, k _ _ _ _ (Tp.refl H) rep_int hv q⟩
theorem ab_B0 {K : PySem.W.Frag} {g : Int → Int → Bool} : Ab2 K (rI0 fun i j => .bl (g i j)) (arI0 fun i j => .bl (g i j)) := fun H M x y dx dy Q Q' rx ry hv q0 k => by
  obtain ⟨i, j, e1, e2, q⟩ := onI2_ex q0
  subst e1 e2
  exact ⟨i, j, by simpa only [Rep] using rx, by simpa only [Rep] using ry, k _ _ _ _ (Tp.refl H) rep_bl hv q⟩
theorem ab1_I {K : PySem.W.Frag} {g : Int → Int} : Ab1 K (rU fun i => .int (g i)) (fun x M Q => onI x fun i => Q (.int (g i)) M) := fun H M x dx Q Q' rx hv q0 k => by
  obtain ⟨i, e1, q⟩ := onI_ex q0
  subst e1
  exact ⟨i, by simpa only [Rep] using rx, k _ _ _ _ (Tp.refl H) rep_int hv q⟩
variable {a b : Expr} {ta tb : RE} {pos : Pos}
theorem div_wide {i j : Int} (h : 0 < j ∧ j < 1000000000000000000000000) : CDivW i j := by
  refine wide_div (b := 90) h.1 ?_ (by decide) (by decide)
  have e : (2 : Nat) ^ 90 = 1237940039285380274899124224 := by decide
  rw [e]
  omega
theorem ab_div {K : PySem.W.Frag} : Ab2 K (rI CDivW fun i j => .int (i / j)) (arI (fun _ j => 0 < j ∧ j < 1000000000000000000000000) fun i j => .int (i / j)) := fun H M x y dx dy Q Q' rx ry hv q0 k => by
  obtain ⟨i, j, e1, e2, hc, q⟩ := onI2_ex q0
  subst e1 e2
  exact ⟨i, j, by simpa only [Rep] using rx, by simpa only [Rep] using ry, div_wide hc, k _ _ _ _ (Tp.refl H) rep_int hv q⟩
def aSub := arI0 fun i j => .int (i - j)
def aXor := arI0 fun i j => .int (Builtin.bitXor i j)
def aBand := arI0 fun i j => .int (Builtin.bitAnd i j)
def aMod := arI (fun _ j => 0 < j) fun i j => .int (i % j)
def aDiv := arI (fun _ j => 0 < j ∧ j < 1000000000000000000000000) fun i j => .int (i / j)
def aPow := arI CPow fun i j => .int (i ^ j.toNat)
def aShl := arI CPow fun i j => .int (i * 2 ^ j.toNat)
def aShr := arI (fun _ j => 0 ≤ j) fun i j => .int (i / 2 ^ j.toNat)
def aLt := arI0 fun i j => .bl (decide (i < j))
def aLe := arI0 fun i j => .bl (decide (i ≤ j))
def aGt := arI0 fun i j => .bl (decide (j < i))
def aGe := arI0 fun i j => .bl (decide (j ≤ i))
def aNeg : AR1 := fun x M Q => onI x fun i => Q (.int (-i)) M
theorem ae_sub (ha : AE X a ta) (hb : AE X b tb) : AE X (.BinOp a .Sub b pos) (aOp aSub ta tb) := ae_op op_sub ab_I0 ha hb
theorem ae_xor (ha : AE X a ta) (hb : AE X b tb) : AE X (.BinOp a .BitXor b pos) (aOp aXor ta tb) := ae_op op_xor ab_I0 ha hb
theorem ae_band (ha : AE X a ta) (hb : AE X b tb) : AE X (.BinOp a .BitAnd b pos) (aOp aBand ta tb) := ae_op op_and ab_I0 ha hb
theorem ae_mod (ha : AE X a ta) (hb : AE X b tb) : AE X (.BinOp a .Mod b pos) (aOp aMod ta tb) := ae_op op_mod ab_I ha hb
theorem ae_div (ha : AE X a ta) (hb : AE X b tb) : AE X (.BinOp a .FloorDiv b pos) (aOp aDiv ta tb) := ae_op op_fdivW ab_div ha hb
theorem ae_pow (ha : AE X a ta) (hb : AE X b tb) : AE X (.BinOp a .Pow b pos) (aOp aPow ta tb) := ae_op op_pow ab_I ha hb
theorem ae_shl (ha : AE X a ta) (hb : AE X b tb) : AE X (.BinOp a .LShift b pos) (aOp aShl ta tb) := ae_op op_shl ab_I ha hb
theorem ae_shr (ha : AE X a ta) (hb : AE X b tb) : AE X (.BinOp a .RShift b pos) (aOp aShr ta tb) := ae_op op_shr ab_I ha hb
theorem ae_neg (ha : AE X a ta) : AE X (.UnaryOp .USub a pos) (aUn aNeg ta) := ae_un un_neg ab1_I ha
theorem ae_lt (ha : AE X a ta) (hb : AE X b tb) : AE X (.Compare a [.Lt] [b] pos) (aOp aLt ta tb) := ae_cmp op_lt ab_B0 ha hb (nomark _)
theorem ae_le (ha : AE X a ta) (hb : AE X b tb) : AE X (.Compare a [.LtE] [b] pos) (aOp aLe ta tb) := ae_cmp op_le ab_B0 ha hb (nomark _)
theorem ae_gt (ha : AE X a ta) (hb : AE X b tb) : AE X (.Compare a [.Gt] [b] pos) (aOp aGt ta tb) := ae_cmp op_gt ab_B0 ha hb (nomark _)
theorem ae_ge (ha : AE X a ta) (hb : AE X b tb) : AE X (.Compare a [.GtE] [b] pos) (aOp aGe ta tb) := ae_cmp op_ge ab_B0 ha hb (nomark _)
theorem at_lt (ha : AE X a ta) (hb : AE X b tb) : AT X (.Compare a [.Lt] [b] pos) (aB (aOp aLt ta tb)) := at_cmp op_lt ab_B0 ha hb (nomark _)
theorem at_le (ha : AE X a ta) (hb : AE X b tb) : AT X (.Compare a [.LtE] [b] pos) (aB (aOp aLe ta tb)) := at_cmp op_le ab_B0 ha hb (nomark _)
theorem at_gt (ha : AE X a ta) (hb : AE X b tb) : AT X (.Compare a [.Gt] [b] pos) (aB (aOp aGt ta tb)) := at_cmp op_gt ab_B0 ha hb (nomark _)
theorem at_ge (ha : AE X a ta) (hb : AE X b tb) : AT X (.Compare a [.GtE] [b] pos) (aB (aOp aGe ta tb)) := at_cmp op_ge ab_B0 ha hb (nomark _)
end
end HC
set_option maxHeartbeats 4000000
namespace HC
open PySem L2 PyProof.Rows
section
variable {X : Cx} {e : Expr} {es : List Expr} {te : RE} {t : RA} {pos : Pos}
def aNil : RA := fun _ M Q => Q [] M
def aCons (te : RE) (t : RA) : RA := fun ρ M Q => te ρ M fun d M1 => t ρ M1 fun ds M2 => Q (d :: ds) M2
theorem seqA {K : PySem.W.Frag} {ρ : Env'} {σ : L2.St} {M : Ms} {H : Hp} {t : RA} {Q : List Dv → Ms → Prop} {Q' : List V → Hp → Prop} (hr : RepE K H ρ σ) (hv : View K M H) (h : t ρ M Q) (k : LkA K H Q Q') : cA K t σ H Q' := ⟨ρ, M, Q, hr, hv, h, k⟩
theorem aa_nil : AA X [] aNil := pa_imp pa_nil fun σ H Q' ⟨ρ, M, Q, hr, hv, q, k⟩ => k [] H [] M (Tp.refl H) Reps.nil hv q
theorem aa_cons (ha : AE X e te) (hr : AA X es t) (hs : starEach (e :: es) X.env = (false, eval e X.env) :: starEach es X.env := by rfl) : AA X (e :: es) (aCons te t) :=
  pa_imp (pa_cons ha hr hs) fun σ H Q' ⟨ρ, M, Q, hr, hv, q, k⟩ => seqE hr hv q fun v H1 d M1 t1 r1 v1 q1 => seqA (hr.mono t1) v1 q1 fun vs H2 ds M2 t2 r2 v2 q2 => k (v :: vs) H2 (d :: ds) M2 (t1.trans t2) (Reps.cons (r1.mono t2) r2) v2 q2
def aTup (t : RA) : RE := fun ρ M Q => t ρ M fun ds M1 => ds.length ≤ sizeLine ∧ Q (.tup ds) M1
def aLst (t : RA) : RE := fun ρ M Q => t ρ M fun ds M1 => ds.length ≤ sizeLine ∧ ∀ p, M1 p = none → Q (.ref p) (mup M1 p (.lst ds))
theorem end_tup {K : PySem.W.Frag} {H : Hp} {M : Ms} {vs : List V} {ds : List Dv} {Q : DK} {Q' : VK} (r : Reps K H ds vs) (hv : View K M H) (q : Q (.tup ds) M) (k : LkV K H Q Q') : ∀ p, H p = none → Q' (.ref p) (upd H p (.tup vs)) := fun p hp =>
  k _ _ (.tup ds) M (Tp.new hp) (rep_tup (.inl (.inl upd_same)) (r.mono (Tp.new hp))) (hv.new hp) q
theorem end_lst {K : PySem.W.Frag} {H : Hp} {M : Ms} {vs : List V} {ds : List Dv} {Q : DK} {Q' : VK} (r : Reps K H ds vs) (hv : View K M H) (q : ∀ p, M p = none → Q (.ref p) (mup M p (.lst ds))) (k : LkV K H Q Q') : ∀ p, H p = none → Q' (.ref p) (upd H p (.lst vs)) := fun p hp =>
  k _ _ (.ref p) _ (Tp.new hp) rep_ref (hv.put (c := .lst ds) (by rw [hp]; trivial) ⟨vs, upd_same, r.mono (Tp.new hp)⟩) (q p (hv.free hp))
theorem ae_tup {x1} (h : AA X es t) : AE X (.Tuple es x1 pos) (aTup t) := pe_imp (pe_tup h) fun σ H Q' ⟨ρ, M, Q, hr, hv, q, k⟩ => seqA hr hv q fun vs H1 ds M1 t1 r1 v1 ⟨z, q1⟩ =>
  ⟨by rw [← r1.length]; exact z, end_tup r1 v1 q1 (k.up t1)⟩
theorem ae_lst (h : AA X es t) : AE X (.List es pos) (aLst t) := pe_imp (pe_lst h) fun σ H Q' ⟨ρ, M, Q, hr, hv, q, k⟩ => seqA hr hv q fun vs H1 ds M1 t1 r1 v1 ⟨z, q1⟩ =>
  ⟨by rw [← r1.length]; exact z, end_lst r1 v1 q1 (k.up t1)⟩
end
section
variable {X : Cx}
theorem opr_or {f : Value → Value → Sem Value} {r r' : R2} (h : OpR X f r) (h' : OpR X f r') : OpR X f (fun x y H Q => r x y H Q ∨ r' x y H Q) := by
  intro pins s σ H x y v u Q I rx ry q
  rcases q with q | q
  · exact h pins s σ H x y v u Q I rx ry q
  · exact h' pins s σ H x y v u Q I rx ry q
theorem rep_int_inv {K : PySem.W.Frag} {H : Hp} {i : Int} {v : V} (h : Rep K H (.int i) v) : v = .int i := by simpa only [Rep] using h
theorem rep_bl_inv {K : PySem.W.Frag} {H : Hp} {i : Bool} {v : V} (h : Rep K H (.bl i) v) : v = .bl i := by simpa only [Rep] using h
theorem rep_str_inv {K : PySem.W.Frag} {H : Hp} {i : Str} {v : V} (h : Rep K H (.str i) v) : v = .str i := by simpa only [Rep] using h
theorem rep_non_inv {K : PySem.W.Frag} {H : Hp} {v : V} (h : Rep K H .non v) : v = .non := by simpa only [Rep] using h
theorem rep_ref_inv {K : PySem.W.Frag} {H : Hp} {a : Addr} {v : V} (h : Rep K H (.ref a) v) : v = .ref a := by simpa only [Rep] using h
theorem rep_ty_inv {K : PySem.W.Frag} {H : Hp} {a : String} {v : V} (h : Rep K H (.ty a) v) : v = .ty a := by simpa only [Rep] using h
theorem rep_tup_inv {K : PySem.W.Frag} {H : Hp} {ds : List Dv} {v : V} (h : Rep K H (.tup ds) v) : ∃ a vs, v = .ref a ∧ SqT K H a vs ∧ Reps K H ds vs := by simpa only [Rep] using h
theorem rep_rol_inv {K : PySem.W.Frag} {H : Hp} {ds : List Dv} {v : V} (h : Rep K H (.rol ds) v) : ∃ a vs, v = .ref a ∧ SqF K H a vs ∧ Reps K H ds vs := by simpa only [Rep] using h
theorem view_lst {K : PySem.W.Frag} {M : Ms} {H : Hp} {a : Addr} {ds : List Dv} (hv : View K M H) (h : M a = some (.lst ds)) : ∃ vs, H a = some (.lst vs) ∧ Reps K H ds vs := hv a _ h
theorem rep_tuc_inv {K : PySem.W.Frag} {H : Hp} {ds : List Dv} {v : V} (h : Rep K H (.tuc ds) v) : ∃ a vs, v = .ref a ∧ SqC H a vs ∧ Reps K H ds vs := by simpa only [Rep] using h
theorem rep_exc_inv {K : PySem.W.Frag} {H : Hp} {c : Str} {f : Option Int} {v : V} (h : Rep K H (.exc c f) v) : ∃ a, v = .ref a ∧ SqX K H a c f := by simpa only [Rep] using h
theorem rep_exc {K : PySem.W.Frag} {H : Hp} {c : Str} {f : Option Int} {a : Addr} (h : SqX K H a c f) : Rep K H (.exc c f) (.ref a) := by simp only [Rep]; exact ⟨a, rfl, h⟩
def aAdd : AR2 := fun x y M Q => match x, y with
  | .int i, .int j => Q (.int (i + j)) M
  | .int i, .bl k => Q (.int (i + b2i k)) M
  | .str a, .str b => a.length + b.length ≤ sizeLine ∧ Q (.str (a ++ b)) M
  | .tup a, .tup b => a.length + b.length ≤ sizeLine ∧ Q (.tup (a ++ b)) M
  | .ref a, .ref b => ∃ xs ys, M a = some (.lst xs) ∧ M b = some (.lst ys) ∧ xs.length + ys.length ≤ sizeLine ∧ ∀ p, M p = none → Q (.ref p) (mup M p (.lst (xs ++ ys)))
  | _, _ => False
def rAddH (K : PySem.W.Frag) : R2 := fun x y H Q => (rI0 (fun i j => .int (i + j)) x y H Q ∨ (∃ i k, x = .int i ∧ y = .bl k ∧ Q (.int (i + b2i k)) H)) ∨ ((∃ i j, x = .str i ∧ y = .str j ∧ i.length + j.length ≤ sizeLine ∧ Q (.str (i ++ j)) H) ∨ (rCatA K x y H Q ∨ rCat x y H Q))
theorem op_addH : OpR X (binaryOp .Add) (rAddH X.K) := opr_or (opr_or op_add op_add_ib) (opr_or op_add_str (opr_or op_catA op_cat))
theorem ab_add {K : PySem.W.Frag} : Ab2 K (rAddH K) aAdd := by
  intro H M x y dx dy Q Q' rx ry hv q k
  cases dx <;> cases dy <;> first | exact q.elim | skip
  case int.int i j => exact .inl (.inl ⟨i, j, rep_int_inv rx, rep_int_inv ry, k _ _ _ _ (Tp.refl H) rep_int hv q⟩)
  case int.bl i j => exact .inl (.inr ⟨i, j, rep_int_inv rx, rep_bl_inv ry, k _ _ _ _ (Tp.refl H) rep_int hv q⟩)
  case str.str i j => exact .inr (.inl ⟨i, j, rep_str_inv rx, rep_str_inv ry, q.1, k _ _ _ _ (Tp.refl H) rep_str hv q.2⟩)
  case tup.tup ds es =>
    obtain ⟨a, vs, e1, s1, r1⟩ := rep_tup_inv rx
    obtain ⟨b, ws, e2, s2, r2⟩ := rep_tup_inv ry
    have l1 := r1.length
    have l2 := r2.length
    obtain ⟨z, q⟩ := q
    refine .inr (.inr (.inl ⟨a, b, vs, ws, e1, e2, s1, s2, by omega, fun h => ?_, fun _ h => ?_, fun _ _ => end_tup (r1.append r2) hv q k⟩))
    · subst h
      have : ds = [] := List.length_eq_zero_iff.mp l1
      subst this
      exact k _ _ _ _ (Tp.refl H) (rep_tup s2 r2) hv q
    · subst h
      have : es = [] := List.length_eq_zero_iff.mp l2
      subst this
      rw [List.append_nil] at q
      exact k _ _ _ _ (Tp.refl H) (rep_tup s1 r1) hv q
  case ref.ref a b =>
    obtain ⟨xs, ys, h1, h2, z, q⟩ := q
    obtain ⟨vs, e1, r1⟩ := view_lst hv h1
    obtain ⟨ws, e2, r2⟩ := view_lst hv h2
    have l1 := r1.length
    have l2 := r2.length
    exact .inr (.inr (.inr ⟨a, b, vs, ws, rep_ref_inv rx, rep_ref_inv ry, e1, e2, by omega, end_lst (r1.append r2) hv q k⟩))
variable {a b : Expr} {ta tb : RE} {pos : Pos}
theorem ae_add (ha : AE X a ta) (hb : AE X b tb) : AE X (.BinOp a .Add b pos) (aOp aAdd ta tb) := ae_op op_addH ab_add ha hb
theorem Reps.flat {K : PySem.W.Frag} {H : Hp} {ds : List Dv} {vs : List V} (h : Reps K H ds vs) : ∀ (n : Nat), Reps K H (List.replicate n ds).flatten (List.replicate n vs).flatten
  | 0 => Reps.nil
  | n + 1 => by
    rw [List.replicate_succ, List.replicate_succ, List.flatten_cons, List.flatten_cons]
    exact h.append (Reps.flat h n)
def aMul : AR2 := fun x y M Q => match x, y with
  | .int i, .int j => (CMul i j ∨ CMulW i j) ∧ Q (.int (i * j)) M
  | .ref a, .int k => ∃ xs, M a = some (.lst xs) ∧ k < 2 ^ 63 ∧ -(2 ^ 63) ≤ k ∧ xs.length * k.toNat ≤ sizeLine ∧ ∀ p, M p = none → Q (.ref p) (mup M p (.lst (List.replicate k.toNat xs).flatten))
  | .tup xs, .int k => xs ≠ [] ∧ -1000 ≤ k ∧ k ≤ 1000 ∧ xs.length ≤ 1000 ∧ Q (.tup (List.replicate k.toNat xs).flatten) M
  | _, _ => False
def rRepT1 (K : PySem.W.Frag) : R2 := fun x y H Q => ∃ l xs, x = .ref l ∧ y = .int 1 ∧ SqT K H l xs ∧ Q (.ref l) H
open PyProof.Rows in
theorem tuple_mulW1 (l : Addr) (items : Array Value) (n : Nat) (dd : Option Addr) (sl : Array (Option Value)) (u : Tok) :
    Meets (Builtin.«tuple.__mul__» ⟨[.ref l, .int 1 u], []⟩) (fun _ R s => s.heap.get? l = some { cls := .type "tuple", dict := dd, data := .seq items n, slots := sl } ∧
      R (.ok (.ret (Value.ref l))) s) :=
  .of_wp fun prog w A R s h => by
    obtain ⟨hp, g, d, tk, os⟩ := s
    obtain ⟨hl, h⟩ := h
    have f1 := AutoSeq1.idx_int
    have c1 : (items.isEmpty || (1 : Int) == 1) = true := by simp
    wp_walk using wpAny_loadPart' hl
    repeat (first
      | (refine wpAny_ite_false (decide_eq_false (by decide)) ?_; wp_walk using wpAny_loadPart' hl)
      | (refine wpAny_ite_true (decide_eq_true c1) ?_; wp_walk using wpAny_loadPart' hl))
    all_goals first | exact ⟨_, rfl, h⟩ | trace_state
theorem op_repT1 : OpR X (binaryOp .Mult) (rRepT1 X.K) := by
  intro pins s σ H x y v u Q I rx ry h
  obtain ⟨l, xs, rfl, rfl, hT, q⟩ := h
  cases rx
  obtain ⟨t, rfl⟩ := ry
  obtain ⟨its, r, ⟨⟨cls, dd, data, sl⟩, ho, hc, n, hd⟩, hs⟩ := I.tuple hT
  simp only at hc hd
  subst hc hd
  exact wpAny_binaryOp_repeat_ref (T := "tuple") (U := "int") (by decide) ⟨_, ho, rfl⟩ (fun s' => typeIs_int s' 1 t) noFill_tuple_mul F.fills_int_mul F.slot_int_rmul repeat_tuple F.slot_int_index.lookup
    (call_meets F.slot_int_rmul (typeIs_int s 1 t) F.entry_int_rmul (F.args_int_rmul_2 _ _) (int_rmul_tuple 1 t l its.toArray n dd sl)
      ⟨ho, rfl, ⟨_, ho, rfl⟩, call_meets F.slot_tuple_mul ⟨_, ho, rfl⟩ F.entry_tuple_mul (F.args_tuple_mul_2 _ _) (tuple_mulW1 l its.toArray n dd sl t) ⟨ho, ⟨.ref l, H, I, rfl, q⟩⟩⟩)
open PyProof.Rows in
theorem tuple_mulW0 (l : Addr) (items : Array Value) (n : Nat) (dd : Option Addr) (sl : Array (Option Value)) (x : Int) (u : Tok) (b0 : (decide (x < -(2 ^ 63)) || decide (x ≥ 2 ^ 63)) = false) (b1 : (items.isEmpty || x == 1) = false) (b2 : (decide (x ≤ 0) || items.isEmpty) = true) :
    Meets (Builtin.«tuple.__mul__» ⟨[.ref l, .int x u], []⟩) (fun _ R s => s.heap.get? l = some { cls := .type "tuple", dict := dd, data := .seq items n, slots := sl } ∧
      R (.ok (.ret (Value.ref s.heap.objs.size))) { s with heap := s.heap.push { cls := Value.type "tuple", data := Data.seq #[] }, toks := s.toks }) :=
  .of_wp fun prog w A R s h => by
    obtain ⟨hp, g, d, tk, os⟩ := s
    obtain ⟨hl, h⟩ := h
    have f1 := AutoSeq1.idx_int
    wp_walk using wpAny_loadPart' hl
    repeat (first
      | (refine wpAny_ite_false (decide_eq_false (ne_true_of_eq_false b0)) ?_; wp_walk using wpAny_loadPart' hl)
      | (refine wpAny_ite_false (decide_eq_false (ne_true_of_eq_false b1)) ?_; wp_walk using wpAny_loadPart' hl)
      | (refine wpAny_ite_true (decide_eq_true b2) ?_; wp_walk using wpAny_loadPart' hl))
    all_goals exact ⟨_, rfl, h⟩
def rRepT0 (K : PySem.W.Frag) : R2 := fun x y H Q => ∃ l k xs, x = .ref l ∧ y = .int k ∧ SqT K H l xs ∧ xs ≠ [] ∧ -1000 ≤ k ∧ k ≤ 0 ∧ ∀ p, H p = none → Q (.ref p) (upd H p (.tup []))
theorem op_repT0 : OpR X (binaryOp .Mult) (rRepT0 X.K) := by
  intro pins s σ H x y v u Q I rx ry h
  obtain ⟨l, k, xs, rfl, rfl, hT, hne, h1, h2, q⟩ := h
  cases rx
  obtain ⟨t, rfl⟩ := ry
  obtain ⟨its, r, ⟨⟨cls, dd, data, sl⟩, ho, hc, n, hd⟩, hs⟩ := I.tuple hT
  simp only at hc hd
  subst hc hd
  have he : its ≠ [] := by
    rintro rfl
    exact hne (List.eq_nil_of_length_eq_zero r.length)
  have hi : its.toArray.isEmpty = false := by
    cases its with
    | nil => exact absurd rfl he
    | cons a b => rfl
  have b0 : (decide (k < -(2 ^ 63)) || decide (k ≥ 2 ^ 63)) = false := by
    simp only [Bool.or_eq_false_iff, decide_eq_false_iff_not]
    omega
  have b1 : (its.toArray.isEmpty || k == 1) = false := by
    simp only [hi, Bool.false_or, beq_eq_false_iff_ne]
    omega
  have b2 : (decide (k ≤ 0) || its.toArray.isEmpty) = true := by simp [h2]
  refine wpAny_binaryOp_repeat_ref (T := "tuple") (U := "int") (by decide) ⟨_, ho, rfl⟩ (fun s' => typeIs_int s' k t) noFill_tuple_mul F.fills_int_mul F.slot_int_rmul repeat_tuple F.slot_int_index.lookup
    (call_meets F.slot_int_rmul (typeIs_int s k t) F.entry_int_rmul (F.args_int_rmul_2 _ _) (int_rmul_tuple k t l its.toArray n dd sl)
      ⟨ho, rfl, ⟨_, ho, rfl⟩, call_meets F.slot_tuple_mul ⟨_, ho, rfl⟩ F.entry_tuple_mul (F.args_tuple_mul_2 _ _) (tuple_mulW0 l its.toArray n dd sl k t b0 b1 b2) ⟨ho, ?_⟩⟩)
  refine ⟨.ref s.heap.objs.size, _, I.laid (t' := s.toks) (o := .tup []) (fun b ob z => Heap.get?_push_of_some _ z) (Nat.le_refl _) ?_, rfl, q _ (I.hok.fresh (Nat.le_refl _))⟩
  exact ⟨Nat.zero_le _, _, .nil, IsTup.new _ _⟩
def rMulH (K : PySem.W.Frag) : R2 := fun x y H Q => (rI CMul (fun i j => .int (i * j)) x y H Q ∨ rI CMulW (fun i j => .int (i * j)) x y H Q) ∨ (rRep x y H Q ∨ (rRepT1 K x y H Q ∨ (rRepT0 K x y H Q ∨ rRepT K x y H Q)))
theorem op_mulH : OpR X (binaryOp .Mult) (rMulH X.K) := opr_or (opr_or op_mul op_mulW) (opr_or op_rep (opr_or op_repT1 (opr_or op_repT0 op_repT)))
theorem ab_mul {K : PySem.W.Frag} : Ab2 K (rMulH K) aMul := by
  intro H M x y dx dy Q Q' rx ry hv q k
  cases dx <;> cases dy <;> first | exact q.elim | skip
  case int.int i j =>
    obtain ⟨c, q⟩ := q
    rcases c with c | c
    · exact .inl (.inl ⟨i, j, rep_int_inv rx, rep_int_inv ry, c, k _ _ _ _ (Tp.refl H) rep_int hv q⟩)
    · exact .inl (.inr ⟨i, j, rep_int_inv rx, rep_int_inv ry, c, k _ _ _ _ (Tp.refl H) rep_int hv q⟩)
  case tup.int ds n =>
    obtain ⟨hne, h1, h2, h3, q⟩ := q
    obtain ⟨a, vs, e1, s1, r1⟩ := rep_tup_inv rx
    have l1 := r1.length
    by_cases hn : n = 1
    · subst hn
      refine .inr (.inr (.inl ⟨a, vs, e1, rep_int_inv ry, s1, k _ _ _ _ (Tp.refl H) (rep_tup s1 ?_) hv q⟩))
      simpa using r1
    · by_cases h0 : n ≤ 0
      · have e0 : (List.replicate n.toNat ds).flatten = [] := by
          rw [Int.toNat_of_nonpos h0]; rfl
        rw [e0] at q
        refine .inr (.inr (.inr (.inl ⟨a, n, vs, e1, rep_int_inv ry, s1, fun z => hne (List.length_eq_zero_iff.mp (by rw [l1, z]; rfl)), h1, h0, end_tup .nil hv q k⟩)))
      refine .inr (.inr (.inr (.inr ⟨a, n, vs, e1, rep_int_inv ry, s1, fun z => hne (List.length_eq_zero_iff.mp (by rw [l1, z]; rfl)), by omega, h2, by omega, end_tup (r1.flat n.toNat) hv q k⟩)))
  case ref.int a n =>
    obtain ⟨xs, h1, h2, h3, z, q⟩ := q
    obtain ⟨vs, e1, r1⟩ := view_lst hv h1
    have l1 := r1.length
    exact .inr (.inl ⟨a, n, vs, rep_ref_inv rx, rep_int_inv ry, e1, h3, h2, by rw [← l1]; exact z, end_lst (r1.flat n.toNat) hv q k⟩)
theorem ae_mul (ha : AE X a ta) (hb : AE X b tb) : AE X (.BinOp a .Mult b pos) (aOp aMul ta tb) := ae_op op_mulH ab_mul ha hb
def Pl : Nat → Dv → Prop
  | _, .non => True
  | _, .int _ => True
  | _, .str x => PyData.canLay0 (.str x) = true
  | n + 1, .tup xs => ∀ d ∈ xs, Pl n d
  | n + 1, .rol xs => ∀ d ∈ xs, Pl n d
  | _, _ => False
def pyP : Nat → Dv → PyData
  | _, .int i => .int i
  | _, .str x => .str x
  | n + 1, .tup xs => .tuple (xs.map (pyP n))
  | n + 1, .rol xs => .list (xs.map (pyP n))
  | _, _ => .none
section
variable {K : PySem.W.Frag} {H : Hp}
theorem dpAll_of {n : Nat} (ih : ∀ d v, Pl n d → Rep K H d v → Dp K H v (pyP n d)) : ∀ {xs : List Dv} {vs : List V}, (∀ d ∈ xs, Pl n d) → Reps K H xs vs → DpAll K H vs (xs.map (pyP n))
  | [], _, _, r => by rw [r.nil_inv]; exact .nil
  | d :: xs, _, h, r => by
    obtain ⟨v, w, rfl, r1, r2⟩ := r.cons_inv
    exact .cons (ih d v (h d (by simp)) r1) (dpAll_of ih (fun e he => h e (by simp [he])) r2)
theorem dp_of : ∀ (n : Nat) (d : Dv) (v : V), Pl n d → Rep K H d v → Dp K H v (pyP n d)
  | 0, .non, v, _, r => by rw [rep_non_inv r]; exact .non
  | n + 1, .non, v, _, r => by rw [rep_non_inv r]; exact .non
  | 0, .int i, v, _, r => by rw [rep_int_inv r]; exact .int i
  | n + 1, .int i, v, _, r => by rw [rep_int_inv r]; exact .int i
  | 0, .str i, v, _, r => by rw [rep_str_inv r]; exact .str i
  | n + 1, .str i, v, _, r => by rw [rep_str_inv r]; exact .str i
  | n + 1, .tup xs, v, h, r => by
    obtain ⟨a, vs, e, s, z⟩ := rep_tup_inv r
    subst e
    exact .tup s (dpAll_of (dp_of n) h z)
  | n + 1, .rol xs, v, h, r => by
    obtain ⟨a, vs, e, s, z⟩ := rep_rol_inv r
    subst e
    exact .lst s.l (dpAll_of (dp_of n) h z)
theorem canLayAll_of {f : Dv → PyData} : ∀ {xs : List Dv}, (∀ d ∈ xs, (f d).canLay0 = true) → PyData.canLayAll0 (xs.map f) = true
  | [], _ => by simp [PyData.canLayAll0]
  | d :: xs, h => by
    have h1 := h d (by simp)
    have h2 := canLayAll_of fun e (he : e ∈ xs) => h e (List.mem_cons_of_mem _ he)
    simp [PyData.canLayAll0, h1, h2]
theorem canLay_pl : ∀ (n : Nat) (d : Dv), Pl n d → (pyP n d).canLay0 = true
  | 0, .non, _ => by simp [pyP, PyData.canLay0]
  | n + 1, .non, _ => by simp [pyP, PyData.canLay0]
  | 0, .int _, _ => by simp [pyP, PyData.canLay0]
  | n + 1, .int _, _ => by simp [pyP, PyData.canLay0]
  | 0, .str _, h => h
  | n + 1, .str _, h => h
  | n + 1, .tup xs, h => by
    simp only [pyP, PyData.canLay0]
    exact canLayAll_of fun d hd => canLay_pl n d (h d hd)
  | n + 1, .rol xs, h => by
    simp only [pyP, PyData.canLay0]
    exact canLayAll_of fun d hd => canLay_pl n d (h d hd)
theorem depthAll_of {f : Dv → PyData} {n : Nat} : ∀ {xs : List Dv}, (∀ d ∈ xs, (f d).depth ≤ n) → PyData.depthAll (xs.map f) ≤ n
  | [], _ => by simp [PyData.depthAll]
  | d :: xs, h => by
    have h1 := h d (by simp)
    have h2 := depthAll_of fun e he => h e (List.mem_cons_of_mem _ he)
    simp [PyData.depthAll]
    omega
theorem depth_pl : ∀ (n : Nat) (d : Dv), Pl n d → (pyP n d).depth ≤ n
  | 0, .non, _ => by simp [pyP, PyData.depth]
  | n + 1, .non, _ => by simp [pyP, PyData.depth]
  | 0, .int _, _ => by simp [pyP, PyData.depth]
  | n + 1, .int _, _ => by simp [pyP, PyData.depth]
  | 0, .str _, h => by simp [pyP, PyData.depth]
  | n + 1, .str _, h => by simp [pyP, PyData.depth]
  | n + 1, .tup xs, h => by
    simp only [pyP, PyData.depth]
    have := depthAll_of fun d hd => depth_pl n d (h d hd)
    omega
  | n + 1, .rol xs, h => by
    simp only [pyP, PyData.depth]
    have := depthAll_of fun d hd => depth_pl n d (h d hd)
    omega
theorem eqvAll_of {n : Nat} (ih : ∀ d e, Pl n d → Pl n e → (PyData.eqv (pyP n d) (pyP n e) = true ↔ d = e)) : ∀ {xs ys : List Dv}, (∀ d ∈ xs, Pl n d) → (∀ d ∈ ys, Pl n d) → (PyData.eqvAll (xs.map (pyP n)) (ys.map (pyP n)) = true ↔ xs = ys)
  | [], [], _, _ => by simp [PyData.eqvAll]
  | [], _ :: _, _, _ => by simp [PyData.eqvAll]
  | _ :: _, [], _, _ => by simp [PyData.eqvAll]
  | d :: xs, e :: ys, h, h' => by
    have h1 := ih d e (h d (by simp)) (h' e (by simp))
    have h2 := eqvAll_of ih (xs := xs) (ys := ys) (fun z hz => h z (by simp [hz])) fun z hz => h' z (by simp [hz])
    simp [PyData.eqvAll, h1, h2]
theorem eqv_pl : ∀ (n : Nat) (d e : Dv), Pl n d → Pl n e → (PyData.eqv (pyP n d) (pyP n e) = true ↔ d = e) := by
  intro n
  induction n with
  | zero =>
    intro d e hd he
    cases d <;> cases e <;> first | exact hd.elim | exact he.elim | simp [pyP, PyData.eqv]
  | succ n ih =>
    intro d e hd he
    cases d <;> cases e <;> first | exact hd.elim | exact he.elim | skip
    case tup.tup xs ys =>
      have := eqvAll_of ih (xs := xs) (ys := ys) hd he
      simp only [pyP, PyData.eqv, this, Dv.tup.injEq]
    case rol.rol xs ys =>
      have := eqvAll_of ih (xs := xs) (ys := ys) hd he
      simp only [pyP, PyData.eqv, this, Dv.rol.injEq]
    all_goals simp [pyP, PyData.eqv]
open Classical in
theorem eqv_dec (n : Nat) (d e : Dv) (hd : Pl n d) (he : Pl n e) : PyData.eqv (pyP n d) (pyP n e) = decide (d = e) := by
  by_cases h : d = e
  · rw [decide_eq_true h]; exact (eqv_pl n d e hd he).mpr h
  · rw [decide_eq_false h]
    cases q : PyData.eqv (pyP n d) (pyP n e) with
    | false => rfl
    | true => exact absurd ((eqv_pl n d e hd he).mp q) h
end
open Classical in
noncomputable def aEqB (x y : Dv) (M : Ms) (Q : Bool → Prop) : Prop := match x, y with
  | .bl a, .bl b => Q (a == b)
  | .ref a, .ref b => ∃ xs ys, M a = some (.lst xs) ∧ M b = some (.lst ys) ∧ (∀ d ∈ xs, Pl 8 d) ∧ (∀ d ∈ ys, Pl 8 d) ∧ Q (decide (xs = ys))
  | .ref a, .rol ys => ∃ xs, M a = some (.lst xs) ∧ Pl 9 (.rol xs) ∧ Pl 9 (.rol ys) ∧ Q (decide (xs = ys))
  | .rol xs, .ref b => ∃ ys, M b = some (.lst ys) ∧ Pl 9 (.rol xs) ∧ Pl 9 (.rol ys) ∧ Q (decide (xs = ys))
  | x, y => Pl 9 x ∧ Pl 9 y ∧ Q (decide (x = y))
noncomputable def aEq : AR2 := fun x y M Q => aEqB x y M fun b => Q (.bl b) M
noncomputable def aNe : AR2 := fun x y M Q => aEqB x y M fun b => Q (.bl (!b)) M
theorem shaped_of {d : PyData} (h1 : d.canLay0 = true) (h2 : d.depth ≤ 20) : SeqAt.shaped d = true := by
  unfold SeqAt.shaped
  rw [h1, Bool.true_and]
  exact decide_eq_true (by omega)
open Classical in
theorem aEqB_ok {K : PySem.W.Frag} {H : Hp} {M : Ms} {x y : V} {dx dy : Dv} {P : Bool → Prop} (rx : Rep K H dx x) (ry : Rep K H dy y) (hv : View K M H) (h : aEqB dx dy M P) :
    ∃ d e, Dp K H x d ∧ Dp K H y e ∧ SeqAt.shaped d = true ∧ SeqAt.shaped e = true ∧ P (PyData.eqv d e) := by
  have gen : Pl 9 dx → Pl 9 dy → P (decide (dx = dy)) → ∃ d e, Dp K H x d ∧ Dp K H y e ∧ SeqAt.shaped d = true ∧ SeqAt.shaped e = true ∧ P (PyData.eqv d e) := fun h1 h2 q => by
    have d1 := depth_pl 9 _ h1
    have d2 := depth_pl 9 _ h2
    exact ⟨_, _, dp_of 9 _ _ h1 rx, dp_of 9 _ _ h2 ry, shaped_of (canLay_pl _ _ h1) (by omega), shaped_of (canLay_pl _ _ h2) (by omega), by rw [eqv_dec 9 _ _ h1 h2]; exact q⟩
  unfold aEqB at h
  split at h
  · next a b =>
    rw [rep_bl_inv rx, rep_bl_inv ry]
    refine ⟨.bool a, .bool b, .bl a, .bl b, by rfl, by rfl, ?_⟩
    simp only [PyData.eqv]
    exact h
  · next a b =>
    obtain ⟨xs, ys, h1, h2, p1, p2, q⟩ := h
    obtain ⟨vs, e1, r1⟩ := view_lst hv h1
    obtain ⟨ws, e2, r2⟩ := view_lst hv h2
    rw [rep_ref_inv rx, rep_ref_inv ry]
    have c1 : PyData.canLay0 (.list (xs.map (pyP 8))) = true := by simp only [PyData.canLay0]; exact canLayAll_of fun d hd => canLay_pl 8 d (p1 d hd)
    have c2 : PyData.canLay0 (.list (ys.map (pyP 8))) = true := by simp only [PyData.canLay0]; exact canLayAll_of fun d hd => canLay_pl 8 d (p2 d hd)
    have z1 : PyData.depth (.list (xs.map (pyP 8))) ≤ 20 := by
      have := depthAll_of fun d hd => depth_pl 8 d (p1 d hd)
      simp only [PyData.depth]; omega
    have z2 : PyData.depth (.list (ys.map (pyP 8))) ≤ 20 := by
      have := depthAll_of fun d hd => depth_pl 8 d (p2 d hd)
      simp only [PyData.depth]; omega
    refine ⟨_, _, .lst (.inl (.inl e1)) (dpAll_of (dp_of 8) p1 r1), .lst (.inl (.inl e2)) (dpAll_of (dp_of 8) p2 r2), shaped_of c1 z1, shaped_of c2 z2, ?_⟩
    have e := eqvAll_of (eqv_pl 8) p1 p2
    have e' : PyData.eqv (.list (xs.map (pyP 8))) (.list (ys.map (pyP 8))) = decide (xs = ys) := by
      simp only [PyData.eqv]
      by_cases q : xs = ys
      · rw [decide_eq_true q]; exact e.mpr q
      · rw [decide_eq_false q]
        cases w : PyData.eqvAll (xs.map (pyP 8)) (ys.map (pyP 8)) with
        | false => rfl
        | true => exact absurd (e.mp w) q
    rw [e']; exact q
  · next a ys =>
    obtain ⟨xs, h1, p1, p2, q⟩ := h
    obtain ⟨vs, e1, r1⟩ := view_lst hv h1
    rw [rep_ref_inv rx]
    have d1 := depth_pl 9 _ p1
    have d2 := depth_pl 9 _ p2
    have eq : decide (Dv.rol xs = Dv.rol ys) = decide (xs = ys) := by simp only [Dv.rol.injEq]
    refine ⟨pyP 9 (.rol xs), _, ?_, dp_of 9 _ _ p2 ry, shaped_of (canLay_pl _ _ p1) (by omega), shaped_of (canLay_pl _ _ p2) (by omega), by rw [eqv_dec 9 _ _ p1 p2, eq]; exact q⟩
    show Dp K H (.ref a) (.list (xs.map (pyP 8)))
    exact .lst (.inl (.inl e1)) (dpAll_of (dp_of 8) p1 r1)
  · next xs b =>
    obtain ⟨ys, h1, p1, p2, q⟩ := h
    obtain ⟨vs, e1, r1⟩ := view_lst hv h1
    rw [rep_ref_inv ry]
    have d1 := depth_pl 9 _ p1
    have d2 := depth_pl 9 _ p2
    have eq : decide (Dv.rol xs = Dv.rol ys) = decide (xs = ys) := by simp only [Dv.rol.injEq]
    refine ⟨_, pyP 9 (.rol ys), dp_of 9 _ _ p1 rx, ?_, shaped_of (canLay_pl _ _ p1) (by omega), shaped_of (canLay_pl _ _ p2) (by omega), by rw [eqv_dec 9 _ _ p1 p2, eq]; exact q⟩
    show Dp K H (.ref b) (.list (ys.map (pyP 8)))
    exact .lst (.inl (.inl e1)) (dpAll_of (dp_of 8) p2 r1)
  · exact gen h.1 h.2.1 h.2.2
theorem ab_eq {K : PySem.W.Frag} : Ab2 K (rEqD K) aEq := fun H M x y dx dy Q Q' rx ry hv q k => by
  obtain ⟨d, e, h1, h2, h3, h4, q⟩ := aEqB_ok rx ry hv q
  exact ⟨d, e, h1, h2, h3, h4, k _ _ _ _ (Tp.refl H) rep_bl hv q⟩
theorem ab_ne {K : PySem.W.Frag} : Ab2 K (rNeD K) aNe := fun H M x y dx dy Q Q' rx ry hv q k => by
  obtain ⟨d, e, h1, h2, h3, h4, q⟩ := aEqB_ok rx ry hv q
  exact ⟨d, e, h1, h2, h3, h4, k _ _ _ _ (Tp.refl H) rep_bl hv q⟩
theorem ae_eq (hu : X.A.units + 64 < cLine) (ha : AE X a ta) (hb : AE X b tb) : AE X (.Compare a [.Eq] [b] pos) (aOp aEq ta tb) := ae_cmp (op_eqD hu) ab_eq ha hb (nomark _)
theorem ae_ne (hu : X.A.units + 64 < cLine) (ha : AE X a ta) (hb : AE X b tb) : AE X (.Compare a [.NotEq] [b] pos) (aOp aNe ta tb) := ae_cmp (op_neD hu) ab_ne ha hb (nomark _)
theorem at_eq (hu : X.A.units + 64 < cLine) (ha : AE X a ta) (hb : AE X b tb) : AT X (.Compare a [.Eq] [b] pos) (aB (aOp aEq ta tb)) := at_cmp (op_eqD hu) ab_eq ha hb (nomark _)
theorem at_ne (hu : X.A.units + 64 < cLine) (ha : AE X a ta) (hb : AE X b tb) : AT X (.Compare a [.NotEq] [b] pos) (aB (aOp aNe ta tb)) := at_cmp (op_neD hu) ab_ne ha hb (nomark _)
end
end HC
set_option maxHeartbeats 4000000
namespace HC
open PySem L2
abbrev RG := Dv → Env' → Ms → (Env' → Ms → Prop) → Prop
abbrev RGs := List Dv → Env' → Ms → (Env' → Ms → Prop) → Prop
def cG (K : PySem.W.Frag) (t : RG) : TG := fun v σ H Q' => ∃ d ρ M Q, Rep K H d v ∧ RepE K H ρ σ ∧ View K M H ∧ t d ρ M Q ∧ LkS K H Q Q'
def cGs (K : PySem.W.Frag) (t : RGs) : TGs := fun vs σ H Q' => ∃ ds ρ M Q, Reps K H ds vs ∧ RepE K H ρ σ ∧ View K M H ∧ t ds ρ M Q ∧ LkS K H Q Q'
def AG (X : Cx) (e : Expr) (t : RG) : Prop := PG X e (cG X.K t)
def AGs (X : Cx) (es : List Expr) (t : RGs) : Prop := PGs X es (cGs X.K t)
theorem pg_imp {X : Cx} {e : Expr} {t t' : TG} (h : PG X e t) (f : ∀ v σ H Q, t' v σ H Q → t v σ H Q) : PG X e t' := ⟨fun pins s σ H v u Q I r q => h.run pins s σ H v u Q I r (f _ _ _ _ q)⟩
theorem pgs_imp {X : Cx} {e : List Expr} {t t' : TGs} (h : PGs X e t) (f : ∀ v σ H Q, t' v σ H Q → t v σ H Q) : PGs X e t' := ⟨fun pins s σ H v u Q I r q => h.run pins s σ H v u Q I r (f _ _ _ _ q)⟩
theorem pg_or {X : Cx} {e : Expr} {t t' : TG} (h : PG X e t) (h' : PG X e t') : PG X e (fun v σ H Q => t v σ H Q ∨ t' v σ H Q) := ⟨fun pins s σ H v u Q I r q => q.elim (fun q => h.run pins s σ H v u Q I r q) (fun q => h'.run pins s σ H v u Q I r q)⟩
section
variable {X : Cx} {pos : Pos} {e : Expr} {es : List Expr}
def agName (i : Nat) : RG := fun d ρ M Q => Q (ρ.set i (some d)) M
theorem ag_name (i : Nat) {x : Str} (hN : X.N.Nodup) (hi : X.N[i]? = some x := by rfl) (hx : Loc X.env.scope x := by first | exact .inl rfl | exact .inr rfl) (hf : X.fn x = true ∨ X.env.scope.names.lookup x = some .local := by first | exact .inl rfl | exact .inr rfl) : AG X (.Name x pos) (agName i) :=
  pg_imp (pg_name hN hi hx hf) fun v σ H Q' ⟨d, ρ, M, Q, rd, hr, hv, q, k⟩ => k _ _ _ _ (Tp.refl H) (hr.set i rd) hv q
def agNil : RGs := fun ds ρ M Q => ds = [] ∧ Q ρ M
def agCons (t : RG) (u : RGs) : RGs := fun ds ρ M Q => match ds with
  | [] => False
  | d :: r => t d ρ M fun ρ1 M1 => u r ρ1 M1 Q
theorem ags_nil : AGs X [] agNil := pgs_imp pgs_nil fun v σ H Q' ⟨d, ρ, M, Q, rd, hr, hv, ⟨e, q⟩, k⟩ => by
  subst e
  exact ⟨rd.nil_inv, k _ _ _ _ (Tp.refl H) hr hv q⟩
theorem ags_cons {t : RG} {u : RGs} (h1 : AG X e t) (h2 : AGs X es u) (hs : (assignEach (e :: es) X.env).map (·.2) = assign e X.env :: (assignEach es X.env).map (·.2) := by rfl) : AGs X (e :: es) (agCons t u) :=
  pgs_imp (pgs_cons h1 h2 hs) fun vs σ H Q' ⟨ds, ρ, M, Q, rd, hr, hv, q, k⟩ => by
    cases ds with
    | nil => exact q.elim
    | cons d r =>
      obtain ⟨v, vr, e1, r1, r2⟩ := rd.cons_inv
      exact ⟨v, vr, e1, d, ρ, M, _, r1, hr, hv, q, fun σ1 H1 ρ1 M1 t1 hr1 hv1 q1 => ⟨r, ρ1, M1, Q, r2.mono t1, hr1, hv1, q1, k.up t1⟩⟩
def itemsA : Dv → Ms → Option (List Dv)
  | .tup ds, _ => some ds
  | .rol ds, _ => some ds
  | .tuc ds, _ => some ds
  | .ref a, M => match M a with | some (.lst ds) => some ds | _ => none
  | _, _ => none
theorem itemsA_ok {K : PySem.W.Frag} {M : Ms} {H : Hp} {d : Dv} {v : V} {ds : List Dv} (r : Rep K H d v) (hv : View K M H) (h : itemsA d M = some ds) : ∃ a vs, v = .ref a ∧ (SqT K H a vs ∨ SqL K H a vs) ∧ Reps K H ds vs := by
  cases d with
  | tup es =>
    cases h
    obtain ⟨a, vs, e, s, z⟩ := (show ∃ a vs, v = .ref a ∧ SqT K H a vs ∧ Reps K H ds vs by simpa only [Rep] using r)
    exact ⟨a, vs, e, .inl s, z⟩
  | rol es =>
    cases h
    obtain ⟨a, vs, e, s, z⟩ := (show ∃ a vs, v = .ref a ∧ SqF K H a vs ∧ Reps K H ds vs by simpa only [Rep] using r)
    exact ⟨a, vs, e, .inr s.l, z⟩
  | exc _ _ => cases h
  | tuc es =>
    cases h
    obtain ⟨a, vs, e, s, z⟩ := (show ∃ a vs, v = .ref a ∧ SqC H a vs ∧ Reps K H ds vs by simpa only [Rep] using r)
    exact ⟨a, vs, e, .inl s.t, z⟩
  | ref a =>
    have e : v = .ref a := by simpa only [Rep] using r
    simp only [itemsA] at h
    cases q : M a with
    | none => rw [q] at h; cases h
    | some c =>
      rw [q] at h
      cases c with
      | dic _ => cases h
      | dit _ => cases h
      | fdc _ => cases h
      | obj _ _ => cases h
      | tab _ => cases h
      | cod _ => cases h
      | lst es =>
        cases h
        obtain ⟨vs, h1, h2⟩ := hv a _ q
        exact ⟨a, vs, e, .inr (.inl (.inl h1)), h2⟩
  | non => cases h
  | bl _ => cases h
  | int _ => cases h
  | str _ => cases h
  | ty _ => cases h
def agTup (n : Nat) (t : RGs) : RG := fun d ρ M Q => onS (itemsA d M) fun ds => ds.length = n ∧ t ds ρ M Q
theorem ag_tup {k : Nat} {t : RGs} {n : Nat} (hc : X.calm = true) (h : AGs X es t) (hn : (assignEach es X.env).length = n := by rfl) (hst : (assignEach es X.env).findIdx? (·.1) = none := by rfl) : AG X (.Tuple es k pos) (agTup n t) :=
  pg_imp (pg_or (pg_tup hc h hn hst) (pg_lst hc h hn hst)) fun v σ H Q' ⟨d, ρ, M, Q, rd, hr, hv, q, k⟩ => by
    obtain ⟨ds, e, hl, q⟩ := onS_ex q
    obtain ⟨a, vs, e1, s, z⟩ := itemsA_ok rd hv e
    rcases s with s | s
    · exact .inl ⟨a, vs, e1, s, by rw [← z.length]; exact hl, ds, ρ, M, Q, z, hr, hv, q, k⟩
    · exact .inr ⟨a, vs, e1, s, by rw [← z.length]; exact hl, ds, ρ, M, Q, z, hr, hv, q, k⟩
end
section
variable {X : Cx} {pos : Pos} {a b c e tg : Expr} {te : RE} {st : Stmt} {sts rest : List Stmt} {t u : RS} {tc : RT} {g : RG}
theorem seqS {K : PySem.W.Frag} {ρ : Env'} {σ : L2.St} {M : Ms} {H : Hp} {t : RS} {D : Ends'} {D' : Ends} (hr : RepE K H ρ σ) (hv : View K M H) (h : t D ρ M) (k : LkD K H D D') : cS K t D' σ H := ⟨ρ, M, D, hr, hv, h, k⟩
def aNext : RS := fun D ρ M => D.nx ρ M
def aSeq (t u : RS) : RS := fun D ρ M => t { D with nx := u D } ρ M
theorem next_imp {K : PySem.W.Frag} : ∀ D σ H, cS K aNext D σ H → tNext D σ H := fun D' σ H ⟨ρ, M, D, hr, hv, q, k⟩ => k.nx _ _ _ _ (Tp.refl H) hr hv q
theorem as_pass : AS X (.Pass pos) aNext := ps_imp ps_pass next_imp
theorem ass_nil : ASs X [] aNext := pss_imp pss_nil next_imp
theorem ass_cons (h1 : AS X st t) (h2 : ASs X rest u) : ASs X (st :: rest) (aSeq t u) :=
  pss_imp (pss_cons h1 h2) fun D' σ H ⟨ρ, M, D, hr, hv, q, k⟩ => seqS (D := { D with nx := u D }) hr hv q ⟨fun σ1 H1 ρ1 M1 t1 r1 v1 q1 => seqS r1 v1 q1 (k.up t1), k.rt, k.bk, k.ct⟩
theorem ass_one (h : AS X st t) : ASs X [st] t := pss_one h
def aBrk : RS := fun D ρ M => D.bk ρ M
def aCnt : RS := fun D ρ M => D.ct ρ M
theorem as_brk : AS X (.Break pos) aBrk := ps_imp ps_break fun D' σ H ⟨ρ, M, D, hr, hv, q, k⟩ => k.bk _ _ _ _ (Tp.refl H) hr hv q
theorem as_cnt : AS X (.Continue pos) aCnt := ps_imp ps_continue fun D' σ H ⟨ρ, M, D, hr, hv, q, k⟩ => k.ct _ _ _ _ (Tp.refl H) hr hv q
def aDrop (te : RE) : RS := fun D ρ M => te ρ M fun _ M1 => D.nx ρ M1
theorem as_expr (h : AE X e te) (hs : swapsWith e none pos.line X.env = pure false := by rfl) : AS X (.Expr e pos) (aDrop te) := ps_imp (ps_expr h hs) fun D' σ H ⟨ρ, M, D, hr, hv, q, k⟩ => seqE hr hv q fun v H1 d M1 t1 r1 v1 q1 => k.nx _ _ _ _ t1 (hr.mono t1) v1 q1
def aRet (te : RE) : RS := fun D ρ M => te ρ M D.rt
theorem as_ret (h : AE X e te) : AS X (.Return (some e) pos) (aRet te) := ps_imp (ps_ret h) fun D' σ H ⟨ρ, M, D, hr, hv, q, k⟩ => seqE hr hv q k.rt
def aRetN : RS := fun D _ M => D.rt .non M
theorem as_retN : AS X (.Return none pos) aRetN := ps_imp ps_retN fun D' σ H ⟨ρ, M, D, hr, hv, q, k⟩ => k.rt _ _ _ _ (Tp.refl H) (by simp only [Rep]) hv q
def aIfS (tc : RT) (t u : RS) : RS := fun D ρ M => tc ρ M fun b M1 => onIf b (t D ρ M1) (u D ρ M1)
theorem as_if {as bs : List Stmt} (hc : AT X c tc) (h1 : ASs X as t) (h2 : ASs X bs u) : AS X (.If c as bs pos) (aIfS tc t u) :=
  ps_imp (ps_if hc h1 h2) fun D' σ H ⟨ρ, M, D, hr, hv, q, k⟩ => seqT hr hv q fun b H1 M1 t1 v1 q1 => by
    cases b with
    | true => exact seqS (hr.mono t1) v1 q1 (k.up t1)
    | false => exact seqS (hr.mono t1) v1 q1 (k.up t1)
def aAsg (te : RE) (g : RG) : RS := fun D ρ M => te ρ M fun d M1 => g d ρ M1 D.nx
theorem as_asg (he : AE X e te) (hg : AG X tg g) (hs : swapsWithSole [tg] e pos.line X.env = pure false := by rfl) (hw : swappedStores [tg] e X.env = pure none := by rfl)
    (h1 : (assignEach [tg] X.env).map (·.2) = [assign tg X.env] := by rfl) : AS X (.Assign [tg] e pos) (aAsg te g) :=
  ps_imp (ps_asg he hg hs hw h1) fun D' σ H ⟨ρ, M, D, hr, hv, q, k⟩ => seqE hr hv q fun v H1 d M1 t1 r1 v1 q1 => ⟨d, ρ, M1, D.nx, r1, hr.mono t1, v1, q1, k.nx.up t1⟩
theorem asg_name_imp {K : PySem.W.Frag} {i : Nat} {te' : TE} (h : ∀ σ H Q, cE K te σ H Q → te' σ H Q) : ∀ D σ H, cS K (aAsg te (agName i)) D σ H → tAsg te' (gName i) D σ H := fun D' σ H ⟨ρ, M, D, hr, hv, q, k⟩ =>
  h _ _ _ (seqE hr hv q fun v H1 d M1 t1 r1 v1 q1 => k.nx _ _ _ _ t1 ((hr.mono t1).set i r1) v1 q1)
theorem as_set (i : Nat) {x : Str} {pos' : Pos} (hN : X.N.Nodup) (he : AE X e te) (hi : X.N[i]? = some x := by rfl) (hx : Loc X.env.scope x := by first | exact .inl rfl | exact .inr rfl) (hs : swapsWith e (some (.Name x pos')) pos.line X.env = pure false := by rfl) (hf : X.fn x = true ∨ X.env.scope.names.lookup x = some .local := by first | exact .inl rfl | exact .inr rfl) :
    AS X (.Assign [.Name x pos'] e pos) (aAsg te (agName i)) := ps_imp (ps_set hN hi hx he hs hf) (asg_name_imp fun _ _ _ q => q)
def aPar (i j : Nat) (ta : RA) : RS := fun D ρ M => ta ρ M fun ds M1 => match ds with
  | [d, f] => D.nx ((ρ.set i (some d)).set j (some f)) M1
  | _ => False
theorem as_par (i j : Nat) {x y : Str} {ta : RA} {px py pt : Pos} {kt k2 pt2} (hc : X.calm = true) (hN : X.N.Nodup) (ha : AA X [a, b] ta) (hi : X.N[i]? = some x := by rfl) (hj : X.N[j]? = some y := by rfl) (hij : i ≠ j := by decide)
    (hx : X.env.scope.names.lookup x = some .local := by rfl) (hy : X.env.scope.names.lookup y = some .local := by rfl)
    (hw : swappedStores [.Tuple [.Name x px, .Name y py] kt pt] (.Tuple [a, b] k2 pt2) X.env = pure (some [x, y]) := by rfl)
    (hs : swapsWithSole [.Tuple [.Name x px, .Name y py] kt pt] (.Tuple [a, b] k2 pt2) pos.line X.env = pure false := by rfl) :
    AS X (.Assign [.Tuple [.Name x px, .Name y py] kt pt] (.Tuple [a, b] k2 pt2) pos) (aPar i j ta) :=
  ps_imp (ps_par hc hN hi hj hij hx hy ha hw hs) fun D' σ H ⟨ρ, M, D, hr, hv, q, k⟩ => ⟨ρ, M, _, hr, hv, q, fun vs H1 ds M1 t1 r1 v1 q1 => by
    match ds, r1, q1 with
    | [d, f], r1, q1 =>
      obtain ⟨v, _, e1, z1, r2⟩ := r1.cons_inv
      obtain ⟨w, _, e2, z2, r3⟩ := r2.cons_inv
      have e3 := r3.nil_inv
      subst e1 e2 e3
      exact ⟨v, w, rfl, k.nx _ _ _ _ t1 (((hr.mono t1).set i z1).set j z2) v1 q1⟩⟩
def aWhile (tc : RT) (tb : RS) : RS := fun D ρ M => ∃ W : Nat → Env' → Ms → Prop, (∃ m, W m ρ M) ∧ ∀ m ρ M, W m ρ M → tc ρ M fun b M1 => onIf b (tb { D with nx := wk fun ρ M => ∃ m', m' < m ∧ W m' ρ M, ct := wk fun ρ M => ∃ m', m' < m ∧ W m' ρ M, bk := D.nx } ρ M1) (D.nx ρ M1)
theorem as_while {body : List Stmt} (hp : PassesOwn (model X.prog X.w) X.A X.env X.xe) (hc : AT X c tc) (hb : ASs X body t) : AS X (.While c body [] pos) (aWhile tc t) :=
  ps_imp (ps_while hp hc hb) fun D' σ H h => by
    obtain ⟨ρ, M, D, hr, hv, ⟨W, ⟨m, w0⟩, turn⟩, k⟩ := h
    refine ⟨fun m σ1 H1 => ∃ ρ1 M1, Tp X.K H H1 ∧ RepE X.K H1 ρ1 σ1 ∧ View X.K M1 H1 ∧ W m ρ1 M1, ⟨m, ρ, M, Tp.refl H, hr, hv, w0⟩, ?_⟩
    rintro m σ1 H1 ⟨ρ1, M1, t1, hr1, hv1, w1⟩
    refine seqT hr1 hv1 (turn m ρ1 M1 w1) fun b H2 M2 t2 v2 q2 => ?_
    cases b with
    | false => exact k.nx _ _ _ _ (t1.trans t2) (hr1.mono t2) v2 q2
    | true =>
      refine ⟨fun σ3 H3 => ∃ ρ3 M3, Tp X.K H H3 ∧ RepE X.K H3 ρ3 σ3 ∧ View X.K M3 H3 ∧ ∃ m', m' < m ∧ W m' ρ3 M3, ?_, ?_⟩
      · rintro σ3 H3 ⟨ρ3, M3, t3, r3, v3, m', hm, w3⟩
        exact ⟨m', hm, ρ3, M3, t3, r3, v3, w3⟩
      · exact seqS (hr1.mono t2) v2 q2 ⟨fun σ3 H3 ρ3 M3 t3 r3 v3 ⟨ρ4, M4, se, sm, q3⟩ => ⟨ρ4, M4, (t1.trans t2).trans t3, se.rep r3, v3.sub sm, q3⟩, k.rt.up (t1.trans t2), k.nx.up (t1.trans t2), fun σ3 H3 ρ3 M3 t3 r3 v3 ⟨ρ4, M4, se, sm, q3⟩ => ⟨ρ4, M4, (t1.trans t2).trans t3, se.rep r3, v3.sub sm, q3⟩⟩
end
abbrev RI := Env' → Ms → (List Dv → (Ms → Prop) → Ms → Prop) → Prop
structure IW (K : PySem.W.Frag) (J : It) (ds : List Dv) (keep : Ms → Prop) (H0 : Hp) : Prop where
  go : ∀ i H M, i < ds.length → Tp K H0 H → View K M H → keep M → J.go i H
  stop : ∀ H M, Tp K H0 H → View K M H → keep M → J.stop ds.length H
  yld : ∀ i H M x H', i < ds.length → Tp K H0 H → View K M H → keep M → J.yld i H x H' → ∃ d, ds[i]? = some d ∧ Tp K H H' ∧ Rep K H' d x ∧ View K M H' ∧ (∀ a, H a ≠ none → H' a = H a)
def cI (K : PySem.W.Frag) (ai : RI) : TI := fun σ H R => ∃ ρ M Q, RepE K H ρ σ ∧ View K M H ∧ ai ρ M Q ∧ ∀ J H' ds keep M', Tp K H H' → View K M' H' → Q ds keep M' → IW K J ds keep H' → R J H'
def AI (X : Cx) (tg iter : Expr) (ai : RI) : Prop := PI X tg iter (cI X.K ai)
theorem pi_imp {X : Cx} {tg e : Expr} {t t' : TI} (h : PI X tg e t) (f : ∀ σ H Q, t' σ H Q → t σ H Q) : PI X tg e t' := ⟨fun pins s σ H Q I q => h.run pins s σ H Q I (f _ _ _ q)⟩
def forW0 (keep : Ms → Prop) (g : RG) (tb : RS) (D : Ends') : List Dv → Env' → Ms → Prop
  | [], ρ, M => keep M ∧ D.nx ρ M
  | d :: ds, ρ, M => keep M ∧ ∃ N : Env' → Ms → Prop, (∀ ρ1 M1, N ρ1 M1 → forW0 keep g tb D ds ρ1 M1) ∧ g d ρ M fun ρ1 M1 => tb { D with nx := wk N, ct := wk N, bk := D.nx } ρ1 M1
@[irreducible] def forW (keep : Ms → Prop) (g : RG) (tb : RS) (D : Ends') (ds : List Dv) (ρ : Env') (M : Ms) : Prop := forW0 keep g tb D ds ρ M
theorem forW_eqn {keep : Ms → Prop} {g : RG} {tb : RS} {D : Ends'} {ρ : Env'} {M : Ms} : forW keep g tb D [] ρ M = (keep M ∧ D.nx ρ M) := by unfold forW; rfl
theorem forW_eqc {keep : Ms → Prop} {g : RG} {tb : RS} {D : Ends'} {d : Dv} {ds : List Dv} {ρ : Env'} {M : Ms} : forW keep g tb D (d :: ds) ρ M = (keep M ∧ ∃ N : Env' → Ms → Prop, (∀ ρ1 M1, N ρ1 M1 → forW keep g tb D ds ρ1 M1) ∧ g d ρ M fun ρ1 M1 => tb { D with nx := wk N, ct := wk N, bk := D.nx } ρ1 M1) := by unfold forW; rfl
def aFor (ai : RI) (g : RG) (tb : RS) : RS := fun D ρ M => ai ρ M fun ds keep M1 => forW keep g tb D ds ρ M1
section
variable {X : Cx} {pos : Pos} {tg iter : Expr} {ai : RI} {g : RG} {t : RS}
theorem drop_cons {α : Type} {l : List α} {i : Nat} {d : α} (h : l[i]? = some d) : l.drop i = d :: l.drop (i + 1) := by
  have hl := (List.getElem?_eq_some_iff.mp h).1
  rw [List.drop_eq_getElem_cons hl]
  have : l[i] = d := (List.getElem?_eq_some_iff.mp h).2
  rw [this]
theorem as_for {body : List Stmt} (hp : PassesOwn (model X.prog X.w) X.A X.env X.xe) (hc : X.calm = true) (hi : AI X tg iter ai) (hg : AG X tg g) (hb : ASs X body t)
    (hs : ∀ x, foldedSetIterable iter X.env x = pure x := by intro _; rfl) : AS X (.For tg iter body [] pos) (aFor ai g t) :=
  ps_imp (ps_for hp hc hi hg hb hs) fun D' σ H h => by
    obtain ⟨ρ, M, D, hr, hv, q, k⟩ := h
    refine ⟨ρ, M, _, hr, hv, q, fun J H1 ds keep M1 t1 v1 q1 iw => ?_⟩
    refine ⟨fun i m σ2 H2 => m = ds.length - i ∧ i ≤ ds.length ∧ ∃ ρ2 M2, Tp X.K H1 H2 ∧ RepE X.K H2 ρ2 σ2 ∧ View X.K M2 H2 ∧ forW keep g t D (ds.drop i) ρ2 M2, ⟨ds.length, by simp, Nat.zero_le _, ρ, M1, Tp.refl _, hr.mono t1, v1, by simpa using q1⟩, ?_⟩
    rintro i m σ2 H2 ⟨rfl, hi', ρ2, M2, t2, r2, v2, q2⟩
    by_cases hlt : i < ds.length
    · rw [drop_cons (List.getElem?_eq_getElem hlt), forW_eqc] at q2
      obtain ⟨kp, Nx, hN, q2⟩ := q2
      refine .inr ⟨iw.go i H2 M2 hlt t2 v2 kp, fun σ3 H3 => ∃ ρ3 M3, Tp X.K H1 H3 ∧ RepE X.K H3 ρ3 σ3 ∧ View X.K M3 H3 ∧ Nx ρ3 M3, ?_, ?_⟩
      · rintro σ3 H3 ⟨ρ3, M3, t3, r3, v3, q3⟩
        exact ⟨ds.length - (i + 1), by omega, rfl, hlt, ρ3, M3, t3, r3, v3, hN _ _ q3⟩
      · intro x H3 hy
        obtain ⟨d, hd, t3, rd, v3, _⟩ := iw.yld i H2 M2 x H3 hlt t2 v2 kp hy
        have e : d = ds[i] := by rw [List.getElem?_eq_getElem hlt] at hd; exact (Option.some.inj hd).symm
        subst e
        refine ⟨_, ρ2, M2, _, rd, r2.mono t3, v3, q2, fun σ4 H4 ρ4 M4 t4 r4 v4 q4 => ?_⟩
        have tt := t2.trans (t3.trans t4)
        refine seqS r4 v4 q4 ⟨fun σ5 H5 ρ5 M5 t5 r5 v5 ⟨ρ6, M6, se, sm, q5⟩ => ⟨ρ6, M6, tt.trans t5, se.rep r5, v5.sub sm, q5⟩, k.rt.up (t1.trans tt), k.nx.up (t1.trans tt), fun σ5 H5 ρ5 M5 t5 r5 v5 ⟨ρ6, M6, se, sm, q5⟩ => ⟨ρ6, M6, tt.trans t5, se.rep r5, v5.sub sm, q5⟩⟩
    · have e : i = ds.length := by omega
      subst e
      rw [List.drop_length, forW_eqn] at q2
      exact .inl ⟨iw.stop H2 M2 t2 v2 q2.1, k.nx _ _ _ _ (t1.trans t2) r2 v2 q2.2⟩
theorem forW_inv {keep : Ms → Prop} {D : Ends'} {ds : List Dv} {ρ : Env'} {M : Ms} (P : Nat → Env' → Ms → Prop) (h0 : P 0 ρ M) (hk : ∀ i ρ M, i ≤ ds.length → P i ρ M → keep M)
    (hs : ∀ i d ρ M, ds[i]? = some d → P i ρ M → g d ρ M fun ρ1 M1 => t { D with nx := wk (P (i + 1)), ct := wk (P (i + 1)), bk := D.nx } ρ1 M1) (hd : ∀ ρ M, P ds.length ρ M → D.nx ρ M) : forW keep g t D ds ρ M := by
  have main : ∀ (n i : Nat), i + n = ds.length → ∀ ρ M, P i ρ M → forW keep g t D (ds.drop i) ρ M := by
    intro n
    induction n with
    | zero =>
      intro i hi ρ M p
      have e : i = ds.length := by omega
      subst e
      rw [List.drop_length, forW_eqn]
      exact ⟨hk _ _ _ (Nat.le_refl _) p, hd _ _ p⟩
    | succ n ih =>
      intro i hi ρ M p
      have hlt : i < ds.length := by omega
      rw [drop_cons (List.getElem?_eq_getElem hlt), forW_eqc]
      exact ⟨hk _ _ _ (by omega) p, P (i + 1), fun ρ1 M1 p1 => ih (i + 1) (by omega) ρ1 M1 p1, hs i _ ρ M (List.getElem?_eq_getElem hlt) p⟩
  simpa using main ds.length 0 (by omega) ρ M h0
theorem forW_cons {keep : Ms → Prop} {D : Ends'} {d : Dv} {ds : List Dv} {ρ : Env'} {M : Ms} (hk : keep M) (h : g d ρ M fun ρ1 M1 => t { D with nx := wk (forW keep g t D ds), ct := wk (forW keep g t D ds), bk := D.nx } ρ1 M1) : forW keep g t D (d :: ds) ρ M := by rw [forW_eqc]; exact ⟨hk, _, fun _ _ z => z, h⟩
theorem forW_nil {keep : Ms → Prop} {D : Ends'} {ρ : Env'} {M : Ms} (hk : keep M) (h : D.nx ρ M) : forW keep g t D [] ρ M := by rw [forW_eqn]; exact ⟨hk, h⟩
end
end HC
set_option maxHeartbeats 4000000
namespace HC
open PySem L2
inductive Tg where
  | nm (i : Nat)
  | tp (ts : List Tg)
mutual
def Tg.g (K : PySem.W.Frag) : Tg → TG
  | .nm i => gName i
  | .tp ts => fun v σ H Q => gTup K ts.length (Tg.gs K ts) v σ H Q ∨ gLst K ts.length (Tg.gs K ts) v σ H Q
def Tg.gs (K : PySem.W.Frag) : List Tg → TGs
  | [] => gNil
  | t :: ts => gCons (Tg.g K t) (Tg.gs K ts)
end
mutual
def Tg.put : Tg → Dv → Env' → Ms → Option Env'
  | .nm i, d, ρ, _ => some (ρ.set i (some d))
  | .tp ts, d, ρ, M => match itemsA d M with
    | some ds => Tg.puts ts ds ρ M
    | none => none
def Tg.puts : List Tg → List Dv → Env' → Ms → Option Env'
  | [], [], ρ, _ => some ρ
  | t :: ts, d :: ds, ρ, M => (Tg.put t d ρ M).bind fun ρ1 => Tg.puts ts ds ρ1 M
  | _, _, _, _ => none
end
mutual
def Tg.slots : Tg → List Nat
  | .nm i => [i]
  | .tp ts => Tg.slotss ts
def Tg.slotss : List Tg → List Nat
  | [] => []
  | t :: ts => Tg.slots t ++ Tg.slotss ts
end
theorem wipe_set_not : ∀ {vs : List Nat} {σ : L2.St} {i : Nat} {x : Option V}, i ∉ vs → wipe (σ.set i x) vs = (wipe σ vs).set i x
  | [], _, _, _, _ => rfl
  | v :: vs, σ, i, x, h => by
    have h1 : i ≠ v := fun e => h (by simp [e])
    have h2 : i ∉ vs := fun e => h (by simp [e])
    show (wipe (σ.set i x) vs).set v none = ((wipe σ vs).set v none).set i x
    rw [wipe_set_not h2, List.set_comm _ _ h1]
theorem wipe_set : ∀ {vs : List Nat} {σ : L2.St} {i : Nat} {x : Option V}, i ∈ vs → wipe (σ.set i x) vs = wipe σ vs
  | v :: vs, σ, i, x, h => by
    show (wipe (σ.set i x) vs).set v none = (wipe σ vs).set v none
    by_cases h2 : i ∈ vs
    · rw [wipe_set h2]
    · have e : i = v := by
        rcases List.mem_cons.mp h with e | e
        · exact e
        · exact absurd e h2
      subst e
      rw [wipe_set_not h2, List.set_set]
theorem wipe_wipe {vs : List Nat} {σ : L2.St} : ∀ {ws : List Nat}, (∀ i ∈ ws, i ∈ vs) → wipe (wipe σ ws) vs = wipe σ vs
  | [], _ => rfl
  | w :: ws, h => by
    show wipe ((wipe σ ws).set w none) vs = wipe σ vs
    rw [wipe_set (h w (by simp)), wipe_wipe fun i hi => h i (by simp [hi])]
theorem puts_len {M : Ms} : ∀ {ts : List Tg} {ds : List Dv} {ρ ρ' : Env'}, Tg.puts ts ds ρ M = some ρ' → ds.length = ts.length
  | [], [], _, _, _ => rfl
  | [], d :: ds, _, _, h => by simp [Tg.puts] at h
  | t :: ts, [], _, _, h => by simp [Tg.puts] at h
  | t :: ts, d :: ds, ρ, ρ', h => by
    simp only [Tg.puts] at h
    cases e : Tg.put t d ρ M with
    | none => rw [e] at h; cases h
    | some ρ1 =>
      rw [e] at h
      simp only [Option.bind_some] at h
      simp [puts_len h]
section
variable {K : PySem.W.Frag} {M : Ms} {H : Hp} {vs : List Nat}
mutual
theorem Tg.ok : ∀ {t : Tg} {d : Dv} {v : V} {ρ ρ' : Env'} {σ : L2.St} {Q : L2.St → Hp → Prop}, Rep K H d v → RepE K H ρ σ → View K M H → Tg.put t d ρ M = some ρ' → (∀ i ∈ Tg.slots t, i ∈ vs) → (∀ σ', RepE K H ρ' σ' → wipe σ' vs = wipe σ vs → Q σ' H) → Tg.g K t v σ H Q
  | .nm i, d, v, ρ, ρ', σ, Q, rd, hr, hv, h, hs, k => by
    simp only [Tg.put, Option.some.injEq] at h
    subst h
    simp only [Tg.g, gName]
    exact k _ (hr.set i rd) (wipe_set (hs i (by simp [Tg.slots])))
  | .tp ts, d, v, ρ, ρ', σ, Q, rd, hr, hv, h, hs, k => by
    simp only [Tg.put] at h
    cases e : itemsA d M with
    | none => rw [e] at h; cases h
    | some ds =>
      rw [e] at h
      obtain ⟨a, xs, e1, s, z⟩ := itemsA_ok rd hv e
      have main := Tg.oks z hr hv h (fun i hi => hs i (by simpa [Tg.slots] using hi)) k
      simp only [Tg.g]
      rcases s with s | s
      · exact .inl ⟨a, xs, e1, s, by rw [← z.length]; exact main.1, main.2⟩
      · exact .inr ⟨a, xs, e1, s, by rw [← z.length]; exact main.1, main.2⟩
theorem Tg.oks : ∀ {ts : List Tg} {ds : List Dv} {xs : List V} {ρ ρ' : Env'} {σ : L2.St} {Q : L2.St → Hp → Prop}, Reps K H ds xs → RepE K H ρ σ → View K M H → Tg.puts ts ds ρ M = some ρ' → (∀ i ∈ Tg.slotss ts, i ∈ vs) → (∀ σ', RepE K H ρ' σ' → wipe σ' vs = wipe σ vs → Q σ' H) →
    ds.length = ts.length ∧ Tg.gs K ts xs σ H Q
  | [], [], xs, ρ, ρ', σ, Q, rd, hr, hv, h, hs, k => by
    simp only [Tg.puts, Option.some.injEq] at h
    subst h
    refine ⟨rfl, ?_⟩
    simp only [Tg.gs, gNil]
    exact ⟨rd.nil_inv, k _ hr rfl⟩
  | [], d :: ds, _, _, _, _, _, _, _, _, h, _, _ => by simp [Tg.puts] at h
  | t :: ts, [], _, _, _, _, _, _, _, _, h, _, _ => by simp [Tg.puts] at h
  | t :: ts, d :: ds, xs, ρ, ρ', σ, Q, rd, hr, hv, h, hs, k => by
    simp only [Tg.puts] at h
    cases e : Tg.put t d ρ M with
    | none => rw [e] at h; cases h
    | some ρ1 =>
      rw [e] at h
      simp only [Option.bind_some] at h
      obtain ⟨v, r, e1, r1, r2⟩ := rd.cons_inv
      have hs1 : ∀ i ∈ Tg.slots t, i ∈ vs := fun i hi => hs i (by simp [Tg.slotss, hi])
      have hs2 : ∀ i ∈ Tg.slotss ts, i ∈ vs := fun i hi => hs i (by simp [Tg.slotss, hi])
      have hl : ds.length = ts.length := puts_len h
      refine ⟨by simp [hl], ?_⟩
      simp only [Tg.gs, gCons]
      exact ⟨v, r, e1, Tg.ok r1 hr hv e hs1 fun σ1 hr1 w1 => (Tg.oks r2 hr1 hv h hs2 fun σ2 hr2 w2 => k σ2 hr2 (w2.trans w1)).2⟩
end
end
abbrev RTs := RT
def aYes : RT := fun _ M Q => Q true M
def ATs (X : Cx) (ifs : List Expr) (t : RT) : Prop := PTs X ifs (cT X.K t)
theorem pts_imp {X : Cx} {e : List Expr} {t t' : TT} (h : PTs X e t) (f : ∀ σ H Q, t' σ H Q → t σ H Q) : PTs X e t' := ⟨fun pins s σ H Q I q => h.run pins s σ H Q I (f _ _ _ q)⟩
theorem ats_nil {X : Cx} : ATs X [] aYes := pts_imp pts_nil fun σ H Q' ⟨ρ, M, Q, hr, hv, q, k⟩ => k _ _ _ (Tp.refl H) hv q
theorem ats_one {X : Cx} {c : Expr} {t : RT} (h : AT X c t) : ATs X [c] t := pts_one h
def lcT (tg : Tg) (own : List Nat) (tt : RT) (te : RE) (ρ : Env') (D : Addr) (d : Dv) (N : Ms → Prop) (M : Ms) : Prop :=
  ∃ ρ', Tg.put tg d (wipeA ρ own) M = some ρ' ∧ tt ρ' M fun b M2 => onIf b (te ρ' M2 fun y M3 => ∃ acc, M3 D = some (.lst acc) ∧ acc.length < sizeLine ∧ wkM N (mup M3 D (.lst (acc ++ [y])))) (wkM N M2)
def lcW0 (keep : Ms → Prop) (tg : Tg) (own : List Nat) (tt : RT) (te : RE) (ρ : Env') (D : Addr) (Q : Ms → Prop) : List Dv → Ms → Prop
  | [], M => keep M ∧ Q M
  | d :: ds, M => keep M ∧ ∃ N : Ms → Prop, (∀ M1, N M1 → lcW0 keep tg own tt te ρ D Q ds M1) ∧ lcT tg own tt te ρ D d N M
@[irreducible] def lcW (keep : Ms → Prop) (tg : Tg) (own : List Nat) (tt : RT) (te : RE) (ρ : Env') (D : Addr) (Q : Ms → Prop) (ds : List Dv) (M : Ms) : Prop := lcW0 keep tg own tt te ρ D Q ds M
theorem lcW_eqn {keep : Ms → Prop} {tg : Tg} {own : List Nat} {tt : RT} {te : RE} {ρ : Env'} {D : Addr} {Q : Ms → Prop} {M : Ms} : lcW keep tg own tt te ρ D Q [] M = (keep M ∧ Q M) := by unfold lcW; rfl
theorem lcW_eqc {keep : Ms → Prop} {tg : Tg} {own : List Nat} {tt : RT} {te : RE} {ρ : Env'} {D : Addr} {Q : Ms → Prop} {d : Dv} {ds : List Dv} {M : Ms} : lcW keep tg own tt te ρ D Q (d :: ds) M = (keep M ∧ ∃ N : Ms → Prop, (∀ M1, N M1 → lcW keep tg own tt te ρ D Q ds M1) ∧ lcT tg own tt te ρ D d N M) := by unfold lcW; rfl
def aLc (ai : RI) (tg : Tg) (own : List Nat) (tt : RT) (te : RE) : RE := fun ρ M Q => ai ρ M fun ds keep M1 => ∀ D, M1 D = none → lcW keep tg own tt te ρ D (Q (.ref D)) ds (mup M1 D (.lst []))
section
variable {X : Cx} {pos : Pos} {target iter elt : Expr} {ifs : List Expr} {ai : RI} {tt : RT} {te : RE}
theorem lc_imp {K : PySem.W.Frag} {tg : Tg} {own : List Nat} (hsl : ∀ i ∈ Tg.slots tg, i ∈ own) : ∀ σ H Q, cE K (aLc ai tg own tt te) σ H Q → tLc (cI K ai) (Tg.g K tg) (cT K tt) (cE K te) own σ H Q := fun σ H Q' h => by
  obtain ⟨ρ, M, Q, hr, hv, q, k⟩ := h
  refine ⟨ρ, M, _, hr, hv, q, fun J H1 ds keep M1 t1 v1 q1 iw D hD => ?_⟩
  have q2 := q1 D (v1.free hD)
  have tD : Tp K H1 (upd H1 D (.lst [])) := Tp.new hD
  refine ⟨fun i m H2 => m = ds.length - i ∧ i ≤ ds.length ∧ ∃ M2, Tp K H1 H2 ∧ View K M2 H2 ∧ lcW keep tg own tt te ρ D (Q (.ref D)) (ds.drop i) M2, ⟨ds.length, by simp, Nat.zero_le _, _, tD, v1.put (c := .lst []) (by rw [hD]; trivial) ⟨[], upd_same, Reps.nil⟩, by simpa using q2⟩, ?_⟩
  rintro i m H2 ⟨rfl, hi', M2, t2, v2, w2⟩
  by_cases hlt : i < ds.length
  · rw [drop_cons (List.getElem?_eq_getElem hlt), lcW_eqc] at w2
    obtain ⟨kp, Nx, hN, w2⟩ := w2
    refine .inr ⟨iw.go i H2 M2 hlt t2 v2 kp, fun H3 => ∃ M3, Tp K H1 H3 ∧ View K M3 H3 ∧ Nx M3, ?_, ?_⟩
    · rintro H3 ⟨M3, t3, v3, n3⟩
      exact ⟨ds.length - (i + 1), by omega, rfl, hlt, M3, t3, v3, hN _ n3⟩
    · intro x H3 hy
      obtain ⟨d, hd, t3, rd, v3, _⟩ := iw.yld i H2 M2 x H3 hlt t2 v2 kp hy
      have e : d = ds[i] := by rw [List.getElem?_eq_getElem hlt] at hd; exact (Option.some.inj hd).symm
      subst e
      obtain ⟨ρ', hput, w3⟩ := w2
      have tt3 : Tp K H1 H3 := t2.trans t3
      refine Tg.ok rd ((hr.mono (t1.trans tt3)).wipe own) v3 hput hsl fun σ3 hr3 hw => ⟨hw.trans (wipe_wipe fun _ z => z), ?_⟩
      refine seqT hr3 v3 w3 fun b H4 M4 t4 v4 w4 => ?_
      cases b with
      | false =>
        obtain ⟨M6, sm, w4⟩ := w4
        exact ⟨M6, tt3.trans t4, v4.sub sm, w4⟩
      | true =>
        refine seqE (hr3.mono t4) v4 w4 fun y H5 dy M5 t5 r5 v5 w5 => ?_
        obtain ⟨acc, ha, hz, M6, sm, n5⟩ := w5
        obtain ⟨vs, e5, z5⟩ := v5 D _ ha
        refine ⟨vs, e5, by rw [← z5.length]; exact hz, M6, ((tt3.trans t4).trans t5).trans (Tp.put (v5.soft ha)), View.sub (M' := mup M5 D (.lst (acc ++ [dy]))) (v5.put (c := .lst (acc ++ [dy])) (v5.soft ha) ⟨vs ++ [y], upd_same, ?_⟩) sm, n5⟩
        exact ((z5.append (Reps.cons r5 Reps.nil)).mono (Tp.put (v5.soft ha)))
  · have e : i = ds.length := by omega
    subst e
    rw [List.drop_length, lcW_eqn] at w2
    exact .inl ⟨iw.stop H2 M2 t2 v2 w2.1, k _ _ _ _ (t1.trans t2) (by simp only [Rep]) v2 w2.2⟩
theorem ae_lc {own : List (Str × Nat)} {tg : Tg} {scope : Scope} (hsl : ∀ i ∈ Tg.slots tg, i ∈ own.map (·.2)) (hc : X.calm = true) (hN : X.N.Nodup) (hi : AI X target iter ai) (ok : BlkOk X.N X.env.scope scope own)
    (hg : ∀ (s : Shared) (H : Hp) (C : Addr) (cl : List (Str × Addr)) (fp : List Addr), PG (X.blk s H scope (compEnvC scope cl C X.env) fp) target (Tg.g X.K tg)) (ht : ∀ (s : Shared) (H : Hp) (C : Addr) (cl : List (Str × Addr)) (fp : List Addr), ATs (X.blk s H scope (compEnvC scope cl C X.env) fp) ifs tt)
    (he : ∀ (s : Shared) (H : Hp) (C : Addr) (cl : List (Str × Addr)) (fp : List Addr), AE (X.blk s H scope (compEnvC scope cl C X.env) fp) elt te) (hs : ∀ x, foldedSetIterable iter X.env x = pure x := by intro _; rfl) :
    AE X (.ListComp elt [⟨target, iter, ifs, 0⟩] scope pos) (aLc ai tg (own.map (·.2)) tt te) := pe_imp (pe_lc (tt := cT X.K tt) (te := cE X.K te) hc hN hi ok hg ht he hs) (lc_imp hsl)
theorem as_setLc (i : Nat) {y : Str} {py spos : Pos} {own : List (Str × Nat)} {tg : Tg} {scope : Scope} (hsl : ∀ i ∈ Tg.slots tg, i ∈ own.map (·.2)) (hc : X.calm = true) (hN : X.N.Nodup) (hy : X.N[i]? = some y) (hyl : X.env.scope.names.lookup y = some .local)
    (hsw : swapsWith (.ListComp elt [⟨target, iter, ifs, 0⟩] scope pos) (some (.Name y py)) spos.line X.env = pure true) (hi : AI X target iter ai) (ok : BlkOk X.N X.env.scope scope own)
    (hg : ∀ (s : Shared) (H : Hp) (C : Addr) (cl : List (Str × Addr)) (fp : List Addr), PG (X.blk s H scope (compEnvC scope cl C X.env) fp) target (Tg.g X.K tg)) (ht : ∀ (s : Shared) (H : Hp) (C : Addr) (cl : List (Str × Addr)) (fp : List Addr), ATs (X.blk s H scope (compEnvC scope cl C X.env) fp) ifs tt)
    (he : ∀ (s : Shared) (H : Hp) (C : Addr) (cl : List (Str × Addr)) (fp : List Addr), AE (X.blk s H scope (compEnvC scope cl C X.env) fp) elt te) (hs : ∀ x, foldedSetIterable iter X.env x = pure x := by intro _; rfl) :
    AS X (.Assign [.Name y py] (.ListComp elt [⟨target, iter, ifs, 0⟩] scope pos) spos) (aAsg (aLc ai tg (own.map (·.2)) tt te) (agName i)) := ps_imp (ps_setLc (tt := cT X.K tt) (te := cE X.K te) hc hN hy hyl hsw hi ok hg ht he hs) (asg_name_imp (lc_imp hsl))
end
end HC
set_option maxHeartbeats 4000000
namespace HC
open PySem L2 PyProof.Rows
section
variable {X : Cx} {a b c e : Expr} {ta tb tc te : RE} {pos : Pos} {K : PySem.W.Frag}
def isNon : Dv → Bool
  | .non => true
  | _ => false
theorem isNon_ok {H : Hp} {d : Dv} {v : V} (r : Rep K H d v) : decide (v = .non) = isNon d := by
  cases d with
  | non => rw [rep_non_inv r]; rfl
  | bl _ => rw [rep_bl_inv r]; rfl
  | int _ => rw [rep_int_inv r]; rfl
  | str _ => rw [rep_str_inv r]; rfl
  | ref _ => rw [rep_ref_inv r]; rfl
  | ty _ => rw [rep_ty_inv r]; rfl
  | tup _ => obtain ⟨a, vs, e, _⟩ := rep_tup_inv r; rw [e]; rfl
  | rol _ => obtain ⟨a, vs, e, _⟩ := rep_rol_inv r; rw [e]; rfl
  | tuc _ => obtain ⟨a, vs, e, _⟩ := rep_tuc_inv r; rw [e]; rfl
  | exc _ _ => obtain ⟨a, e, _⟩ := rep_exc_inv r; rw [e]; rfl
def aIsB (x y : Dv) (Q : Bool → Prop) : Prop := match y with
  | .non => Q (isNon x)
  | .bl b => match x with | .bl a => Q (a == b) | _ => False
  | _ => False
def aIs : AR2 := fun x y M Q => aIsB x y fun b => Q (.bl b) M
def aIsNot : AR2 := fun x y M Q => aIsB x y fun b => Q (.bl (!b)) M
def rIsH : R2 := fun x y H Q => (y = .non ∧ Q (.bl (decide (x = .non))) H) ∨ (∃ a b, x = .bl a ∧ y = .bl b ∧ Q (.bl (decide (a = b))) H)
def rIsNotH : R2 := fun x y H Q => (y = .non ∧ Q (.bl (!decide (x = .non))) H) ∨ (∃ a b, x = .bl a ∧ y = .bl b ∧ Q (.bl (!decide (a = b))) H)
theorem ab_is : Ab2 K rIsH aIs := by
  intro H M x y dx dy Q Q' rx ry hv q k
  cases dy <;> first | exact q.elim | skip
  case non => exact .inl ⟨rep_non_inv ry, by rw [isNon_ok rx]; exact k _ _ _ _ (Tp.refl H) rep_bl hv q⟩
  case bl b =>
    cases dx <;> first | exact q.elim | skip
    case bl a =>
      refine .inr ⟨a, b, rep_bl_inv rx, rep_bl_inv ry, ?_⟩
      have e : decide (a = b) = (a == b) := by cases a <;> cases b <;> rfl
      rw [e]
      exact k _ _ _ _ (Tp.refl H) rep_bl hv q
theorem ab_isnot : Ab2 K rIsNotH aIsNot := by
  intro H M x y dx dy Q Q' rx ry hv q k
  cases dy <;> first | exact q.elim | skip
  case non => exact .inl ⟨rep_non_inv ry, by rw [isNon_ok rx]; exact k _ _ _ _ (Tp.refl H) rep_bl hv q⟩
  case bl b =>
    cases dx <;> first | exact q.elim | skip
    case bl a =>
      refine .inr ⟨a, b, rep_bl_inv rx, rep_bl_inv ry, ?_⟩
      have e : decide (a = b) = (a == b) := by cases a <;> cases b <;> rfl
      rw [e]
      exact k _ _ _ _ (Tp.refl H) rep_bl hv q
theorem op_isH : OpR X (compareOp .Is) rIsH := opr_or op_isN op_is_bl
theorem op_isnotH : OpR X (compareOp .IsNot) rIsNotH := opr_or op_notN op_isnot_bl
theorem ae_is (ha : AE X a ta) (hb : AE X b tb) : AE X (.Compare a [.Is] [b] pos) (aOp aIs ta tb) := ae_cmp op_isH ab_is ha hb (nomark _)
theorem ae_isnot (ha : AE X a ta) (hb : AE X b tb) : AE X (.Compare a [.IsNot] [b] pos) (aOp aIsNot ta tb) := ae_cmp op_isnotH ab_isnot ha hb (nomark _)
theorem at_is (ha : AE X a ta) (hb : AE X b tb) : AT X (.Compare a [.Is] [b] pos) (aB (aOp aIs ta tb)) := at_cmp op_isH ab_is ha hb (nomark _)
theorem at_isnot (ha : AE X a ta) (hb : AE X b tb) : AT X (.Compare a [.IsNot] [b] pos) (aB (aOp aIsNot ta tb)) := at_cmp op_isnotH ab_isnot ha hb (nomark _)
def aChain (r r' : AR2) (ta tb tc : RE) : RE := fun ρ M Q => ta ρ M fun x M1 => tb ρ M1 fun y M2 => r x y M2 fun z M3 => onB z fun k => onIf k (tc ρ M3 fun w M4 => r' y w M4 Q) (Q (.bl false) M3)
theorem chain_imp {r r' : R2} {ar ar' : AR2} (h : Ab2 K r ar) (h' : Ab2 K r' ar') : ∀ σ H Q, cE K (aChain ar ar' ta tb tc) σ H Q → tChain r r' (cE K ta) (cE K tb) (cE K tc) σ H Q := fun σ H Q' ⟨ρ, M, Q, hr, hv, q, k⟩ =>
  seqE hr hv q fun v H1 d M1 t1 r1 v1 q1 => seqE (hr.mono t1) v1 q1 fun v2 H2 d2 M2 t2 r2 v2' q2 => h H2 M2 v v2 d d2 _ _ (r1.mono t2) r2 v2' q2 fun z H3 dz M3 t3 r3 v3 q3 => by
    obtain ⟨kk, e, q3⟩ := onB_ex q3
    subst e
    refine ⟨kk, rep_bl_inv r3, ?_⟩
    have t23 := t1.trans (t2.trans t3)
    cases kk with
    | false => exact k _ _ _ _ t23 rep_bl v3 q3
    | true => exact seqE (hr.mono t23) v3 q3 fun w H4 dw M4 t4 r4 v4 q4 => h' H4 M4 _ _ _ _ Q Q' (r2.mono (t3.trans t4)) r4 v4 q4 (k.up (t23.trans t4))
theorem ae_chain {op op' : CmpOp} {r r' : R2} {ar ar' : AR2} (ho : OpR X (compareOp op) r) (ho' : OpR X (compareOp op') r') (h : Ab2 X.K r ar) (h' : Ab2 X.K r' ar') (ha : AE X a ta) (hb : AE X b tb) (hc : AE X c tc)
    (p : ∀ {r r' : R2} {ta tb tc : TE}, OpR X (compareOp op) r → OpR X (compareOp op') r' → PE X a ta → PE X b tb → PE X c tc → PE X (.Compare a [op, op'] [b, c] pos) (tChain r r' ta tb tc)) : AE X (.Compare a [op, op'] [b, c] pos) (aChain ar ar' ta tb tc) :=
  pe_imp (p ho ho' ha hb hc) (chain_imp h h')
def keyD : Dv → Option Key
  | .int i => some (.inl i)
  | .str x => some (.inr x)
  | _ => none
def keysD : List Dv → Option (List Key)
  | [] => some []
  | d :: ds => (keyD d).bind fun k => (keysD ds).map fun r => k :: r
def getK {κ : Type} [DecidableEq κ] (kvs : List (κ × Dv)) (k : κ) : Option Dv := (kvs.find? fun kv => decide (kv.1 = k)).map (·.2)
def dgetA (M : Ms) (a : Addr) (y : Dv) : Option (Option Dv) := match M a with
  | some (.dic kvs) => (keyD y).map fun k => getK kvs k
  | some (.dit kvs) => match y with | .tup ds => (keysD ds).map fun k => getK kvs k | _ => none
  | _ => none
theorem keyD_ok {H : Hp} {d : Dv} {v : V} {k : Key} (r : Rep K H d v) (h : keyD d = some k) : v = kV k := by
  cases d <;> first | cases h | skip
  case int i => exact rep_int_inv r
  case str x => exact rep_str_inv r
theorem keysD_ok {H : Hp} : ∀ {ds : List Dv} {vs : List V} {ks : List Key}, Reps K H ds vs → keysD ds = some ks → vs = ks.map kV
  | [], _, _, r, h => by cases h; rw [r.nil_inv]; rfl
  | d :: ds, _, ks, r, h => by
    obtain ⟨v, w, rfl, r1, r2⟩ := r.cons_inv
    simp only [keysD] at h
    cases e : keyD d with
    | none => rw [e] at h; cases h
    | some k =>
      rw [e] at h
      cases e2 : keysD ds with
      | none => rw [e2] at h; cases h
      | some r' =>
        rw [e2] at h
        simp only [Option.bind_some, Option.map_some, Option.some.injEq] at h
        subst h
        rw [keyD_ok r1 e, keysD_ok r2 e2]; rfl
theorem getK_ok {κ : Type} [DecidableEq κ] {H : Hp} : ∀ {kds : List (κ × Dv)} {kvs : List (κ × V)} {k : κ}, Paired (fun (p : κ × Dv) (q : κ × V) => p.1 = q.1 ∧ Rep K H p.2 q.2) kds kvs →
    (getK kds k = none ∧ valV kvs k = none) ∨ ∃ d v, getK kds k = some d ∧ valV kvs k = some v ∧ Rep K H d v
  | _, _, _, .nil => .inl ⟨rfl, rfl⟩
  | (k1, d) :: kds, (k2, v) :: kvs, k, .cons ⟨e, r⟩ t => by
    have e' : k1 = k2 := e
    subst e'
    by_cases h : k1 = k
    · refine .inr ⟨d, v, ?_, ?_, r⟩
      · simp [getK, h]
      · simp [valV, h]
    · rcases getK_ok (k := k) t with ⟨h1, h2⟩ | ⟨d', v', h1, h2, h3⟩
      · refine .inl ⟨?_, ?_⟩
        · simp only [getK, List.find?_cons, h, decide_false]; exact h1
        · simp only [valV, List.find?_cons, h, decide_false]; exact h2
      · refine .inr ⟨d', v', ?_, ?_, h3⟩
        · simp only [getK, List.find?_cons, h, decide_false]; exact h1
        · simp only [valV, List.find?_cons, h, decide_false]; exact h2
theorem ix_dict (hu : X.A.units + 1 < cLine) : IxR X (fun x y H Q => ∃ a v, x = .ref a ∧ DGet H a y (some v) ∧ Q v H) := by
  intro value slice pins s σ H x y v u Q I rx ry h hs
  obtain ⟨a, w, rfl, g, q⟩ := h
  obtain rfl : v = Value.ref a := rx
  have hT := dict_typeIs I g
  unfold subscriptTail
  refine wpAny_bind ?_
  rw [getitemInPython_of_ne hT.not_modules]
  refine wpAny_bind (wpAny_specialOf hT PySem.F.slot_dict_getitem.lookup ?_)
  have fin : wpAny (model X.prog X.w) X.A (subscripted slice false (.ref a) u) (fun r s₃ => wpAny (model X.prog X.w) X.A (letTemporaryGo value (.ref a) r >>= fun _ => pure r) (EP X pins σ Q) X.xe s₃) X.xe s := by
    rw [hs]
    exact wpAny_operating (wpAny_mono (d_getItem hu I g ry fun w' s3 I3 rw' => (⟨w, H, I3, rw', q⟩ : EP X pins σ Q w' s3)) (fun r s₃ h₃ => wpAny_bind (wpAny_letTemporaryGo (wpAny_pure h₃))) fun _ _ x => x)
  first
    | exact wpAny_pure (wpAny_bind fin)
    | exact wpAny_bind (wpAny_pure (wpAny_bind fin))
    | exact wpAny_bind fin
def rIxH (K : PySem.W.Frag) : R2 := fun x y H Q => rIx K x y H Q ∨ (∃ a v, x = .ref a ∧ DGet H a y (some v) ∧ Q v H)
theorem ix_H (hu : X.A.units + 1 < cLine) : IxR X (rIxH X.K) := IxR.or ix_seq (ix_dict hu)
def aIx : AR2 := fun x y M Q => match x with
  | .tup xs => onI y fun i => onS (atI xs i) fun d => Q d M
  | .rol xs => onI y fun i => onS (atI xs i) fun d => Q d M
  | .str z => onI y fun i => z.length ≤ sizeLine ∧ onS (atI z.cps.toList i) fun c => Q (.str ⟨#[c]⟩) M
  | .ref a => match M a with
    | some (.lst xs) => onI y fun i => onS (atI xs i) fun d => Q d M
    | some (.dic kvs) => onS (keyD y) fun k => onS (getK kvs k) fun d => Q d M
    | _ => False
  | _ => False
theorem atI_rep {H : Hp} {ds : List Dv} {vs : List V} {i : Int} {d : Dv} (r : Reps K H ds vs) (h : atI ds i = some d) : ∃ v, atI vs i = some v ∧ Rep K H d v := by
  unfold atI at h ⊢
  rw [r.length] at h
  cases e : ixN vs.length i with
  | none => rw [e] at h; cases h
  | some j =>
    rw [e] at h
    simp only [Option.bind_some] at h ⊢
    exact r.get h
theorem ab_ix : Ab2 K (rIxH K) aIx := by
  intro H M x y dx dy Q Q' rx ry hv q k
  cases dx <;> first | exact q.elim | skip
  case tup xs =>
    obtain ⟨i, e, q4⟩ := onI_ex q
    obtain ⟨d, h, q5⟩ := onS_ex q4
    subst e
    obtain ⟨a, vs, e1, s, r⟩ := rep_tup_inv rx
    obtain ⟨v, h1, h2⟩ := atI_rep r h
    exact .inl (.inr (.inl ⟨a, vs, i, v, e1, rep_int_inv ry, s, h1, k _ _ _ _ (Tp.refl H) h2 hv q5⟩))
  case rol xs =>
    obtain ⟨i, e, q4⟩ := onI_ex q
    obtain ⟨d, h, q5⟩ := onS_ex q4
    subst e
    obtain ⟨a, vs, e1, s, r⟩ := rep_rol_inv rx
    obtain ⟨v, h1, h2⟩ := atI_rep r h
    exact .inl (.inl ⟨a, vs, i, v, e1, rep_int_inv ry, s.l, h1, k _ _ _ _ (Tp.refl H) h2 hv q5⟩)
  case str z =>
    obtain ⟨i, e, hl, q4⟩ := onI_ex q
    obtain ⟨c, h, q5⟩ := onS_ex q4
    subst e
    exact .inl (.inr (.inr ⟨z, i, c, rep_str_inv rx, rep_int_inv ry, hl, h, k _ _ _ _ (Tp.refl H) rep_str hv q5⟩))
  case ref a =>
    simp only [aIx] at q
    split at q
    · next xs e =>
      obtain ⟨i, e1, q4⟩ := onI_ex q
      obtain ⟨d, h, q5⟩ := onS_ex q4
      subst e1
      obtain ⟨vs, e2, r⟩ := view_lst hv e
      obtain ⟨v, h1, h2⟩ := atI_rep r h
      exact .inl (.inl ⟨a, vs, i, v, rep_ref_inv rx, rep_int_inv ry, .inl (.inl e2), h1, k _ _ _ _ (Tp.refl H) h2 hv q5⟩)
    · next kvs e =>
      obtain ⟨kk, e1, q⟩ := onS_ex q
      obtain ⟨d, h, q⟩ := onS_ex q
      obtain ⟨vs, e2, r⟩ := (show ∃ kvs', H a = some (.dK kvs') ∧ Paired (fun (p : Key × Dv) (q : Key × V) => p.1 = q.1 ∧ Rep K H p.2 q.2) kvs kvs' from hv a _ e)
      rcases getK_ok (k := kk) r with ⟨h1, _⟩ | ⟨d', v, h1, h2, h3⟩
      · rw [h1] at h; cases h
      · rw [h1] at h; cases h
        exact .inr ⟨a, v, rep_ref_inv rx, .inl ⟨vs, kk, .inl e2, keyD_ok ry e1, h2.symm⟩, k _ _ _ _ (Tp.refl H) h3 hv q⟩
    · exact q.elim
theorem ae_ix (hu : X.A.units + 1 < cLine) (ha : AE X a ta) (hb : AE X b tb) (hs : PlainIx b := by exact fun _ _ => rfl) : AE X (.Subscript a b pos) (aOp aIx ta tb) := pe_imp (pe_ix (ix_H hu) ha hb hs) (aop_imp ab_ix)
abbrev RO := Env' → Ms → (Option Int → Ms → Prop) → Prop
def cO (K : PySem.W.Frag) (t : RO) : TO := fun σ H Q' => ∃ ρ M Q, RepE K H ρ σ ∧ View K M H ∧ t ρ M Q ∧ ∀ o H' M', Tp K H H' → View K M' H' → Q o M' → Q' o H'
def AO (X : Cx) (e : Option Expr) (t : RO) : Prop := PO X e (cO X.K t)
theorem po_imp {e : Option Expr} {t t' : TO} (h : PO X e t) (f : ∀ σ H Q, t' σ H Q → t σ H Q) : PO X e t' := ⟨fun pins s σ H Q I q => h.run pins s σ H Q I (f _ _ _ q)⟩
def aoN : RO := fun _ M Q => Q none M
def aoS (t : RE) : RO := fun ρ M Q => t ρ M fun d M1 => onI d fun i => Q (some i) M1
theorem ao_none : AO X none aoN := po_imp po_none fun σ H Q' ⟨ρ, M, Q, hr, hv, q, k⟩ => k _ _ _ (Tp.refl H) hv q
theorem ao_some (h : AE X e te) : AO X (some e) (aoS te) := po_imp (po_some h) fun σ H Q' ⟨ρ, M, Q, hr, hv, q, k⟩ => seqE hr hv q fun v H1 d M1 t1 r1 v1 q1 => by
  obtain ⟨i, e, q1⟩ := onI_ex q1
  subst e
  exact ⟨i, rep_int_inv r1, k _ _ _ t1 v1 q1⟩
def cutA (xs : List Dv) (lo hi : Option Int) : List Dv := (xs.drop (HT.sIx xs.length 0 lo)).take (HT.sIx xs.length xs.length hi - HT.sIx xs.length 0 lo)
def lstC : Option Cell → Option (List Dv)
  | some (.lst xs) => some xs
  | _ => none
theorem lstC_eq {o : Option Cell} {xs : List Dv} (h : lstC o = some xs) : o = some (.lst xs) := by
  cases o with
  | none => cases h
  | some c => cases c <;> first | (cases h; done) | (cases h; rfl)
abbrev ASl := Dv → Option Int → Option Int → Ms → DK → Prop
def aSl (te : RE) (tl th : RO) : RE := fun ρ M Q => te ρ M fun x M1 => tl ρ M1 fun lo M2 => th ρ M2 fun hi M3 => match x with
  | .tup xs => Q (.tup (cutA xs lo hi)) M3
  | .str z => z.length ≤ sizeLine ∧ Q (.str (cutS z lo hi)) M3
  | .rol xs => ∀ p, M3 p = none → Q (.ref p) (mup M3 p (.lst (cutA xs lo hi)))
  | .ref a => onS (lstC (M3 a)) fun xs => ∀ p, M3 p = none → Q (.ref p) (mup M3 p (.lst (cutA xs lo hi)))
  | _ => False
theorem cutA_rep {H : Hp} {ds : List Dv} {vs : List V} (r : Reps K H ds vs) (lo hi : Option Int) : Reps K H (cutA ds lo hi) (cutV vs lo hi) := by
  unfold cutA cutV
  rw [r.length]
  exact (r.drop _).take _
theorem ae_slice {tl th : RO} {lo hi : Option Expr} {p2 : Pos} (he : AE X e te) (hl : AO X lo tl) (hh : AO X hi th) : AE X (.Subscript e (.Slice lo hi none p2) pos) (aSl te tl th) :=
  pe_imp (pe_slice (SlR.or sl_list (SlR.or sl_tupA sl_str)) he hl hh) fun σ H Q' h => by
    obtain ⟨ρ, M, Q, hr, hv, q, k⟩ := h
    refine seqE hr hv q fun v H1 d M1 t1 r1 v1 q1 => ?_
    refine ⟨ρ, M1, _, hr.mono t1, v1, q1, fun lo H2 M2 t2 v2 q2 => ⟨ρ, M2, _, hr.mono (t1.trans t2), v2, q2, fun hi H3 M3 t3 v3 q3 => ?_⟩⟩
    have rd := r1.mono (t2.trans t3)
    have k3 := k.up (t1.trans (t2.trans t3))
    cases d <;> first | exact q3.elim | skip
    case tup xs =>
      obtain ⟨a, vs, e, s, r⟩ := rep_tup_inv rd
      refine .inr (.inl ⟨a, vs, e, s, fun hw => k3 _ _ _ _ (Tp.refl H3) (rep_tup s ?_) v3 q3, fun _ => end_tup (cutA_rep r lo hi) v3 q3 k3⟩)
      have l := r.length
      unfold cutA
      rw [l, hw.1, hw.2]
      simpa [← l] using r
    case str z => exact .inr (.inr ⟨z, rep_str_inv rd, q3.1, k3 _ _ _ _ (Tp.refl H3) rep_str v3 q3.2⟩)
    case rol xs =>
      obtain ⟨a, vs, e, s, r⟩ := rep_rol_inv rd
      exact .inl ⟨a, vs, e, s.l, end_lst (cutA_rep r lo hi) v3 q3 k3⟩
    case ref a =>
      obtain ⟨xs, h1, q4⟩ := onS_ex q3
      replace h1 := lstC_eq h1
      obtain ⟨vs, e, r⟩ := view_lst v3 h1
      exact .inl ⟨a, vs, rep_ref_inv rd, .inl (.inl e), end_lst (cutA_rep r lo hi) v3 q4 k3⟩
abbrev ARC := List Dv → Ms → DK → Prop
def AbC (K : PySem.W.Frag) (r : List V → Hp → VK → Prop) (ar : ARC) : Prop := ∀ H M vs ds Q Q', Reps K H ds vs → View K M H → ar ds M Q → LkV K H Q Q' → r vs H Q'
def aFn (ar : ARC) (t : RA) : RE := fun ρ M Q => t ρ M fun ds M1 => ar ds M1 Q
variable {x : Str} {bid T : String} {r : List V → Hp → VK → Prop} {ar : ARC} {p : Pos} {es : List Expr} {t : RA}
theorem afn_imp (h : AbC K r ar) : ∀ σ H Q, cE K (aFn ar t) σ H Q → tCB r (cA K t) σ H Q := fun σ H Q' ⟨ρ, M, Q, hr, hv, q, k⟩ =>
  seqA hr hv q fun vs H1 ds M1 t1 r1 v1 q1 => h H1 M1 vs ds Q Q' r1 v1 q1 (k.up t1)
theorem ae_callB (hc : CallR X (.builtin bid) r) (h : AbC X.K r ar) (ha : AA X (e :: es) t) (hm : X.mg x = none) (hv : bootBuiltins x = some (.builtin bid)) (hg : Gl X x := by rfl) (hn : x ≠ "__name__" := by decide) (hdb : (x == ("__debug__" : Str)) = false := by decide)
    (he : starEach (e :: es) X.env = (false, eval e X.env) :: starEach es X.env := by rfl) (hpl : (backTo pos (starEach es X.env)).any (·.1) = false := by rfl) : AE X (.Call (.Name x p) (e :: es) [] pos) (aFn ar t) := pe_imp (pe_callB hc hg hm hv ha hn hdb he hpl) (afn_imp h)
theorem ae_callTy (hc : CallR X (.type T) r) (h : AbC X.K r ar) (ha : AA X (e :: es) t) (hm : X.mg x = none) (hv : bootBuiltins x = some (.type T)) (hg : Gl X x := by rfl) (hn : x ≠ "__name__" := by decide) (hdb : (x == ("__debug__" : Str)) = false := by decide)
    (he : starEach (e :: es) X.env = (false, eval e X.env) :: starEach es X.env := by rfl) (hpl : (backTo pos (starEach es X.env)).any (·.1) = false := by rfl) : AE X (.Call (.Name x p) (e :: es) [] pos) (aFn ar t) := pe_imp (pe_callTy hc hg hm hv ha hn hdb he hpl) (afn_imp h)
theorem callr_or {f : Value} {r r' : List V → Hp → VK → Prop} (h : CallR X f r) (h' : CallR X f r') : CallR X f (fun xs H Q => r xs H Q ∨ r' xs H Q) := CallR.or h h'
theorem reps1 {H : Hp} {d : Dv} {vs : List V} (h : Reps K H [d] vs) : ∃ v, vs = [v] ∧ Rep K H d v := by
  obtain ⟨v, r, e, h1, h2⟩ := h.cons_inv
  rw [h2.nil_inv] at e
  exact ⟨v, e, h1⟩
theorem reps2 {H : Hp} {d d' : Dv} {vs : List V} (h : Reps K H [d, d'] vs) : ∃ v v', vs = [v, v'] ∧ Rep K H d v ∧ Rep K H d' v' := by
  obtain ⟨v, r, e, h1, h2⟩ := h.cons_inv
  obtain ⟨v', e', h3⟩ := reps1 h2
  rw [e'] at e
  exact ⟨v, v', e, h1, h3⟩
def lenA (d : Dv) (M : Ms) : Option Nat := match d with
  | .str z => some z.length
  | d => (itemsA d M).map List.length
def acLen : ARC := fun ds M Q => match ds with
  | [d] => onS (lenA d M) fun n => (match d with | .str z => z.length ≤ sizeLine | _ => True) ∧ Q (.int (n : Int)) M
  | _ => False
theorem abc_len : AbC K (fun xs H Q => ∃ x n, xs = [x] ∧ LenV K x H n ∧ Q (.int n) H) acLen := by
  intro H M vs ds Q Q' r hv q k
  match ds, q with
  | [d], q =>
    obtain ⟨n, h, hz, q⟩ := onS_ex q
    obtain ⟨v, e, rd⟩ := reps1 r
    refine ⟨v, n, e, ?_, k _ _ _ _ (Tp.refl H) rep_int hv q⟩
    cases d with
    | str z =>
      rw [rep_str_inv rd]
      cases h
      exact ⟨hz, rfl⟩
    | tup xs =>
      obtain ⟨a, ws, e1, s, z⟩ := rep_tup_inv rd
      rw [e1]
      cases h
      exact .inr ⟨ws, s, z.length⟩
    | exc _ _ => cases h
    | tuc xs =>
      obtain ⟨a, ws, e1, s, z⟩ := rep_tuc_inv rd
      rw [e1]
      cases h
      exact .inr ⟨ws, s.t, z.length⟩
    | rol xs =>
      obtain ⟨a, ws, e1, s, z⟩ := rep_rol_inv rd
      rw [e1]
      cases h
      exact .inl ⟨ws, s.l, z.length⟩
    | ref a =>
      rw [rep_ref_inv rd]
      simp only [lenA, itemsA] at h
      cases e1 : M a with
      | none => rw [e1] at h; cases h
      | some c =>
        rw [e1] at h
        cases c with
        | lst xs =>
          obtain ⟨ws, e2, z⟩ := view_lst hv e1
          cases h
          exact .inl ⟨ws, .inl (.inl e2), z.length⟩
        | dic _ => cases h
        | dit _ => cases h
        | fdc _ => cases h
        | obj _ _ => cases h
        | tab _ => cases h
        | cod _ => cases h
    | non => cases h
    | bl _ => cases h
    | int _ => cases h
    | ty _ => cases h
def acAbs : ARC := fun ds M Q => match ds with | [.int i] => Q (.int (if i < 0 then -i else i)) M | _ => False
theorem abc_abs : AbC K (fun xs H Q => ∃ i, xs = [.int i] ∧ Q (.int (if i < 0 then -i else i)) H) acAbs := by
  intro H M vs ds Q Q' r hv q k
  match ds, q with
  | [.int i], q =>
    obtain ⟨v, e, rd⟩ := reps1 r
    exact ⟨i, by rw [e, rep_int_inv rd], k _ _ _ _ (Tp.refl H) rep_int hv q⟩
def acInt : ARC := fun ds M Q => match ds with | [.int i] => Q (.int i) M | [.bl b] => Q (.int (if b then 1 else 0)) M | _ => False
theorem abc_int : AbC K (fun xs H Q => (∃ i, xs = [.int i] ∧ Q (.int i) H) ∨ ∃ k, xs = [.bl k] ∧ Q (.int (if k then 1 else 0)) H) acInt := by
  intro H M vs ds Q Q' r hv q k
  match ds, q with
  | [.int i], q =>
    obtain ⟨v, e, rd⟩ := reps1 r
    exact .inl ⟨i, by rw [e, rep_int_inv rd], k _ _ _ _ (Tp.refl H) rep_int hv q⟩
  | [.bl i], q =>
    obtain ⟨v, e, rd⟩ := reps1 r
    exact .inr ⟨i, by rw [e, rep_bl_inv rd], k _ _ _ _ (Tp.refl H) rep_int hv q⟩
def lstA (d : Dv) (M : Ms) : Option (List Dv) := match d with
  | .rol xs => some xs
  | .ref a => match M a with | some (.lst xs) => some xs | _ => none
  | _ => none
theorem lstA_ok {M : Ms} {H : Hp} {d : Dv} {v : V} {ds : List Dv} (r : Rep K H d v) (hv : View K M H) (h : lstA d M = some ds) : ∃ a vs, v = .ref a ∧ SqL K H a vs ∧ Reps K H ds vs := by
  cases d with
  | rol es =>
    cases h
    obtain ⟨a, vs, e, s, z⟩ := rep_rol_inv r
    exact ⟨a, vs, e, s.l, z⟩
  | ref a =>
    simp only [lstA] at h
    cases q : M a with
    | none => rw [q] at h; cases h
    | some c =>
      rw [q] at h
      cases c with
      | dic _ => cases h
      | dit _ => cases h
      | fdc _ => cases h
      | obj _ _ => cases h
      | tab _ => cases h
      | cod _ => cases h
      | lst es =>
        cases h
        obtain ⟨vs, h1, h2⟩ := view_lst hv q
        exact ⟨a, vs, rep_ref_inv r, .inl (.inl h1), h2⟩
  | tup _ => cases h
  | tuc _ => cases h
  | exc _ _ => cases h
  | non => cases h
  | bl _ => cases h
  | int _ => cases h
  | str _ => cases h
  | ty _ => cases h
def acSum : ARC := fun ds M Q => match ds with | [d] => ∃ ns : List Int, lstA d M = some (ns.map Dv.int) ∧ Q (.int ns.sum) M | _ => False
theorem abc_sum : AbC K (rSum K) acSum := by
  intro H M vs ds Q Q' r hv q k
  match ds, q with
  | [d], ⟨ns, h, q⟩ =>
    obtain ⟨v, e, rd⟩ := reps1 r
    obtain ⟨a, ws, e1, s, z⟩ := lstA_ok rd hv h
    rw [z.ints] at s
    exact ⟨a, ns, by rw [e, e1], s, k _ _ _ _ (Tp.refl H) rep_int hv q⟩
def acAll : ARC := fun ds M Q => match ds with | [d] => ∃ ns : List Bool, lstA d M = some (ns.map Dv.bl) ∧ Q (.bl (ns.all id)) M | _ => False
def acAny : ARC := fun ds M Q => match ds with | [d] => ∃ ns : List Bool, lstA d M = some (ns.map Dv.bl) ∧ Q (.bl (ns.any id)) M | _ => False
theorem abc_all : AbC K (rAll K) acAll := by
  intro H M vs ds Q Q' r hv q k
  match ds, q with
  | [d], ⟨ns, h, q⟩ =>
    obtain ⟨v, e, rd⟩ := reps1 r
    obtain ⟨a, ws, e1, s, z⟩ := lstA_ok rd hv h
    rw [z.bools] at s
    exact ⟨a, ns, by rw [e, e1], s, k _ _ _ _ (Tp.refl H) rep_bl hv q⟩
theorem abc_any : AbC K (rAny K) acAny := by
  intro H M vs ds Q Q' r hv q k
  match ds, q with
  | [d], ⟨ns, h, q⟩ =>
    obtain ⟨v, e, rd⟩ := reps1 r
    obtain ⟨a, ws, e1, s, z⟩ := lstA_ok rd hv h
    rw [z.bools] at s
    exact ⟨a, ns, by rw [e, e1], s, k _ _ _ _ (Tp.refl H) rep_bl hv q⟩
def acMax2 : ARC := fun ds M Q => match ds with | [.int i, .int j] => Q (.int (if j > i then j else i)) M | _ => False
def acMin2 : ARC := fun ds M Q => match ds with | [.int i, .int j] => Q (.int (if j < i then j else i)) M | _ => False
theorem abc_max2 : AbC K (fun xs H Q => ∃ i j, xs = [.int i, .int j] ∧ Q (.int (if j > i then j else i)) H) acMax2 := by
  intro H M vs ds Q Q' r hv q k
  match ds, q with
  | [.int i, .int j], q =>
    obtain ⟨v, w, e, r1, r2⟩ := reps2 r
    exact ⟨i, j, by rw [e, rep_int_inv r1, rep_int_inv r2], k _ _ _ _ (Tp.refl H) rep_int hv q⟩
theorem abc_min2 : AbC K (fun xs H Q => ∃ i j, xs = [.int i, .int j] ∧ Q (.int (if j < i then j else i)) H) acMin2 := by
  intro H M vs ds Q Q' r hv q k
  match ds, q with
  | [.int i, .int j], q =>
    obtain ⟨v, w, e, r1, r2⟩ := reps2 r
    exact ⟨i, j, by rw [e, rep_int_inv r1, rep_int_inv r2], k _ _ _ _ (Tp.refl H) rep_int hv q⟩
def acTup : ARC := fun ds M Q => match ds with | [d] => onS (itemsA d M) fun xs => Q (.tup xs) M | _ => False
def acLst : ARC := fun ds M Q => match ds with | [d] => onS (itemsA d M) fun xs => ∀ p, M p = none → Q (.ref p) (mup M p (.lst xs)) | _ => False
theorem abc_tup : AbC K (fun xs H Q => ∃ p ys, xs = [.ref p] ∧ ((SqL K H p ys ∧ ∀ l, H l = none → Q (.ref l) (upd H l (.tup ys))) ∨ (SqT K H p ys ∧ Q (.ref p) H))) acTup := by
  intro H M vs ds Q Q' r hv q k
  match ds, q with
  | [d], q =>
    obtain ⟨xs, h, q⟩ := onS_ex q
    obtain ⟨v, e, rd⟩ := reps1 r
    obtain ⟨a, ws, e1, s, z⟩ := itemsA_ok rd hv h
    subst e1
    rcases s with s | s
    · exact ⟨a, ws, e, .inr ⟨s, k _ _ _ _ (Tp.refl H) (rep_tup s z) hv q⟩⟩
    · exact ⟨a, ws, e, .inl ⟨s, end_tup z hv q k⟩⟩
theorem abc_lst : AbC K (fun xs H Q => ∃ p ys, xs = [.ref p] ∧ (SqL K H p ys ∨ SqT K H p ys) ∧ ∀ l, H l = none → Q (.ref l) (upd H l (.lst ys))) acLst := by
  intro H M vs ds Q Q' r hv q k
  match ds, q with
  | [d], q =>
    obtain ⟨xs, h, q⟩ := onS_ex q
    obtain ⟨v, e, rd⟩ := reps1 r
    obtain ⟨a, ws, e1, s, z⟩ := itemsA_ok rd hv h
    subst e1
    exact ⟨a, ws, e, s.symm, end_lst z hv q k⟩
end
end HC
set_option maxHeartbeats 4000000
namespace HC
open PySem L2 PyProof.Rows
section
variable {X : Cx} {a b c e o : Expr} {ta tb tc te to : RE} {pos apos cpos p : Pos} {K : PySem.W.Frag} {es : List Expr} {t : RA}
def tyN : Dv → Ms → Option String
  | .non, _ => some "NoneType"
  | .bl _, _ => some "bool"
  | .int _, _ => some "int"
  | .str _, _ => some "str"
  | .tup _, _ => some "tuple"
  | .rol _, _ => some "list"
  | .tuc _, _ => some "tuple"
  | .ref a, M => match M a with | some (.lst _) => some "list" | some (.dic _) => some "dict" | some (.dit _) => some "dict" | _ => none
  | .ty _, _ => none
  | .exc _ _, _ => none
theorem tyN_ok {M : Ms} {H : Hp} {d : Dv} {v : V} {T : String} (r : Rep K H d v) (hv : View K M H) (h : tyN d M = some T) : TyX K H v (.type T) := by
  cases d with
  | non => cases h; rw [rep_non_inv r]; exact .base .non
  | bl b => cases h; rw [rep_bl_inv r]; exact .base (.bl b)
  | int b => cases h; rw [rep_int_inv r]; exact .base (.int b)
  | str b => cases h; rw [rep_str_inv r]; exact .base (.str b)
  | ty b => cases h
  | tup ds =>
    cases h
    obtain ⟨a, vs, e, s, _⟩ := rep_tup_inv r
    rw [e]
    rcases s with (s | ⟨o, s⟩) | ⟨o, its, n, h1, h2, _⟩
    · exact .base (.tup s)
    · exact .fTuple s
    · exact .kTuple h1 h2
  | rol ds =>
    cases h
    obtain ⟨a, vs, e, s, _⟩ := rep_rol_inv r
    rw [e]
    rcases s.l with (s | ⟨o, s⟩) | ⟨o, its, n, h1, h2, _⟩
    · exact .base (.lst s)
    · exact .base (.frz s)
    · exact .kList h1 h2
  | exc _ _ => cases h
  | tuc ds =>
    cases h
    obtain ⟨a, vs, e, ⟨o, s, _⟩, _⟩ := rep_tuc_inv r
    rw [e]
    exact .fTuple s
  | ref a =>
    rw [rep_ref_inv r]
    simp only [tyN] at h
    cases q : M a with
    | none => rw [q] at h; cases h
    | some c =>
      rw [q] at h
      have rc := hv a c q
      cases c with
      | lst xs => cases h; obtain ⟨vs, e, _⟩ := rc; exact .base (.lst e)
      | dic xs => cases h; obtain ⟨vs, e, _⟩ := rc; exact .base (.dK e)
      | dit xs => cases h; obtain ⟨vs, e, _⟩ := rc; exact .base (.dT e)
      | fdc xs => cases h
      | obj C xs => cases h
      | tab xs => cases h
      | cod q => cases h
def acIsi : ARC := fun ds M Q => match ds with | [d, .ty n] => onS (tyN d M) fun T => ∃ b, kitB T n = some b ∧ Q (.bl b) M | _ => False
theorem abc_isi : AbC K (rIsi K) acIsi := by
  intro H M vs ds Q Q' r hv q k
  match ds, q with
  | [d, .ty n], q =>
    obtain ⟨T, h1, b, h2, q⟩ := onS_ex q
    obtain ⟨v, w, e, r1, r2⟩ := reps2 r
    rw [rep_ty_inv r2] at e
    exact ⟨v, .ty n, .type T, .type n, b, e, .ty n, tyN_ok r1 hv h1, kit_ty h2, k _ _ _ _ (Tp.refl H) rep_bl hv q⟩
theorem kit_ii : kitB "int" "int" = some true := by decide +kernel
theorem kit_ib : kitB "int" "bool" = some false := by decide +kernel
theorem kit_it : kitB "int" "tuple" = some false := by decide +kernel
theorem kit_is : kitB "int" "str" = some false := by decide +kernel
theorem kit_bi : kitB "bool" "int" = some true := by decide +kernel
theorem kit_bb : kitB "bool" "bool" = some true := by decide +kernel
theorem kit_bt : kitB "bool" "tuple" = some false := by decide +kernel
theorem kit_bs : kitB "bool" "str" = some false := by decide +kernel
theorem kit_ti : kitB "tuple" "int" = some false := by decide +kernel
theorem kit_tb : kitB "tuple" "bool" = some false := by decide +kernel
theorem kit_tt : kitB "tuple" "tuple" = some true := by decide +kernel
theorem kit_ts : kitB "tuple" "str" = some false := by decide +kernel
theorem kit_si : kitB "str" "int" = some false := by decide +kernel
theorem kit_sb : kitB "str" "bool" = some false := by decide +kernel
theorem kit_st : kitB "str" "tuple" = some false := by decide +kernel
theorem kit_ss : kitB "str" "str" = some true := by decide +kernel
theorem kit_ni : kitB "NoneType" "int" = some false := by decide +kernel
theorem kit_nb : kitB "NoneType" "bool" = some false := by decide +kernel
theorem kit_nt : kitB "NoneType" "tuple" = some false := by decide +kernel
theorem kit_ns : kitB "NoneType" "str" = some false := by decide +kernel
theorem kit_li : kitB "list" "int" = some false := by decide +kernel
theorem kit_lb : kitB "list" "bool" = some false := by decide +kernel
theorem kit_lt : kitB "list" "tuple" = some false := by decide +kernel
theorem kit_ls : kitB "list" "str" = some false := by decide +kernel
abbrev ARM := Dv → List Dv → Ms → DK → Prop
def AbM (K : PySem.W.Frag) (r : V → List V → Hp → VK → Prop) (ar : ARM) : Prop := ∀ H M x dx vs ds Q Q', Rep K H dx x → Reps K H ds vs → View K M H → ar dx ds M Q → LkV K H Q Q' → r x vs H Q'
def tyM (T : String) : Dv → Ms → Prop := fun d M => match d with
  | .str _ => T = "str"
  | .rol _ => T = "list"
  | .ref a => match M a with | some (.lst _) => T = "list" | some (.dic _) => T = "dict" | some (.dit _) => T = "dict" | _ => False
  | _ => False
theorem tyM_ok {M : Ms} {H : Hp} {d : Dv} {v : V} {T : String} (r : Rep K H d v) (hv : View K M H) (h : tyM T d M) : tyV K T v H := by
  cases d <;> first | exact h.elim | skip
  case str z => rw [rep_str_inv r]; exact h
  case rol z =>
    obtain ⟨a, vs, e, s, _⟩ := rep_rol_inv r
    rw [e]; exact .inl ⟨h, vs, s.l⟩
  case ref a =>
    rw [rep_ref_inv r]
    simp only [tyM] at h
    cases q : M a with
    | none => rw [q] at h; exact h.elim
    | some c =>
      rw [q] at h
      have rc := hv a c q
      cases c with
      | lst xs => obtain ⟨vs, e, _⟩ := rc; exact .inl ⟨h, vs, .inl (.inl e)⟩
      | dic xs => obtain ⟨vs, e, _⟩ := rc; exact .inr (.inr (.inl ⟨h, .inl ⟨vs, e⟩⟩))
      | dit xs => obtain ⟨vs, e, _⟩ := rc; exact .inr (.inr (.inl ⟨h, .inr ⟨vs, e⟩⟩))
      | fdc xs => exact h.elim
      | obj C xs => exact h.elim
      | tab xs => exact h.elim
      | cod q => exact h.elim
def aMth (T : String) (ar : ARM) (to : RE) (t : RA) : RE := fun ρ M Q => to ρ M fun x M1 => tyM T x M1 ∧ t ρ M1 fun ds M2 => ar x ds M2 Q
variable {T name mid : String} {nm : Str} {r : V → List V → Hp → VK → Prop} {ar : ARM}
theorem mth_imp (h : AbM K r ar) : ∀ σ H Q, cE K (aMth T ar to t) σ H Q → tBM K T r (cE K to) (cA K t) σ H Q := fun σ H Q' ⟨ρ, M, Q, hr, hv, q, k⟩ =>
  seqE hr hv q fun v H1 d M1 t1 r1 v1 ⟨ht, q1⟩ => ⟨tyM_ok r1 v1 ht, seqA (hr.mono t1) v1 q1 fun vs H2 ds M2 t2 r2 v2 q2 => h H2 M2 v d vs ds Q Q' (r1.mono t2) r2 v2 q2 (k.up (t1.trans t2))⟩
theorem ae_bm (pa : PlainAttrs T) (slot : Slot T nm mid) (hty : typeOf (.builtin mid) = pure (.type "method_descriptor")) (hm : MtR X mid r) (h : AbM X.K r ar) (ho : AE X o to) (ha : AA X (e :: es) t)
    (hbase : attributeBase o nm X.env (eval o X.env) = eval o X.env := by rfl)
    (hfew : ((backTo cpos (starEach (e :: es) X.env)).all (fun x => !x.1) && (backToKw cpos (keywordEach [] X.env)).all (fun x => x.1.isSome)
      && decide ((e :: es).length + ([] : List Keyword).length + (if ([] : List Keyword).isEmpty then 0 else 1) < 30)) = true := by rfl)
    (hline : (apos.endLine == cpos.line) = true := by rfl) (hs : starEach (e :: es) X.env = (false, eval e X.env) :: starEach es X.env := by rfl) (hplain : (backTo cpos (starEach es X.env)).any (·.1) = false := by rfl) :
    AE X (.Call (.Attribute o nm apos) (e :: es) [] cpos) (aMth T ar to t) := pe_imp (pe_bm pa slot hty hm ho ha hbase hfew hline hs hplain) (mth_imp h)
def amApp : ARM := fun x ds M Q => match x, ds with
  | .ref l, [d] => onS (lstC (M l)) fun xs => xs.length < sizeLine ∧ Q .non (mup M l (.lst (xs ++ [d])))
  | _, _ => False
theorem end_wr {H : Hp} {M : Ms} {l : Addr} {xs ys : List Dv} {vs : List V} {Q : DK} {Q' : VK} {d : Dv} {v : V} (hv : View K M H) (hl : M l = some (.lst xs)) (r : Reps K H ys vs) (rd : Rep K H d v) (q : Q d (mup M l (.lst ys))) (k : LkV K H Q Q') : Q' v (upd H l (.lst vs)) :=
  k _ _ d _ (Tp.put (hv.soft hl)) (rd.mono (Tp.put (hv.soft hl))) (hv.put (c := .lst ys) (hv.soft hl) ⟨vs, upd_same, r.mono (Tp.put (hv.soft hl))⟩) q
theorem abm_app : AbM K rAppend amApp := by
  intro H M x dx vs ds Q Q' rx rd hv q k
  match dx, ds, q with
  | .ref l, [d], q =>
    obtain ⟨xs, h1, hz, q⟩ := onS_ex q
    replace h1 := lstC_eq h1
    obtain ⟨v, e, r1⟩ := reps1 rd
    obtain ⟨ws, e2, z⟩ := view_lst hv h1
    exact ⟨l, ws, v, rep_ref_inv rx, e, e2, by rw [← z.length]; exact hz, end_wr hv h1 (z.append (Reps.cons r1 Reps.nil)) rep_non q k⟩
def amPop : ARM := fun x ds M Q => match x, ds with
  | .ref l, [.int i] => onS (lstC (M l)) fun xs => (0 ≤ i ∧ i < 4611686018427387904) ∧ onS xs[i.toNat]? fun d => Q d (mup M l (.lst (xs.eraseIdx i.toNat)))
  | _, _ => False
theorem seqIndex_nat {k n : Nat} (h : k < n) : seqIndex? (k : Int) n = some k := by
  have := (ixN_seq (n := n) (i := (k : Int)) (j := k) (by unfold ixN; rw [if_pos (by omega), if_pos (by omega), Int.toNat_natCast])).1
  exact this
theorem abm_pop : AbM K rPopAt amPop := by
  intro H M x dx vs ds Q Q' rx rd hv q k
  match dx, ds, q with
  | .ref l, [.int i], q =>
    obtain ⟨xs, h1, ⟨h0, hb⟩, q⟩ := onS_ex q
    obtain ⟨d, hd, q5⟩ := onS_ex q
    replace h1 := lstC_eq h1
    obtain ⟨kk, hk⟩ : ∃ kk, i.toNat = kk := ⟨_, rfl⟩
    rw [hk] at hd q5
    obtain ⟨v, e, r1⟩ := reps1 rd
    rw [rep_int_inv r1] at e
    obtain ⟨ws, e2, z⟩ := view_lst hv h1
    obtain ⟨w, hw, rw'⟩ := z.get hd
    have hl := (List.getElem?_eq_some_iff.mp hw).1
    have ei : i = (kk : Int) := by omega
    subst ei
    exact ⟨l, ws, kk, kk, w, rep_ref_inv rx, e, e2, by omega, by omega, seqIndex_nat hl, hw, end_wr hv h1 (z.eraseIdx kk) rw' q5 k⟩
def amExt : ARM := fun x ds M Q => match x, ds with
  | .ref l, [.ref m] => onS (lstC (M l)) fun xs => onS (lstC (M m)) fun ys => xs.length + ys.length ≤ sizeLine ∧ Q .non (mup M l (.lst (xs ++ ys)))
  | _, _ => False
theorem abm_ext : AbM K rExtend amExt := by
  intro H M x dx vs ds Q Q' rx rd hv q k
  match dx, ds, q with
  | .ref l, [.ref m], q =>
    obtain ⟨xs, h1, q⟩ := onS_ex q
    obtain ⟨ys, h2, hz, q⟩ := onS_ex q
    replace h1 := lstC_eq h1
    replace h2 := lstC_eq h2
    obtain ⟨v, e, r1⟩ := reps1 rd
    rw [rep_ref_inv r1] at e
    obtain ⟨ws, e2, z⟩ := view_lst hv h1
    obtain ⟨us, e3, z3⟩ := view_lst hv h2
    have l1 := z.length
    have l3 := z3.length
    exact ⟨l, m, ws, us, rep_ref_inv rx, e, e2, e3, by omega, end_wr hv h1 (z.append z3) rep_non q k⟩
theorem ae_append (ho : AE X o to) (ha : AA X [e] t) (hline : (apos.endLine == cpos.line) = true := by rfl) (hbase : attributeBase o "append" X.env (eval o X.env) = eval o X.env := by rfl)
    (hfew : ((backTo cpos (starEach [e] X.env)).all (fun x => !x.1) && (backToKw cpos (keywordEach [] X.env)).all (fun x => x.1.isSome)
      && decide (([e] : List Expr).length + ([] : List Keyword).length + (if ([] : List Keyword).isEmpty then 0 else 1) < 30)) = true := by rfl)
    (hs : starEach [e] X.env = (false, eval e X.env) :: starEach [] X.env := by rfl) (hplain : (backTo cpos (starEach [] X.env)).any (·.1) = false := by rfl) :
    AE X (.Call (.Attribute o "append" apos) [e] [] cpos) (aMth "list" amApp to t) := ae_bm PySem.F.plainAttrs_list PySem.F.slot_list_append PySem.F.type_list_append mt_append abm_app ho ha hbase hfew hline hs hplain
theorem ae_popAt (ho : AE X o to) (ha : AA X [e] t) (hline : (apos.endLine == cpos.line) = true := by rfl) (hbase : attributeBase o "pop" X.env (eval o X.env) = eval o X.env := by rfl)
    (hfew : ((backTo cpos (starEach [e] X.env)).all (fun x => !x.1) && (backToKw cpos (keywordEach [] X.env)).all (fun x => x.1.isSome)
      && decide (([e] : List Expr).length + ([] : List Keyword).length + (if ([] : List Keyword).isEmpty then 0 else 1) < 30)) = true := by rfl)
    (hs : starEach [e] X.env = (false, eval e X.env) :: starEach [] X.env := by rfl) (hplain : (backTo cpos (starEach [] X.env)).any (·.1) = false := by rfl) :
    AE X (.Call (.Attribute o "pop" apos) [e] [] cpos) (aMth "list" amPop to t) := ae_bm PySem.F.plainAttrs_list PySem.F.slot_list_pop PySem.F.type_list_pop mt_popAt abm_pop ho ha hbase hfew hline hs hplain
theorem ae_extend (ho : AE X o to) (ha : AA X [e] t) (hline : (apos.endLine == cpos.line) = true := by rfl) (hbase : attributeBase o "extend" X.env (eval o X.env) = eval o X.env := by rfl)
    (hfew : ((backTo cpos (starEach [e] X.env)).all (fun x => !x.1) && (backToKw cpos (keywordEach [] X.env)).all (fun x => x.1.isSome)
      && decide (([e] : List Expr).length + ([] : List Keyword).length + (if ([] : List Keyword).isEmpty then 0 else 1) < 30)) = true := by rfl)
    (hs : starEach [e] X.env = (false, eval e X.env) :: starEach [] X.env := by rfl) (hplain : (backTo cpos (starEach [] X.env)).any (·.1) = false := by rfl) :
    AE X (.Call (.Attribute o "extend" apos) [e] [] cpos) (aMth "list" amExt to t) := ae_bm PySem.F.plainAttrs_list PySem.F.slot_list_extend PySem.F.type_list_extend mt_extend abm_ext ho ha hbase hfew hline hs hplain
abbrev ASet := Dv → Dv → Dv → Ms → (Ms → Prop) → Prop
def putA {κ : Type} [DecidableEq κ] (kvs : List (κ × Dv)) (k : κ) (v : Dv) : List (κ × Dv) :=
  if (kvs.any fun kv => decide (kv.1 = k)) = true then kvs.map (fun kv => if kv.1 = k then (kv.1, v) else kv) else kvs ++ [(k, v)]
def asSet : ASet := fun x i v M Q => match x with
  | .ref a => match M a with
    | some (.lst xs) => onI i fun k => onS (ixN xs.length k) fun j => Q (mup M a (.lst (xs.set j v)))
    | some (.dic kvs) => onS (keyD i) fun k => kvs.length < sizeLine ∧ Q (mup M a (.dic (putA kvs k v)))
    | _ => False
  | _ => False
def rSetH : V → V → V → Hp → (Hp → Prop) → Prop := fun o i v H Q => rSetL o i v H Q ∨ ∃ a H', o = .ref a ∧ DPut H a i v H' ∧ Q H'
theorem set_H (hu : X.A.units + 1 < cLine) : PSet X rSetH := by
  intro pins s σ H o i v ov iv u Q I ro ri rv h
  rcases h with h | ⟨a, H', rfl, g, q⟩
  · exact set_list pins s σ H o i v ov iv u Q I ro ri rv h
  · obtain rfl : ov = Value.ref a := ro
    exact d_setItem hu I g ri rv fun s' I' => ⟨H', I', q⟩
abbrev KP (K : PySem.W.Frag) (H : Hp) (κ : Type) : List (κ × Dv) → List (κ × V) → Prop := Paired (fun (p : κ × Dv) (q : κ × V) => p.1 = q.1 ∧ Rep K H p.2 q.2)
theorem kp_any {H : Hp} {κ : Type} [DecidableEq κ] {k : κ} : ∀ {kds : List (κ × Dv)} {kvs : List (κ × V)}, KP K H κ kds kvs → (kds.any fun kv => decide (kv.1 = k)) = (kvs.any fun kv => decide (kv.1 = k))
  | _, _, .nil => rfl
  | (k1, d) :: kds, (k2, v) :: kvs, .cons ⟨e, r⟩ t => by
    have e' : k1 = k2 := e
    subst e'
    simp only [List.any_cons]
    rw [kp_any t]
theorem kp_map {H : Hp} {κ : Type} [DecidableEq κ] {k : κ} {d : Dv} {v : V} (rd : Rep K H d v) : ∀ {kds : List (κ × Dv)} {kvs : List (κ × V)}, KP K H κ kds kvs → KP K H κ (kds.map (fun kv => if kv.1 = k then (kv.1, d) else kv)) (kvs.map (fun kv => if kv.1 = k then (kv.1, v) else kv))
  | _, _, .nil => .nil
  | (k1, d1) :: kds, (k2, v1) :: kvs, .cons ⟨e, r⟩ t => by
    have e' : k1 = k2 := e
    subst e'
    rw [List.map_cons, List.map_cons]
    refine .cons ?_ (kp_map rd t)
    by_cases h : k1 = k
    · simpa [h] using rd
    · simpa [h] using r
theorem kp_app {H : Hp} {κ : Type} : ∀ {kds es : List (κ × Dv)} {kvs fs : List (κ × V)}, KP K H κ kds kvs → KP K H κ es fs → KP K H κ (kds ++ es) (kvs ++ fs)
  | _, _, _, _, .nil, h => h
  | _, _, _, _, .cons r t, h => .cons r (kp_app t h)
theorem kp_put {H : Hp} {κ : Type} [DecidableEq κ] {k : κ} {d : Dv} {v : V} (rd : Rep K H d v) {kds : List (κ × Dv)} {kvs : List (κ × V)} (h : KP K H κ kds kvs) : KP K H κ (putA kds k d) (putK kvs k v) := by
  unfold putA putK
  rw [kp_any h]
  split
  · exact kp_map rd h
  · exact kp_app h (.cons ⟨rfl, rd⟩ .nil)
theorem kp_mono {H H' : Hp} {κ : Type} {kds : List (κ × Dv)} {kvs : List (κ × V)} (h : KP K H κ kds kvs) (t : Tp K H H') : KP K H' κ kds kvs := Paired.mapP h fun _ _ z => ⟨z.1, z.2.mono t⟩
theorem kp_len {H : Hp} {κ : Type} {kds : List (κ × Dv)} {kvs : List (κ × V)} (h : KP K H κ kds kvs) : kds.length = kvs.length := Paired.length h
def agSub (to ti : RE) (s : ASet) : RG := fun d ρ M Q => to ρ M fun x M1 => ti ρ M1 fun i M2 => s x i d M2 fun M3 => Q ρ M3
theorem ag_sub {i : Expr} {ti : RE} (hu : X.A.units + 1 < cLine) (ho : AE X o to) (hi : AE X i ti)
    (ha : ∀ v, assign (.Subscript o i pos) X.env v = (do
      let ov ← holding [v] (eval o X.env)
      let iv ← holding [v, ov] (eval i X.env)
      standAt pos
      holding [v, ov, iv] (setItem ov iv v)
      release [v, ov, iv] []) := by intro _; rfl) : AG X (.Subscript o i pos) (agSub to ti asSet) :=
  pg_imp (pg_sub ho hi (set_H hu) ha) fun v σ H Q' h => by
    obtain ⟨d, ρ, M, Q, rd, hr, hv, q, k⟩ := h
    refine seqE hr hv q fun x H1 dx M1 t1 r1 v1 q1 => seqE (hr.mono t1) v1 q1 fun iv H2 di M2 t2 r2 v2 q2 => ?_
    have t12 := t1.trans t2
    have rx := r1.mono t2
    have rd2 := rd.mono t12
    cases dx <;> first | exact q2.elim | skip
    case ref a =>
      simp only [asSet] at q2
      cases e : M2 a with
      | none => rw [e] at q2; exact q2.elim
      | some c =>
        rw [e] at q2
        cases c with
        | lst xs =>
          obtain ⟨kk, e1, q4⟩ := onI_ex q2
          obtain ⟨j, hj, q5⟩ := onS_ex q4
          subst e1
          obtain ⟨vs, e2, z⟩ := view_lst v2 e
          refine .inl ⟨a, vs, kk, j, rep_ref_inv rx, rep_int_inv r2, e2, by rw [← z.length]; exact hj, ?_⟩
          exact k _ _ _ _ (t12.trans (Tp.put (v2.soft e))) (hr.mono (t12.trans (Tp.put (v2.soft e)))) (v2.put (c := .lst (xs.set j d)) (v2.soft e) ⟨vs.set j v, upd_same, (z.set j rd2).mono (Tp.put (v2.soft e))⟩) q5
        | dic kds =>
          obtain ⟨kk, e1, hz, q2⟩ := onS_ex q2
          obtain ⟨kvs, e2, z⟩ := (show ∃ kvs', H2 a = some (.dK kvs') ∧ KP X.K H2 Key kds kvs' from v2 a _ e)
          refine .inr ⟨a, upd H2 a (.dK (putK kvs kk v)), rep_ref_inv rx, .inl ⟨kvs, kk, e2, keyD_ok r2 e1, by rw [← kp_len z]; exact hz, rfl⟩, ?_⟩
          exact k _ _ _ _ (t12.trans (Tp.put (v2.soft e))) (hr.mono (t12.trans (Tp.put (v2.soft e)))) (v2.put (c := .dic (putA kds kk d)) (v2.soft e) ⟨_, upd_same, kp_mono (kp_put rd2 z) (Tp.put (v2.soft e))⟩) q2
        | dit _ => exact q2.elim
        | fdc _ => exact q2.elim
        | obj _ _ => exact q2.elim
        | tab _ => exact q2.elim
        | cod _ => exact q2.elim
end
end HC
set_option maxHeartbeats 200000
namespace HC
open PySem L2 PyProof.Rows
section
variable {X : Cx} {a b c e o tg : Expr} {ta tb tc te to : RE} {pos apos cpos p tpos : Pos} {K : PySem.W.Frag} {es : List Expr} {t : RA}
def on1 (ds : List Dv) (Q : Dv → Prop) : Prop := match ds with | [d] => Q d | _ => False
theorem on1_ex {ds : List Dv} {Q : Dv → Prop} (h : on1 ds Q) : ∃ d, ds = [d] ∧ Q d := by
  match ds, h with
  | [d], h => exact ⟨d, rfl, h⟩
def on2 (ds : List Dv) (Q : Dv → Dv → Prop) : Prop := match ds with | [d, f] => Q d f | _ => False
theorem on2_ex {ds : List Dv} {Q : Dv → Dv → Prop} (h : on2 ds Q) : ∃ d f, ds = [d, f] ∧ Q d f := by
  match ds, h with
  | [d, f], h => exact ⟨d, f, rfl, h⟩
def on3 (ds : List Dv) (Q : Dv → Dv → Dv → Prop) : Prop := match ds with | [d, f, g] => Q d f g | _ => False
theorem on3_ex {ds : List Dv} {Q : Dv → Dv → Dv → Prop} (h : on3 ds Q) : ∃ d f g, ds = [d, f, g] ∧ Q d f g := by
  match ds, h with
  | [d, f, g], h => exact ⟨d, f, g, rfl, h⟩
def aiSeq (te : RE) : RI := fun ρ M Q => te ρ M fun d M1 => onS (itemsA d M1) fun ds => Q ds (fun M => itemsA d M = some ds) M1
theorem pi_seq {tl : TE} (hl : PE X e tl) : PI X tg e (fun σ H R => tl σ H fun x H1 => ∃ a, x = .ref a ∧ ((∃ xs, SqL X.K H1 a xs) ∧ R (Itl X.K a) H1 ∨ (∃ xs, SqT X.K H1 a xs) ∧ R (Itt X.K a) H1)) := by
  refine ⟨fun pins s σ H R I h => ?_⟩
  refine thn (hl.run pins s σ H _ I h) fun v s1 ⟨x, H1, I1, r1, q1⟩ => ?_
  obtain ⟨a, e, ⟨⟨xs, hq⟩, q⟩ | ⟨⟨xs, hq⟩, q⟩⟩ := q1
  · subst e
    cases r1
    obtain ⟨its, rv, p, hz⟩ := I1.list hq
    refine wpAny_pyIter_list p.isList ?_
    refine ⟨s1.heap.objs.size, [s1.heap.objs.size], _, _, H1, rfl, I1.kept (t' := s1.toks) fun b o e => Heap.get?_push_of_some _ e, turn_list a _, ⟨_, Heap.get?_push_size _ rfl, rfl, rfl⟩, fun b hb => ?_, q⟩
    have e : b = s1.heap.objs.size := by simpa using hb
    subst e
    exact I1.fpOk (Nat.le_refl _) (I1.hok.fresh (Nat.le_refl _))
  · subst e
    cases r1
    obtain ⟨its, rv, p, hz⟩ := I1.tuple hq
    refine wpAny_pyIter_tuple (show s1.heap.IsTuple a its.toArray from p) ?_
    refine ⟨s1.heap.objs.size, [s1.heap.objs.size], _, _, H1, rfl, I1.kept (t' := s1.toks) fun b o e => Heap.get?_push_of_some _ e, turn_tuple a _, ⟨_, Heap.get?_push_size _ rfl, rfl, rfl⟩, fun b hb => ?_, q⟩
    have e : b = s1.heap.objs.size := by simpa using hb
    subst e
    exact I1.fpOk (Nat.le_refl _) (I1.hok.fresh (Nat.le_refl _))
theorem items_stand {H1 : Hp} {M1 : Ms} {d : Dv} {v : V} {ds : List Dv} (r : Rep K H1 d v) (hv : View K M1 H1) (h : itemsA d M1 = some ds) :
    ∃ a vs, v = .ref a ∧ Reps K H1 ds vs ∧ ((SqT K H1 a vs ∧ ∀ H, Tp K H1 H → SqT K H a vs) ∨ (SqL K H1 a vs ∧ ∀ H M, Tp K H1 H → View K M H → itemsA d M = some ds → ∃ ws, SqL K H a ws ∧ Reps K H ds ws)) := by
  cases d <;> first | cases h; done | skip
  case tup es =>
    cases h
    obtain ⟨a, vs, e, s, z⟩ := rep_tup_inv r
    exact ⟨a, vs, e, z, .inl ⟨s, fun H t => t.t _ _ s⟩⟩
  case rol es =>
    cases h
    obtain ⟨a, vs, e, s, z⟩ := rep_rol_inv r
    exact ⟨a, vs, e, z, .inr ⟨s.l, fun H M t _ _ => ⟨vs, (t.f _ _ s).l, z.mono t⟩⟩⟩
  case tuc es =>
    cases h
    obtain ⟨a, vs, e, s, z⟩ := rep_tuc_inv r
    exact ⟨a, vs, e, z, .inl ⟨s.t, fun H t => t.t _ _ s.t⟩⟩
  case ref a =>
    simp only [itemsA] at h
    cases q : M1 a with
    | none => rw [q] at h; cases h
    | some c =>
      rw [q] at h
      cases c with
      | dic _ => cases h
      | dit _ => cases h
      | fdc _ => cases h
      | obj _ _ => cases h
      | tab _ => cases h
      | cod _ => cases h
      | lst es =>
        cases h
        obtain ⟨vs, h1, h2⟩ := view_lst hv q
        refine ⟨a, vs, rep_ref_inv r, h2, .inr ⟨.inl (.inl h1), fun H M t v' hk => ?_⟩⟩
        simp only [itemsA] at hk
        cases q' : M a with
        | none => rw [q'] at hk; cases hk
        | some c' =>
          rw [q'] at hk
          cases c' with
          | dic _ => cases hk
          | dit _ => cases hk
          | fdc _ => cases hk
          | obj _ _ => cases hk
          | tab _ => cases hk
          | cod _ => cases hk
          | lst es' =>
            cases hk
            obtain ⟨ws, h3, h4⟩ := view_lst v' q'
            exact ⟨ws, .inl (.inl h3), h4⟩
theorem iw_list {a : Addr} {ds : List Dv} {keep : Ms → Prop} {H1 : Hp} (h : ∀ H M, Tp K H1 H → View K M H → keep M → ∃ ws, SqL K H a ws ∧ Reps K H ds ws) : IW K (Itl K a) ds keep H1 where
  go := fun i H M hi t v k => by
    obtain ⟨ws, s, z⟩ := h H M t v k
    obtain ⟨w, hw, _⟩ := z.get (List.getElem?_eq_getElem hi)
    exact ⟨ws, w, s, hw⟩
  stop := fun H M t v k => by
    obtain ⟨ws, s, z⟩ := h H M t v k
    exact ⟨ws, s, by rw [← z.length]; exact Nat.le_refl _⟩
  yld := fun i H M x H' hi t v k y => by
    obtain ⟨ws, s, z⟩ := h H M t v k
    obtain ⟨w, hw, rw'⟩ := z.get (List.getElem?_eq_getElem hi)
    obtain ⟨e, y2⟩ := y
    subst e
    have := y2 ws s
    rw [hw] at this
    cases this
    exact ⟨_, List.getElem?_eq_getElem hi, Tp.refl _, rw', v, fun _ _ => rfl⟩
theorem iw_tup {a : Addr} {ds : List Dv} {vs : List V} {keep : Ms → Prop} {H1 : Hp} (z0 : Reps K H1 ds vs) (h : ∀ H, Tp K H1 H → SqT K H a vs) : IW K (Itt K a) ds keep H1 where
  go := fun i H M hi t v k => by
    obtain ⟨w, hw, _⟩ := z0.get (List.getElem?_eq_getElem hi)
    exact ⟨vs, w, h H t, hw⟩
  stop := fun H M t v k => ⟨vs, h H t, by rw [← z0.length]; exact Nat.le_refl _⟩
  yld := fun i H M x H' hi t v k y => by
    obtain ⟨w, hw, rw'⟩ := (z0.mono t).get (List.getElem?_eq_getElem hi)
    obtain ⟨e, y2⟩ := y
    subst e
    have := y2 vs (h _ t)
    rw [hw] at this
    cases this
    exact ⟨_, List.getElem?_eq_getElem hi, Tp.refl _, rw', v, fun _ _ => rfl⟩
theorem ai_seq (h : AE X e te) : AI X tg e (aiSeq te) := pi_imp (pi_seq h) fun σ H R ⟨ρ, M, Q, hr, hv, q, k⟩ => seqE hr hv q fun v H1 d M1 t1 r1 v1 q1 => by
  obtain ⟨ds, hi, q1⟩ := onS_ex q1
  obtain ⟨a, vs, e1, z, hs⟩ := items_stand r1 v1 hi
  refine ⟨a, e1, ?_⟩
  rcases hs with ⟨s, hs⟩ | ⟨s, hs⟩
  · exact .inr ⟨⟨vs, s⟩, k _ H1 ds _ M1 t1 v1 q1 (iw_tup z hs)⟩
  · exact .inl ⟨⟨vs, s⟩, k _ H1 ds _ M1 t1 v1 q1 (iw_list hs)⟩
def rangeA (lo : Int) (n : Nat) : List Dv := (List.range n).map fun (i : Nat) => Dv.int (lo + (i : Int))
theorem iw_range {lo : Int} {n : Nat} {keep : Ms → Prop} {H1 : Hp} : IW K (Itr lo n) (rangeA lo n) keep H1 where
  go := fun i H M hi t v k => by
    have h : i < n := by simpa [rangeA] using hi
    exact h
  stop := fun H M t v k => by simp [rangeA, Itr]
  yld := fun i H M x H' hi t v k y => by
    obtain ⟨e, y2⟩ := y
    subst e y2
    refine ⟨.int (lo + (i : Int)), ?_, Tp.refl _, rep_int, v, fun _ _ => rfl⟩
    have : i < n := by simpa [rangeA] using hi
    simp [rangeA, this]
def aiR1 (t : RA) : RI := fun ρ M Q => t ρ M fun ds M1 => on1 ds fun d => onI d fun j => (-(2 ^ 62) ≤ j ∧ j < 2 ^ 62) ∧ Q (rangeA 0 j.toNat) (fun _ => True) M1
def aiR2 (t : RA) : RI := fun ρ M Q => t ρ M fun ds M1 => on2 ds fun d f => onI2 d f fun i j => (-(2 ^ 62) ≤ i ∧ i < 2 ^ 62 ∧ -(2 ^ 62) ≤ j ∧ j < 2 ^ 62) ∧ Q (rangeA i (j - i).toNat) (fun _ => True) M1
theorem ai_range1 (hm : X.mg "range" = none) (ha : AA X [a] t) (hg : Gl X "range" := by rfl) (hs : starEach [a] X.env = [(false, eval a X.env)] := by rfl) : AI X tg (.Call (.Name "range" p) [a] [] pos) (aiR1 t) :=
  pi_imp (pi_range1 hg hm ha hs) fun σ H R ⟨ρ, M, Q, hr, hv, q, k⟩ => seqA hr hv q fun vs H1 ds M1 t1 r1 v1 q1 => by
    obtain ⟨d, e0, q4⟩ := on1_ex q1
    obtain ⟨j, e3, h1, q5⟩ := onI_ex q4
    subst e0 e3
    obtain ⟨v, e, rd⟩ := reps1 r1
    exact ⟨j, by rw [e, rep_int_inv rd], h1.1, h1.2, k _ H1 _ _ M1 t1 v1 q5 iw_range⟩
theorem ai_range2 (hm : X.mg "range" = none) (ha : AA X [a, b] t) (hg : Gl X "range" := by rfl) (hs : starEach [a, b] X.env = [(false, eval a X.env), (false, eval b X.env)] := by rfl) (hs2 : starEach [b] X.env = [(false, eval b X.env)] := by rfl) : AI X tg (.Call (.Name "range" p) [a, b] [] pos) (aiR2 t) :=
  pi_imp (pi_range2 hg hm ha hs hs2) fun σ H R ⟨ρ, M, Q, hr, hv, q, k⟩ => seqA hr hv q fun vs H1 ds M1 t1 r1 v1 q1 => by
    obtain ⟨d, f, e0, q4⟩ := on2_ex q1
    obtain ⟨i, j, e3, e4, h1, q5⟩ := onI2_ex q4
    subst e0 e3 e4
    obtain ⟨v, w, e, rd, rd2⟩ := reps2 r1
    exact ⟨i, j, by rw [e, rep_int_inv rd, rep_int_inv rd2], h1, k _ H1 _ _ M1 t1 v1 q5 iw_range⟩
def rangeC (lo c : Int) (n : Nat) : List Dv := (List.range n).map fun (i : Nat) => Dv.int (lo + (i : Int) * c)
theorem iw_rangeC {lo c : Int} {n : Nat} {keep : Ms → Prop} {H1 : Hp} : IW K (Itc lo c n) (rangeC lo c n) keep H1 where
  go := fun i H M hi t v k => by
    have h : i < n := by simpa [rangeC] using hi
    exact h
  stop := fun H M t v k => by simp [rangeC, Itc]
  yld := fun i H M x H' hi t v k y => by
    obtain ⟨e, y2⟩ := y
    subst e y2
    refine ⟨.int (lo + (i : Int) * c), ?_, Tp.refl _, rep_int, v, fun _ _ => rfl⟩
    have : i < n := by simpa [rangeC] using hi
    simp [rangeC, this]
def aiR3 (t : RA) : RI := fun ρ M Q => t ρ M fun ds M1 => on3 ds fun d f g => onI2 d f fun i j => onI g fun c => ∃ n : Nat, RgC i j c n ∧ Q (rangeC i c n) (fun _ => True) M1
theorem ai_range3 (hm : X.mg "range" = none) (ha : AA X [a, b, c] t) (hg : Gl X "range" := by rfl) (hs : starEach [a, b, c] X.env = (false, eval a X.env) :: starEach [b, c] X.env := by rfl) (hpl : (backTo pos (starEach [b, c] X.env)).any (·.1) = false := by rfl) : AI X tg (.Call (.Name "range" p) [a, b, c] [] pos) (aiR3 t) :=
  pi_imp (pi_range3 hg hm ha hs hpl) fun σ H R ⟨ρ, M, Q, hr, hv, q, k⟩ => seqA hr hv q fun vs H1 ds M1 t1 r1 v1 q1 => by
    obtain ⟨d, f, g, e0, q4⟩ := on3_ex q1
    obtain ⟨i, j, e3, e4, q6⟩ := onI2_ex q4
    obtain ⟨c, e5, n, h1, q5⟩ := onI_ex q6
    subst e0 e3 e4 e5
    obtain ⟨v, r, e, rd, r2⟩ := r1.cons_inv
    obtain ⟨w, w', e', rd2, rd3⟩ := reps2 r2
    exact ⟨i, j, c, n, by rw [e, e', rep_int_inv rd, rep_int_inv rd2, rep_int_inv rd3], h1, k _ H1 _ _ M1 t1 v1 q5 iw_rangeC⟩
def pairD (x y : Dv) : Dv := .tup [x, y]
theorem rep_pair {H : Hp} {T : Addr} {x y : V} {d f : Dv} (hn : H T = none) (r1 : Rep K H d x) (r2 : Rep K H f y) : Rep K (upd H T (.tup [x, y])) (pairD d f) (.ref T) :=
  rep_tup (.inl (.inl upd_same)) (Reps.cons (r1.mono (Tp.new hn)) (Reps.cons (r2.mono (Tp.new hn)) Reps.nil))
def enumD (ds : List Dv) : List Dv := (List.range ds.length).zipWith (fun (i : Nat) d => pairD (.int (i : Int)) d) ds
theorem enumD_len (ds : List Dv) : (enumD ds).length = ds.length := by simp [enumD]
theorem enumD_get {ds : List Dv} {i : Nat} {d : Dv} (h : ds[i]? = some d) : (enumD ds)[i]? = some (pairD (.int (i : Int)) d) := by
  have hl := (List.getElem?_eq_some_iff.mp h).1
  have he : ds[i] = d := (List.getElem?_eq_some_iff.mp h).2
  simp [enumD, List.getElem?_zipWith, h, hl, he]
theorem iw_enum {a : Addr} {ds : List Dv} {keep : Ms → Prop} {H1 : Hp} (h : ∀ H M, Tp K H1 H → View K M H → keep M → ∃ ws, SqL K H a ws ∧ Reps K H ds ws) : IW K (Ite K a) (enumD ds) keep H1 where
  go := fun i H M hi t v k => by
    rw [enumD_len] at hi
    obtain ⟨ws, s, z⟩ := h H M t v k
    obtain ⟨w, hw, _⟩ := z.get (List.getElem?_eq_getElem hi)
    exact ⟨ws, w, s, hw⟩
  stop := fun H M t v k => by
    obtain ⟨ws, s, z⟩ := h H M t v k
    exact ⟨ws, s, by rw [enumD_len, ← z.length]; exact Nat.le_refl _⟩
  yld := fun i H M x H' hi t v k y => by
    rw [enumD_len] at hi
    obtain ⟨ws, s, z⟩ := h H M t v k
    obtain ⟨w, hw, rw'⟩ := z.get (List.getElem?_eq_getElem hi)
    obtain ⟨T, x', e, hn, e2, y2⟩ := y
    subst e e2
    have := y2 ws s
    rw [hw] at this
    cases this
    exact ⟨_, enumD_get (List.getElem?_eq_getElem hi), Tp.new hn, rep_pair hn rep_int rw', v.new hn, fun a ha => upd_ne fun q => ha (q ▸ hn)⟩
def aiEnumL (t : RA) : RI := fun ρ M Q => t ρ M fun ds M1 => match ds with | [d] => ∃ xs, lstA d M1 = some xs ∧ Q (enumD xs) (fun M => lstA d M = some xs) M1 | _ => False
theorem lstA_items {d : Dv} {M : Ms} {xs : List Dv} (h : lstA d M = some xs) : itemsA d M = some xs := by
  cases d <;> first | cases h; done | exact h
theorem lst_stand {H1 : Hp} {M1 : Ms} {d : Dv} {v : V} {ds : List Dv} (r : Rep K H1 d v) (hv : View K M1 H1) (h : lstA d M1 = some ds) :
    ∃ a vs, v = .ref a ∧ Reps K H1 ds vs ∧ (SqL K H1 a vs ∧ ∀ H M, Tp K H1 H → View K M H → lstA d M = some ds → ∃ ws, SqL K H a ws ∧ Reps K H ds ws) := by
  cases d <;> first | cases h; done | skip
  case rol es =>
    cases h
    obtain ⟨a, vs, e, s, z⟩ := rep_rol_inv r
    exact ⟨a, vs, e, z, s.l, fun H M t _ _ => ⟨vs, (t.f _ _ s).l, z.mono t⟩⟩
  case ref a =>
    obtain ⟨a', vs, e, s, z⟩ := lstA_ok r hv h
    have e2 := rep_ref_inv r
    rw [e2] at e
    cases e
    refine ⟨a, vs, e2, z, s, fun H M t v' hk => ?_⟩
    obtain ⟨b, ws, e3, s3, z3⟩ := lstA_ok (d := .ref a) (v := .ref a) rep_ref v' hk
    cases e3
    exact ⟨ws, s3, z3⟩
theorem ai_enumL {elts : List Expr} {kk : Nat} (hm : X.mg "enumerate" = none) (ha : AA X [e] t) (hg : Gl X "enumerate" := by rfl) (hs : starEach [e] X.env = [(false, eval e X.env)] := by rfl) : AI X (.Tuple elts kk tpos) (.Call (.Name "enumerate" p) [e] [] pos) (aiEnumL t) :=
  pi_imp (pi_enum hg hm ha hs) fun σ H R ⟨ρ, M, Q, hr, hv, q, k⟩ => seqA hr hv q fun vs H1 ds M1 t1 r1 v1 q1 => by
    match ds, r1, q1 with
    | [d], r1, ⟨xs, h1, q1⟩ =>
      obtain ⟨v, e, rd⟩ := reps1 r1
      obtain ⟨a, ws, e1, z, s, hs⟩ := lst_stand rd v1 h1
      exact ⟨a, ws, by rw [e, e1], s, k _ H1 _ _ M1 t1 v1 q1 (iw_enum hs)⟩
def zipD (xs ys : List Dv) : List Dv := xs.zipWith pairD ys
theorem zipD_get {xs ys : List Dv} {i : Nat} {x y : Dv} (h : xs[i]? = some x) (h' : ys[i]? = some y) : (zipD xs ys)[i]? = some (pairD x y) := by simp [zipD, List.getElem?_zipWith, h, h']
theorem zipD_len (xs ys : List Dv) : (zipD xs ys).length = min xs.length ys.length := by simp [zipD]
theorem iw_zipL {a b : Addr} {xs ys : List Dv} {keep : Ms → Prop} {H1 : Hp} (h : ∀ H M, Tp K H1 H → View K M H → keep M → (∃ ws, SqL K H a ws ∧ Reps K H xs ws) ∧ ∃ ws, SqL K H b ws ∧ Reps K H ys ws) : IW K (Itz K a b) (zipD xs ys) keep H1 where
  go := fun i H M hi t v k => by
    rw [zipD_len] at hi
    obtain ⟨⟨ws, s, z⟩, us, s2, z2⟩ := h H M t v k
    obtain ⟨w, hw, _⟩ := z.get (i := i) (List.getElem?_eq_getElem (by omega))
    obtain ⟨u, hu, _⟩ := z2.get (i := i) (List.getElem?_eq_getElem (by omega))
    exact ⟨ws, us, w, u, s, s2, hw, hu⟩
  stop := fun H M t v k => by
    obtain ⟨⟨ws, s, z⟩, us, s2, z2⟩ := h H M t v k
    exact ⟨ws, us, s, s2, by rw [zipD_len, ← z.length, ← z2.length]; omega⟩
  yld := fun i H M x H' hi t v k y => by
    rw [zipD_len] at hi
    obtain ⟨⟨ws, s, z⟩, us, s2, z2⟩ := h H M t v k
    obtain ⟨w, hw, rw'⟩ := z.get (i := i) (List.getElem?_eq_getElem (by omega))
    obtain ⟨u, hu, ru⟩ := z2.get (i := i) (List.getElem?_eq_getElem (by omega))
    obtain ⟨T, x', z', e, hn, e2, y2, y3⟩ := y
    subst e e2
    have q1 := y2 ws s
    have q2 := y3 us s2
    rw [hw] at q1
    rw [hu] at q2
    cases q1
    cases q2
    exact ⟨_, zipD_get (List.getElem?_eq_getElem (by omega)) (List.getElem?_eq_getElem (by omega)), Tp.new hn, rep_pair hn rw' ru, v.new hn, fun a ha => upd_ne fun q => ha (q ▸ hn)⟩
theorem iw_zipT {a b : Addr} {xs ys : List Dv} {vs us : List V} {keep : Ms → Prop} {H1 : Hp} (z0 : Reps K H1 xs vs) (z1 : Reps K H1 ys us) (h : ∀ H, Tp K H1 H → SqT K H a vs) (h' : ∀ H, Tp K H1 H → SqT K H b us) : IW K (RZ.ItzT K a b) (zipD xs ys) keep H1 where
  go := fun i H M hi t v k => by
    rw [zipD_len] at hi
    obtain ⟨w, hw, _⟩ := z0.get (i := i) (List.getElem?_eq_getElem (by omega))
    obtain ⟨u, hu, _⟩ := z1.get (i := i) (List.getElem?_eq_getElem (by omega))
    exact ⟨vs, us, w, u, h H t, h' H t, hw, hu⟩
  stop := fun H M t v k => ⟨vs, us, h H t, h' H t, by rw [zipD_len, ← z0.length, ← z1.length]; omega⟩
  yld := fun i H M x H' hi t v k y => by
    rw [zipD_len] at hi
    obtain ⟨w, hw, rw'⟩ := (z0.mono t).get (i := i) (List.getElem?_eq_getElem (by omega))
    obtain ⟨u, hu, ru⟩ := (z1.mono t).get (i := i) (List.getElem?_eq_getElem (by omega))
    obtain ⟨T, x', z', e, hn, e2, y2, y3⟩ := y
    subst e e2
    have q1 := y2 vs (h _ t)
    have q2 := y3 us (h' _ t)
    rw [hw] at q1
    rw [hu] at q2
    cases q1
    cases q2
    exact ⟨_, zipD_get (List.getElem?_eq_getElem (by omega)) (List.getElem?_eq_getElem (by omega)), Tp.new hn, rep_pair hn rw' ru, v.new hn, fun a ha => upd_ne fun q => ha (q ▸ hn)⟩
def aiZip (t : RA) : RI := fun ρ M Q => t ρ M fun ds M1 => match ds with
  | [.tup xs, .tup ys] => Q (zipD xs ys) (fun _ => True) M1
  | [d, f] => onS (lstA d M1) fun xs => onS (lstA f M1) fun ys => Q (zipD xs ys) (fun M => lstA d M = some xs ∧ lstA f M = some ys) M1
  | _ => False
theorem ai_zip {elts : List Expr} {kk : Nat} (hm : X.mg "zip" = none) (ha : AA X [a, b] t) (hg : Gl X "zip" := by rfl) (hs : starEach [a, b] X.env = (false, eval a X.env) :: starEach [b] X.env := by rfl) (hpl : (backTo pos (starEach [b] X.env)).any (·.1) = false := by rfl) : AI X (.Tuple elts kk tpos) (.Call (.Name "zip" p) [a, b] [] pos) (aiZip t) :=
  pi_imp (RZ.pi_zipA hg hm ha hs hpl) fun σ H R ⟨ρ, M, Q, hr, hv, q, k⟩ => seqA hr hv q fun vs H1 ds M1 t1 r1 v1 q1 => by
    split at q1
    · next xs ys =>
      obtain ⟨v, w, e, rd, rd2⟩ := reps2 r1
      obtain ⟨a, us, e1, s, z⟩ := rep_tup_inv rd
      obtain ⟨b, ws, e2, s2, z2⟩ := rep_tup_inv rd2
      exact ⟨a, b, us, ws, by rw [e, e1, e2], .inr ⟨s, s2, k _ H1 _ _ M1 t1 v1 q1 (iw_zipT z z2 (fun H t => t.t _ _ s) fun H t => t.t _ _ s2)⟩⟩
    · next d f _ =>
      obtain ⟨xs, h1, q1⟩ := onS_ex q1
      obtain ⟨ys, h2, q1⟩ := onS_ex q1
      obtain ⟨v, w, e, rd, rd2⟩ := reps2 r1
      obtain ⟨a, us, e1, z, s, hs⟩ := lst_stand rd v1 h1
      obtain ⟨b, ws, e2, z2, s2, hs2⟩ := lst_stand rd2 v1 h2
      exact ⟨a, b, us, ws, by rw [e, e1, e2], .inl ⟨s, s2, k _ H1 _ _ M1 t1 v1 q1 (iw_zipL fun H M t v k => ⟨hs H M t v k.1, hs2 H M t v k.2⟩)⟩⟩
    · exact q1.elim
end
end HC
set_option maxHeartbeats 1000000
namespace HC
open PySem PySem.Spec L2 PyProof.Rows
theorem meets_enum_newB {v : Value} {o : Obj} {H : Heap → Prop} (B : Begins v o H) :
    Meets (Builtin.«enumerate.__new__» ⟨[.type "enumerate", v], []⟩) (fun _ R s => H s.heap ∧
      R (.ok (.ret (.ref (s.heap.push o).objs.size))) { s with heap := (s.heap.push o).push { cls := .type "enumerate", data := .fields #[.none, .bool false, .ref s.heap.objs.size, rawInt 0, .none, .none] } }) :=
  .of_wp fun prog w A R s h => by
    obtain ⟨hp, g, d, tk, os⟩ := s; obtain ⟨h1, h⟩ := h
    have hsub := sub_enumerate
    have q1 : ∀ {A' : Around} {E : Value → Shared → Prop} {Q : Value → Shared → Prop}, Q (.ref hp.objs.size) ⟨hp.push o, g, d, tk, os⟩ → wpAny (model prog w) A' (pyIter v) Q E ⟨hp, g, d, tk, os⟩ :=
      fun q => B.iter prog w _ _ ⟨hp, g, d, tk, os⟩ _ h1 q
    wp_walk using q1
    refine wpAny_stack_any fun st => wpAny_pure ?_
    split
    · rename_i c _ _ _ _ _
      cases (c == Value.type "enumerate")
      · wp_walk using q1
        exact ⟨_, rfl, h⟩
      · wp_walk using q1
        exact ⟨_, rfl, h⟩
    · wp_walk using q1
      exact ⟨_, rfl, h⟩
section
variable {prog : Program} {w : World} {A : Around} {E : Value → Shared → Prop} {s : Shared}
theorem call_enum_B {v : Value} {o : Obj} {H : Heap → Prop} {Q : Value → Shared → Prop} (B : Begins v o H) (h1 : H s.heap)
    (h : ∀ h', IsEnum h' (s.heap.objs.size + 1) s.heap.objs.size 0 .none → h'.get? s.heap.objs.size = some o → h'.objs.size = s.heap.objs.size + 2 →
      (∀ b o, s.heap.get? b = some o → h'.get? b = some o) → Q (.ref (s.heap.objs.size + 1)) { s with heap := h' }) :
    wpAny (model prog w) A (call (.type "enumerate") [v]) Q E s := by
  refine callType_new F.called_enumerate (by decide) (F.typeCall_enumerate_1 _) (F.newCall_enumerate_1 _) (fun obj => F.args_object_init_2 obj _) F.entry_enumerate_new
    (meets_enum_newB B) ⟨h1, ?_⟩
  have hz : (s.heap.push o).objs.size = s.heap.objs.size + 1 := Heap.size_push ..
  show _ ∧ _
  rw [hz]
  have he : IsEnum ((s.heap.push o).push { cls := .type "enumerate", data := .fields #[.none, .bool false, .ref s.heap.objs.size, rawInt 0, .none, .none] }) (s.heap.objs.size + 1) s.heap.objs.size 0 .none := by
    have := Heap.get?_push_size (s.heap.push o) (o := { cls := .type "enumerate", data := .fields #[.none, .bool false, .ref s.heap.objs.size, rawInt 0, .none, .none] }) rfl
    rw [hz] at this; exact this
  refine ⟨⟨_, he, rfl⟩, h _ he (Heap.get?_push_of_some _ (Heap.get?_push_size _ B.free)) (by rw [Heap.size_push, hz]) fun b o x => Heap.get?_push_of_some _ (Heap.get?_push_of_some _ x)⟩
end
def IteT (K : PySem.W.Frag) (a : Addr) : It :=
  ⟨fun i H => ∃ (xs : List V) (x : V), SqT K H a xs ∧ xs[i]? = some x, fun i H v H' => ∃ T x, v = .ref T ∧ H T = none ∧ H' = upd H T (.tup [.int (i : Nat), x]) ∧ ∀ xs, SqT K H a xs → xs[i]? = some x, fun i H => ∃ xs : List V, SqT K H a xs ∧ xs.length = i⟩
theorem turn_enumT {P : Program} {w : World} {K : PySem.W.Frag} {elts : List Expr} {kk : Nat} {tpos : Pos} (a e it : Addr) :
    Turn P w K (.Tuple elts kk tpos) (IteT K a) [e, it] e (fun i h => (∃ old, IsEnum h e it ((i : Nat) : Int) old) ∧ h.IsTupleIter it a i ∧ e ≠ it) where
  mem := by simp
  obj := fun i h st b hb => by
    obtain ⟨⟨old, he⟩, ⟨o, ho, hc, hd⟩, _⟩ := st
    have e' : b = e ∨ b = it := by simpa using hb
    rcases e' with z | z
    · rw [z]; exact ⟨_, he, fun v q => nomatch q⟩
    · rw [z]; exact ⟨o, ho, fun v q => by rw [hd] at q; cases q⟩
  keep := fun i h h' st k => let ⟨⟨old, he⟩, hi, hne⟩ := st; ⟨⟨old, k e (by simp) _ he⟩, hi.at fun o q => k it (by simp) o q, hne⟩
  item := by
    intro X hP hw hK hc i pins s σ H E I hf st hg
    subst hP hw hK
    obtain ⟨⟨old, he⟩, hit, hne⟩ := st
    obtain ⟨xs, x, hq, hx⟩ := hg
    obtain ⟨its, rv, p, hz⟩ := I.tuple hq
    obtain ⟨u, hu, ru⟩ := rv.get hx
    have hel : e < s.heap.objs.size := Heap.lt_size he
    have hil : it < s.heap.objs.size := by obtain ⟨_, q, _⟩ := hit; exact Heap.lt_size q
    have nae : e ≠ a := by
      intro q
      obtain ⟨o, ho, hcl, _⟩ := p
      rw [← q] at ho
      have := he.symm.trans ho
      cases this
      injection hcl with hc'
      exact absurd hc' (by decide)
    have nai : a ≠ it := by
      intro q
      obtain ⟨o, ho, hcl, _⟩ := p
      obtain ⟨o2, ho2, hc2, _⟩ := hit
      rw [q, ho2] at ho
      cases ho
      rw [hc2] at hcl
      injection hcl with hc'
      exact absurd hc' (by decide)
    have hil2 : i < its.toArray.size := by
      have := (List.getElem?_eq_some_iff.mp hu).1
      simpa using this
    refine wpAny_pyNext_enum_itemC (Draws.tuple (A := X.A.in1) (show X.A.in1.handled = none from I.ok.hd hc) it a nai its.toArray) he ⟨hit, p⟩ hil2 hne (by simp [hne, nae]) fun x' h' tk hx' ho hst' hT hsz hk => ?_
    obtain ⟨hit', _⟩ := hst'
    have ex : x' = u := by
      have h1 : its.toArray[i]? = some u := by simpa using hu
      rw [h1] at hx'
      exact (Option.some.inj hx').symm
    subst ex
    refine ⟨_, rfl, wpAny_letOwnedTupleGo_enum (s := { s with heap := h', toks := tk + 1 }) ho fun h'' he' sb => ?_⟩
    have hT2 : h''.get? s.heap.objs.size = some { cls := .type "tuple", data := .seq #[.int i tk, x'] } := (sb.2 _ (Nat.ne_of_gt hel)).trans hT
    have new : ObjOk X.prog X.w (upd H s.heap.objs.size (.tup [.int (i : Nat), x])) h'' s.heap.objs.size (.tup [.int (i : Nat), x]) :=
      ⟨by show 2 ≤ sizeLine; decide, [.int i tk, x'], .cons ⟨_, rfl⟩ (.cons ru .nil), ⟨_, hT2, rfl, _, rfl⟩⟩
    have I1 : Inv X pins σ (upd H s.heap.objs.size (.tup [.int (i : Nat), x])) { s with heap := h'', toks := tk + 1 } :=
      I.turnedNew (ch := [e, it]) (fun b ob hb q => (sb.2 b (fun z => hb (by simp [z]))).trans (hk b ob (fun z => hb (by simp [z])) (fun z => hb (by simp [z])) q)) hf (Nat.le_refl _) new
    refine ⟨.ref s.heap.objs.size, _, I1, rfl, ⟨_, x, rfl, I.hok.fresh (Nat.le_refl _), rfl, fun ys hy => by rw [I.tuple_inj hy hq]; exact hx⟩, ⟨⟨x', ?_⟩, hit'.at fun o q => (sb.2 it (Ne.symm hne)).trans q, hne⟩, fun b hb => ?_⟩
    · have e1 : ((i + 1 : Nat) : Int) = (i : Int) + 1 := by omega
      rw [e1]; exact he'
    · have hb' : b < s.heap.objs.size := by
        have e' : b = e ∨ b = it := by simpa using hb
        rcases e' with z | z
        · rw [z]; exact hel
        · rw [z]; exact hil
      rw [upd_ne (Nat.ne_of_lt hb')]
      exact (hf b hb).1
  done := by
    intro X hP hw hK hc i pins s σ H E I hf st hg
    subst hP hw hK
    obtain ⟨⟨old, he⟩, hit, hne⟩ := st
    obtain ⟨xs, hq, hx⟩ := hg
    obtain ⟨its, rv, p, hz⟩ := I.tuple hq
    obtain ⟨f0, f1, f2, f3, f4, f5⟩ := hf it (by simp)
    have hl := rv.length
    have nai : a ≠ it := by
      intro q
      obtain ⟨o, ho, hcl, _⟩ := p
      obtain ⟨o2, ho2, hc2, _⟩ := hit
      rw [q, ho2] at ho
      cases ho
      rw [hc2] at hcl
      injection hcl with hc'
      exact absurd hc' (by decide)
    have hst : (fun i (h : Heap) => h.IsTupleIter it a i ∧ h.IsTuple a its.toArray) its.toArray.size s.heap := ⟨by
      have e2 : its.toArray.size = i := by simp; omega
      rw [e2]; exact hit, p⟩
    refine wpAny_pyNext_enum_endD (Draws.tuple (prog := X.prog) (w := X.w) (A := X.A.in1) (show X.A.in1.handled = none from I.ok.hd hc) it a nai its.toArray) he hst fun h' eb => ⟨rfl, I.turned (t' := s.toks) (fun b o hb q => eb b o hb q) f0 f1 f3 f4 f5⟩
  self := fun A i s Q E st h => let ⟨⟨_, he⟩, _⟩ := st; wpAny_pyIter_enum he h
def iEnumA (K : PySem.W.Frag) (ta : TA) : TI := fun σ H R => ta σ H fun vs H1 => ∃ a xs, vs = [.ref a] ∧ ((SqL K H1 a xs ∧ R (Ite K a) H1) ∨ (SqT K H1 a xs ∧ R (IteT K a) H1))
theorem pi_enumA {X : Cx} {e : Expr} {ta : TA} {p pos tpos : Pos} {elts : List Expr} {kk : Nat} (hg : Gl X "enumerate") (hm : X.mg "enumerate" = none) (ha : PA X [e] ta) (hs : starEach [e] X.env = [(false, eval e X.env)] := by rfl) :
    PI X (.Tuple elts kk tpos) (.Call (.Name "enumerate" p) [e] [] pos) (iEnumA X.K ta) := by
  refine ⟨fun pins s σ H R I h => ?_⟩
  refine Call_ (ld_blt I hg hm boot_enumerate (PyProof.Rows.callWith_type1 (thn (ha.run pos pins s σ H _ I h) fun us s1 ⟨vs, H1, I1, r1, q1⟩ => ?_) hs rfl))
  obtain ⟨a, xs, ex, q1⟩ := q1
  subst ex
  cases r1 with
  | cons r rr =>
    cases rr
    cases r
    rcases q1 with ⟨hq, q⟩ | ⟨hq, q⟩
    · obtain ⟨its, rv, p', hz⟩ := I1.list hq
      refine call_enumerate_list p'.isList fun h' he hit hsz hk => wpAny_pyIter_enum he ?_
      have I2 : Inv X pins σ H1 { s1 with heap := h' } := I1.kept (t' := s1.toks) hk
      refine ⟨s1.heap.objs.size + 1, [s1.heap.objs.size + 1, s1.heap.objs.size], _, _, H1, rfl, I2, turn_enum a (s1.heap.objs.size + 1) s1.heap.objs.size, ⟨⟨.none, he⟩, hit, Nat.succ_ne_self _⟩, fun b hb => ?_, q⟩
      have e' : b = s1.heap.objs.size + 1 ∨ b = s1.heap.objs.size := by simpa using hb
      have hle : s1.heap.objs.size ≤ b := by
        rcases e' with z | z
        · rw [z]; exact Nat.le_add_right _ _
        · rw [z]; exact Nat.le_refl _
      exact I1.fpOk hle (I1.hok.fresh hle)
    · obtain ⟨its, rv, p', hz⟩ := I1.tuple hq
      refine call_enum_B (begins_tuple a its.toArray) (show s1.heap.IsTuple a its.toArray from p') fun h' he hit hsz hk => wpAny_pyIter_enum he ?_
      have I2 : Inv X pins σ H1 { s1 with heap := h' } := I1.kept (t' := s1.toks) hk
      refine ⟨s1.heap.objs.size + 1, [s1.heap.objs.size + 1, s1.heap.objs.size], _, _, H1, rfl, I2, turn_enumT a (s1.heap.objs.size + 1) s1.heap.objs.size, ⟨⟨.none, he⟩, ⟨_, hit, rfl, rfl⟩, Nat.succ_ne_self _⟩, fun b hb => ?_, q⟩
      have e' : b = s1.heap.objs.size + 1 ∨ b = s1.heap.objs.size := by simpa using hb
      have hle : s1.heap.objs.size ≤ b := by
        rcases e' with z | z
        · rw [z]; exact Nat.le_add_right _ _
        · rw [z]; exact Nat.le_refl _
      exact I1.fpOk hle (I1.hok.fresh hle)
section
variable {X : Cx} {e : Expr} {t : RA} {K : PySem.W.Frag} {p pos tpos : Pos}
theorem iw_enumT {a : Addr} {ds : List Dv} {vs : List V} {keep : Ms → Prop} {H1 : Hp} (z0 : Reps K H1 ds vs) (h : ∀ H, Tp K H1 H → SqT K H a vs) : IW K (IteT K a) (enumD ds) keep H1 where
  go := fun i H M hi t v k => by
    rw [enumD_len] at hi
    obtain ⟨w, hw, _⟩ := z0.get (List.getElem?_eq_getElem hi)
    exact ⟨vs, w, h H t, hw⟩
  stop := fun H M t v k => ⟨vs, h H t, by rw [enumD_len, ← z0.length]⟩
  yld := fun i H M x H' hi t v k y => by
    rw [enumD_len] at hi
    obtain ⟨w, hw, rw'⟩ := (z0.mono t).get (List.getElem?_eq_getElem hi)
    obtain ⟨T, x', e, hn, e2, y2⟩ := y
    subst e e2
    have := y2 vs (h _ t)
    rw [hw] at this
    cases this
    exact ⟨_, enumD_get (List.getElem?_eq_getElem hi), Tp.new hn, rep_pair hn rep_int rw', v.new hn, fun a ha => upd_ne fun q => ha (q ▸ hn)⟩
def aiEnum (t : RA) : RI := fun ρ M Q => t ρ M fun ds M1 => on1 ds fun d => onS (itemsA d M1) fun xs => Q (enumD xs) (fun M => itemsA d M = some xs) M1
theorem ai_enum {elts : List Expr} {kk : Nat} (hm : X.mg "enumerate" = none) (ha : AA X [e] t) (hg : Gl X "enumerate" := by rfl) (hs : starEach [e] X.env = [(false, eval e X.env)] := by rfl) : AI X (.Tuple elts kk tpos) (.Call (.Name "enumerate" p) [e] [] pos) (aiEnum t) :=
  pi_imp (pi_enumA hg hm ha hs) fun σ H R ⟨ρ, M, Q, hr, hv, q, k⟩ => seqA hr hv q fun vs H1 ds M1 t1 r1 v1 q1 => by
    obtain ⟨d, e0, q4⟩ := on1_ex q1
    obtain ⟨xs, h1, q5⟩ := onS_ex q4
    subst e0
    obtain ⟨v, e, rd⟩ := reps1 r1
    obtain ⟨a, ws, e1, z, hs⟩ := items_stand rd v1 h1
    rcases hs with ⟨s, hs⟩ | ⟨s, hs⟩
    · exact ⟨a, ws, by rw [e, e1], .inr ⟨s, k _ H1 _ _ M1 t1 v1 q5 (iw_enumT z hs)⟩⟩
    · exact ⟨a, ws, by rw [e, e1], .inl ⟨s, k _ H1 _ _ M1 t1 v1 q5 (iw_enum hs)⟩⟩
end
end HC
set_option maxHeartbeats 1000000
namespace HC
open PySem PySem.Spec L2 PyProof.Rows
def RowIt (k : Bool) (h : Heap) (it a : Addr) (i : Nat) : Prop := match k with | true => h.IsTupleIter it a i | false => h.IsListIter it a i
def RowAt (k : Bool) (h : Heap) (a : Addr) (items : Array Value) : Prop := match k with | true => h.IsTuple a items | false => h.IsList a items
def RowV (k : Bool) (K : PySem.W.Frag) (H : Hp) (a : Addr) (xs : List V) : Prop := match k with | true => SqT K H a xs | false => SqL K H a xs
def RowO (k : Bool) (a : Addr) : Obj := match k with
  | true => { cls := .type "tuple_iterator", data := .fields #[.ref a, .int 0 0] }
  | false => { cls := .type "list_iterator", data := .fields #[.ref a, .int 0 0] }
theorem row_draws {prog : Program} {w : World} {A : Around} (hh : A.handled = none) (k : Bool) (it a : Addr) (hne : a ≠ it) (items : Array Value) :
    Draws prog w A it [it, a] items.size (fun i v => items[i]? = some v) (fun i h => RowIt k h it a i ∧ RowAt k h a items) := by
  cases k
  · exact Draws.list hh it a hne items
  · exact Draws.tuple hh it a hne items
theorem row_begins (k : Bool) (a : Addr) (items : Array Value) : Begins (.ref a) (RowO k a) fun h => RowAt k h a items := by
  cases k
  · exact begins_list a items
  · exact begins_tuple a items
theorem RowIt.keep {k : Bool} {h h' : Heap} {it a : Addr} {i : Nat} (r : RowIt k h it a i) (q : ∀ o, h.get? it = some o → h'.get? it = some o) : RowIt k h' it a i := by
  cases k
  · exact Heap.IsListIter.at (h := h) r q
  · exact Heap.IsTupleIter.at (h := h) r q
theorem RowIt.first {k : Bool} {h : Heap} {it a : Addr} (q : h.get? it = some (RowO k a)) : RowIt k h it a 0 := by
  cases k
  · exact ⟨_, q, rfl, rfl⟩
  · exact ⟨_, q, rfl, rfl⟩
theorem RowIt.ob {k : Bool} {h : Heap} {it a : Addr} {i : Nat} (r : RowIt k h it a i) : ∃ o ar, h.get? it = some o ∧ o.data = .fields ar := by
  cases k
  · obtain ⟨o, e, _, d⟩ := r; exact ⟨o, _, e, d⟩
  · obtain ⟨o, e, _, d⟩ := r; exact ⟨o, _, e, d⟩
theorem row_inv {X : Cx} {pins : List (Addr × Obj)} {σ : L2.St} {H : Hp} {s : Shared} {a : Addr} {xs : List V} {k : Bool} (I : Inv X pins σ H s) (h : RowV k X.K H a xs) : ∃ its : List Value, Vals xs its ∧ RowAt k s.heap a its.toArray := by
  cases k
  · obtain ⟨its, r, p, _⟩ := I.list h
    exact ⟨its, r, p.isList⟩
  · obtain ⟨its, r, p, _⟩ := I.tuple h
    exact ⟨its, r, p⟩
theorem row_inj {X : Cx} {pins : List (Addr × Obj)} {σ : L2.St} {H : Hp} {s : Shared} {a : Addr} {xs ys : List V} {k : Bool} (I : Inv X pins σ H s) (h : RowV k X.K H a xs) (h' : RowV k X.K H a ys) : xs = ys := by
  cases k
  · exact I.list_inj h h'
  · exact I.tuple_inj h h'
theorem RowAt.lt {k : Bool} {h : Heap} {a : Addr} {items : Array Value} (r : RowAt k h a items) : a < h.objs.size := by
  cases k
  · obtain ⟨o, e, _⟩ := r; exact Heap.lt_size e
  · obtain ⟨o, e, _⟩ := r; exact Heap.lt_size e
abbrev zH2 (h : Heap) (o1 o2 : Obj) : Heap := (h.push o1).push o2
abbrev zH3 (h : Heap) (o1 o2 : Obj) : Heap := (zH2 h o1 o2).push { cls := .type "tuple", data := .seq #[.ref h.objs.size, .ref (h.push o1).objs.size] }
abbrev zH4 (h : Heap) (o1 o2 : Obj) : Heap := (zH3 h o1 o2).push { cls := .type "tuple", data := .seq #[.none, .none] }
abbrev zH5 (h : Heap) (o1 o2 : Obj) : Heap := (zH4 h o1 o2).push { cls := .type "zip", data := .fields #[.none, .bool false, .bool false, .ref (zH2 h o1 o2).objs.size, .ref (zH3 h o1 o2).objs.size] }
theorem meets_zip_newB {v1 v2 : Value} {o1 o2 : Obj} {P1 P2 : Heap → Prop} (B1 : Begins v1 o1 P1) (B2 : Begins v2 o2 P2) :
    Meets (Builtin.«zip.__new__» ⟨[.type "zip", v1, v2], []⟩) (fun _ R s => P1 s.heap ∧ P2 s.heap ∧
      R (.ok (.ret (.ref (zH4 s.heap o1 o2).objs.size))) { s with heap := zH5 s.heap o1 o2 }) :=
  .of_wp fun prog w A R s hyp => by
    obtain ⟨hp, g, d, tk, os⟩ := s
    obtain ⟨f1, f2, hyp⟩ := hyp
    have hsub := sub_zip
    have g1 : ∀ {A' : Around} {E : Value → Shared → Prop} {Q : Value → Shared → Prop}, Q (.ref hp.objs.size) ⟨hp.push o1, g, d, tk, os⟩ → wpAny (model prog w) A' (pyIter v1) Q E ⟨hp, g, d, tk, os⟩ :=
      fun q => B1.iter prog w _ _ ⟨hp, g, d, tk, os⟩ _ f1 q
    have g2 : ∀ {A' : Around} {E : Value → Shared → Prop} {Q : Value → Shared → Prop}, Q (.ref (hp.push o1).objs.size) ⟨(hp.push o1).push o2, g, d, tk, os⟩ → wpAny (model prog w) A' (pyIter v2) Q E ⟨hp.push o1, g, d, tk, os⟩ :=
      fun q => B2.iter prog w _ _ ⟨hp.push o1, g, d, tk, os⟩ _ (B2.keeps _ _ f2 fun b o e => Heap.get?_push_of_some _ e) q
    wp_walk using g1, g2
    exact ⟨_, rfl, hyp⟩
section
variable {prog : Program} {w : World} {A : Around} {E : Value → Shared → Prop} {s : Shared}
theorem call_zip_B {v1 v2 : Value} {o1 o2 : Obj} {P1 P2 : Heap → Prop} {Q : Value → Shared → Prop} (B1 : Begins v1 o1 P1) (B2 : Begins v2 o2 P2) (f1 : P1 s.heap) (f2 : P2 s.heap)
    (go : ∀ h', IsZip h' (s.heap.objs.size + 4) (s.heap.objs.size + 2) (s.heap.objs.size + 3) .none → IsPair h' (s.heap.objs.size + 2) (.ref s.heap.objs.size) (.ref (s.heap.objs.size + 1)) →
      IsPair h' (s.heap.objs.size + 3) .none .none → h'.get? s.heap.objs.size = some o1 → h'.get? (s.heap.objs.size + 1) = some o2 →
      (∀ c o, s.heap.get? c = some o → h'.get? c = some o) → Q (.ref (s.heap.objs.size + 4)) { s with heap := h' }) :
    wpAny (model prog w) A (call (.type "zip") [v1, v2]) Q E s := by
  refine callType_new F.called_zip (by decide) (F.typeCall_zip_2 _ _) (F.newCall_zip_2 _ _) (fun obj => F.args_object_init_3 obj _ _) F.entry_zip_new
    (meets_zip_newB B1 B2) ⟨f1, f2, ?_⟩
  have up : ∀ {h : Heap} {o' : Obj} {c : Addr} {o : Obj}, h.get? c = some o → (h.push o').get? c = some o := fun e => Heap.get?_push_of_some _ e
  have e1 : (s.heap.push o1).objs.size = s.heap.objs.size + 1 := Heap.size_push ..
  have e2 : (zH2 s.heap o1 o2).objs.size = s.heap.objs.size + 2 := (Heap.size_push ..).trans (by rw [e1])
  have e3 : (zH3 s.heap o1 o2).objs.size = s.heap.objs.size + 3 := (Heap.size_push ..).trans (by rw [e2])
  have e4 : (zH4 s.heap o1 o2).objs.size = s.heap.objs.size + 4 := (Heap.size_push ..).trans (by rw [e3])
  have a1 : (zH5 s.heap o1 o2).get? s.heap.objs.size = some o1 := up (up (up (up (Heap.get?_push_size _ B1.free))))
  have a2 : (zH5 s.heap o1 o2).get? (s.heap.push o1).objs.size = some o2 := up (up (up (Heap.get?_push_size _ B2.free)))
  have a3 : (zH5 s.heap o1 o2).get? (zH2 s.heap o1 o2).objs.size = some _ := up (up (Heap.get?_push_size _ rfl))
  have a4 : (zH5 s.heap o1 o2).get? (zH3 s.heap o1 o2).objs.size = some _ := up (Heap.get?_push_size _ rfl)
  have a5 : (zH5 s.heap o1 o2).get? (zH4 s.heap o1 o2).objs.size = some _ := Heap.get?_push_size _ rfl
  show _ ∧ _
  refine ⟨⟨_, a5, rfl⟩, ?_⟩
  rw [e1] at a2 a3
  rw [e2] at a3 a5
  rw [e3] at a4 a5
  rw [e4] at a5 ⊢
  exact go _ a5 a3 a4 a1 a2 fun c o e => up (up (up (up (up e))))
end
def ItzM (k m : Bool) (K : PySem.W.Frag) (a b : Addr) : It :=
  ⟨fun i H => ∃ (xs ys : List V) (x y : V), RowV k K H a xs ∧ RowV m K H b ys ∧ xs[i]? = some x ∧ ys[i]? = some y,
    fun i H v H' => ∃ T x y, v = .ref T ∧ H T = none ∧ H' = upd H T (.tup [x, y]) ∧ (∀ xs, RowV k K H a xs → xs[i]? = some x) ∧ ∀ ys, RowV m K H b ys → ys[i]? = some y,
    fun i H => ∃ xs ys : List V, RowV k K H a xs ∧ RowV m K H b ys ∧ i = min xs.length ys.length⟩
theorem turn_zipM {P : Program} {w : World} {K : PySem.W.Frag} {elts : List Expr} {kk : Nat} {tpos : Pos} {k m : Bool} {a b z TI TO i1 i2 : Addr} (S : ZipSep2 z TI TO i1 i2 [i1, a] [i2, b]) (na : a ≠ i1) (nb : b ≠ i2) :
    Turn P w K (.Tuple elts kk tpos) (ItzM k m K a b) [z, TI, TO, i1, i2] z (fun i h => IsZip h z TI TO .none ∧ IsPair h TI (.ref i1) (.ref i2) ∧ (∃ x y, IsPair h TO x y) ∧ RowIt k h i1 a i ∧ RowIt m h i2 b i) where
  mem := List.mem_cons_self ..
  obj := fun i h st c hc => by
    obtain ⟨r1, r2, ⟨x, y, r3⟩, t1, t2⟩ := st
    obtain ⟨o1, _, q1, d1⟩ := t1.ob
    obtain ⟨o2, _, q2, d2⟩ := t2.ob
    simp only [List.mem_cons, List.not_mem_nil, or_false] at hc
    rcases hc with rfl | rfl | rfl | rfl | rfl
    · exact ⟨_, r1, fun v e => nomatch e⟩
    · exact ⟨_, r2, fun v e => nomatch e⟩
    · exact ⟨_, r3, fun v e => nomatch e⟩
    · exact ⟨o1, q1, fun v e => by rw [d1] at e; cases e⟩
    · exact ⟨o2, q2, fun v e => by rw [d2] at e; cases e⟩
  keep := fun i h h' st kp => by
    obtain ⟨r1, r2, ⟨x, y, r3⟩, t1, t2⟩ := st
    exact ⟨kp z (by simp) _ r1, kp TI (by simp) _ r2, ⟨x, y, kp TO (by simp) _ r3⟩, t1.keep fun o e => kp i1 (by simp) o e, t2.keep fun o e => kp i2 (by simp) o e⟩
  item := by
    intro X hP hw hK hc i pins s σ H E I hf st hg
    subst hP hw hK
    obtain ⟨r1, r2, ⟨x0, y0, r3⟩, t1, t2⟩ := st
    obtain ⟨xs, ys, x, y, qa, qb, hx, hy⟩ := hg
    obtain ⟨us, va, pa⟩ := row_inv I qa
    obtain ⟨ws, vb, pb⟩ := row_inv I qb
    obtain ⟨u, hu, ru⟩ := va.get hx
    obtain ⟨v, hv, rv⟩ := vb.get hy
    have hh : X.A.in1.handled = none := I.ok.hd hc
    have lu : i < us.toArray.size := by
      have := (List.getElem?_eq_some_iff.mp hu).1
      simpa using this
    have lv : i < ws.toArray.size := by
      have := (List.getElem?_eq_some_iff.mp hv).1
      simpa using this
    refine wpAny_pyNext_zipD2_item S (row_draws hh k i1 a na us.toArray) (row_draws hh m i2 b nb ws.toArray) r1 r2 r3 ⟨t1, pa⟩ ⟨t2, pb⟩ lu lv fun x1 x2 h1 tk y1 y2 z1 p1 w1 w2 hT hsz same => ?_
    have e1 : x1 = u := by
      have e : us.toArray[i]? = some u := by simpa using hu
      rw [e] at y1
      exact (Option.some.inj y1).symm
    have e2 : x2 = v := by
      have e : ws.toArray[i]? = some v := by simpa using hv
      rw [e] at y2
      exact (Option.some.inj y2).symm
    subst e1 e2
    have lz : z < s.heap.objs.size := Heap.lt_size r1
    refine ⟨_, rfl, wpAny_letOwnedTupleGo_zip (s := { s with heap := h1, toks := tk }) z1 fun h2 z2 sb => ?_⟩
    have hT2 : h2.get? s.heap.objs.size = some { cls := .type "tuple", data := .seq #[x1, x2] } := (sb.2 _ (Nat.ne_of_gt lz)).trans hT
    have new : ObjOk X.prog X.w (upd H s.heap.objs.size (.tup [x, y])) h2 s.heap.objs.size (.tup [x, y]) :=
      ⟨show 2 ≤ sizeLine by decide, [x1, x2], .cons ru (.cons rv .nil), ⟨_, hT2, rfl, _, rfl⟩⟩
    have I1 : Inv X pins σ (upd H s.heap.objs.size (.tup [x, y])) { s with heap := h2, toks := tk } :=
      I.turnedNew (ch := [z, TI, TO, i1, i2]) (fun c o out e => by
        simp only [List.mem_cons, List.not_mem_nil, or_false, not_or] at out
        obtain ⟨c1, c2, c3, c4, c5⟩ := out
        exact (sb.2 c c1).trans (same c o c1 c3 c4 c5 e)) hf (Nat.le_refl _) new
    have sz : ∀ c, c ∈ [z, TI, TO, i1, i2] → c < s.heap.objs.size := fun c hcm => by
      obtain ⟨_, _, q1, _⟩ := t1.ob
      obtain ⟨_, _, q2, _⟩ := t2.ob
      simp only [List.mem_cons, List.not_mem_nil, or_false] at hcm
      rcases hcm with rfl | rfl | rfl | rfl | rfl
      · exact lz
      · exact Heap.lt_size r2
      · exact Heap.lt_size r3
      · exact Heap.lt_size q1
      · exact Heap.lt_size q2
    refine ⟨.ref s.heap.objs.size, _, I1, rfl, ⟨_, x, y, rfl, I.hok.fresh (Nat.le_refl _), rfl, fun l hl => by rw [row_inj I hl qa]; exact hx, fun l hl => by rw [row_inj I hl qb]; exact hy⟩,
      ⟨z2, (sb.2 _ S.TIz).trans (same _ _ S.TIz S.TITO S.TIi1 S.TIi2 r2), ⟨x1, x2, (sb.2 _ S.TOz).trans p1⟩, w1.1.keep fun o e => (sb.2 _ S.zi1.symm).trans e, w2.1.keep fun o e => (sb.2 _ S.zi2.symm).trans e⟩, fun c hcm => ?_⟩
    rw [upd_ne (Nat.ne_of_lt (sz c hcm))]
    exact (hf c hcm).1
  done := by
    intro X hP hw hK hc i pins s σ H E I hf st hg
    subst hP hw hK
    obtain ⟨r1, r2, ⟨x0, y0, r3⟩, t1, t2⟩ := st
    obtain ⟨xs, ys, qa, qb, hi⟩ := hg
    obtain ⟨us, va, pa⟩ := row_inv I qa
    obtain ⟨ws, vb, pb⟩ := row_inv I qb
    have hh : X.A.in1.handled = none := I.ok.hd hc
    have l1 : us.toArray.size = xs.length := by rw [List.size_toArray]; exact va.length.symm
    have l2 : ws.toArray.size = ys.length := by rw [List.size_toArray]; exact vb.length.symm
    refine wpAny_pyNext_zipD2_end S (row_draws hh k i1 a na us.toArray) (row_draws hh m i2 b nb ws.toArray) r1 r2 r3 ⟨t1, pa⟩ ⟨t2, pb⟩ (by omega) (by omega) (by omega) fun h1 tk same => ⟨rfl, I.turnedL (t' := tk) (ch := [z, TI, TO, i1, i2]) (fun c o out e => ?_) hf⟩
    simp only [List.mem_cons, List.not_mem_nil, or_false, not_or] at out
    obtain ⟨c1, c2, c3, c4, c5⟩ := out
    exact same c o c1 c3 c4 c5 e
  self := fun A i s Q E st h => wpAny_pyIter_zip st.1 h
def iZipM (K : PySem.W.Frag) (ta : TA) : TI := fun σ H R => ta σ H fun vs H1 => ∃ a b xs ys k m, vs = [.ref a, .ref b] ∧ RowV k K H1 a xs ∧ RowV m K H1 b ys ∧ R (ItzM k m K a b) H1
theorem off {n i j : Nat} (h : i ≠ j) : n + i ≠ n + j := fun e => h (Nat.add_left_cancel e)
theorem offL {n i b : Nat} (h : b < n) : n + i ≠ b := fun e => Nat.lt_irrefl n (Nat.lt_of_le_of_lt (Nat.le_add_right n i) (e ▸ h))
theorem out2 {x y z : Nat} (h : x ≠ y) (k : x ≠ z) : x ∉ [y, z] := fun e => by
  rcases List.mem_cons.mp e with e | e
  · exact h e
  · exact k (List.mem_singleton.mp e)
theorem sepN {n a b : Nat} (ha : a < n) (hb : b < n) : ZipSep2 (n + 4) (n + 2) (n + 3) n (n + 1) [n, a] [n + 1, b] where
  TIz := off (by decide)
  TOz := off (by decide)
  TITO := off (by decide)
  TIi1 := off (j := 0) (by decide)
  mem1 := List.mem_cons_self ..
  zf1 := out2 (off (j := 0) (by decide)) (offL ha)
  Tf1 := out2 (off (j := 0) (by decide)) (offL ha)
  TIi2 := off (by decide)
  mem2 := List.mem_cons_self ..
  zf2 := out2 (off (by decide)) (offL hb)
  Tf2 := out2 (off (by decide)) (offL hb)
  sep1_2 := out2 (off (i := 0) (by decide)) (offL (i := 0) hb)
  sep2_1 := out2 (off (j := 0) (by decide)) (offL ha)
theorem pi_zipM {X : Cx} {e e2 : Expr} {ta : TA} {p pos tpos : Pos} {elts : List Expr} {kk : Nat} (hg : Gl X "zip") (hm : X.mg "zip" = none) (ha : PA X [e, e2] ta)
    (hs : starEach [e, e2] X.env = (false, eval e X.env) :: starEach [e2] X.env := by rfl) (hpl : (backTo pos (starEach [e2] X.env)).any (·.1) = false := by rfl) :
    PI X (.Tuple elts kk tpos) (.Call (.Name "zip" p) [e, e2] [] pos) (iZipM X.K ta) := by
  refine ⟨fun pins s σ H R I hyp => ?_⟩
  refine Call_ (ld_blt I hg hm boot_zip (callWith_type1 (thn (ha.run pos pins s σ H _ I hyp) fun us s1 got => ?_) hs hpl))
  obtain ⟨vs, H1, I1, rel, a, b, xs, ys, k, m, rfl, qa, qb, q⟩ := got
  cases rel with
  | cons r rr =>
  cases rr with
  | cons r' rr =>
  cases rr
  cases r
  cases r'
  obtain ⟨us1, va, pa⟩ := row_inv I1 qa
  obtain ⟨us2, vb, pb⟩ := row_inv I1 qb
  refine call_zip_B (row_begins k a us1.toArray) (row_begins m b us2.toArray) pa pb fun h' z1 z2 z3 z4 z5 same => wpAny_pyIter_zip z1 ?_
  have I2 : Inv X pins σ H1 { s1 with heap := h' } := I1.kept (t' := s1.toks) same
  have free : ∀ c, c ∈ [s1.heap.objs.size + 4, s1.heap.objs.size + 2, s1.heap.objs.size + 3, s1.heap.objs.size, s1.heap.objs.size + 1] → FpOk X pins H1 c := fun c hcm => by
    have up : s1.heap.objs.size ≤ c := by
      simp only [List.mem_cons, List.not_mem_nil, or_false] at hcm
      rcases hcm with rfl | rfl | rfl | rfl | rfl
      · exact Nat.le_add_right _ _
      · exact Nat.le_add_right _ _
      · exact Nat.le_add_right _ _
      · exact Nat.le_refl _
      · exact Nat.le_add_right _ _
    exact I1.fpOk up (I1.hok.fresh up)
  have la := pa.lt
  have lb := pb.lt
  exact ⟨_, _, _, _, H1, rfl, I2, turn_zipM (sepN la lb) (Nat.ne_of_lt la) (Nat.ne_of_lt (Nat.lt_succ_of_lt lb)), ⟨z1, z2, ⟨_, _, z3⟩, RowIt.first z4, RowIt.first z5⟩, free, q⟩
section
variable {X : Cx} {a b : Expr} {t : RA} {K : PySem.W.Frag} {p pos tpos : Pos}
theorem iw_zipM {k m : Bool} {a b : Addr} {xs ys : List Dv} {keep : Ms → Prop} {H1 : Hp} (hyp : ∀ H M, Tp K H1 H → View K M H → keep M → (∃ ws, RowV k K H a ws ∧ Reps K H xs ws) ∧ ∃ ws, RowV m K H b ws ∧ Reps K H ys ws) : IW K (ItzM k m K a b) (zipD xs ys) keep H1 where
  go := fun i H M hi t v kp => by
    rw [zipD_len] at hi
    obtain ⟨⟨ws, s, z⟩, us, s2, z2⟩ := hyp H M t v kp
    obtain ⟨w, hw, _⟩ := z.get (i := i) (List.getElem?_eq_getElem (by omega))
    obtain ⟨u, hu, _⟩ := z2.get (i := i) (List.getElem?_eq_getElem (by omega))
    exact ⟨ws, us, w, u, s, s2, hw, hu⟩
  stop := fun H M t v kp => by
    obtain ⟨⟨ws, s, z⟩, us, s2, z2⟩ := hyp H M t v kp
    exact ⟨ws, us, s, s2, by rw [zipD_len, ← z.length, ← z2.length]⟩
  yld := fun i H M x H' hi t v kp y => by
    rw [zipD_len] at hi
    obtain ⟨⟨ws, s, z⟩, us, s2, z2⟩ := hyp H M t v kp
    obtain ⟨w, hw, rw'⟩ := z.get (i := i) (List.getElem?_eq_getElem (by omega))
    obtain ⟨u, hu, ru⟩ := z2.get (i := i) (List.getElem?_eq_getElem (by omega))
    obtain ⟨T, x', z', e, hn, e2, y2, y3⟩ := y
    subst e e2
    have q1 := y2 ws s
    have q2 := y3 us s2
    rw [hw] at q1
    rw [hu] at q2
    cases q1
    cases q2
    exact ⟨_, zipD_get (List.getElem?_eq_getElem (by omega)) (List.getElem?_eq_getElem (by omega)), Tp.new hn, rep_pair hn rw' ru, v.new hn, fun a ha => upd_ne fun q => ha (q ▸ hn)⟩
theorem row_stand {H1 : Hp} {M1 : Ms} {d : Dv} {v : V} {ds : List Dv} (r : Rep K H1 d v) (hv : View K M1 H1) (h : itemsA d M1 = some ds) :
    ∃ k a vs, v = .ref a ∧ RowV k K H1 a vs ∧ ∀ H M, Tp K H1 H → View K M H → itemsA d M = some ds → ∃ ws, RowV k K H a ws ∧ Reps K H ds ws := by
  obtain ⟨a, vs, e, z, hs⟩ := items_stand r hv h
  rcases hs with ⟨s, hs⟩ | ⟨s, hs⟩
  · exact ⟨true, a, vs, e, s, fun H M t _ _ => ⟨vs, hs H t, z.mono t⟩⟩
  · exact ⟨false, a, vs, e, s, fun H M t w kp => hs H M t w kp⟩
def aiZipX (t : RA) : RI := fun ρ M Q => t ρ M fun ds M1 => on2 ds fun d f => onS (itemsA d M1) fun xs => onS (itemsA f M1) fun ys => Q (zipD xs ys) (fun M => itemsA d M = some xs ∧ itemsA f M = some ys) M1
theorem ai_zipX {elts : List Expr} {kk : Nat} (hm : X.mg "zip" = none) (ha : AA X [a, b] t) (hg : Gl X "zip" := by rfl) (hs : starEach [a, b] X.env = (false, eval a X.env) :: starEach [b] X.env := by rfl) (hpl : (backTo pos (starEach [b] X.env)).any (·.1) = false := by rfl) : AI X (.Tuple elts kk tpos) (.Call (.Name "zip" p) [a, b] [] pos) (aiZipX t) :=
  pi_imp (pi_zipM hg hm ha hs hpl) fun σ H R ⟨ρ, M, Q, hr, hv, q, k⟩ => seqA hr hv q fun vs H1 ds M1 t1 r1 v1 q1 => by
    obtain ⟨d, f, e0, q2⟩ := on2_ex q1
    obtain ⟨xs, h1, q3⟩ := onS_ex q2
    obtain ⟨ys, h2, q4⟩ := onS_ex q3
    subst e0
    obtain ⟨v, w, e, rd, rd2⟩ := reps2 r1
    obtain ⟨k1, a, us, e1, s, hs⟩ := row_stand rd v1 h1
    obtain ⟨k2, b, ws, e2, s2, hs2⟩ := row_stand rd2 v1 h2
    exact ⟨a, b, us, ws, k1, k2, by rw [e, e1, e2], s, s2, k _ H1 _ _ M1 t1 v1 q4 (iw_zipM fun H M t v kp => ⟨hs H M t v kp.1, hs2 H M t v kp.2⟩)⟩
end
end HC
set_option maxHeartbeats 4000000
namespace HC
open PySem L2 PyProof.Rows
section
variable {X : Cx} {a b c e o tg : Expr} {ta tb tc te to : RE} {pos apos cpos p tpos : Pos} {K : PySem.W.Frag} {es : List Expr} {t : RA}
abbrev AXK := Value → List (Str × Dv) → Ms → Prop
abbrev ASp := List Dv → Ms → DK → Prop
def cSp (K : PySem.W.Frag) (asp : ASp) : Sp := fun vs H Q' _ => ∃ ds M Q, Reps K H ds vs ∧ View K M H ∧ asp ds M Q ∧ LkV K H Q Q'
abbrev FnA (P : Program) (w : World) (K : PySem.W.Frag) (mg : Str → Option Value) (base : Heap) (k : Nat) (f : Addr) (fd : FuncData) (ps : List Str) (asp : ASp) : Prop := FnOk P w K mg base CX0 k f fd ps (cSp K asp)
def aCall (asp : ASp) (t : RA) : RE := fun ρ M Q => t ρ M fun ds M1 => asp ds M1 Q
theorem acall_imp {asp : ASp} : ∀ σ H Q, cE K (aCall asp t) σ H Q → tCall (cSp K asp) [] E0 (cA K t) σ H Q := fun σ H Q' ⟨ρ, M, Q, hr, hv, q, k⟩ => seqA hr hv q fun vs H1 ds M1 t1 r1 v1 q1 =>
  ⟨ds, M1, Q, by rw [List.append_nil]; exact r1, v1, q1, k.up t1⟩
variable {x : Str} {f : Addr} {fd : FuncData} {ps : List Str} {asp : ASp} {k : Nat}
theorem ae_call (F : FnA X.prog X.w X.K X.mg X.base k f fd ps asp) (hr : Room k X.A) (hm : X.mg x = some (.ref f)) (hk : PySem.W.keepIn X.K (.ref f) = true) (hb : Binds X.K fd ps []) (ha : AA X (e :: es) t) (hg : Gl X x := by rfl)
    (hdb : (x == ("__debug__" : Str)) = false := by decide) (he : starEach (e :: es) X.env = (false, eval e X.env) :: starEach es X.env := by rfl) (hpl : (backTo pos (starEach es X.env)).any (·.1) = false := by rfl) : AE X (.Call (.Name x p) (e :: es) [] pos) (aCall asp t) :=
  pe_imp (pe_call F hr hg hm hk hb .nil pass0 ha hdb he hpl) acall_imp
theorem ae_call0 (F : FnA X.prog X.w X.K X.mg X.base k f fd ps asp) (hr : Room k X.A) (hm : X.mg x = some (.ref f)) (hk : PySem.W.keepIn X.K (.ref f) = true) (hb : Binds X.K fd ps []) (hg : Gl X x := by rfl)
    (hdb : (x == ("__debug__" : Str)) = false := by decide) : AE X (.Call (.Name x p) [] [] pos) (aCall asp aNil) :=
  pe_imp (pe_call0 F hr hg hm hk hb .nil pass0 hdb) fun σ H Q' ⟨ρ, M, Q, hr, hv, q, k⟩ => ⟨[], M, Q, Reps.nil, hv, q, k⟩
abbrev BX (P : Program) (w : World) (K : PySem.W.Frag) (mg : Str → Option Value) (base : Heap) (N : List Str) (qual : Str) (st : Stmt) (f : Addr) (cdv : Value) (A : Around) (outer : List Env) (s : Shared) (H : Hp) (E : XK) : Cx := (cxOf CX0 P w K mg base N qual (defScope st) f cdv A outer s H E).nox
def retD (Q : DK) : Ends' := { nx := fun _ M' => ∃ M'', Sub M'' M' ∧ Q .non M'', rt := fun d M' => ∃ M'', Sub M'' M' ∧ Q d M'' }
theorem fnA {P : Program} {w : World} {mg : Str → Option Value} {base : Heap} {qual : Str} {st : Stmt} {N : List Str} {t : RS} (F : Fun K x qual st f fd) (S : FnScope N ps (defScope st)) (len : ∀ ds M Q, asp ds M Q → ds.length = ps.length)
    (body : ∀ (cdv : Value) (A : Around) (outer : List Env) (s : Shared) (H : Hp) (E : XK), Room k (A.deeper (envOfC qual (defScope st) s.heap.objs.size f cdv)) → ASs (BX P w K mg base N qual st f cdv A outer s H E) (defBody st) t)
    (spec : ∀ ds M Q, asp ds M Q → t (retD Q) (startA N.length ds) M) : FnA P w K mg base (k + 1) f fd ps asp := by
  refine F.ok S (fun vs H Q' E ⟨ds, M, Q, r, _, q, _⟩ => by rw [← r.length]; exact len ds M Q q) fun cdv A outer s H vs Q' E hr ⟨ds, M, Q, r, hv, q, kk⟩ => ?_
  refine ⟨_, body cdv A outer s H E hr, startA N.length ds, M, retD Q, repE_start r, hv, spec ds M Q q, ?_, ?_, ?_, ?_⟩
  · rintro σ H' ρ M' tp _ v ⟨M'', sb, q'⟩
    exact kk _ _ _ M'' tp rep_non (v.sub sb) q'
  · rintro v H' d M' tp rd vv ⟨M'', sb, q'⟩
    exact kk _ _ _ M'' tp rd (vv.sub sb) q'
  · rintro _ _ _ _ _ _ _ h
    exact h.elim
  · rintro _ _ _ _ _ _ _ h
    exact h.elim
end
end HC
namespace HC
open PySem L2 PyProof.Rows
section
variable {X : Cx} {a b c e : Expr} {ta tb tc te : RE} {pos : Pos}
theorem ae_chain2 {op op' : CmpOp} {r r' : R2} {ar ar' : AR2} (ho : OpR X (compareOp op) r) (ho' : OpR X (compareOp op') r') (h : Ab2 X.K r ar) (h' : Ab2 X.K r' ar') (ha : AE X a ta) (hb : AE X b tb) (hc : AE X c tc) (hm : lastMarks [op, op'] [b, c] = false := by with_unfolding_all rfl) : AE X (.Compare a [op, op'] [b, c] pos) (aChain ar ar' ta tb tc) :=
  pe_imp (pe_chain ho ho' ha hb hc hm) (chain_imp h h')
theorem at_chain2 {op op' : CmpOp} {r r' : R2} {ar ar' : AR2} (ho : OpR X (compareOp op) r) (ho' : OpR X (compareOp op') r') (h : Ab2 X.K r ar) (h' : Ab2 X.K r' ar') (ha : AE X a ta) (hb : AE X b tb) (hc : AE X c tc) (hm : lastMarks [op, op'] [b, c] = false := by with_unfolding_all rfl) : AT X (.Compare a [op, op'] [b, c] pos) (aB (aChain ar ar' ta tb tc)) :=
  pt_imp (pt_chain ho ho' ha hb hc hm) fun σ H Q' h0 => by
    obtain ⟨ρ, M, Q, hr, hv, q, k⟩ := h0
    exact chain_imp h h' σ H _ ⟨ρ, M, _, hr, hv, q, fun v H1 d M1 t1 r1 v1 q1 => by
      obtain ⟨b, e, q1⟩ := onB_ex q1
      exact ⟨b, by subst e; exact rep_bl_inv r1, k b H1 M1 t1 v1 q1⟩⟩
theorem pgt_name (i : Nat) {x : Str} (hN : X.N.Nodup) (hi : X.N[i]? = some x := by rfl) (hx : Loc X.env.scope x := by first | exact .inl rfl | exact .inr rfl) (hf : X.fn x = true ∨ X.env.scope.names.lookup x = some .local := by first | exact .inr rfl | exact .inl rfl) : PG X (.Name x pos) (Tg.g X.K (.nm i)) := by
  have h := pg_name (pos := pos) hN hi hx hf
  have e : Tg.g X.K (.nm i) = gName i := by simp only [Tg.g]
  rw [e]; exact h
def PGTs (X : Cx) (es : List Expr) (ts : List Tg) : Prop := PGs X es (Tg.gs X.K ts) ∧ (assignEach es X.env).length = ts.length
theorem pgts_nil : PGTs X [] [] := by
  refine ⟨?_, rfl⟩
  have e : Tg.gs X.K [] = gNil := by simp only [Tg.gs]
  rw [e]; exact pgs_nil
theorem pgts_cons {es : List Expr} {t : Tg} {ts : List Tg} (h : PG X e (Tg.g X.K t)) (hs : PGTs X es ts) (he : (assignEach (e :: es) X.env).map (·.2) = assign e X.env :: (assignEach es X.env).map (·.2) := by rfl) : PGTs X (e :: es) (t :: ts) := by
  refine ⟨?_, ?_⟩
  · have q : Tg.gs X.K (t :: ts) = gCons (Tg.g X.K t) (Tg.gs X.K ts) := by simp only [Tg.gs]
    rw [q]; exact pgs_cons h hs.1 he
  · have := congrArg List.length he
    simp only [List.length_map, List.length_cons] at this
    rw [this, hs.2]; rfl
theorem pgt_tup {es : List Expr} {ts : List Tg} {k : Nat} (hc : X.calm = true) (h : PGTs X es ts) (hst : (assignEach es X.env).findIdx? (·.1) = none := by rfl) : PG X (.Tuple es k pos) (Tg.g X.K (.tp ts)) := by
  have e : Tg.g X.K (.tp ts) = fun v σ H Q => gTup X.K ts.length (Tg.gs X.K ts) v σ H Q ∨ gLst X.K ts.length (Tg.gs X.K ts) v σ H Q := by simp only [Tg.g]
  rw [e]
  exact pg_or (pg_tup hc h.1 h.2 hst) (pg_lst hc h.1 h.2 hst)
end
end HC
namespace HC
open PySem L2 PyProof.Rows
theorem law_end {K : PySem.W.Frag} {H : Hp} {a : Addr} {ns : List Int} {sp : ASp} {E : XK} (hl : ns.length ≤ 63) (hO : Only H) (hS : SqL K H a (ns.map V.int)) (h : ∀ ns : List Int, ns.length ≤ 63 → sp [.rol (ns.map Dv.int)] (fun _ => none) (fun d _ => d = .bl true)) :
    cSp K sp [.ref a] H (fun v _ => v = .bl true) E := by
  have hF : SqF K H a (ns.map V.int) := by
    rcases hS with (q | ⟨o, q⟩) | q
    · rcases hO a with z | ⟨o, xs, z⟩
      · rw [q] at z; cases z
      · rw [q] at z; cases z
    · exact .inl ⟨o, q⟩
    · exact .inr (.inr q)
  refine ⟨[.rol (ns.map Dv.int)], fun _ => none, fun d _ => d = .bl true, Reps.cons ?_ Reps.nil, (fun a c e => nomatch e : View K (fun _ => none) H), h ns hl, ?_⟩
  · simp only [Rep]
    exact ⟨a, _, rfl, hF, Reps.of_ints ns⟩
  · rintro v H' d M' _ r _ rfl
    exact rep_bl_inv r
end HC
namespace HC
open PySem L2
theorem subE_nil : SubE [] [] = True := rfl
theorem subE_none (r : Env') (x : Option Dv) (r' : Env') : SubE (none :: r) (x :: r') = SubE r r' := by cases x <;> rfl
theorem subE_some (d : Dv) (r : Env') (y : Option Dv) (r' : Env') : SubE (some d :: r) (y :: r') = (y = some d ∧ SubE r r') := by cases y <;> rfl
theorem sub_iff (M M' : Ms) : Sub M M' = ∀ a c, M a = some c → M' a = some c := rfl
section
variable {M : Ms} {p : Addr} {xs : List Dv}
theorem lenA_l (h : M p = some (.lst xs)) : lenA (.ref p) M = some xs.length := by simp [lenA, itemsA, h]
theorem itemsA_l (h : M p = some (.lst xs)) : itemsA (.ref p) M = some xs := by simp [itemsA, h]
theorem lstA_l (h : M p = some (.lst xs)) : lstA (.ref p) M = some xs := by simp [lstA, h]
theorem lstC_l (h : M p = some (.lst xs)) : lstC (M p) = some xs := by simp [lstC, h]
theorem itemsA_r : itemsA (.ref p) M = lstC (M p) := by
  simp only [itemsA, lstC] <;> (cases M p with
    | none => rfl
    | some c => cases c <;> rfl)
theorem lenA_r : lenA (.ref p) M = (lstC (M p)).map List.length := by simp only [lenA, itemsA_r]
theorem lstA_r : lstA (.ref p) M = lstC (M p) := itemsA_r
theorem lstC_s : lstC (some (.lst xs)) = some xs := rfl
theorem tyM_list (h : M p = some (.lst xs)) : tyM "list" (.ref p) M := by simp [tyM, h]
theorem tyM_dict {kvs : List (Key × Dv)} (h : M p = some (.dic kvs)) : tyM "dict" (.ref p) M := by simp [tyM, h]
theorem retEnd {Q : DK} {d : Dv} {M : Ms} (h : Q d M) : (retD Q).rt d M := ⟨M, Sub.refl M, h⟩
theorem retSub {Q : DK} {d : Dv} {M M' : Ms} (s : Sub M M') (h : Q d M) : (retD Q).rt d M' := ⟨M, s, h⟩
theorem atI_0 {α : Type} (x : α) (xs : List α) : atI (x :: xs) 0 = some x := by simp [atI, ixN]
theorem ixN_0 (n : Nat) (h : 0 < n) : ixN n 0 = some 0 := by simp [ixN, h]
theorem atI_nat {α : Type} {xs : List α} {i : Nat} {x : α} (h : xs[i]? = some x) : atI xs (i : Int) = some x := by
  have hl := (List.getElem?_eq_some_iff.mp h).1
  have he : xs[i] = x := (List.getElem?_eq_some_iff.mp h).2
  simp [atI, ixN, hl, he]
theorem ixN_nat {n i : Nat} (h : i < n) : ixN n (i : Int) = some i := by simp [ixN, h]
end
theorem dec_T {p : Prop} {inst : Decidable p} (h : p) : @decide p inst = true := decide_eq_true h
theorem dec_F {p : Prop} {inst : Decidable p} (h : ¬ p) : @decide p inst = false := decide_eq_false h
theorem lt_line {n : Nat} (h : n < 1000000) : n < sizeLine := Nat.lt_trans h (by decide)
theorem le_line {n : Nat} (h : n ≤ 1000000) : n ≤ sizeLine := Nat.le_trans h (by decide)
abbrev dn (n : Nat) : Dv := .int (n : Int)
section
variable {M : Ms} {D p : Addr} {ρ : Env'} {keep : Ms → Prop} {tg : Tg} {own : List Nat} {tt : RT} {te : RE} {Q : Ms → Prop} {N : Ms → Prop}
theorem keep_ne {xs : List Dv} {c : Cell} (h : M p = some (.lst xs)) (hD : M D = none) : itemsA (.ref p) (mup M D c) = some xs := by
  rw [itemsA_r, mup_ne (ne_of_new h hD), h]; rfl
theorem keepL_ne {xs : List Dv} {c : Cell} (h : M p = some (.lst xs)) (hD : M D = none) : lstA (.ref p) (mup M D c) = some xs := keep_ne h hD
theorem lcEnd {acc : List Dv} {y : Dv} (h : acc.length < sizeLine ∧ N (mup M D (.lst (acc ++ [y])))) : ∃ acc', (mup M D (.lst acc)) D = some (.lst acc') ∧ acc'.length < sizeLine ∧ wkM N (mup (mup M D (.lst acc)) D (.lst (acc' ++ [y]))) :=
  ⟨acc, mup_same, h.1, _, Sub.refl _, by rw [mup_mup]; exact h.2⟩
theorem lcW_inv {ds : List Dv} (P : Nat → Ms → Prop) (h0 : P 0 M) (hk : ∀ i M, i ≤ ds.length → P i M → keep M) (hs : ∀ i d M, ds[i]? = some d → P i M → lcT tg own tt te ρ D d (P (i + 1)) M) (hd : ∀ M, P ds.length M → Q M) : lcW keep tg own tt te ρ D Q ds M := by
  have main : ∀ (n i : Nat), i + n = ds.length → ∀ M, P i M → lcW keep tg own tt te ρ D Q (ds.drop i) M := by
    intro n
    induction n with
    | zero =>
      intro i hi M p
      have e : i = ds.length := by omega
      subst e
      rw [List.drop_length, lcW_eqn]
      exact ⟨hk _ _ (Nat.le_refl _) p, hd _ p⟩
    | succ n ih =>
      intro i hi M p
      have hlt : i < ds.length := by omega
      rw [drop_cons (List.getElem?_eq_getElem hlt), lcW_eqc]
      exact ⟨hk _ _ (by omega) p, P (i + 1), fun M1 p1 => ih (i + 1) (by omega) M1 p1, hs i _ M (List.getElem?_eq_getElem hlt) p⟩
  simpa using main ds.length 0 (by omega) M h0
theorem lcW_idx {ds : List Dv} (f : Nat → Dv) (hk : ∀ acc, keep (mup M D (.lst acc))) (hl : ds.length ≤ sizeLine)
    (ht : ∀ i d, ds[i]? = some d → ∀ (acc : List Dv) (N : Ms → Prop), acc.length < sizeLine ∧ N (mup M D (.lst (acc ++ [f i]))) → lcT tg own tt te ρ D d N (mup M D (.lst acc)))
    (q : Q (mup M D (.lst ((List.range ds.length).map f)))) : lcW keep tg own tt te ρ D Q ds (mup M D (.lst [])) := by
  refine lcW_inv (fun i M' => M' = mup M D (.lst ((List.range i).map f))) rfl (fun i M' _ e => by subst e; exact hk _) (fun i d M' hd e => ?_) fun M' e => by subst e; exact q
  subst e
  have hi := (List.getElem?_eq_some_iff.mp hd).1
  refine ht i d hd _ _ ⟨by simp; omega, ?_⟩
  rw [List.range_succ, List.map_append]
  rfl
theorem rangeA_get {lo : Int} {n i : Nat} {d : Dv} (h : (rangeA lo n)[i]? = some d) : i < n ∧ d = .int (lo + (i : Int)) := by
  unfold rangeA at h
  rw [List.getElem?_map] at h
  by_cases hi : i < n
  · rw [List.getElem?_range hi] at h
    simp at h
    exact ⟨hi, h.symm⟩
  · rw [List.getElem?_eq_none (by simpa using hi)] at h
    cases h
theorem rangeA_len {lo : Int} {n : Nat} : (rangeA lo n).length = n := by simp [rangeA]
theorem enumD_get' {ds : List Dv} {i : Nat} {d : Dv} (h : (enumD ds)[i]? = some d) : ∃ f, ds[i]? = some f ∧ d = pairD (dn i) f := by
  have hi := (List.getElem?_eq_some_iff.mp h).1
  rw [enumD_len] at hi
  have := enumD_get (List.getElem?_eq_getElem hi)
  rw [this] at h
  exact ⟨_, List.getElem?_eq_getElem hi, (Option.some.inj h).symm⟩
theorem zipD_get' {xs ys : List Dv} {i : Nat} {d : Dv} (h : (zipD xs ys)[i]? = some d) : ∃ x y, xs[i]? = some x ∧ ys[i]? = some y ∧ d = pairD x y := by
  have hi := (List.getElem?_eq_some_iff.mp h).1
  rw [zipD_len] at hi
  have h1 : i < xs.length := by omega
  have h2 : i < ys.length := by omega
  have := zipD_get (List.getElem?_eq_getElem h1) (List.getElem?_eq_getElem h2)
  rw [this] at h
  exact ⟨_, _, List.getElem?_eq_getElem h1, List.getElem?_eq_getElem h2, (Option.some.inj h).symm⟩
theorem atI_some {α : Type} {xs : List α} {v : Int} (h0 : 0 ≤ v) (h1 : v < xs.length) : ∃ d, d ∈ xs ∧ atI xs v = some d := by
  obtain ⟨n, rfl⟩ := Int.eq_ofNat_of_zero_le h0
  have hn : n < xs.length := by omega
  exact ⟨xs[n], List.getElem_mem hn, atI_nat (List.getElem?_eq_getElem hn)⟩
theorem dn_inj {a b : Nat} : dn a = dn b ↔ a = b := by
  constructor
  · intro h
    injection h with h
    omega
  · rintro rfl; rfl
end
theorem mup_comm {M : Ms} {a b : Addr} {c d : Cell} (h : a ≠ b) : mup (mup M a c) b d = mup (mup M b d) a c := by
  funext x
  unfold mup
  by_cases h1 : x = a
  · subst h1; simp [h]
  · simp [h1]
theorem mup_none {M : Ms} {a q : Addr} {c : Cell} (h : mup M a c q = none) : q ≠ a ∧ M q = none := by
  by_cases e : q = a
  · subst e; rw [mup_same] at h; cases h
  · rw [mup_ne e] at h; exact ⟨e, h⟩
theorem wk_of {N : Env' → Ms → Prop} {ρ : Env'} {M : Ms} (h : N ρ M) : wk N ρ M := ⟨ρ, M, SubE.refl ρ, Sub.refl M, h⟩
theorem pot_new {M : Ms} {p q : Addr} {c c2 l : Cell} (hq : mup M p c q = none) : Sub (mup M p c2) (mup (mup (mup M p c) q l) p c2) := by
  obtain ⟨h1, h2⟩ := mup_none hq
  rw [mup_comm h1, mup_mup]
  exact Sub.new (by rw [mup_ne h1]; exact h2)
def PotAt (M0 : Ms) (p : Addr) (pot : List Int) (M' : Ms) : Prop := M' p = some (.lst (pot.map Dv.int)) ∧ ∀ c, Sub (mup M0 p c) (mup M' p c)
theorem PotAt.first {M0 : Ms} {p : Addr} {pot : List Int} : PotAt M0 p pot (mup M0 p (.lst (pot.map Dv.int))) := ⟨mup_same, fun c => by rw [mup_mup]; exact Sub.refl _⟩
theorem PotAt.sub {M0 M1 M2 : Ms} {p : Addr} {pot : List Int} (h : PotAt M0 p pot M1) (s : Sub M1 M2) : PotAt M0 p pot M2 :=
  ⟨s p _ h.1, fun c => (h.2 c).trans (Sub.both s)⟩
theorem PotAt.new {M0 M1 : Ms} {p q : Addr} {pot : List Int} {l : Cell} (h : PotAt M0 p pot M1) (hq : M1 q = none) : PotAt M0 p pot (mup M1 q l) := h.sub (Sub.new hq)
theorem PotAt.put {M0 M1 : Ms} {p : Addr} {pot pot2 : List Int} (h : PotAt M0 p pot M1) : PotAt M0 p pot2 (mup M1 p (.lst (pot2.map Dv.int))) :=
  ⟨mup_same, fun c => by rw [mup_mup]; exact h.2 c⟩
theorem PotAt.fin {M0 M1 : Ms} {p : Addr} {pot : List Int} (h : PotAt M0 p pot M1) : Sub (mup M0 p (.lst (pot.map Dv.int))) M1 := by
  have := h.2 (.lst (pot.map Dv.int))
  rw [mup_self h.1] at this
  exact this
end HC
set_option maxHeartbeats 1000000
namespace HC
open PySem L2 PyProof.Rows
section
variable {X : Cx} {pos : Pos} {K : PySem.W.Frag}
def aPairs : List (RE × RE) → Env' → Ms → (List (Dv × Dv) → Ms → Prop) → Prop
  | [], _, M, Q => Q [] M
  | (tk, tv) :: r, ρ, M, Q => tk ρ M fun x M1 => tv ρ M1 fun y M2 => aPairs r ρ M2 fun ps M3 => Q ((x, y) :: ps) M3
def keysP : List (Dv × Dv) → Option (List (Key × Dv))
  | [] => some []
  | (x, y) :: r => (keyD x).bind fun k => (keysP r).map fun z => (k, y) :: z
def mergeA (kds more : List (Key × Dv)) : List (Key × Dv) := more.foldl (fun acc kv => putA acc kv.1 kv.2) kds
def aDisp (ts : List (RE × RE)) : RE := fun ρ M Q => ∀ p, M p = none → aPairs ts ρ (mup M p (.dic [])) fun ps M2 => M2 p = some (.dic []) ∧ onS (keysP ps) fun kds => kds.length ≤ 15 ∧ Q (.ref p) (mup M2 p (.dic (mergeA [] kds)))
def ADs (X : Cx) (pos : Pos) (keys : List (Option Expr)) (values : List Expr) (ts : List (RE × RE)) : Prop := PPs X pos keys values (ts.map fun z => (cE X.K z.1, cE X.K z.2))
theorem app_nil : ADs X pos [] [] [] := pps_nil
theorem app_cons {k v : Expr} {ks : List (Option Expr)} {vs : List Expr} {tk tv : RE} {ts : List (RE × RE)} (hk : AE X k tk) (hv : AE X v tv) (hr : ADs X pos ks vs ts) : ADs X pos (some k :: ks) (v :: vs) ((tk, tv) :: ts) := pps_cons hk hv hr
abbrev RP (K : PySem.W.Frag) (H : Hp) : List (Dv × Dv) → List (V × V) → Prop := Paired fun p q => Rep K H p.1 q.1 ∧ Rep K H p.2 q.2
theorem rp_mono {H H' : Hp} {dps : List (Dv × Dv)} {ps : List (V × V)} (h : RP K H dps ps) (t : Tp K H H') : RP K H' dps ps := Paired.mapP h fun _ _ z => ⟨z.1.mono t, z.2.mono t⟩
theorem pairs_ok : ∀ {ts : List (RE × RE)} {ρ : Env'} {σ : L2.St} {M : Ms} {H : Hp} {Q : List (Dv × Dv) → Ms → Prop} {Q' : List (V × V) → Hp → Prop}, RepE K H ρ σ → View K M H → aPairs ts ρ M Q →
    (∀ ps H' dps M', Tp K H H' → RP K H' dps ps → View K M' H' → Q dps M' → Q' ps H') → tPairs (ts.map fun z => (cE K z.1, cE K z.2)) σ H Q'
  | [], _, _, _, H, _, _, _, hv, q, k => k [] H [] _ (Tp.refl H) .nil hv q
  | (tk, tv) :: ts, _, _, _, _, _, _, hr, hv, q, k => seqE hr hv q fun x H1 dx M1 t1 r1 v1 q1 => seqE (hr.mono t1) v1 q1 fun y H2 dy M2 t2 r2 v2 q2 =>
    pairs_ok (hr.mono (t1.trans t2)) v2 q2 fun ps H3 dps M3 t3 rp v3 q3 => k _ H3 ((dx, dy) :: dps) M3 ((t1.trans t2).trans t3) (.cons ⟨r1.mono (t2.trans t3), r2.mono t3⟩ rp) v3 q3
theorem keysP_ok {H : Hp} : ∀ {dps : List (Dv × Dv)} {ps : List (V × V)} {kds : List (Key × Dv)}, RP K H dps ps → keysP dps = some kds → ∃ kvs : List (Key × V), ps = kvs.map (fun kv => (kV kv.1, kv.2)) ∧ KP K H Key kds kvs
  | [], _, _, r, h => by cases r; cases h; exact ⟨[], rfl, .nil⟩
  | (x, y) :: dps, _, kds, r, h => by
    cases r with
    | @cons a b as bs r1 r2 =>
    obtain ⟨v, w⟩ := b
    rw [keysP] at h
    cases e : keyD x with
    | none => rw [e] at h; cases h
    | some kk =>
      rw [e] at h
      cases e2 : keysP dps with
      | none => rw [e2] at h; cases h
      | some z =>
        rw [e2] at h
        cases h
        obtain ⟨kvs, e3, r3⟩ := keysP_ok r2 e2
        have e4 : v = kV kk := keyD_ok r1.1 e
        exact ⟨(kk, w) :: kvs, by rw [e3, e4]; rfl, .cons ⟨rfl, r1.2⟩ r3⟩
theorem merge_ok {H : Hp} : ∀ {kds : List (Key × Dv)} {kvs : List (Key × V)} {k0 : List (Key × Dv)} {v0 : List (Key × V)}, KP K H Key kds kvs → KP K H Key k0 v0 → KP K H Key (mergeA k0 kds) (mergeK v0 kvs)
  | _, _, _, _, .nil, z => z
  | (k1, d1) :: kds, (k2, v1) :: kvs, k0, v0, .cons ⟨e, r⟩ t, z => by
    have e' : k1 = k2 := e
    subst e'
    exact merge_ok (k0 := putA k0 k1 d1) (v0 := putK v0 k1 v1) t (kp_put r z)
theorem ae_disp {keys : List (Option Expr)} {values : List Expr} {ts : List (RE × RE)} (h : ADs X pos keys values ts) (hall : keys.all (·.isSome) = true) (hl : keys.length = values.length) (h0 : keys ≠ [])
    (h15 : keys.length ≤ 15) : AE X (.Dict keys values pos) (aDisp ts) :=
  pe_imp (pe_disp h hall hl h0 h15) fun σ H Q' ⟨ρ, M, Q, hr, hv, q, k⟩ p hp => by
    have t0 : Tp X.K H (upd H p (.dK [])) := Tp.new hp
    have v0 : View X.K (mup M p (.dic [])) (upd H p (.dK [])) := hv.put (c := .dic []) (by rw [hp]; trivial) ⟨[], upd_same, .nil⟩
    refine pairs_ok (hr.mono t0) v0 (q p (hv.free hp)) fun ps H2 dps M2 t2 rp v2 q2 => ?_
    obtain ⟨e, q3⟩ := q2
    obtain ⟨kds, ek, hlen, q4⟩ := onS_ex q3
    obtain ⟨kvs0, eh, z0⟩ := v2 _ _ e
    cases z0
    obtain ⟨kvs, ep, zk⟩ := keysP_ok rp ek
    have tp : Tp X.K H2 (upd H2 p (.dK (mergeK [] kvs))) := Tp.put (v2.soft e)
    exact ⟨eh, kvs, ep, by rw [← kp_len zk]; exact hlen, k _ _ _ _ ((t0.trans t2).trans tp) rep_ref (v2.put (c := .dic (mergeA [] kds)) (v2.soft e) ⟨_, upd_same, kp_mono (merge_ok zk .nil) tp⟩) q4⟩
def aDnew : RE := fun _ M Q => ∀ p, M p = none → Q (.ref p) (mup M p (.dic []))
theorem ae_dnew : AE X (.Dict [] [] pos) aDnew := pe_imp pe_dnewK fun σ H Q' ⟨ρ, M, Q, hr, hv, q, k⟩ p hp =>
  k _ _ _ _ (Tp.new hp) rep_ref (hv.put (c := .dic []) (by rw [hp]; trivial) ⟨[], upd_same, .nil⟩) (q p (hv.free hp))
end
end HC
set_option maxHeartbeats 1000000
namespace HC
open PySem L2 PyProof.Rows
theorem onIf_decT {c A B : Prop} {inst : Decidable c} (h : c) (q : A) : onIf (@decide c inst) A B := by rw [decide_eq_true h]; exact q
theorem onIf_decF {c A B : Prop} {inst : Decidable c} (h : ¬ c) (q : B) : onIf (@decide c inst) A B := by rw [decide_eq_false h]; exact q
theorem onIf_ndecT {c A B : Prop} {inst : Decidable c} (h : ¬ c) (q : A) : onIf (!@decide c inst) A B := by rw [decide_eq_false h]; exact q
theorem onIf_ndecF {c A B : Prop} {inst : Decidable c} (h : c) (q : B) : onIf (!@decide c inst) A B := by rw [decide_eq_true h]; exact q
theorem look_new {M : Ms} {p r : Addr} {c x : Cell} (h : M p = some c) (hr : M r = none) : mup M r x p = some c := by rw [mup_ne (ne_of_new h hr)]; exact h
theorem CMul_l {i j : Int} (h : -18446744073709551616 < i ∧ i < 18446744073709551616) : CMul i j ∨ CMulW i j := .inl (.inl h)
theorem CMul_r {i j : Int} (h : -18446744073709551616 < j ∧ j < 18446744073709551616) : CMul i j ∨ CMulW i j := .inl (.inr h)
theorem inv_frz {X : Cx} {pins : List (Addr × Obj)} {σ : L2.St} {H : Hp} {s : Shared} {a : Addr} {xs : List V} (I : Inv X pins σ H s) (h : H a = some (.lst xs)) : ∃ o, Inv X pins σ (upd H a (.frz o (.lst xs))) s := by
  obtain ⟨z, its, n, r, e⟩ := I.hok a _ h
  have ne : ∀ {b : Addr} {u : HO}, H b = some u → u ≠ .lst xs → b ≠ a := fun {b u} q hu e' => by
    subst e'; rw [h] at q; cases q; exact hu rfl
  refine ⟨{ cls := .type "list", data := .seq its.toArray n }, I.un (h' := s.heap) (t' := s.toks) ⟨fun b o q n hb hx => q, fun b o q n _ _ => ⟨o.slots, q⟩, fun b o q n hx => ?_, fun b o q _ => ⟨o, q⟩, fun b ys q => ?_, fun b o u q => ?_, fun b ps q => ⟨#[], ?_⟩⟩ fun b u (q : upd H a (.frz { cls := .type "list", data := .seq its.toArray n } (.lst xs)) b = some u) => ?_⟩
  · rw [upd_ne]
    · exact n
    · intro e'; subst e'; rw [h] at n; cases n
  · rw [upd_ne (ne q (fun z => nomatch z))]; exact q
  · rw [upd_ne (ne q (fun z => nomatch z))]; exact q
  · rw [upd_ne (ne q (fun z => nomatch z))]; simpa using q
  · by_cases hb : b = a
    · subst hb
      rw [upd_same] at q
      cases q
      exact ⟨e, z, its, n, r, e⟩
    · rw [upd_ne hb] at q
      exact (I.hok b u q).stay (fun _ _ _ q => q) (fun c q => by rw [upd_ne (ne q (fun z => nomatch z))]; exact q) (fun c ys q => by rw [upd_ne (ne q (fun z => nomatch z))]; exact q)
theorem pe_frz {X : Cx} {e : Expr} {t : TE} (h : PE X e t) : PE X e (fun σ H Q => t σ H (fun v H' => Q v H' ∨ ∃ a xs, v = .ref a ∧ H' a = some (.lst xs) ∧ ∀ o, Q v (upd H' a (.frz o (.lst xs))))) :=
  ⟨fun pins s σ H Q I q => thn (h.run pins s σ H _ I q) fun u s' ⟨v, H', I', r, q'⟩ => by
    rcases q' with q' | ⟨a, xs, e, hl, q'⟩
    · exact ⟨v, H', I', r, q'⟩
    · obtain ⟨o, I2⟩ := inv_frz I' hl
      exact ⟨v, _, I2, r, q' o⟩⟩
theorem ps_frz {X : Cx} {st : Stmt} {t : TS} (h : PS X st t) : PS X st (fun D σ H => t { D with nx := fun σ' H' => D.nx σ' H' ∨ ∃ a xs, H' a = some (.lst xs) ∧ ∀ o, D.nx σ' (upd H' a (.frz o (.lst xs))) } σ H) :=
  ⟨fun pins s σ H D I q => thn (h.run pins s σ H _ I q) fun f s' r => by
    cases f with
    | next =>
      obtain ⟨σ', H', I', q'⟩ := r
      rcases q' with q' | ⟨a, xs, hl, q'⟩
      · exact ⟨σ', H', I', q'⟩
      · obtain ⟨o, I2⟩ := inv_frz I' hl
        exact ⟨σ', _, I2, q' o⟩
    | brk => exact r
    | cont => exact r
    | ret u => exact r⟩
def fzK (d : Dv) (M : Ms) (Q : DK) : Prop := match d with
  | .ref a => onS (lstC (M a)) fun xs => ∃ M', M' a = none ∧ Sub M' M ∧ Q (.rol xs) M'
  | d => Q d M
def aFz (te : RE) : RE := fun ρ M Q => te ρ M fun d M1 => fzK d M1 Q
theorem fz_rep {K : PySem.W.Frag} {H : Hp} {a : Addr} {xs : List Dv} {vs : List V} {o : Obj} (hs : Soft (H a)) (r : Reps K H xs vs) : Rep K (upd H a (.frz o (.lst vs))) (.rol xs) (.ref a) := by
  simp only [Rep]
  exact ⟨a, vs, rfl, .inl ⟨o, upd_same⟩, r.mono (Tp.put hs)⟩
theorem fz_view {K : PySem.W.Frag} {H : Hp} {M M' : Ms} {a : Addr} {o : HO} (v : View K M H) (hs : Soft (H a)) (h0 : M' a = none) (s : Sub M' M) : View K M' (upd H a o) := fun b c e => by
  have hb : b ≠ a := fun z => by subst z; rw [h0] at e; cases e
  exact (v b c (s b c e)).keep (Tp.put hs) (upd_ne hb) (TpE.soft hs)
theorem fzK_val {d : Dv} {M : Ms} {Q : DK} (h : fzK d M Q) : (∃ a xs M', d = .ref a ∧ M a = some (.lst xs) ∧ M' a = none ∧ Sub M' M ∧ Q (.rol xs) M') ∨ Q d M := by
  cases d with
  | ref a =>
    obtain ⟨xs, e, M', h0, s, q⟩ := onS_ex h
    exact .inl ⟨a, xs, M', rfl, lstC_eq e, h0, s, q⟩
  | _ => exact .inr h
theorem fz_new {M : Ms} {p : Addr} {xs : List Dv} {Q : DK} (h : M p = none) (q : Q (.rol xs) M) : fzK (.ref p) (mup M p (.lst xs)) Q := onS_of (a := xs) (by rw [mup_same]; rfl) ⟨M, h, Sub.new h, q⟩
def mdel (M : Ms) (a : Addr) : Ms := fun b => if b = a then none else M b
theorem mdel_same {M : Ms} {a : Addr} : mdel M a a = none := if_pos rfl
theorem mdel_ne {M : Ms} {a b : Addr} (h : b ≠ a) : mdel M a b = M b := if_neg h
theorem mdel_sub {M : Ms} {a : Addr} : Sub (mdel M a) M := fun b c e => by
  by_cases h : b = a
  · subst h; rw [mdel_same] at e; cases e
  · rw [mdel_ne h] at e; exact e
theorem mdel_of {M M' : Ms} {a : Addr} (s : Sub M M') (h : M a = none) : Sub M (mdel M' a) := fun b c e => by
  rw [mdel_ne (ne_of_new e h)]; exact s b c e
theorem fz_del {M : Ms} {p : Addr} {xs : List Dv} {Q : DK} (h : M p = some (.lst xs)) (q : Q (.rol xs) (mdel M p)) : fzK (.ref p) M Q := onS_of (a := xs) (by rw [h]; rfl) ⟨_, mdel_same, mdel_sub, q⟩
theorem fz_sub {M M' : Ms} {p : Addr} {xs : List Dv} {Q : DK} (h : M p = some (.lst xs)) (h0 : M' p = none) (s : Sub M' M) (q : Q (.rol xs) M') : fzK (.ref p) M Q := onS_of (a := xs) (by rw [h]; rfl) ⟨_, h0, s, q⟩
section
variable {X : Cx} {e : Expr} {te : RE} {st : Stmt}
theorem ae_fz (h : AE X e te) : AE X e (aFz te) := pe_imp (pe_frz h) fun σ H Q' ⟨ρ, M, Q, hr, hv, q, k⟩ => seqE hr hv q fun v H1 d M1 t1 r1 v1 q1 => by
  rcases fzK_val q1 with ⟨a, xs, M', rfl, e1, h0, s, q2⟩ | q2
  · obtain ⟨vs, h1, h2⟩ := view_lst v1 e1
    have hs := v1.soft e1
    exact .inr ⟨a, vs, rep_ref_inv r1, h1, fun o => by
      rw [rep_ref_inv r1]
      exact k _ _ (.rol xs) M' (t1.trans (Tp.put hs)) (fz_rep hs h2) (fz_view v1 hs h0 s) q2⟩
  · exact .inl (k _ _ _ _ t1 r1 v1 q2)
theorem repE_swap {K : PySem.W.Frag} {H H' : Hp} {ρ : Env'} {σ : L2.St} {i : Nat} {d d' : Dv} (hi : ρ[i]? = some (some d)) (r : RepE K H ρ σ) (t : Tp K H H') (f : ∀ v, Rep K H d v → Rep K H' d' v) : RepE K H' (ρ.set i (some d')) σ := by
  refine ⟨by rw [← r.len]; simp, fun j x e => ?_⟩
  have hl : i < ρ.length := (List.getElem?_eq_some_iff.mp hi).1
  by_cases hj : i = j
  · subst hj
    rw [List.getElem?_set_self hl] at e
    cases e
    obtain ⟨v, h1, h2⟩ := r.at' i d hi
    exact ⟨v, h1, f v h2⟩
  · rw [List.getElem?_set_ne hj] at e
    obtain ⟨v, h1, h2⟩ := r.at' j x e
    exact ⟨v, h1, h2.mono t⟩
theorem as_fzset {i : Nat} {x : Str} (hi : X.N[i]? = some x) (h : AS X st (aAsg te (agName i))) : AS X st (aAsg (aFz te) (agName i)) :=
  ⟨fun pins s σ H D' I h' => by
    obtain ⟨ρ, M, D, hr, hv, q, k⟩ := h'
    have hl : i < ρ.length := by
      rw [hr.len, I.len]
      exact (List.getElem?_eq_some_iff.mp hi).1
    refine (ps_frz h).run pins s σ H D' I ⟨ρ, M, { D with nx := fun ρ' M' => match ρ'[i]? with | some (some d) => fzK d M' fun d' M2 => D.nx (ρ'.set i (some d')) M2 | _ => False }, hr, hv, ?_, ?_, k.rt, k.bk, k.ct⟩
    · have q' : te ρ M fun d M1 => fzK d M1 fun d' M2 => D.nx (ρ.set i (some d')) M2 := q
      have e : (fun d M1 => match (ρ.set i (some d))[i]? with | some (some d2) => fzK d2 M1 fun d' M2 => D.nx ((ρ.set i (some d)).set i (some d')) M2 | _ => False) = fun d M1 => fzK d M1 fun d' M2 => D.nx (ρ.set i (some d')) M2 := by
        funext d M1
        rw [List.getElem?_set_self hl]
        simp only [List.set_set]
      show te ρ M (fun d M1 => match (ρ.set i (some d))[i]? with | some (some d2) => fzK d2 M1 fun d' M2 => D.nx ((ρ.set i (some d)).set i (some d')) M2 | _ => False)
      rw [e]; exact q'
    · rintro σ1 H1 ρ1 M1 t1 r1 v1 q1
      replace q1 : (match ρ1[i]? with | some (some d) => fzK d M1 fun d' M2 => D.nx (ρ1.set i (some d')) M2 | _ => False) := q1
      split at q1
      · next d hd =>
        rcases fzK_val q1 with ⟨a, xs, M', rfl, e1, h0, s, q2⟩ | q2
        · obtain ⟨vs, h1, h2⟩ := view_lst v1 e1
          have hs := v1.soft e1
          exact .inr ⟨a, vs, h1, fun o => k.nx _ _ _ M' (t1.trans (Tp.put hs)) (repE_swap hd r1 (Tp.put hs) fun v rv => by rw [rep_ref_inv rv]; exact fz_rep hs h2) (fz_view v1 hs h0 s) q2⟩
        · exact .inl (k.nx _ _ _ _ t1 (repE_swap hd r1 (Tp.refl H1) fun v rv => rv) v1 q2)
      · exact q1.elim⟩
theorem lcFk_opt {keep : Ms → Prop} {tg : Tg} {own : List Nat} {tt : RT} {ρ : Env'} {Q : DK} {M : Ms} {ds : List Dv} (g : Nat → Option Dv) (hk : ∀ M', Sub M M' → keep M') (hl : ds.length ≤ sizeLine)
    (ht : ∀ i d, ds[i]? = some d → ∀ (M' : Ms) (N : Option Dv → Ms → Prop), Sub M M' → N (g i) M' → ∃ ρ', Tg.put tg d (wipeA ρ own) M' = some ρ' ∧ tt ρ' M' fun b M2 => onIf b (te ρ' M2 fun y M3 => N (some y) M3) (N none M2))
    (q : Q (.rol ((List.range ds.length).filterMap g)) M) : ∀ D, M D = none → lcW keep tg own tt te ρ D (fun M' => fzK (.ref D) M' Q) ds (mup M D (.lst [])) := fun D hD => by
  have len : ∀ i, ((List.range i).filterMap g).length ≤ i := fun i => by
    have := List.length_filterMap_le g (List.range i)
    simpa using this
  refine lcW_inv (fun i M' => M' = mup M D (.lst ((List.range i).filterMap g))) rfl (fun i M' _ e => by subst e; exact hk _ (Sub.new hD)) (fun i d M' hd e => ?_) fun M' e => ?_
  · subst e
    have hi := (List.getElem?_eq_some_iff.mp hd).1
    obtain ⟨ρ', h1, h2⟩ := ht i d hd (mup M D (.lst ((List.range i).filterMap g))) (fun o M3 => match o with
      | some y => ∃ acc, M3 D = some (.lst acc) ∧ acc.length < sizeLine ∧ wkM (fun M' => M' = mup M D (.lst ((List.range (i + 1)).filterMap g))) (mup M3 D (.lst (acc ++ [y])))
      | none => wkM (fun M' => M' = mup M D (.lst ((List.range (i + 1)).filterMap g))) M3) (Sub.new hD) (by
        cases e : g i with
        | some y =>
          refine ⟨_, mup_same, ?_, _, Sub.refl _, ?_⟩
          · have := len i; omega
          · rw [mup_mup, List.range_succ, List.filterMap_append]
            simp [e]
        | none =>
          refine ⟨_, Sub.refl _, ?_⟩
          rw [List.range_succ, List.filterMap_append]
          simp [e])
    exact ⟨ρ', h1, h2⟩
  · subst e
    refine onS_of (a := (List.range ds.length).filterMap g) (by rw [mup_same]; rfl) ⟨M, hD, Sub.new hD, q⟩
theorem lcFk {keep : Ms → Prop} {tg : Tg} {own : List Nat} {ρ : Env'} {Q : DK} {M : Ms} {ds : List Dv} (f : Nat → Dv) (hk : ∀ M', Sub M M' → keep M') (hl : ds.length ≤ sizeLine)
    (ht : ∀ i d, ds[i]? = some d → ∀ (M' : Ms) (N : Dv → Ms → Prop), Sub M M' → N (f i) M' → ∃ ρ', Tg.put tg d (wipeA ρ own) M' = some ρ' ∧ te ρ' M' N)
    (q : Q (.rol ((List.range ds.length).map f)) M) : ∀ D, M D = none → lcW keep tg own aYes te ρ D (fun M' => fzK (.ref D) M' Q) ds (mup M D (.lst [])) :=
  lcFk_opt (fun i => some (f i)) hk hl (fun i d hd M' N hs hn => by
    obtain ⟨ρ', h1, h2⟩ := ht i d hd M' (fun y M3 => N (some y) M3) hs hn
    exact ⟨ρ', h1, h2⟩) (by rw [List.filterMap_eq_map']; exact q)
theorem lcF_opt {keep : Ms → Prop} {tg : Tg} {own : List Nat} {tt : RT} {ρ : Env'} {Q : DK} {M : Ms} {ds : List Dv} (g : Nat → Option Dv) (hk : ∀ M, keep M) (hl : ds.length ≤ sizeLine)
    (ht : ∀ i d, ds[i]? = some d → ∀ (M' : Ms) (N : Option Dv → Ms → Prop), Sub M M' → N (g i) M' → ∃ ρ', Tg.put tg d (wipeA ρ own) M' = some ρ' ∧ tt ρ' M' fun b M2 => onIf b (te ρ' M2 fun y M3 => N (some y) M3) (N none M2))
    (q : Q (.rol ((List.range ds.length).filterMap g)) M) : ∀ D, M D = none → lcW keep tg own tt te ρ D (fun M' => fzK (.ref D) M' Q) ds (mup M D (.lst [])) :=
  lcFk_opt g (fun _ _ => hk _) hl ht q
theorem lcF {keep : Ms → Prop} {tg : Tg} {own : List Nat} {ρ : Env'} {Q : DK} {M : Ms} {ds : List Dv} (f : Nat → Dv) (hk : ∀ M, keep M) (hl : ds.length ≤ sizeLine)
    (ht : ∀ i d, ds[i]? = some d → ∀ (M' : Ms) (N : Dv → Ms → Prop), Sub M M' → N (f i) M' → ∃ ρ', Tg.put tg d (wipeA ρ own) M' = some ρ' ∧ te ρ' M' N)
    (q : Q (.rol ((List.range ds.length).map f)) M) : ∀ D, M D = none → lcW keep tg own aYes te ρ D (fun M' => fzK (.ref D) M' Q) ds (mup M D (.lst [])) :=
  lcF_opt (fun i => some (f i)) hk hl (fun i d hd M' N hs hn => by
    obtain ⟨ρ', h1, h2⟩ := ht i d hd M' (fun y M3 => N (some y) M3) hs hn
    exact ⟨ρ', h1, h2⟩) (by rw [List.filterMap_eq_map']; exact q)
end
end HC
set_option maxHeartbeats 1000000
namespace HC
open PySem L2 PyProof.Rows
section
variable {X : Cx} {a b e : Expr} {ta tb te : RE} {pos p pos2 p2 : Pos} {K : PySem.W.Frag}
theorem reps_range {H : Hp} {lo hi : Int} : Reps K H (rangeA lo (hi - lo).toNat) (rgV lo hi) := by
  have h := Reps.of_ints (K := K) (H := H) ((List.range (hi - lo).toNat).map fun (i : Nat) => lo + (i : Int))
  simpa [rangeA, rgV, List.map_map, Function.comp_def] using h
def RgA (a b : Int) : Prop := -4611686018427387904 ≤ a ∧ a < 4611686018427387904 ∧ -4611686018427387904 ≤ b ∧ b < 4611686018427387904 ∧ b - a ≤ 16777216
theorem RgA.ok {a b : Int} (h : RgA a b) : RgOk a b := by
  obtain ⟨h1, h2, h3, h4, h5⟩ := h
  have e1 : (2 : Int) ^ 62 = 4611686018427387904 := by decide
  have e2 : (2 : Nat) ^ 24 = 16777216 := by decide
  refine ⟨?_, ?_, ?_, ?_, ?_⟩
  · rw [e1]; exact h1
  · rw [e1]; exact h2
  · rw [e1]; exact h3
  · rw [e1]; exact h4
  · rw [e2]; omega
def aLstR1 (ta : RE) : RE := fun ρ M Q => ta ρ M fun d M1 => onI d fun n => (-4611686018427387904 ≤ n ∧ n ≤ 16777216) ∧ ∀ q, M1 q = none → Q (.ref q) (mup M1 q (.lst (rangeA 0 n.toNat)))
def aLstR2 (ta tb : RE) : RE := fun ρ M Q => ta ρ M fun d M1 => tb ρ M1 fun f M2 => onI2 d f fun i j => (-4611686018427387904 ≤ i ∧ i < 4611686018427387904 ∧ -4611686018427387904 ≤ j ∧ j < 4611686018427387904 ∧ j - i ≤ 16777216) ∧ ∀ q, M2 q = none → Q (.ref q) (mup M2 q (.lst (rangeA i (j - i).toNat)))
theorem ae_listR1 (hc : X.calm = true) (hm : X.mg "list" = none) (hr : X.mg "range" = none) (ha : AE X a ta) (hg : Gl X "list" := by rfl) (hg2 : Gl X "range" := by rfl) (na : starEach [a] X.env = (false, eval a X.env) :: starEach [] X.env := by rfl)
    (nb : starEach [.Call (.Name "range" p2) [a] [] pos2] X.env = (false, eval (.Call (.Name "range" p2) [a] [] pos2) X.env) :: starEach [] X.env := by rfl) :
    AE X (.Call (.Name "list" p) [.Call (.Name "range" p2) [a] [] pos2] [] pos) (aLstR1 ta) :=
  pe_imp (pe_listRg hc hg hm (prg_1 hg2 hr ha na) nb) fun σ H Q' ⟨ρ, M, Q, hr, hv, q, k⟩ => seqE hr hv q fun v H1 d M1 t1 r1 v1 q1 => by
    obtain ⟨n, e, ⟨h1, h2⟩, q2⟩ := onI_ex q1
    subst e
    refine ⟨n, rep_int_inv r1, RgA.ok ⟨by omega, by omega, h1, by omega, by omega⟩, ?_⟩
    have r := reps_range (K := X.K) (H := H1) (lo := 0) (hi := n)
    rw [Int.sub_zero] at r
    exact end_lst r v1 q2 (k.up t1)
theorem ae_listR2 (hc : X.calm = true) (hm : X.mg "list" = none) (hr : X.mg "range" = none) (ha : AE X a ta) (hb : AE X b tb) (hg : Gl X "list" := by rfl) (hg2 : Gl X "range" := by rfl) (na : starEach [a, b] X.env = (false, eval a X.env) :: starEach [b] X.env := by rfl)
    (nc : starEach [b] X.env = (false, eval b X.env) :: starEach [] X.env := by rfl) (hp : (backTo pos2 (starEach [b] X.env)).any (·.1) = false := by rfl)
    (nb : starEach [.Call (.Name "range" p2) [a, b] [] pos2] X.env = (false, eval (.Call (.Name "range" p2) [a, b] [] pos2) X.env) :: starEach [] X.env := by rfl) :
    AE X (.Call (.Name "list" p) [.Call (.Name "range" p2) [a, b] [] pos2] [] pos) (aLstR2 ta tb) :=
  pe_imp (pe_listRg hc hg hm (prg_2 hg2 hr ha hb na nc hp) nb) fun σ H Q' ⟨ρ, M, Q, hr, hv, q, k⟩ => seqE hr hv q fun v H1 d M1 t1 r1 v1 q1 => seqE (hr.mono t1) v1 q1 fun w H2 f M2 t2 r2 v2 q2 => by
    obtain ⟨i, j, e, e', ⟨h1, h2, h3, h4, h5⟩, q3⟩ := onI2_ex q2
    subst e e'
    exact ⟨i, j, rep_int_inv (r1.mono t2), rep_int_inv r2, RgA.ok ⟨h1, h2, h3, h4, h5⟩, end_lst reps_range v2 q3 (k.up (t1.trans t2))⟩
end
section
variable {X : Cx} {e : Expr} {te : RE} {K : PySem.W.Frag}
def aRev (te : RE) : RE := fun ρ M Q => te ρ M fun d M1 => onS (lstA d M1) fun xs => ∀ p, M1 p = none → Q (.ref p) (mup M1 p (.lst xs.reverse))
theorem ae_rev {k : Nat} {p1 p2 p3 pos : Pos} (he : AE X e te) : AE X (.Subscript e (.Slice none none (some (.UnaryOp .USub (.Constant (.int 1) k p1) p2)) p3) pos) (aRev te) :=
  pe_imp (pe_revL he) fun σ H Q' ⟨ρ, M, Q, hr, hv, q, k⟩ => seqE hr hv q fun v H1 d M1 t1 r1 v1 q1 => by
    obtain ⟨xs, e, q2⟩ := onS_ex q1
    obtain ⟨a, vs, e1, s, z⟩ := lstA_ok r1 v1 e
    exact ⟨a, vs, e1, s, end_lst z.rev v1 q2 (k.up t1)⟩
end
section
variable {tt : RT} {te : RE}
theorem map_idx {ds : List Dv} {β : Type} (f : Dv → β) : (List.range ds.length).map (fun i => f (ds.getD i .non)) = ds.map f := by
  refine List.ext_getElem (by simp) fun i h1 h2 => ?_
  simp at h1 h2
  simp [h1, List.getD]
theorem lcM {keep : Ms → Prop} {tg : Tg} {own : List Nat} {ρ : Env'} {Q : DK} {M : Ms} {ds : List Dv} (f : Dv → Dv) (hk : ∀ M, keep M) (hl : ds.length ≤ sizeLine)
    (ht : ∀ d ∈ ds, ∀ (M' : Ms) (N : Dv → Ms → Prop), Sub M M' → N (f d) M' → ∃ ρ', Tg.put tg d (wipeA ρ own) M' = some ρ' ∧ te ρ' M' N)
    (q : Q (.rol (ds.map f)) M) : ∀ D, M D = none → lcW keep tg own aYes te ρ D (fun M' => fzK (.ref D) M' Q) ds (mup M D (.lst [])) :=
  lcF (fun i => f (ds.getD i .non)) hk hl (fun i d hd M' N hs hn => by
    have e : ds.getD i .non = d := by simp [List.getD, hd]
    rw [e] at hn
    exact ht d (List.mem_of_getElem? hd) M' N hs hn) (by rw [map_idx]; exact q)
theorem filterMap_idx {ds : List Dv} {β : Type} (g : Dv → Option β) : (List.range ds.length).filterMap (fun i => g (ds.getD i .non)) = ds.filterMap g := by
  have e : (fun i => g (ds.getD i .non)) = g ∘ fun i => ds.getD i .non := rfl
  rw [e, ← List.filterMap_map]
  have := map_idx (ds := ds) (fun x => x)
  rw [this, List.map_id']
theorem lcMo {keep : Ms → Prop} {tg : Tg} {own : List Nat} {ρ : Env'} {Q : DK} {M : Ms} {ds : List Dv} (g : Dv → Option Dv) (hk : ∀ M, keep M) (hl : ds.length ≤ sizeLine)
    (ht : ∀ d ∈ ds, ∀ (M' : Ms) (N : Option Dv → Ms → Prop), Sub M M' → N (g d) M' → ∃ ρ', Tg.put tg d (wipeA ρ own) M' = some ρ' ∧ tt ρ' M' fun b M2 => onIf b (te ρ' M2 fun y M3 => N (some y) M3) (N none M2))
    (q : Q (.rol (ds.filterMap g)) M) : ∀ D, M D = none → lcW keep tg own tt te ρ D (fun M' => fzK (.ref D) M' Q) ds (mup M D (.lst [])) :=
  lcF_opt (fun i => g (ds.getD i .non)) hk hl (fun i d hd M' N hs hn => by
    have e : ds.getD i .non = d := by simp [List.getD, hd]
    rw [e] at hn
    exact ht d (List.mem_of_getElem? hd) M' N hs hn) (by rw [filterMap_idx]; exact q)
end
def aNever : RS := fun _ _ _ => False
theorem as_never {X : Cx} {st : Stmt} : AS X st aNever := ps_imp ps_never fun D σ H h => by
  obtain ⟨ρ, M, D, _, _, q, _⟩ := h
  exact q
def acMax : ARC := fun ds M Q => match ds with | [d] => ∃ ns : List Int, lstA d M = some (ns.map Dv.int) ∧ 0 < ns.length ∧ ∀ m, m ∈ ns → (∀ y, y ∈ ns → y ≤ m) → Q (.int m) M | _ => False
def acMin : ARC := fun ds M Q => match ds with | [d] => ∃ ns : List Int, lstA d M = some (ns.map Dv.int) ∧ 0 < ns.length ∧ ∀ m, m ∈ ns → (∀ y, y ∈ ns → m ≤ y) → Q (.int m) M | _ => False
theorem abc_max {K : PySem.W.Frag} : AbC K (rMax K) acMax := by
  intro H M vs ds Q Q' r hv q k
  match ds, q with
  | [d], q =>
    obtain ⟨ns, h, h0, q⟩ := q
    obtain ⟨v, e, rd⟩ := reps1 r
    obtain ⟨a, ws, e1, s, z⟩ := lstA_ok rd hv h
    exact ⟨a, ns, by rw [e, e1], by rw [← z.ints]; exact s, h0, fun m h1 h2 => k _ _ _ _ (Tp.refl H) rep_int hv (q m h1 h2)⟩
theorem abc_min {K : PySem.W.Frag} : AbC K (rMin K) acMin := by
  intro H M vs ds Q Q' r hv q k
  match ds, q with
  | [d], q =>
    obtain ⟨ns, h, h0, q⟩ := q
    obtain ⟨v, e, rd⟩ := reps1 r
    obtain ⟨a, ws, e1, s, z⟩ := lstA_ok rd hv h
    exact ⟨a, ns, by rw [e, e1], by rw [← z.ints]; exact s, h0, fun m h1 h2 => k _ _ _ _ (Tp.refl H) rep_int hv (q m h1 h2)⟩
theorem mdel_put {M : Ms} {q : Addr} {c : Cell} : mdel (mup M q c) q = mdel M q := by
  funext b
  unfold mdel
  by_cases h : b = q
  · rw [if_pos h, if_pos h]
  · rw [if_neg h, if_neg h, mup_ne h]
theorem grow_put {M M2 : Ms} {q : Addr} {c : Cell} (h : Sub M (mdel M2 q)) : Sub M (mdel (mup M2 q c) q) := by rw [mdel_put]; exact h
theorem grow_sub {M M2 : Ms} {q : Addr} (h : Sub M (mdel M2 q)) : Sub M M2 := h.trans mdel_sub
theorem grow_new {M : Ms} {q : Addr} {c : Cell} (h : M q = none) : Sub M (mdel (mup M q c) q) := mdel_of (Sub.new h) h
theorem grow_at {M M2 : Ms} {q r : Addr} {c : Cell} (h : Sub M (mdel M2 q)) (e : M r = some c) : M2 r = some c := grow_sub h r c e
theorem dec_int {i j : Int} {inst : Decidable (Dv.int i = Dv.int j)} : @decide (Dv.int i = Dv.int j) inst = decide (i = j) := decide_eq_decide.mpr ⟨Dv.int.inj, fun h => by rw [h]⟩
theorem dec_str {i j : Str} {inst : Decidable (Dv.str i = Dv.str j)} : @decide (Dv.str i = Dv.str j) inst = decide (i = j) := decide_eq_decide.mpr ⟨Dv.str.inj, fun h => by rw [h]⟩
theorem acAll_map {α : Type} {xs : List α} {g : α → Bool} {M : Ms} {Q : DK} (q : Q (.bl (xs.all g)) M) : acAll [.rol (xs.map fun x => .bl (g x))] M Q :=
  ⟨xs.map g, by simp [lstA, itemsA, List.map_map, Function.comp_def], by simpa [List.all_map] using q⟩
theorem acAll_eq {α : Type} {xs : List α} {g : α → Bool} {M : Ms} : lstA (.rol (xs.map fun x => .bl (g x))) M = some ((xs.map g).map Dv.bl) := by simp [lstA, itemsA, List.map_map, Function.comp_def]
theorem all_map_id {α : Type} {xs : List α} {g : α → Bool} : (xs.map g).all id = xs.all g := by simp [List.all_map]
theorem any_map_id {α : Type} {xs : List α} {g : α → Bool} : (xs.map g).any id = xs.any g := by simp [List.any_map]
theorem acSum_eq {α : Type} {xs : List α} {g : α → Int} {M : Ms} : lstA (.rol (xs.map fun x => .int (g x))) M = some ((xs.map g).map Dv.int) := by simp [lstA, itemsA, List.map_map, Function.comp_def]
theorem acAny_map {α : Type} {xs : List α} {g : α → Bool} {M : Ms} {Q : DK} (q : Q (.bl (xs.any g)) M) : acAny [.rol (xs.map fun x => .bl (g x))] M Q :=
  ⟨xs.map g, by simp [lstA, itemsA, List.map_map, Function.comp_def], by simpa [List.any_map] using q⟩
theorem acSum_map {α : Type} {xs : List α} {g : α → Int} {M : Ms} {Q : DK} (q : Q (.int (xs.map g).sum) M) : acSum [.rol (xs.map fun x => .int (g x))] M Q :=
  ⟨xs.map g, by simp [lstA, itemsA, List.map_map, Function.comp_def], q⟩
end HC
set_option maxHeartbeats 1000000
namespace HC
open PySem L2 PyProof.Rows
section
variable {X : Cx} {a b e : Expr} {ta tb te : RE} {pos p pos2 p2 : Pos} {K : PySem.W.Frag}
def rCatF (K : PySem.W.Frag) : R2 := fun x y H Q => ∃ l b xs zs, x = .ref l ∧ y = .ref b ∧ SqL K H l xs ∧ SqL K H b zs ∧ xs.length + zs.length ≤ sizeLine ∧ ∀ p, H p = none → Q (.ref p) (upd H p (.lst (xs ++ zs)))
theorem op_catF : OpR X (binaryOp .Add) (rCatF X.K) := by
  intro pins s σ H x y v u Q I rx ry h
  obtain ⟨l, b, xs, zs, rfl, rfl, hH, hB, hz, q⟩ := h
  cases rx
  cases ry
  obtain ⟨its, r, ⟨o, n, e, hc, hd, hs⟩, hl⟩ := I.list hH
  obtain ⟨its2, r2, ⟨o2, n2, e2, hc2, hd2, hs2⟩, hl2⟩ := I.list hB
  have l1 := r.length
  have l2 := r2.length
  obtain ⟨cls, dd, data, sl⟩ := o
  obtain ⟨cls2, dd2, data2, sl2⟩ := o2
  simp only at hc hd hs hc2 hd2 hs2
  subst hc hd hs hc2 hd2 hs2
  have ea : its.toArray ++ its2.toArray = (its ++ its2).toArray := by simp
  refine PySem.concat_meets ⟨_, e, rfl⟩ ⟨_, e2, rfl⟩ noFill_list_add seq_list_add PySem.F.slot_list_add PySem.F.entry_list_add (PySem.F.args_list_add_2 _ _) (PyProof.Rows.list_addW l b its.toArray its2.toArray n n2 none none sl sl2 (by simp; omega)) ⟨e, e2, ?_⟩
  rw [ea]
  exact ⟨.ref _, _, I.lnew (t' := s.toks) (r.append r2) (by rw [List.length_append]; omega), rfl, q _ I.fresh⟩
def aAddF : AR2 := fun x y M Q => match x, y with
  | .rol xs, .rol ys => xs.length + ys.length ≤ sizeLine ∧ ∀ p, M p = none → Q (.ref p) (mup M p (.lst (xs ++ ys)))
  | .rol xs, .ref b => ∃ ys, M b = some (.lst ys) ∧ xs.length + ys.length ≤ sizeLine ∧ ∀ p, M p = none → Q (.ref p) (mup M p (.lst (xs ++ ys)))
  | .ref a, .rol ys => ∃ xs, M a = some (.lst xs) ∧ xs.length + ys.length ≤ sizeLine ∧ ∀ p, M p = none → Q (.ref p) (mup M p (.lst (xs ++ ys)))
  | x, y => aAdd x y M Q
theorem op_addF : OpR X (binaryOp .Add) (fun x y H Q => rAddH X.K x y H Q ∨ rCatF X.K x y H Q) := opr_or op_addH op_catF
theorem ab_addF {K : PySem.W.Frag} : Ab2 K (fun x y H Q => rAddH K x y H Q ∨ rCatF K x y H Q) aAddF := by
  intro H M x y dx dy Q Q' rx ry hv q k
  have old : aAdd dx dy M Q → rAddH K x y H Q' ∨ rCatF K x y H Q' := fun q => .inl (ab_add _ _ _ _ _ _ _ _ rx ry hv q k)
  cases dx <;> cases dy <;> first | exact old q | skip
  case rol.rol ds es =>
    obtain ⟨a, vs, e1, s1, r1⟩ := rep_rol_inv rx
    obtain ⟨b, ws, e2, s2, r2⟩ := rep_rol_inv ry
    obtain ⟨z, q⟩ := q
    have l1 := r1.length
    have l2 := r2.length
    exact .inr ⟨a, b, vs, ws, e1, e2, s1.l, s2.l, by omega, end_lst (r1.append r2) hv q k⟩
  case rol.ref ds b =>
    obtain ⟨a, vs, e1, s1, r1⟩ := rep_rol_inv rx
    obtain ⟨ys, h2, z, q⟩ := q
    obtain ⟨ws, e2, r2⟩ := view_lst hv h2
    have l1 := r1.length
    have l2 := r2.length
    exact .inr ⟨a, b, vs, ws, e1, rep_ref_inv ry, s1.l, SqL.of e2, by omega, end_lst (r1.append r2) hv q k⟩
  case ref.rol a es =>
    obtain ⟨b, ws, e2, s2, r2⟩ := rep_rol_inv ry
    obtain ⟨xs, h1, z, q⟩ := q
    obtain ⟨vs, e1, r1⟩ := view_lst hv h1
    have l1 := r1.length
    have l2 := r2.length
    exact .inr ⟨a, b, vs, ws, rep_ref_inv rx, e2, SqL.of e1, s2.l, by omega, end_lst (r1.append r2) hv q k⟩
theorem ae_addF (ha : AE X a ta) (hb : AE X b tb) : AE X (.BinOp a .Add b pos) (aOp aAddF ta tb) := ae_op op_addF ab_addF ha hb
def aInB (neg : Bool) : AR2 := fun x y M Q => match x with
  | .int i => ∃ ns : List Int, (y = .rol (ns.map Dv.int) ∨ y = .tup (ns.map Dv.int) ∨ ∃ a, y = .ref a ∧ M a = some (.lst (ns.map Dv.int))) ∧ Q (.bl (if neg then !decide (i ∈ ns) else decide (i ∈ ns))) M
  | _ => False
def aIn : AR2 := aInB false
def aNotIn : AR2 := aInB true
theorem in_ints (i : Int) : ∀ ns : List Int, inV (.int i) (ns.map V.int) = decide (i ∈ ns)
  | [] => rfl
  | n :: ns => by
    have ih := in_ints i ns
    unfold inV at ih ⊢
    rw [List.map_cons, List.any_cons, ih]
    by_cases h : n = i
    · subst h
      rw [show eqV (.int n) (.int n) = true from by simp [eqV], Bool.true_or, decide_eq_true List.mem_cons_self]
    · rw [show eqV (.int n) (.int i) = false from by simp [eqV, h], Bool.false_or]
      refine decide_eq_decide.mpr ⟨List.mem_cons_of_mem _, fun q => ?_⟩
      rcases List.mem_cons.mp q with rfl | q
      · exact absurd rfl h
      · exact q
theorem flat_ints (ns : List Int) : (ns.map V.int).all flatV = true := by
  rw [List.all_eq_true]
  intro v hv
  obtain ⟨n, _, rfl⟩ := List.mem_map.mp hv
  rfl
theorem ab_inB {K : PySem.W.Frag} {neg : Bool} : Ab2 K (rIn K neg) (aInB neg) := by
  intro H M x y dx dy Q Q' rx ry hv q k
  cases dx <;> first | exact q.elim | skip
  case int i =>
    obtain ⟨ns, hy, q⟩ := q
    have ex := rep_int_inv rx
    subst ex
    have fin : Q' (.bl (if neg then !inV (.int i) (ns.map V.int) else inV (.int i) (ns.map V.int))) H := by
      rw [in_ints]
      exact k _ _ _ _ (Tp.refl H) rep_bl hv q
    rcases hy with rfl | rfl | ⟨a, rfl, ha⟩
    · obtain ⟨a, vs, e1, s1, r1⟩ := rep_rol_inv ry
      have := r1.ints
      subst this
      exact ⟨a, _, e1, .inl s1.l, rfl, flat_ints ns, fin⟩
    · obtain ⟨a, vs, e1, s1, r1⟩ := rep_tup_inv ry
      have := r1.ints
      subst this
      exact ⟨a, _, e1, .inr s1, rfl, flat_ints ns, fin⟩
    · obtain ⟨vs, e1, r1⟩ := view_lst hv ha
      have := r1.ints
      subst this
      exact ⟨a, _, rep_ref_inv ry, .inl (SqL.of e1), rfl, flat_ints ns, fin⟩
theorem ae_in (_hu : X.A.units + 64 < cLine) (ha : AE X a ta) (hb : AE X b tb) (hm : behindInMarks .In b = false := by with_unfolding_all rfl) : AE X (.Compare a [.In] [b] pos) (aOp aIn ta tb) := ae_cmp op_in_seq ab_inB ha hb hm
theorem ae_notin (_hu : X.A.units + 64 < cLine) (ha : AE X a ta) (hb : AE X b tb) (hm : behindInMarks .NotIn b = false := by with_unfolding_all rfl) : AE X (.Compare a [.NotIn] [b] pos) (aOp aNotIn ta tb) := ae_cmp op_notIn_seq ab_inB ha hb hm
theorem at_in (_hu : X.A.units + 64 < cLine) (ha : AE X a ta) (hb : AE X b tb) (hm : behindInMarks .In b = false := by with_unfolding_all rfl) : AT X (.Compare a [.In] [b] pos) (aB (aOp aIn ta tb)) := at_cmp op_in_seq ab_inB ha hb hm
theorem at_notin (_hu : X.A.units + 64 < cLine) (ha : AE X a ta) (hb : AE X b tb) (hm : behindInMarks .NotIn b = false := by with_unfolding_all rfl) : AT X (.Compare a [.NotIn] [b] pos) (aB (aOp aNotIn ta tb)) := at_cmp op_notIn_seq ab_inB ha hb hm
end
end HC
set_option maxHeartbeats 1000000
namespace HC
open PySem L2 PyProof.Rows
section
variable {X : Cx} {a b e o i : Expr} {ta tb te to ti : RE} {pos p pos2 p2 tpos : Pos} {K : PySem.W.Frag}
def rGetL : V → V → Hp → VK → Prop := fun o i H Q => ∃ p xs k x, o = .ref p ∧ i = .int k ∧ H p = some (.lst xs) ∧ 0 ≤ k ∧ xs[k.toNat]? = some x ∧ Q x H
theorem get_list : PGet X rGetL := by
  intro pins s σ H o i ov iv Q I ro ri h
  obtain ⟨p, xs, k, x, rfl, rfl, hp, h0, hx, q⟩ := h
  cases ro
  obtain ⟨t, rfl⟩ := ri
  obtain ⟨its, n, r, ho, hz⟩ := I.lst hp
  obtain ⟨u, hu, ru⟩ := Vals.get r hx
  have hl := r.length
  have hn := line63
  have hk := (List.getElem?_eq_some_iff.mp hx).1
  exact wpAny_getItem_list (items := its.toArray) ⟨_, ho, rfl, n, rfl⟩ h0 (by omega) (by simpa using hu) ⟨x, H, I, ru, q⟩
def aAugS (to ti te : RE) (f : Int → Int → Int) : RS := fun D ρ M => to ρ M fun x M1 => ti ρ M1 fun y M2 => match x with
  | .ref r => onI y fun k => 0 ≤ k ∧ onS (lstC (M2 r)) fun xs => onS xs[k.toNat]? fun d => te ρ M2 fun z M3 => onI2 d z fun m n => onS (lstC (M3 r)) fun ys => k.toNat < ys.length ∧ D.nx ρ (mup M3 r (.lst (ys.set k.toNat (.int (f m n)))))
  | _ => False
theorem ixN_pos {n : Nat} {k : Int} (h0 : 0 ≤ k) (h : k.toNat < n) : ixN n k = some k.toNat := by
  obtain ⟨j, rfl⟩ := Int.eq_ofNat_of_zero_le h0
  exact ixN_nat h
theorem augS_imp {f : Int → Int → Int} : ∀ D σ H, cS K (aAugS to ti te f) D σ H → tAugS (cE K to) (cE K ti) (cE K te) rGetL (ipI f) rSetL D σ H := fun D' σ H ⟨ρ, M, D, hr, hv, q, k⟩ =>
  seqE hr hv q fun x H1 dx M1 t1 r1 v1 q1 => seqE (hr.mono t1) v1 q1 fun y H2 dy M2 t2 r2 v2 q2 => by
    cases dx <;> first | exact q2.elim | skip
    case ref r =>
      obtain ⟨kk, e1, h0, q3⟩ := onI_ex q2
      subst e1
      obtain ⟨xs, hx, q4⟩ := onS_ex q3
      obtain ⟨d, hd, q5⟩ := onS_ex q4
      obtain ⟨vs, e2, z⟩ := view_lst v2 (lstC_eq hx)
      obtain ⟨v, hv1, rv⟩ := z.get hd
      have t12 := t1.trans t2
      refine ⟨r, vs, kk, v, rep_ref_inv (r1.mono t2), rep_int_inv r2, e2, h0, hv1, ?_⟩
      refine seqE (hr.mono t12) v2 q5 fun w H3 dw M3 t3 r3 v3 q6 => ?_
      obtain ⟨m, n, e3, e4, q7⟩ := onI2_ex q6
      subst e3 e4
      obtain ⟨ys, hy, hl, q8⟩ := onS_ex q7
      obtain ⟨ws, e5, z2⟩ := view_lst v3 (lstC_eq hy)
      have t13 := t12.trans t3
      refine ⟨m, n, rep_int_inv (rv.mono t3), rep_int_inv r3, ?_⟩
      refine ⟨r, ws, kk, kk.toNat, rep_ref_inv ((r1.mono t2).mono t3), rep_int_inv (r2.mono t3), e5, by rw [← z2.length]; exact ixN_pos h0 hl, ?_⟩
      have tp := Tp.put (K := K) (H := H3) (a := r) (o := .lst (ws.set kk.toNat (.int (f m n)))) (v3.soft (lstC_eq hy))
      exact k.nx _ _ _ _ (t13.trans tp) (hr.mono (t13.trans tp)) (v3.put (c := .lst (ys.set kk.toNat (.int (f m n)))) (v3.soft (lstC_eq hy)) ⟨ws.set kk.toNat (.int (f m n)), upd_same, (z2.set kk.toNat (d := .int (f m n)) (v := .int (f m n)) rep_int).mono tp⟩) q8
theorem as_augS_add (ho : AE X o to) (hi : AE X i ti) (he : AE X e te) (ha : ∀ ov iv new, augStore i ov iv new = (do holding [new, ov, iv] (setItem ov iv new); release [new, ov, iv] []; pure .next) := by intros; rfl) : AS X (.AugAssign (.Subscript o i tpos) .Add e pos) (aAugS to ti te fun i j => i + j) :=
  ps_imp (ps_augS ho hi get_list he ip_add set_list ha) augS_imp
end
end HC
namespace HC
open PySem L2 PyProof.Rows
section
variable {X : Cx} {a b c e o : Expr} {es : List Expr} {ta tb tc te to tk : RE} {t : RA} {pos p pos2 p2 tpos : Pos} {K : PySem.W.Frag}
theorem eqV_key (k j : Key) : eqV (kV k) (kV j) = decide (k = j) := by
  rcases k with k | k <;> rcases j with j | j
  · show (k == j) = _
    by_cases h : k = j
    · subst h; simp
    · simp [h]
  · show false = _
    simp
  · show false = _
    simp
  · show (k == j) = _
    by_cases h : k = j
    · subst h; simp
    · have : (k == j) = false := by simpa using h
      rw [this]
      simp [h]
def memK (k : Key) (ks : List Key) : Bool := ks.any fun j => decide (j = k)
theorem inV_keys (k : Key) (ks : List Key) : inV (kV k) (ks.map kV) = memK k ks := by
  unfold inV memK
  rw [List.any_map]
  congr 1
  funext j
  exact eqV_key j k
theorem flat_keys (ks : List Key) : (ks.map kV).all flatV = true := by
  rw [List.all_eq_true]
  intro v hv
  obtain ⟨k, _, rfl⟩ := List.mem_map.mp hv
  cases k <;> rfl
theorem flat_key (k : Key) : flatV (kV k) = true := by cases k <;> rfl
def rDIn (neg : Bool) : R2 := fun x y H Q => ∃ a o, y = .ref a ∧ DGet H a x o ∧ Q (.bl (if neg then !o.isSome else o.isSome)) H
theorem op_dIn (hu : X.A.units + 1 < cLine) : OpR X (compareOp .In) (rDIn false) := by
  intro pins s σ H x y v u Q I rx ry h
  obtain ⟨a, o, rfl, g, q⟩ := h
  cases ry
  exact d_in hu I g rx fun s' I' => ⟨.bl _, H, I', rfl, q⟩
theorem op_dNotIn (hu : X.A.units + 1 < cLine) : OpR X (compareOp .NotIn) (rDIn true) := by
  intro pins s σ H x y v u Q I rx ry h
  obtain ⟨a, o, rfl, g, q⟩ := h
  cases ry
  exact d_notIn hu I g rx fun s' I' => ⟨.bl _, H, I', rfl, q⟩
def negB (neg b : Bool) : Bool := if neg then !b else b
def aInKB (neg : Bool) : AR2 := fun x y M Q => onS (keyD x) fun k => match y with
  | .ref a => match M a with
    | some (.lst xs) => onS (keysD xs) fun ks => Q (.bl (negB neg (memK k ks))) M
    | some (.dic kvs) => Q (.bl (negB neg (getK kvs k).isSome)) M
    | _ => False
  | .rol xs => onS (keysD xs) fun ks => Q (.bl (negB neg (memK k ks))) M
  | .tup xs => onS (keysD xs) fun ks => Q (.bl (negB neg (memK k ks))) M
  | _ => False
def aInK : AR2 := aInKB false
def aNotInK : AR2 := aInKB true
theorem ab_inK {neg : Bool} : Ab2 K (fun x y H Q => rIn K neg x y H Q ∨ rDIn neg x y H Q) (aInKB neg) := by
  intro H M x y dx dy Q Q' rx ry hv q k
  obtain ⟨kk, e, q0⟩ := onS_ex q
  clear q
  have ex := keyD_ok rx e
  subst ex
  have fin : ∀ ks : List Key, Q (.bl (negB neg (memK kk ks))) M → Q' (.bl (if neg then !inV (kV kk) (ks.map kV) else inV (kV kk) (ks.map kV))) H := fun ks q => by
    rw [inV_keys]
    exact k _ _ _ _ (Tp.refl H) rep_bl hv q
  cases dy <;> first | exact q0.elim | skip
  case ref r =>
    have ey := rep_ref_inv ry
    subst ey
    simp only [] at q0
    split at q0
    · next xs e1 =>
      obtain ⟨ks, e2, q⟩ := onS_ex q0
      obtain ⟨vs, e3, r1⟩ := view_lst hv e1
      have := keysD_ok r1 e2
      subst this
      exact .inl ⟨r, _, rfl, .inl (SqL.of e3), flat_key kk, flat_keys ks, fin ks q⟩
    · next kvs e1 =>
      obtain ⟨vs, e2, rr⟩ := (show ∃ kvs', H r = some (.dK kvs') ∧ Paired (fun (p : Key × Dv) (q : Key × V) => p.1 = q.1 ∧ Rep K H p.2 q.2) kvs kvs' from hv r _ e1)
      refine .inr ⟨r, _, rfl, DGet.k e2, ?_⟩
      have es : (valV vs kk).isSome = (getK kvs kk).isSome := by
        rcases getK_ok (k := kk) rr with ⟨h1, h2⟩ | ⟨d', v, h1, h2, _⟩
        · rw [h1, h2]; rfl
        · rw [h1, h2]; rfl
      rw [es]
      exact k _ _ _ _ (Tp.refl H) rep_bl hv q0
    · exact q0.elim
  case rol xs =>
    obtain ⟨ks, e2, q⟩ := onS_ex q0
    obtain ⟨a, vs, e1, s1, r1⟩ := rep_rol_inv ry
    have := keysD_ok r1 e2
    subst this
    exact .inl ⟨a, _, e1, .inl s1.l, flat_key kk, flat_keys ks, fin ks q⟩
  case tup xs =>
    obtain ⟨ks, e2, q⟩ := onS_ex q0
    obtain ⟨a, vs, e1, s1, r1⟩ := rep_tup_inv ry
    have := keysD_ok r1 e2
    subst this
    exact .inl ⟨a, _, e1, .inr s1, flat_key kk, flat_keys ks, fin ks q⟩
theorem op_inK (hu : X.A.units + 1 < cLine) : OpR X (compareOp .In) (fun x y H Q => rIn X.K false x y H Q ∨ rDIn false x y H Q) := opr_or op_in_seq (op_dIn hu)
theorem op_notInK (hu : X.A.units + 1 < cLine) : OpR X (compareOp .NotIn) (fun x y H Q => rIn X.K true x y H Q ∨ rDIn true x y H Q) := opr_or op_notIn_seq (op_dNotIn hu)
theorem ae_inK (hu : X.A.units + 1 < cLine) (ha : AE X a ta) (hb : AE X b tb) (hm : behindInMarks .In b = false := by with_unfolding_all rfl) : AE X (.Compare a [.In] [b] pos) (aOp aInK ta tb) := ae_cmp (op_inK hu) ab_inK ha hb hm
theorem ae_notinK (hu : X.A.units + 1 < cLine) (ha : AE X a ta) (hb : AE X b tb) (hm : behindInMarks .NotIn b = false := by with_unfolding_all rfl) : AE X (.Compare a [.NotIn] [b] pos) (aOp aNotInK ta tb) := ae_cmp (op_notInK hu) ab_inK ha hb hm
theorem at_inK (hu : X.A.units + 1 < cLine) (ha : AE X a ta) (hb : AE X b tb) (hm : behindInMarks .In b = false := by with_unfolding_all rfl) : AT X (.Compare a [.In] [b] pos) (aB (aOp aInK ta tb)) := at_cmp (op_inK hu) ab_inK ha hb hm
theorem at_notinK (hu : X.A.units + 1 < cLine) (ha : AE X a ta) (hb : AE X b tb) (hm : behindInMarks .NotIn b = false := by with_unfolding_all rfl) : AT X (.Compare a [.NotIn] [b] pos) (aB (aOp aNotInK ta tb)) := at_cmp (op_notInK hu) ab_inK ha hb hm
def aDnewT : RE := fun _ M Q => ∀ p, M p = none → Q (.ref p) (mup M p (.dit []))
theorem ae_dnewT : AE X (.Dict [] [] pos) aDnewT := pe_imp pe_dnewT fun σ H Q' ⟨ρ, M, Q, hr, hv, q, k⟩ p hp =>
  k _ _ (.ref p) _ (Tp.new hp) rep_ref (hv.put (c := .dit []) (by rw [hp]; trivial) ⟨[], upd_same, .nil⟩) (q p (hv.free hp))
def aInT (neg : Bool) (t : RA) (i : Nat) : RE := fun ρ M Q => t ρ M fun ds M1 => ds.length ≤ sizeLine ∧ onS ρ[i]? fun o => onS o fun y => match y with
  | .ref a => match M1 a with
    | some (.dit kvs) => onS (keysD ds) fun k => Q (.bl (negB neg (getK kvs k).isSome)) M1
    | _ => False
  | _ => False
theorem inT_imp {neg : Bool} {i : Nat} : ∀ σ H Q, cE K (aInT neg t i) σ H Q → tOp (rDIn neg) (tTup (cA K t)) (tVar i) σ H Q := fun σ H Q' ⟨ρ, M, Q, hr, hv, q, k⟩ =>
  seqA hr hv q fun vs H1 ds M1 t1 r1 v1 ⟨z, q1⟩ => by
    refine ⟨by rw [← r1.length]; exact z, fun p hp => ?_⟩
    obtain ⟨o, e1, q2⟩ := onS_ex q1
    obtain ⟨y, e2, q3⟩ := onS_ex q2
    subst e2
    have tp := Tp.new (K := K) (H := H1) (a := p) (o := .tup vs) hp
    obtain ⟨v, h1, h2⟩ := ((hr.mono t1).mono tp).at' i y e1
    refine ⟨v, h1, ?_⟩
    cases y <;> first | exact q3.elim | skip
    case ref a =>
      simp only [] at q3
      split at q3
      · next kvs e3 =>
        obtain ⟨kk, e4, q5⟩ := onS_ex q3
        have v2 := v1.new (o := .tup vs) hp
        obtain ⟨ws, e5, r⟩ := (show ∃ kvs', upd H1 p (.tup vs) a = some (.dT kvs') ∧ Paired (fun (p : List Key × Dv) (q : List Key × V) => p.1 = q.1 ∧ Rep K _ p.2 q.2) kvs kvs' from v2 a _ e3)
        have := keysD_ok r1 e4
        subst this
        refine ⟨a, _, rep_ref_inv h2, DGet.t e5 upd_same, ?_⟩
        have es : (valV ws kk).isSome = (getK kvs kk).isSome := by
          rcases getK_ok (k := kk) r with ⟨h1, h2⟩ | ⟨d', v, h1, h2, _⟩
          · rw [h1, h2]; rfl
          · rw [h1, h2]; rfl
        rw [es]
        exact k _ _ _ _ (t1.trans tp) rep_bl v2 q5
      · exact q3.elim
theorem ae_inT {k1 : Nat} {x : Str} (hu : X.A.units + 1 < cLine) (i : Nat) (ht : AA X es t) (hN : X.N[i]? = some x := by rfl) (hv : Vis X.env.scope x := by first | exact Or.inl rfl | exact Or.inr (Or.inl rfl) | exact Or.inr (Or.inr rfl)) (hd : (x == ("__debug__" : Str)) = false := by decide) (hcd : (x == ("__classdict__" : Str)) = false := by decide)
    (hm : behindInMarks .In (.Name x p) = false := by with_unfolding_all rfl) : AE X (.Compare (.Tuple es k1 tpos) [.In] [.Name x p] pos) (aInT false t i) := pe_imp (pe_cmpR (op_dIn hu) (pe_tup ht) (pe_var hN hv hd hcd) hm) inT_imp
theorem ae_notinT {k1 : Nat} {x : Str} (hu : X.A.units + 1 < cLine) (i : Nat) (ht : AA X es t) (hN : X.N[i]? = some x := by rfl) (hv : Vis X.env.scope x := by first | exact Or.inl rfl | exact Or.inr (Or.inl rfl) | exact Or.inr (Or.inr rfl)) (hd : (x == ("__debug__" : Str)) = false := by decide) (hcd : (x == ("__classdict__" : Str)) = false := by decide)
    (hm : behindInMarks .NotIn (.Name x p) = false := by with_unfolding_all rfl) : AE X (.Compare (.Tuple es k1 tpos) [.NotIn] [.Name x p] pos) (aInT true t i) := pe_imp (pe_cmpR (op_dNotIn hu) (pe_tup ht) (pe_var hN hv hd hcd) hm) inT_imp
theorem inTB_imp {neg : Bool} {i : Nat} : ∀ σ H Q, cT K (aB (aInT neg t i)) σ H Q → tTest (tOp (rDIn neg) (tTup (cA K t)) (tVar i)) σ H Q := fun σ H Q' h' => by
  obtain ⟨ρ, M, Q, hr, hv, q, k⟩ := h'
  exact inT_imp σ H _ ⟨ρ, M, _, hr, hv, q, fun v H1 d M1 t1 r1 v1 q1 => by
    obtain ⟨b, e, q1⟩ := onB_ex q1
    exact ⟨b, by subst e; exact rep_bl_inv r1, k b H1 M1 t1 v1 q1⟩⟩
theorem at_inT {k1 : Nat} {x : Str} (hu : X.A.units + 1 < cLine) (i : Nat) (ht : AA X es t) (hN : X.N[i]? = some x := by rfl) (hv : Vis X.env.scope x := by first | exact Or.inl rfl | exact Or.inr (Or.inl rfl) | exact Or.inr (Or.inr rfl)) (hd : (x == ("__debug__" : Str)) = false := by decide) (hcd : (x == ("__classdict__" : Str)) = false := by decide)
    (hm : behindInMarks .In (.Name x p) = false := by with_unfolding_all rfl) : AT X (.Compare (.Tuple es k1 tpos) [.In] [.Name x p] pos) (aB (aInT false t i)) := pt_imp (pt_cmpR (op_dIn hu) (pe_tup ht) (pe_var hN hv hd hcd) hm) inTB_imp
theorem at_notinT {k1 : Nat} {x : Str} (hu : X.A.units + 1 < cLine) (i : Nat) (ht : AA X es t) (hN : X.N[i]? = some x := by rfl) (hv : Vis X.env.scope x := by first | exact Or.inl rfl | exact Or.inr (Or.inl rfl) | exact Or.inr (Or.inr rfl)) (hd : (x == ("__debug__" : Str)) = false := by decide) (hcd : (x == ("__classdict__" : Str)) = false := by decide)
    (hm : behindInMarks .NotIn (.Name x p) = false := by with_unfolding_all rfl) : AT X (.Compare (.Tuple es k1 tpos) [.NotIn] [.Name x p] pos) (aB (aInT true t i)) := pt_imp (pt_cmpR (op_dNotIn hu) (pe_tup ht) (pe_var hN hv hd hcd) hm) inTB_imp
def agSubT (to : RE) (t : RA) : RG := fun d ρ M Q => to ρ M fun x M1 => t ρ M1 fun ds M2 => ds.length ≤ sizeLine ∧ match x with
  | .ref a => match M2 a with
    | some (.dit kvs) => onS (keysD ds) fun k => kvs.length < sizeLine ∧ Q ρ (mup M2 a (.dit (putA kvs k d)))
    | _ => False
  | _ => False
theorem ag_subT {k1 : Nat} (hu : X.A.units + 1 < cLine) (ho : AE X o to) (ht : AA X es t)
    (ha : ∀ v, assign (.Subscript o (.Tuple es k1 tpos) pos) X.env v = (do
      let ov ← holding [v] (eval o X.env)
      let iv ← holding [v, ov] (eval (.Tuple es k1 tpos) X.env)
      standAt pos
      holding [v, ov, iv] (setItem ov iv v)
      release [v, ov, iv] []) := by intro _; rfl) : AG X (.Subscript o (.Tuple es k1 tpos) pos) (agSubT to t) :=
  pg_imp (pg_sub ho (pe_tup ht) (set_H hu) ha) fun v σ H Q' h => by
    obtain ⟨d, ρ, M, Q, rd, hr, hv, q, k⟩ := h
    refine seqE hr hv q fun x H1 dx M1 t1 r1 v1 q1 => seqA (hr.mono t1) v1 q1 fun vs H2 ds M2 t2 r2 v2 zq => ?_
    have z := zq.1
    have q2 := zq.2
    clear zq
    refine ⟨by rw [← r2.length]; exact z, fun p hp => ?_⟩
    have t12 := t1.trans t2
    have tp := Tp.new (K := X.K) (H := H2) (a := p) (o := .tup vs) hp
    have v3 := v2.new (o := .tup vs) hp
    have rx := (r1.mono t2).mono tp
    have rd3 := (rd.mono t12).mono tp
    cases dx <;> first | exact q2.elim | skip
    case ref a =>
      simp only [] at q2
      split at q2
      · next kds e =>
        obtain ⟨kk, e1, hz, q3⟩ := onS_ex q2
        obtain ⟨kvs, e2, zz⟩ := (show ∃ kvs', upd H2 p (.tup vs) a = some (.dT kvs') ∧ KP X.K _ (List Key) kds kvs' from v3 a _ e)
        have := keysD_ok r2 e1
        subst this
        have tq := Tp.put (K := X.K) (H := upd H2 p (.tup (kk.map kV))) (a := a) (o := .dT (putK kvs kk v)) (v3.soft e)
        refine .inr ⟨a, _, rep_ref_inv rx, DPut.t e2 upd_same (by rw [← kp_len zz]; exact hz), ?_⟩
        exact k _ _ _ _ ((t12.trans tp).trans tq) (hr.mono ((t12.trans tp).trans tq)) (v3.put (c := .dit (putA kds kk d)) (v3.soft e) ⟨_, upd_same, kp_mono (kp_put rd3 zz) tq⟩) q3
      · exact q2.elim
end
end HC
namespace HC
open PySem L2 PyProof.Rows
section
variable {X : Cx} {a b c e o key : Expr} {es : List Expr} {ta tb tc te to tk : RE} {t : RA} {pos p pos2 p2 tpos xp yp sp ap cp rp : Pos} {K : PySem.W.Frag} {d : Addr} {x y : Str}
structure TabK (K : PySem.W.Frag) (w : World) (mg : Str → Option Value) (x : Str) (d : Addr) : Prop where
  g : mg x = some (.ref d)
  kd : ∃ es n, KDict K w d es n
def lookS {α : Type} (l : List (Str × α)) (z : Str) : Option α := (l.find? fun p => decide (p.1 = z)).map (·.2)
theorem lookS_mem {α : Type} {l : List (Str × α)} {z : Str} {r : α} (h : lookS l z = some r) : (z, r) ∈ l := by
  obtain ⟨q, h1, rfl⟩ := Option.map_eq_some_iff.mp h
  have h2 := List.find?_some h1
  have h3 := List.mem_of_find?_eq_some h1
  have h4 : q.1 = z := by simpa using h2
  subst h4
  exact h3
def lookB (l : List (Str × Bool)) (z : Str) : Option Bool := (l.find? fun p => decide (p.1 = z)).map (·.2)
theorem lookB_mem {l : List (Str × Bool)} {z : Str} {r : Bool} (h : lookB l z = some r) : (z, r) ∈ l := by
  obtain ⟨q, h1, rfl⟩ := Option.map_eq_some_iff.mp h
  have h2 := List.find?_some h1
  have h3 := List.mem_of_find?_eq_some h1
  have h4 : q.1 = z := by simpa using h2
  subst h4
  exact h3
def aInTab (tk : RE) (tab : List (Str × Bool)) : RT := fun ρ M Q => tk ρ M fun d M1 => match d with
  | .str z => onS (lookB tab z) fun b => Q b M1
  | _ => False
theorem at_inTab {tab : List (Str × Bool)} (T : TabK X.K X.w X.mg x d) (hg : Gl X x) (hT : ∀ p ∈ tab, ∃ r, PySem.W.nsIn X.K d p.1 = some r ∧ r.isSome = p.2) (ha : AE X a tk) (hd : (x == ("__debug__" : Str)) = false := by decide) (hm : behindInMarks .In (.Name x p) = false := by with_unfolding_all rfl) : AT X (.Compare a [.In] [.Name x p] pos) (aInTab tk tab) := by
  obtain ⟨es, n, D⟩ := T.kd
  refine pt_imp (pt_cmpR (op_in_kd D) ha (pe_glob (v := .ref d) hg T.g rfl hd) hm) fun σ H Q' h => ?_
  obtain ⟨ρ, M, Q, hr, hv, q, k⟩ := h
  refine seqE hr hv q fun v H1 dd M1 t1 r1 v1 q1 => ?_
  cases dd <;> first | exact q1.elim | skip
  case str z =>
    obtain ⟨b, e, q2⟩ := onS_ex q1
    obtain ⟨r, h1, h2⟩ := hT _ (lookB_mem e)
    refine ⟨z, r, rep_str_inv r1, rfl, h1, b, by rw [h2], k _ _ _ t1 v1 q2⟩
def aTabRet (i : Nat) (tk : RE) (tab : List (Str × ASp)) (t : RA) : RS := fun D ρ M => i < ρ.length ∧ tk ρ M fun d M1 => match d with
  | .str z => onS (lookS tab z) fun sp => t (ρ.set i none) M1 fun ds M2 => sp ds M2 D.rt
  | _ => False
def tCallD (X : Cx) (k i : Nat) (t : TA) : TE := fun σ H Q => ∃ f fd ps sp, σ[i]? = some (some (.ref f)) ∧ FnOk X.prog X.w X.K X.mg X.base CX0 k f fd ps sp ∧ PySem.W.keepIn X.K (.ref f) = true ∧ Binds X.K fd ps [] ∧ t σ H fun vs H1 => sp (vs ++ []) H1 Q E0
theorem pe_callD {k i : Nat} {t : TA} (hr : Room k X.A) (hN : X.N[i]? = some x) (hv : Vis X.env.scope x) (ha : PA X (e :: es) t)
    (hdb : (x == ("__debug__" : Str)) = false := by decide) (hcd : (x == ("__classdict__" : Str)) = false := by decide)
    (he : starEach (e :: es) X.env = (false, eval e X.env) :: starEach es X.env := by rfl) (hpl : (backTo pos (starEach es X.env)).any (·.1) = false := by rfl) : PE X (.Call (.Name x p) (e :: es) [] pos) (tCallD X k i t) := by
  refine ⟨fun pins s σ H Q I h => ?_⟩
  obtain ⟨f, fd, ps, sp, hs, F, hk, hb, ht⟩ := h
  exact (pe_callL (i := i) F hr hN hv hk hb .nil pass0 ha hdb hcd he hpl).run pins s σ H Q I ⟨hs, ht⟩
theorem ass_tab {tab : List (Str × ASp)} {k : Nat} (i : Nat) (nd : X.N.Nodup) (T : TabK X.K X.w X.mg y d) (hg : Gl X y)
    (hT : ∀ p ∈ tab, ∃ f fd ps, PySem.W.nsIn X.K d p.1 = some (some (.ref f)) ∧ FnA X.prog X.w X.K X.mg X.base k f fd ps p.2 ∧ PySem.W.keepIn X.K (.ref f) = true ∧ Binds X.K fd ps [])
    (hr : Room k X.A) (hk : AE X key tk) (ha : AA X (e :: es) t) (hN : X.N[i]? = some x := by rfl) (hx : Loc X.env.scope x := by first | exact .inl rfl | exact .inr rfl) (hv : Vis X.env.scope x := by first | exact Or.inl rfl | exact Or.inr (Or.inl rfl) | exact Or.inr (Or.inr rfl)) (hf : X.fn x = true ∨ X.env.scope.names.lookup x = some .local := by first | exact .inl rfl | exact .inr rfl) (hd : (y == ("__debug__" : Str)) = false := by decide) (hs : PlainIx key := by exact fun _ _ => rfl)
    (hdb : (x == ("__debug__" : Str)) = false := by decide) (hcd : (x == ("__classdict__" : Str)) = false := by decide)
    (he : starEach (e :: es) X.env = (false, eval e X.env) :: starEach es X.env := by rfl) (hpl : (backTo pos (starEach es X.env)).any (·.1) = false := by rfl) :
    ASs X [.Assign [.Name x xp] (.Subscript (.Name y yp) key sp) ap, .Return (some (.Call (.Name x cp) (e :: es) [] pos)) rp] (aTabRet i tk tab t) := by
  obtain ⟨es', n, D⟩ := T.kd
  refine pss_imp (pss_cons (ps_set (i := i) nd hN hx (pe_ix ix_kdict (pe_glob (v := .ref d) hg T.g rfl hd) hk hs)) (pss_one (ps_ret (pe_callD (i := i) hr hN hv ha hdb hcd he hpl)))) fun D' σ H h => ?_
  obtain ⟨ρ, M, DD, hr', hv', ⟨hi, q⟩, kk⟩ := h
  refine seqE hr' hv' q fun v H1 dd M1 t1 r1 v1 q1 => ?_
  cases dd <;> first | exact q1.elim | skip
  case str z =>
    obtain ⟨asp, e1, q2⟩ := onS_ex q1
    obtain ⟨f, fd, ps, h1, F, kp, b⟩ := hT _ (lookS_mem e1)
    refine ⟨d, z, .ref f, rfl, rep_str_inv r1, ⟨es', n, .ref f, D.at_, D.lit, h1, rfl⟩, ?_⟩
    refine ⟨f, fd, ps, _, List.getElem?_set_self (by rw [← hr'.len]; exact hi), F, kp, b, ?_⟩
    exact seqA ((hr'.mono t1).drop i (some (.ref f))) v1 q2 fun vs H2 ds M2 t2 r2 v2 q3 => ⟨ds, M2, DD.rt, by rw [List.append_nil]; exact r2, v2, q3, kk.rt.up (t1.trans t2)⟩
theorem tabF_nil {P : PySem.W.Frag → Addr → (Str × ASp) → Prop} {K : PySem.W.Frag} {d : Addr} : ∀ p ∈ ([] : List (Str × ASp)), P K d p := fun p hp => by cases hp
theorem tab_cons {α : Type} {P : (Str × α) → Prop} {q : Str × α} {l : List (Str × α)} (h : P q) (r : ∀ p ∈ l, P p) : ∀ p ∈ q :: l, P p := fun p hp => by
  rcases List.mem_cons.mp hp with rfl | hp
  · exact h
  · exact r p hp
theorem tabB_cons {P : (Str × Bool) → Prop} {q : Str × Bool} {l : List (Str × Bool)} (h : P q) (r : ∀ p ∈ l, P p) : ∀ p ∈ q :: l, P p := fun p hp => by
  rcases List.mem_cons.mp hp with rfl | hp
  · exact h
  · exact r p hp
theorem tab_nil {α : Type} {P : (Str × α) → Prop} : ∀ p ∈ ([] : List (Str × α)), P p := fun p hp => by cases hp
theorem tabB_nil {P : (Str × Bool) → Prop} : ∀ p ∈ ([] : List (Str × Bool)), P p := fun p hp => by cases hp
end
end HC
set_option maxHeartbeats 1000000
namespace HC
open PySem L2 PyProof.Rows
section
variable {X : Cx} {K : PySem.W.Frag}
def acSortI : ARC := fun ds M Q => match ds with
  | [d] => ∃ ns : List Int, lstA d M = some (ns.map Dv.int) ∧ ∀ ns' : List Int, ns'.Perm ns → ns'.Pairwise (· ≤ ·) → ∀ p, M p = none → Q (.ref p) (mup M p (.lst (ns'.map Dv.int)))
  | _ => False
theorem reps_ints {H : Hp} : ∀ ns : List Int, Reps K H (ns.map Dv.int) (ns.map V.int)
  | [] => .nil
  | n :: ns => .cons rep_int (reps_ints ns)
theorem abc_sortI : AbC K (rSortedI K) acSortI := by
  intro H M vs ds Q Q' r hv q k
  match ds, q with
  | [d], ⟨ns, h, q⟩ =>
    obtain ⟨v, e, rd⟩ := reps1 r
    obtain ⟨a, ws, e1, s, z⟩ := lstA_ok rd hv h
    rw [z.ints] at s
    exact ⟨a, ns, by rw [e, e1], s, fun ns' p hp hs hn => end_lst (reps_ints ns') hv (q ns' hp hs) k p hn⟩
end
end HC
namespace HC
open PySem L2 PyProof.Rows
section
variable {X : Cx} {K : PySem.W.Frag} {o e : Expr} {es : List Expr} {apos cpos tpos : Pos} {to te : RE} {t : RA}
def aGetT (to : RE) (t : RA) : RE := fun ρ M Q => to ρ M fun x M1 => match x with
  | .ref a => (∃ kvs, M1 a = some (.dit kvs)) ∧ t ρ M1 fun ds M2 => ds.length ≤ sizeLine ∧ match M2 a with
    | some (.dit kvs) => onS (keysD ds) fun k => Q ((getK kvs k).getD .non) M2
    | _ => False
  | _ => False
theorem ae_getT {k1 : Nat} (hu : X.A.units + 1 < cLine) (ho : AE X o to) (ht : AA X es t) (m : M1 X o "get" apos (.Tuple es k1 tpos) cpos) : AE X (.Call (.Attribute o "get" apos) [.Tuple es k1 tpos] [] cpos) (aGetT to t) :=
  pe_imp (pe_dget1 hu ho (pe_tup ht) m) fun σ H Q' ⟨ρ, M, Q, hr, hv, q, k⟩ => seqE hr hv q fun v H1 d M1 t1 r1 v1 q1 => by
    cases d <;> first | exact q1.elim | skip
    case ref a =>
      obtain ⟨⟨kvs0, e0⟩, q1⟩ := q1
      obtain ⟨ws0, e00, _⟩ := (show ∃ kvs', H1 a = some (.dT kvs') ∧ Paired (fun (p : List Key × Dv) (q : List Key × V) => p.1 = q.1 ∧ Rep X.K _ p.2 q.2) kvs0 kvs' from v1 a _ e0)
      refine ⟨a, rep_ref_inv r1, .inr ⟨ws0, .inl e00⟩, ?_⟩
      refine seqA (hr.mono t1) v1 q1 fun vs H2 ds M2 t2 r2 v2 ⟨z, q2⟩ => ?_
      refine ⟨by rw [← r2.length]; exact z, fun p hp => ?_⟩
      have tp := Tp.new (K := X.K) (H := H2) (a := p) (o := .tup vs) hp
      split at q2
      · next kvs e3 =>
        obtain ⟨kk, e4, q5⟩ := onS_ex q2
        have v3 := v2.new (o := .tup vs) hp
        obtain ⟨ws, e5, r⟩ := (show ∃ kvs', upd H2 p (.tup vs) a = some (.dT kvs') ∧ Paired (fun (p : List Key × Dv) (q : List Key × V) => p.1 = q.1 ∧ Rep X.K _ p.2 q.2) kvs kvs' from v3 a _ e3)
        have := keysD_ok r2 e4
        subst this
        refine ⟨_, DGet.t e5 upd_same, ?_⟩
        have tt := (t1.trans t2).trans tp
        rcases getK_ok (k := kk) r with ⟨h1, h2⟩ | ⟨d', v, h1, h2, h3⟩
        · rw [h1] at q5
          rw [h2]
          exact k _ _ .non _ tt rep_non v3 q5
        · rw [h1] at q5
          rw [h2]
          exact k _ _ d' _ tt h3 v3 q5
      · exact q2.elim
end
end HC
namespace HC
open PySem L2 PyProof.Rows
section
variable {X : Cx} {K : PySem.W.Frag} {x : Str} {p : Pos}
def LitT (K : PySem.W.Frag) (a : Addr) (ds : List Dv) : Prop := ∀ H, Rep K H (.tup ds) (.ref a)
theorem lit_ints {a : Addr} {d : Option Addr} {its : Array Value} {n : Nat} {sl : Array (Option Value)} {ns : List Int} (hk : K.lookup a = some ⟨.type "tuple", d, .seq its n, sl⟩) (hz : its.size ≤ sizeLine) (hv : Vals (ns.map V.int) its.toList) : LitT K a (ns.map Dv.int) :=
  fun H => rep_tup (.inr ⟨_, its, n, hk, rfl, rfl, hz, hv⟩) (reps_ints ns)
theorem vals_int1 {i : Int} {t : Tok} : Vals [V.int i] [Value.int i t] := .cons ⟨_, rfl⟩ .nil
theorem ae_gtup {a : Addr} {ds : List Dv} (hg : Gl X x) (hm : X.mg x = some (.ref a)) (hl : LitT X.K a ds) (hdb : (x == ("__debug__" : Str)) = false := by decide) : AE X (.Name x p) (aC (.tup ds)) :=
  pe_imp (pe_glob (v := .ref a) hg hm rfl hdb) fun σ H Q' ⟨ρ, M, Q, hr, hv, q, k⟩ => k _ _ (.tup ds) _ (Tp.refl H) (hl H) hv q
end
end HC
set_option maxHeartbeats 1000000
namespace HC
open PySem PySem.Spec L2 PyProof.Rows
section
variable {prog : Program} {w : World} {A : Around} {E : Value → Shared → Prop} {s : Shared}
theorem collect_tupleA {l : Addr} {vs : List Value} {Q : List Value → Shared → Prop} (hl : s.heap.IsTuple l vs.toArray)
    (h : Q vs { s with heap := (s.heap.push (seqObj "list" #[] 0)).update s.heap.objs.size (Obj.mapSeq (· ++ vs.toArray)) }) (hsz : vs.length ≤ sizeLine) :
    wpAny (model prog w) A (collect (.ref l)) Q E s := by
  obtain ⟨o, ho, hc, n, hd⟩ := id hl
  unfold collect
  refine wpAny_bind (wpAny_runValue (codeAny_builtin entry_proto_collect' ?_))
  show wpAny _ _ (do again (.builtin "list.__iadd__" ⟨[← newList [], .ref l], []⟩)) _ _ s
  refine wpAny_bind (wpAny_newList (wpAny_pure ⟨Code.quiet_builtin _ (by decide +kernel), codeAny_builtin entry_list_iadd' ?_⟩))
  show wpAny _ _ (Builtin.List.listExtendWith (.ref s.heap.objs.size) (.ref l) (.ref s.heap.objs.size)) _ _ { s with heap := s.heap.push (seqObj "list" #[] 0) }
  unfold Builtin.List.listExtendWith
  have ho' : (s.heap.push (seqObj "list" #[] 0)).get? l = some o := Heap.get?_push_of_some _ ho
  refine wpAny_bind (wpAny_typeOf (T := "tuple") ⟨o, ho', hc⟩ ?_)
  have ht : (Value.type "tuple" == Value.type "tuple") = true := by rfl
  rw [if_pos (by rw [ht]; simp)]
  refine wpAny_bind (listItems_at ho' hd ?_)
  refine wpAny_bind (listItems_at (xs := #[]) (n := 0) (Heap.get?_push_size _ rfl) rfl ?_)
  rw [if_neg (by simp)]
  refine wpAny_bind (listUpdate_at (xs := #[]) (n := 0) (Heap.get?_push_size _ rfl) rfl ?_ (Nat.zero_le _) (by show (#[] ++ vs.toArray).size ≤ sizeLine + 1; simp only [Array.size_append, List.size_toArray, List.length_nil]; omega))
  refine wpAny_pure ?_
  show wpAny (model prog w) A (do
      let o ← load s.heap.objs.size
      match o.data with
      | .seq xs _ => pure xs.toList
      | _ => unsupported "internal:collect") Q E { s with heap := (s.heap.push (seqObj "list" #[] 0)).update s.heap.objs.size (Obj.mapSeq (· ++ vs.toArray)) }
  refine wpAny_bind (wpAny_load (get?_update_seq (Heap.get?_push_size _ rfl) _) ?_)
  show wpAny _ _ (pure ((#[] : Array Value) ++ vs.toArray).toList) Q E _
  rw [show ((#[] : Array Value) ++ vs.toArray).toList = vs by simp]
  exact wpAny_pure h
open SrtO in
theorem sorted_ordC {v : Value} {vs : List Value} {ltv : Value → Value → Bool} {Q : Value → Shared → Prop} (O : Swo ltv) (hz : vs.length ≤ sizeLine)
    (hcol : ∀ (A : Around) (E : Value → Shared → Prop) (Q : List Value → Shared → Prop), Q vs { s with heap := (s.heap.push (seqObj "list" #[] 0)).update s.heap.objs.size (Obj.mapSeq (· ++ vs.toArray)) } → wpAny (model prog w) A (collect v) Q E s)
    (hS : 2 ≤ vs.length → ∀ (h₁ : Heap) (a : Addr), h₁.get? a = some (seqObj "list" vs.toArray 0) → (∀ b o, s.heap.get? b = some o → b ≠ a ∧ h₁.get? b = some o) → SortableO prog w A.in1.in1 { s with heap := h₁ } a vs ltv)
    (h : ∀ out : List Value, Srtd ltv out → Stb ltv out vs → Q (.ref (s.heap.objs.size + 1)) { s with heap := sortedAll s.heap vs out.toArray }) :
    wpAny (model prog w) A (call (.builtin "sorted") [v]) Q E s := by
  refine Calls.call_function_entry kind_sorted plain_sorted entry_sorted (args_sorted1 _) ?_
  unfold Builtin.«sorted»
  refine wpAny_bind (m := checkCount "sorted" 1 1 _) (wpAny_pure ?_)
  refine wpAny_bind (hcol _ _ _ ?_)
  refine wpAny_bind (wpAny_newList ?_ hz)
  have hsz : ((s.heap.push (seqObj "list" #[] 0)).update s.heap.objs.size (Obj.mapSeq (· ++ vs.toArray))).objs.size = s.heap.objs.size + 1 := by
    rw [Heap.size_update, size_push']
  have hoL : (((s.heap.push (seqObj "list" #[] 0)).update s.heap.objs.size (Obj.mapSeq (· ++ vs.toArray))).push (seqObj "list" vs.toArray 0)).get? (s.heap.objs.size + 1) = some (seqObj "list" vs.toArray 0) := by
    rw [← hsz]; exact Heap.get?_push_size _ rfl
  have keep : ∀ b o, s.heap.get? b = some o → b ≠ s.heap.objs.size + 1 ∧ (((s.heap.push (seqObj "list" #[] 0)).update s.heap.objs.size (Obj.mapSeq (· ++ vs.toArray))).push (seqObj "list" vs.toArray 0)).get? b = some o := fun b o q => by
    have hlt : b < s.heap.objs.size := Heap.lt_size q
    refine ⟨Nat.ne_of_lt (Nat.lt_succ_of_lt hlt), Heap.get?_push_of_some _ ?_⟩
    rw [Heap.get?_update_ne _ _ _ _ (Nat.ne_of_lt hlt)]
    exact Heap.get?_push_of_some _ q
  show wpAny _ _ _ _ _ { s with heap := ((s.heap.push (seqObj "list" #[] 0)).update s.heap.objs.size (Obj.mapSeq (· ++ vs.toArray))).push (seqObj "list" vs.toArray 0) }
  rw [hsz]
  refine wpAny_bind (wpAny_holding (wpAny_call_entry slot_list_sort ⟨_, hoL, rfl⟩ entry_list_sort (list_sort_ord O hoL hz (fun h2 => hS h2 _ _ hoL keep) fun out hs hb => ⟨_, rfl, ?_⟩) (args_list_sort _)))
  exact wpAny_pure ⟨_, rfl, h out hs hb⟩
end
def PrAt (K : PySem.W.Frag) (H : Hp) (x : V) (p : Int × Int) : Prop := ∃ t, x = V.ref t ∧ SqT K H t [.int p.1, .int p.2]
theorem PrAt.up {K : PySem.W.Frag} {H : Hp} {x : V} {p : Int × Int} {d : Addr} {o : HO} (h : PrAt K H x p) (hd : H d = none) : PrAt K (upd H d o) x p := by
  obtain ⟨t, e, s⟩ := h
  exact ⟨t, e, (Tp.new hd).t _ _ s⟩
def lexLe (p q : Int × Int) : Prop := p.1 < q.1 ∨ (p.1 = q.1 ∧ p.2 ≤ q.2)
def rSortedPT (K : PySem.W.Frag) : List V → Hp → VK → Prop := fun vs H Q => ∃ (a : Addr) (xs : List V) (ps : List (Int × Int)), vs = [V.ref a] ∧ (SqL K H a xs ∨ SqT K H a xs) ∧ Paired (PrAt K H) xs ps ∧
  ∀ ys ps' p, Paired (PrAt K H) ys ps' → ps'.Perm ps → ps'.Pairwise lexLe → H p = none → Q (.ref p) (upd H p (.lst ys))
theorem pair_fun {h : Heap} {u : Value} {i j k l : Int} (a : Srt.IsPair h u i j) (b : Srt.IsPair h u k l) : i = k ∧ j = l := by
  obtain ⟨a, o, t, v, n, rfl, ho, _, hd⟩ := a
  obtain ⟨a', o', t', v', n', e, ho', _, hd'⟩ := b
  cases e
  rw [ho] at ho'
  cases ho'
  rw [hd] at hd'
  cases hd'
  exact ⟨rfl, rfl⟩
open Classical in
noncomputable def kOf (h : Heap) (u : Value) : Int × Int := if z : ∃ p : Int × Int, Srt.IsPair h u p.1 p.2 then z.choose else (0, 0)
theorem kOf_eq {h : Heap} {u : Value} {p : Int × Int} (z : Srt.IsPair h u p.1 p.2) : kOf h u = p := by
  have w : ∃ p : Int × Int, Srt.IsPair h u p.1 p.2 := ⟨p, z⟩
  unfold kOf
  rw [dif_pos w]
  obtain ⟨e1, e2⟩ := pair_fun w.choose_spec z
  exact Prod.ext e1 e2
theorem paired_mem {α β : Type} {R : α → β → Prop} : ∀ {xs : List α} {ys : List β} {x : α}, Paired R xs ys → x ∈ xs → ∃ y ∈ ys, R x y
  | _, _, _, .nil, h => by cases h
  | _, _, _, .cons r t, h => by
    rcases List.mem_cons.mp h with rfl | h
    · exact ⟨_, List.mem_cons_self, r⟩
    · obtain ⟨y, hy, z⟩ := paired_mem t h
      exact ⟨y, List.mem_cons_of_mem _ hy, z⟩
theorem paired_map {α β : Type} {R : α → β → Prop} {k : α → β} : ∀ {xs : List α}, (∀ x ∈ xs, R x (k x)) → Paired R xs (xs.map k)
  | [], _ => .nil
  | x :: xs, h => .cons (h x List.mem_cons_self) (paired_map fun y hy => h y (List.mem_cons_of_mem _ hy))
section
variable {X : Cx}
theorem cr_sortedPT : CallR X (.builtin "sorted") (rSortedPT X.K) := by
  intro pins s σ H vs us Q I r h
  obtain ⟨a, xs, ps, rfl, hs, hx, q⟩ := h
  obtain ⟨u, rfl, ru⟩ := vals1 r
  obtain rfl : u = Value.ref a := ru
  have main : ∀ its : List Value, Vals xs its → its.length ≤ sizeLine → (∀ (A : Around) (E : Value → Shared → Prop) (Q : List Value → Shared → Prop), Q its { s with heap := (s.heap.push (seqObj "list" #[] 0)).update s.heap.objs.size (Obj.mapSeq (· ++ its.toArray)) } → wpAny (model X.prog X.w) A (collect (.ref a)) Q E s) →
      wpAny (model X.prog X.w) X.A (call (.builtin "sorted") [.ref a]) (EP X pins σ Q) X.xe s := fun its rv hz hcol => by
    obtain ⟨e1, e2⟩ := refs_back rv fun x m => by
      obtain ⟨p, _, t, e, _⟩ := paired_mem hx m
      exact ⟨t, e⟩
    have hv : ∀ x p, PrAt X.K H x p → ∀ u, RelV x u → Srt.IsPair s.heap u p.1 p.2 := fun x p z u ru => by
      obtain ⟨t, e, ht⟩ := z
      subst e
      cases ru
      obtain ⟨its2, r2, ⟨o, ho, hc, n, hd⟩, hz2⟩ := I.tuple ht
      obtain ⟨u1, u2, rfl, ri, rj⟩ := vals2 r2
      obtain ⟨t1, rfl⟩ := ri
      obtain ⟨t2, rfl⟩ := rj
      exact ⟨t, o, t1, t2, n, rfl, ho, hc, hd⟩
    have hk : its.map (kOf s.heap) = ps := by
      clear hcol hz e1 e2 q hs r
      induction rv generalizing ps with
      | nil => cases hx; rfl
      | cons rw' rt ih =>
        cases hx with
        | cons hp ht => rw [List.map_cons, kOf_eq (hv _ _ hp _ rw'), ih _ ht]
    have hp : ∀ v ∈ its, ∃ p, Srt.IsPair s.heap v p.1 p.2 ∧ PrAt X.K H (backV v) p := fun v hm => by
      obtain ⟨t, rfl⟩ := e2 v hm
      have hm : V.ref t ∈ xs := by rw [e1]; exact List.mem_map.mpr ⟨_, hm, rfl⟩
      obtain ⟨p, _, z⟩ := paired_mem hx hm
      exact ⟨p, hv _ _ z _ rfl, z⟩
    refine sorted_ordC (SrtO.swo_lex (kOf s.heap)) hz hcol (fun h2 h₁ a' ha kk => ?_) fun out h1 h2 => ?_
    · refine SrtO.pairs_sortableO (s := { s with heap := h₁ }) (by omega) (fun v hm => ?_) fun o e => ?_
      · obtain ⟨p, z, _⟩ := hp v hm
        rw [kOf_eq z]
        exact z.keeps fun b o e _ => (kk b o e).2
      · have e' : some o = some (seqObj "list" its.toArray 0) := e.symm.trans ha
        cases e'
        intro c
        exact absurd (Value.type.inj c) (by decide)
    · have h3 : ∀ u ∈ out, ∃ a, u = Value.ref a := fun u hu => e2 u (h2.perm.mem_iff.mp hu)
      obtain ⟨n, hn⟩ := sortedAll_at s.heap its out.toArray
      refine ⟨.ref _, upd H (s.heap.objs.size + 1) (.lst (out.map backV)), I.laid (t' := s.toks) (fun _ _ => sortedAll_old) (Nat.le_succ _) ⟨?_, out, n, vals_back h3, hn⟩, rfl, q _ (out.map (kOf s.heap)) _ ?_ ?_ ?_ (I.hok.fresh (Nat.le_succ _))⟩
      · rw [List.length_map, h2.perm.length_eq]
        exact hz
      · have z : Paired (fun u p => PrAt X.K H (backV u) p) out (out.map (kOf s.heap)) := paired_map fun u hu => by
          obtain ⟨p, z1, z2⟩ := hp u (h2.perm.mem_iff.mp hu)
          rw [kOf_eq z1]
          exact z2
        generalize out.map (kOf s.heap) = l at z
        clear hn h3 h1 h2
        induction z with
        | nil => exact .nil
        | cons a b ih => exact .cons a ih
      · rw [← hk]
        exact h2.perm.map _
      · rw [List.pairwise_map]
        refine h1.imp fun {x y} z => ?_
        have := SrtO.lexB_no.mp z
        unfold lexLe
        omega
  rcases hs with hs | hs
  · obtain ⟨its, rv, hl, hz⟩ := I.list hs
    have hz' : its.length ≤ sizeLine := by rw [← rv.length]; exact hz
    exact main its rv hz' fun A E Q q => collect_list hl.isList q hz'
  · obtain ⟨its, rv, hl, hz⟩ := I.tuple hs
    have hz' : its.length ≤ sizeLine := by
      first | exact hz | (rw [← rv.length]; exact hz)
    exact main its rv hz' fun A E Q q => collect_tupleA hl q hz'
end
def prI (p : Int × Int) : Dv := .tup [.int p.1, .int p.2]
def acSortP : ARC := fun ds M Q => match ds with
  | [d] => ∃ ps : List (Int × Int), itemsA d M = some (ps.map prI) ∧ ∀ ps' : List (Int × Int), ps'.Perm ps → ps'.Pairwise lexLe → ∀ p, M p = none → Q (.ref p) (mup M p (.lst (ps'.map prI)))
  | _ => False
theorem reps_prI {K : PySem.W.Frag} {H : Hp} : ∀ {ps : List (Int × Int)} {vs : List V}, Reps K H (ps.map prI) vs → Paired (PrAt K H) vs ps
  | [], vs, r => by rw [r.nil_inv]; exact .nil
  | p :: ps, vs, r => by
    obtain ⟨v, w, rfl, r1, r2⟩ := Reps.cons_inv (d := prI p) (ds := ps.map prI) (by simpa using r)
    obtain ⟨a, xs, e, s, z⟩ := rep_tup_inv r1
    obtain ⟨x, y, e2, z1, z2⟩ := reps2 z
    have ex := rep_int_inv z1
    have ey := rep_int_inv z2
    subst e e2 ex ey
    exact .cons ⟨a, rfl, s⟩ (reps_prI r2)
theorem pr_back {K : PySem.W.Frag} {H : Hp} : ∀ {ps : List (Int × Int)} {vs : List V}, Paired (PrAt K H) vs ps → Reps K H (ps.map prI) vs
  | _, _, .nil => .nil
  | _, _, .cons ⟨t, e, s⟩ r => by
    subst e
    exact .cons (rep_tup s (.cons rep_int (.cons rep_int .nil))) (pr_back r)
theorem abc_sortP {K : PySem.W.Frag} : AbC K (rSortedPT K) acSortP := by
  intro H M vs ds Q Q' r hv q k
  match ds, q with
  | [d], ⟨ps, h, q⟩ =>
    obtain ⟨v, e, rd⟩ := reps1 r
    obtain ⟨a, ws, e1, s, z⟩ := itemsA_ok rd hv h
    exact ⟨a, ws, ps, by rw [e, e1], s.symm, reps_prI z, fun ys ps' p hy hp hs hn => end_lst (pr_back hy) hv (q ps' hp hs) k p hn⟩
end HC
namespace HC
open PySem PySem.Spec L2 HT PyProof.Rows
section
variable {prog : Program} {w : World} {A : Around} {E : Value → Shared → Prop} {s : Shared}
theorem sliceApplied_rev {sl : Addr} {vl vu vs : Value} {n : Nat} {Q : Int × Int × Nat → Shared → Prop} (hs : s.heap.IsSliceOf sl vl vu vs) (pl : IsPart vl none) (pu : IsPart vu none) (ps : IsPart vs (some (-1)))
    (h : Q ((n : Int) - 1, -1, n) s) : wpAny (model prog w) A (Builtin.Slice.sliceApplied (.ref sl) (pure (n : Int))) Q E s := by
  obtain ⟨os, hos, hcs, hds⟩ := id hs
  unfold Builtin.Slice.sliceApplied Builtin.Slice.sliceFields
  refine wpAny_bind (wpAny_bind (wpAny_field hos hds (x := vl) rfl (wpAny_bind (wpAny_field hos hds (x := vu) rfl (wpAny_bind (wpAny_field hos hds (x := vs) rfl (wpAny_pure ?_)))))))
  refine wpAny_bind (slicePart_ ps ?_)
  show wpAny _ _ (if ((-1 : Int) == 0) = true then _ else _) _ _ s
  rw [if_neg (by decide)]
  refine wpAny_bind (slicePart_ pl (wpAny_bind (slicePart_ pu (wpAny_bind (wpAny_pure ?_)))))
  show wpAny _ _ (pure ((n : Int) - 1, (-1 : Int), Builtin.Slice.slicePlaces ((n : Int) - 1) (-1) (-1))) _ _ s
  have e : Builtin.Slice.slicePlaces ((n : Int) - 1) (-1) (-1) = n := by
    unfold Builtin.Slice.slicePlaces
    rw [if_neg (by decide)]
    by_cases h0 : n = 0
    · subst h0; rfl
    · rw [if_pos (by omega)]
      have : ((n : Int) - 1 - -1 - 1) / - -1 = (n : Int) - 1 := by
        rw [show (- -1 : Int) = 1 by decide, Int.ediv_one]; omega
      rw [this]
      omega
  rw [e]
  exact wpAny_pure h
theorem pick_back (xs : Array Value) : ((List.range xs.size).filterMap fun (m : Nat) => xs[((xs.size : Int) - 1 + (m : Int) * (-1)).toNat]?).toArray = xs.toList.reverse.toArray := by
  congr 1
  obtain ⟨l⟩ := xs
  simp only [List.size_toArray, List.getElem?_toArray]
  have e : (List.range l.length).filterMap (fun (m : Nat) => l[((l.length : Int) - 1 + (m : Int) * (-1)).toNat]?) = (List.range l.length).filterMap (fun m => l.reverse[m]?) := by
    have g : ∀ L : List Nat, (∀ m ∈ L, m < l.length) → L.filterMap (fun (m : Nat) => l[((l.length : Int) - 1 + (m : Int) * (-1)).toNat]?) = L.filterMap (fun m => l.reverse[m]?) := fun L => by
      induction L with
      | nil => intro _; rfl
      | cons m L ih =>
        intro hL
        have hm' := hL m List.mem_cons_self
        have em : l[((l.length : Int) - 1 + (m : Int) * (-1)).toNat]? = l.reverse[m]? := by
          rw [List.getElem?_reverse hm']
          congr 1
          omega
        rw [List.filterMap_cons, List.filterMap_cons, em, ih fun m hm => hL m (List.mem_cons_of_mem _ hm)]
    exact g _ fun m hm => List.mem_range.mp hm
  rw [e]
  have := pick_run l.reverse.toArray 0 l.length
  have e2 : List.take l.length l.reverse = l.reverse := List.take_of_length_le (by simp)
  simpa [List.filterMap_map, Function.comp_def, e2] using this
theorem getItem_tuple_rev {t sl : Addr} {items : Array Value} {vl vu vs : Value} {Q : Value → Shared → Prop} (ht : IsTup s.heap t items) (hs : s.heap.IsSliceOf sl vl vu vs) (pl : IsPart vl none) (pu : IsPart vu none) (ps : IsPart vs (some (-1)))
    (h : Q (.ref s.heap.objs.size) { s with heap := s.heap.push { cls := .type "tuple", data := .seq items.toList.reverse.toArray } })
    (hsz : items.size ≤ sizeLine) : wpAny (model prog w) A (getItem (.ref t) (.ref sl)) Q E s := by
  have htake : sizeOk (.seq items.toList.reverse.toArray) := by
    show items.toList.reverse.toArray.size ≤ sizeLine
    rw [List.size_toArray, List.length_reverse, Array.length_toList]
    omega
  obtain ⟨os, hos, hcs, hds⟩ := id hs
  have hTs : s.TypeIs (.ref sl) "slice" := ⟨os, hos, hcs⟩
  unfold getItem
  try with_reducible refine wpAny_holding ?_
  first | refine wpAny_bind (wpAny_pure ?_) | skip
  refine wpAny_bind (wpAny_sequenceKey ht.typeIs (by decide) ?_)
  refine wpAny_bind (wpAny_callSpecial?_slot (name := Str.ofString "__getitem__") ht.typeIs PyProof.Rows.slot_tuple_getitem
    (wpAny_call_entry PyProof.Rows.slot_tuple_getitem ht.typeIs entry_tuple_getitem ?_ (args_tuple_getitem _ _)))
  show wpAny _ _ (Builtin.Tuple.tupleItemsOf (.ref t) >>= _) _ _ s
  refine wpAny_bind (tupleItemsOf_ ht ?_)
  refine wpAny_bind (wpAny_typeOf hTs ?_)
  rw [if_pos (by decide)]
  refine wpAny_bind (sliceApplied_rev hs pl pu ps ?_)
  show wpAny _ _ (if (((items.size : Int) - 1) == 0 && (-1 : Int) == 1 && items.size == items.size) = true then _ else _) _ _ s
  rw [if_neg (by simp), pick_back]
  first
    | exact wpAny_bind (m := Builtin.Tuple.tupleExact _) (wpAny_newObj_type (wpAny_pure ⟨_, rfl, wpAny_pure h⟩) htake)
    | exact wpAny_bind (m := Builtin.Tuple.tupleExact _) (wpAny_newObj_type (wpAny_bind (wpAny_pure (wpAny_pure ⟨_, rfl, wpAny_pure h⟩))) htake)
    | exact wpAny_bind (wpAny_bind (m := Builtin.Tuple.tupleExact _) (wpAny_newObj_type (wpAny_pure (wpAny_pure ⟨_, rfl, wpAny_pure h⟩)) htake))
    | exact wpAny_bind (wpAny_bind (m := Builtin.Tuple.tupleExact _) (wpAny_newObj_type (wpAny_pure ⟨_, rfl, wpAny_pure h⟩) htake))
end
section
variable {X : Cx} {e : Expr} {te : RE}
def tRevT (K : PySem.W.Frag) (t : TE) : TE := fun σ H Q => t σ H fun x H1 => ∃ a xs, x = .ref a ∧ SqT K H1 a xs ∧ ∀ p, H1 p = none → Q (.ref p) (upd H1 p (.tup xs.reverse))
theorem pe_revT {te : TE} {k : Nat} {p1 p2 p3 pos : Pos} (he : PE X e te) : PE X (.Subscript e (.Slice none none (some (.UnaryOp .USub (.Constant (.int 1) k p1) p2)) p3) pos) (tRevT X.K te) := by
  refine ⟨fun pins s σ H Q I h => ?_⟩
  refine Subscript_ (thn (he.run pins s σ H _ I h) fun v s1 ⟨x, H1, I1, r1, q1⟩ => ?_)
  obtain ⟨a, xs, ex, hx, q⟩ := q1
  subst ex
  cases r1
  have hst : PO X (some (.UnaryOp .USub (.Constant (.int 1) k p1) p2)) (tPart (tUn (rU fun i => .int (-i)) (tC (.int 1)))) := po_some (pe_un un_neg pe_int)
  refine wpAny_Slice (thn (po_none.run pins s1 σ H1 (fun o H2 => o = none ∧ H2 = H1) I1 ⟨rfl, rfl⟩) fun vl s2 ⟨l, H2, I2, pl, el, e2⟩ => ?_)
  subst el e2
  refine thn (po_none.run pins s2 σ H2 (fun o H3 => o = none ∧ H3 = H2) I2 ⟨rfl, rfl⟩) fun vu s3 ⟨u, H3, I3, pu, eu, e3⟩ => ?_
  subst eu e3
  refine thn (hst.run pins s3 σ H3 (fun o H4 => o = some (-1) ∧ H4 = H3) I3 ⟨1, rfl, -1, rfl, rfl, rfl⟩) fun vs s4 ⟨o, H4, I4, ps, eo, e4⟩ => ?_
  subst eo e4
  have I5 : Inv X pins σ H4 { s4 with heap := s4.heap.push { cls := .type "slice", data := .fields #[vl, vu, vs] } } := I4.kept (t' := s4.toks) fun b ob q => Heap.get?_push_of_some _ q
  obtain ⟨its, r, ht, hz⟩ := I5.tuple hx
  have hlen := r.length
  show wpAny (model X.prog X.w) X.A (subscriptTail e (.Slice none none (some (.UnaryOp .USub (.Constant (.int 1) k p1) p2)) p3) (.ref a) (.ref s4.heap.objs.size)) (EP X pins σ Q) X.xe { s4 with heap := s4.heap.push { cls := .type "slice", data := .fields #[vl, vu, vs] } }
  refine tail_any (ops := [.ref a, .ref s4.heap.objs.size]) ht.typeIs (PyProof.Rows.slot_tuple_getitem.lookup) ?_ (by with_unfolding_all rfl)
  refine getItem_tuple_rev ht (Heap.IsSliceOf.new _ vl vu vs) pl pu ps ?_ (by rw [List.size_toArray]; omega)
  refine ⟨.ref _, _, I5.laid (t' := s4.toks) (o := .tup xs.reverse) (fun b ob q => Heap.get?_push_of_some _ q) (Nat.le_refl _) ?_, rfl, q _ (I5.hok.fresh (Nat.le_refl _))⟩
  exact ⟨by rw [List.length_reverse]; omega, _, r.reverse, IsTup.new _ _⟩
def aRevT (te : RE) : RE := fun ρ M Q => te ρ M fun d M1 => match d with
  | .tup xs => Q (.tup xs.reverse) M1
  | _ => False
theorem ae_revT {k : Nat} {p1 p2 p3 pos : Pos} (he : AE X e te) : AE X (.Subscript e (.Slice none none (some (.UnaryOp .USub (.Constant (.int 1) k p1) p2)) p3) pos) (aRevT te) :=
  pe_imp (pe_revT he) fun σ H Q' ⟨ρ, M, Q, hr, hv, q, k⟩ => seqE hr hv q fun v H1 d M1 t1 r1 v1 q1 => by
    cases d <;> first | exact q1.elim | skip
    case tup xs =>
      obtain ⟨a, vs, e1, s, z⟩ := rep_tup_inv r1
      exact ⟨a, vs, e1, s, end_tup z.rev v1 q1 (k.up t1)⟩
end
end HC
set_option maxHeartbeats 1000000
namespace HC
open PySem PySem.Spec L2 PyProof.Rows
theorem as_tryN {X : Cx} {body : List Stmt} {h₀ : ExceptHandler} {hs : List ExceptHandler} {pos : Pos} {t : RS} (hn : ∀ e s, ¬ X.xe e s) (hb : ASs X body t) : AS X (.Try body (h₀ :: hs) [] [] pos) t :=
  ps_imp (ps_try_never hn hb pss_nil) fun D σ H h => h
def castD : Dv → Dv
  | .tuc xs => .tup xs
  | d => d
theorem cast_rep {K : PySem.W.Frag} {H : Hp} {d : Dv} {v : V} (r : Rep K H d v) : Rep K H (castD d) v := by
  cases d <;> first | exact r | skip
  case tuc xs =>
    obtain ⟨a, vs, e, s, z⟩ := rep_tuc_inv r
    rw [e]
    exact rep_tup s.t z
def aCast (te : RE) : RE := fun ρ M Q => te ρ M fun d M1 => Q (castD d) M1
section
variable {X : Cx} {e o f : Expr} {es : List Expr} {te to tf : RE} {t : RA} {pos apos cpos p : Pos} {K : PySem.W.Frag}
theorem ae_cast (h : AE X e te) : AE X e (aCast te) := pe_imp h fun σ H Q' ⟨ρ, M, Q, hr, hv, q, k⟩ => ⟨ρ, M, _, hr, hv, q, fun v H' d M' t' r v' q' => k v H' (castD d) M' t' (cast_rep r) v' q'⟩
theorem call_tuple_ofC : CallR X (.type "tuple") (fun xs H Q => ∃ p ys, xs = [.ref p] ∧ SqL X.K H p ys ∧ ∀ (l : Addr) (o : Obj), o.dict = none → H l = none → Q (.ref l) (upd H l (.frz o (.tup ys)))) := by
  intro pins s σ H xs us Q I r h
  obtain ⟨p, ys, rfl, hq, q⟩ := h
  obtain ⟨u, rfl, rx⟩ := vals1 r
  cases rx
  obtain ⟨its, r', pl, hz⟩ := I.list hq
  have hlen := r'.length
  refine call_tuple_list pl.isList (fun h' kp => ?_) (by simp only [List.size_toArray] <;> omega)
  have I1 : Inv X pins σ H { s with heap := h' } := I.kept (t' := s.toks) kp
  exact ⟨.ref h'.objs.size, upd H h'.objs.size (.frz { cls := .type "tuple", data := .seq its.toArray } (.tup ys)),
    I1.laid (t' := s.toks) (o := .frz { cls := .type "tuple", data := .seq its.toArray } (.tup ys)) (fun b o e => Heap.get?_push_of_some _ e) (Nat.le_refl _) ⟨Heap.get?_push_size _ rfl, hz, its, r', IsTup.new _ _⟩, rfl, q _ _ rfl (I1.hok.fresh (Nat.le_refl _))⟩
def acTupC : ARC := fun ds M Q => match ds with
  | [d] => onS (lstA d M) fun xs => Q (.tuc xs) M
  | _ => False
theorem abc_tupC : AbC K (fun xs H Q => ∃ p ys, xs = [.ref p] ∧ SqL K H p ys ∧ ∀ (l : Addr) (o : Obj), o.dict = none → H l = none → Q (.ref l) (upd H l (.frz o (.tup ys)))) acTupC := by
  intro H M vs ds Q Q' r hv q k
  match ds, q with
  | [d], q =>
    obtain ⟨xs, h, q⟩ := onS_ex q
    obtain ⟨v, e, rd⟩ := reps1 r
    obtain ⟨a, ws, e1, s, z⟩ := lstA_ok rd hv h
    refine ⟨a, ws, by rw [e, e1], s, fun l o ho hl => k _ _ (.tuc xs) M (Tp.new hl) ?_ (hv.new hl) q⟩
    simp only [Rep]
    exact ⟨l, ws, rfl, ⟨o, upd_same, ho⟩, z.mono (Tp.new hl)⟩
open Classical in
noncomputable def cntD (xs : List Dv) (y : Dv) : Nat := xs.countP fun x => decide (x = y)
theorem count_data {ds : List PyData} {its : List Value} {f : Value → PyData} (h : its.map f = ds) (d : PyData) : its.countP (fun u => PyData.eqv (f u) d) = ds.countP fun z => PyData.eqv z d := by
  subst h
  rw [List.countP_map]
  rfl
theorem count_pl {n : Nat} {y : Dv} (hy : Pl n y) : ∀ {xs : List Dv}, (∀ x ∈ xs, Pl n x) → (xs.map (pyP n)).countP (fun z => PyData.eqv z (pyP n y)) = cntD xs y
  | [], _ => rfl
  | x :: xs, h => by
    have ih := count_pl hy (xs := xs) fun z hz => h z (List.mem_cons_of_mem _ hz)
    unfold cntD at ih ⊢
    rw [List.map_cons, List.countP_cons, List.countP_cons, ih, eqv_dec n x y (h x List.mem_cons_self) hy]
theorem cnt_room {ds : List PyData} {d : PyData} {u : Nat} (hd : PyData.depth d ≤ 20) (hu : u + 64 < cLine) : u + 1 + min (PyData.depthAll ds) d.depth < cLine := by
  have : min (PyData.depthAll ds) d.depth ≤ 20 := Nat.le_trans (Nat.min_le_right _ _) hd
  omega
def rCntL (K : PySem.W.Frag) : V → List V → Hp → VK → Prop := fun x xs H Q => ∃ (a : Addr) (vs : List V) (y : V) (d : PyData) (ds : List PyData), x = V.ref a ∧ xs = [y] ∧ SqL K H a vs ∧ DpAll K H vs ds ∧ Dp K H y d ∧ PyData.canLayAll0 ds = true ∧ d.canLay0 = true ∧ PyData.depth d ≤ 20 ∧
  Q (.int ((ds.countP fun z => PyData.eqv z d : Nat) : Int)) H
theorem mt_cntL (hu : X.A.units + 64 < cLine) : MtR X "list.count" (rCntL X.K) := by
  intro pins s σ H x xs v us Q I rx rxs h
  obtain ⟨a, vs, y, d, ds, rfl, rfl, hs, ha, hy, c1, c2, hd, q⟩ := h
  cases rx
  obtain ⟨uy, rfl, ry⟩ := rxs.one
  obtain ⟨bs, r1⟩ := Dp.reads I d y uy hy ry
  obtain ⟨its, rv, ⟨⟨cls, dd, data, sls⟩, n, ho, hc, hdn, hdt⟩, hlen⟩ := I.list hs
  simp only at hc hdt
  subst hc hdt
  obtain ⟨as, h4⟩ := Dp.readsAll I ds _ its ha rv
  have hmap : its.map (SeqAt.readOf s.heap) = ds := SeqAt.readsAll_map ds its as c1 h4
  refine call_meets PySem.F.slot_list_count ⟨_, ho, rfl⟩ PySem.F.entry_list_count (PySem.F.args_list_count_2 _ _)
    (SeqAt.list_countAt a its.toArray n dd sls uy (fun u => PyData.eqv (SeqAt.readOf s.heap u) d)) ⟨ho, SeqAt.items_eqAt (vs := its.toArray) (show ReadsAll s.heap its.toArray.toList ds as from h4) r1 c1 c2 (cnt_room hd hu), ?_⟩
  have ec : its.toArray.toList.countP (fun u => PyData.eqv (SeqAt.readOf s.heap u) d) = ds.countP fun z => PyData.eqv z d := count_data hmap d
  refine ⟨.int ((ds.countP fun z => PyData.eqv z d : Nat) : Int), H, I.tok _, ⟨s.toks, ?_⟩, q⟩
  rw [ec]
def rCntT (K : PySem.W.Frag) : V → List V → Hp → VK → Prop := fun x xs H Q => ∃ (a : Addr) (vs : List V) (y : V) (d : PyData) (ds : List PyData), x = V.ref a ∧ xs = [y] ∧ SqT K H a vs ∧ DpAll K H vs ds ∧ Dp K H y d ∧ PyData.canLayAll0 ds = true ∧ d.canLay0 = true ∧ PyData.depth d ≤ 20 ∧
  Q (.int ((ds.countP fun z => PyData.eqv z d : Nat) : Int)) H
theorem mt_cntT (hu : X.A.units + 64 < cLine) : MtR X "tuple.count" (rCntT X.K) := by
  intro pins s σ H x xs v us Q I rx rxs h
  obtain ⟨a, vs, y, d, ds, rfl, rfl, hs, ha, hy, c1, c2, hd, q⟩ := h
  cases rx
  obtain ⟨uy, rfl, ry⟩ := rxs.one
  obtain ⟨bs, r1⟩ := Dp.reads I d y uy hy ry
  obtain ⟨its, rv, ⟨⟨cls, dd, data, sls⟩, ho, hc, n, hdt⟩, hlen⟩ := I.tuple hs
  simp only at hc hdt
  subst hc hdt
  obtain ⟨as, h4⟩ := Dp.readsAll I ds _ its ha rv
  have hmap : its.map (SeqAt.readOf s.heap) = ds := SeqAt.readsAll_map ds its as c1 h4
  refine call_meets PySem.F.slot_tuple_count ⟨_, ho, rfl⟩ PySem.F.entry_tuple_count (PySem.F.args_tuple_count_2 _ _)
    (SeqAt.tuple_countAt a its.toArray n dd sls uy (fun u => PyData.eqv (SeqAt.readOf s.heap u) d)) ⟨ho, SeqAt.items_eqAt (vs := its.toArray) (show ReadsAll s.heap its.toArray.toList ds as from h4) r1 c1 c2 (cnt_room hd hu), ?_⟩
  have ec : its.toArray.toList.countP (fun u => PyData.eqv (SeqAt.readOf s.heap u) d) = ds.countP fun z => PyData.eqv z d := count_data hmap d
  refine ⟨.int ((ds.countP fun z => PyData.eqv z d : Nat) : Int), H, I.tok _, ⟨s.toks, ?_⟩, q⟩
  rw [ec]
noncomputable def amCnt : ARM := fun x ds M Q => match ds with
  | [y] => onS (itemsA x M) fun xs => (∀ z ∈ xs, Pl 8 z) ∧ Pl 8 y ∧ Q (.int (cntD xs y : Nat)) M
  | _ => False
theorem cnt_ok {H : Hp} {M : Ms} {xs : List Dv} {vs : List V} {y : Dv} {u : V} {P : Nat → Prop} (z : Reps K H xs vs) (ry : Rep K H y u) (h1 : ∀ z ∈ xs, Pl 8 z) (h2 : Pl 8 y) (q : P (cntD xs y)) :
    ∃ (d : PyData) (ds : List PyData), DpAll K H vs ds ∧ Dp K H u d ∧ PyData.canLayAll0 ds = true ∧ d.canLay0 = true ∧ PyData.depth d ≤ 20 ∧ P (ds.countP fun z => PyData.eqv z d) := by
  have d2 := depth_pl 8 _ h2
  exact ⟨_, _, dpAll_of (dp_of 8) h1 z, dp_of 8 _ _ h2 ry, canLayAll_of fun d hd => canLay_pl 8 d (h1 d hd), canLay_pl _ _ h2, by omega, by rw [count_pl h2 h1]; exact q⟩
def onTuc (d : Dv) (Q : List Dv → Prop) : Prop := match d with | .tuc xs => Q xs | _ => False
theorem onTuc_ex {d : Dv} {Q : List Dv → Prop} (h : onTuc d Q) : ∃ xs, d = .tuc xs ∧ Q xs := by
  cases d <;> first | exact h.elim | exact ⟨_, rfl, h⟩
noncomputable def aCntL (to : RE) (t : RA) : RE := fun ρ M Q => to ρ M fun x M1 => tyM "list" x M1 ∧ t ρ M1 fun ds M2 => tyM "list" x M2 ∧ amCnt x ds M2 Q
noncomputable def aCntT (to : RE) (t : RA) : RE := fun ρ M Q => to ρ M fun x M1 => onTuc x fun xs => t ρ M1 fun ds M2 => amCnt (.tup xs) ds M2 Q
theorem lst_of_tyM {x : Dv} {M : Ms} {xs : List Dv} (h : itemsA x M = some xs) (ht : tyM "list" x M) : lstA x M = some xs := by
  cases x <;> first | exact h | exact ht.elim
theorem ae_countL (hu : X.A.units + 64 < cLine) (ho : AE X o to) (ha : AA X [e] t) (hline : (apos.endLine == cpos.line) = true := by rfl) (hbase : attributeBase o "count" X.env (eval o X.env) = eval o X.env := by rfl)
    (hfew : ((backTo cpos (starEach [e] X.env)).all (fun x => !x.1) && (backToKw cpos (keywordEach [] X.env)).all (fun x => x.1.isSome)
      && decide (([e] : List Expr).length + ([] : List Keyword).length + (if ([] : List Keyword).isEmpty then 0 else 1) < 30)) = true := by rfl)
    (hs : starEach [e] X.env = (false, eval e X.env) :: starEach [] X.env := by rfl) (hplain : (backTo cpos (starEach [] X.env)).any (·.1) = false := by rfl) :
    AE X (.Call (.Attribute o "count" apos) [e] [] cpos) (aCntL to t) :=
  pe_imp (pe_bm PySem.F.plainAttrs_list PySem.F.slot_list_count PySem.F.type_list_count (mt_cntL hu) ho ha hbase hfew hline hs hplain) fun σ H Q' ⟨ρ, M, Q, hr, hv, q, k⟩ =>
    seqE hr hv q fun v H1 d M1 t1 r1 v1 ⟨ht, q1⟩ => ⟨tyM_ok r1 v1 ht, seqA (hr.mono t1) v1 q1 fun vs H2 ds M2 t2 r2 v2 ⟨ht2, q2⟩ => by
      match ds, q2 with
      | [y], q2 =>
        obtain ⟨xs, hx, p1, p2, q3⟩ := onS_ex q2
        obtain ⟨u, eu, ry⟩ := reps1 r2
        obtain ⟨a, ws, e1, s, z⟩ := lstA_ok (r1.mono t2) v2 (lst_of_tyM hx ht2)
        obtain ⟨d', ds', g1, g2, g3, g4, g5, g6⟩ := cnt_ok (M := M2) (P := fun n => Q (.int (n : Int)) M2) z ry p1 p2 q3
        exact ⟨a, ws, u, d', ds', e1, eu, s, g1, g2, g3, g4, g5, k _ _ _ _ (t1.trans t2) rep_int v2 g6⟩⟩
theorem ae_countT (hu : X.A.units + 64 < cLine) (ho : AE X o to) (ha : AA X [e] t) (hline : (apos.endLine == cpos.line) = true := by rfl) (hbase : attributeBase o "count" X.env (eval o X.env) = eval o X.env := by rfl)
    (hfew : ((backTo cpos (starEach [e] X.env)).all (fun x => !x.1) && (backToKw cpos (keywordEach [] X.env)).all (fun x => x.1.isSome)
      && decide (([e] : List Expr).length + ([] : List Keyword).length + (if ([] : List Keyword).isEmpty then 0 else 1) < 30)) = true := by rfl)
    (hs : starEach [e] X.env = (false, eval e X.env) :: starEach [] X.env := by rfl) (hplain : (backTo cpos (starEach [] X.env)).any (·.1) = false := by rfl) :
    AE X (.Call (.Attribute o "count" apos) [e] [] cpos) (aCntT to t) := by
  refine ⟨fun pins s σ H Q' I ⟨ρ, M, Q, hr, hv, q, k⟩ => ?_⟩
  refine wpAny_Call_method_late hbase hfew hline rfl (thn (ho.run pins s σ H _ I (seqE (Q' := fun v H1 => ∃ xs M1, Tp X.K H H1 ∧ Rep X.K H1 (.tuc xs) v ∧ View X.K M1 H1 ∧ t ρ M1 fun ds M2 => amCnt (.tup xs) ds M2 Q) hr hv q fun v H1 d M1 t1 r1 v1 q1 => by
    obtain ⟨xs, e, q2⟩ := onTuc_ex q1
    subst e
    exact ⟨xs, M1, t1, r1, v1, q2⟩)) fun v s1 ⟨x, H1, I1, r1, xs, M1, t1, rd, v1, q1⟩ => ?_)
  obtain ⟨a, vs, rfl, sc, z⟩ := rep_tuc_inv rd
  cases r1
  have sT := SqC.t (K := X.K) sc
  obtain ⟨ob, hob, hdn⟩ := sc
  have hget : s1.heap.get? a = some ob := (I1.hok a _ hob).1
  obtain ⟨its, rv, ⟨o2, ho2, hc2, n2, hd2⟩, hz⟩ := I1.tuple sT
  rw [hget] at ho2
  cases ho2
  refine ⟨"tuple", "tuple.count", PySem.F.plainAttrs_tuple, PySem.F.slot_tuple_count, PySem.F.type_tuple_count, ⟨ob, hget, hc2⟩, fun b e => by cases e; exact ⟨ob, hget, hdn⟩, ?_⟩
  have hA := ha.run cpos pins s1 σ H1 (fun us H2 => rCntT X.K (.ref a) us H2 Q') I1 (seqA (hr.mono t1) v1 q1 fun ws H2 ds M2 t2 r2 v2 q2 => by
    match ds, r2, q2 with
    | [y], r2, q2 =>
      obtain ⟨p1, p2, q3⟩ : (∀ z ∈ xs, Pl 8 z) ∧ Pl 8 y ∧ Q (.int (cntD xs y : Nat)) M2 := q2
      obtain ⟨u, eu, ry⟩ := reps1 r2
      obtain ⟨d', ds', g1, g2, g3, g4, g5, g6⟩ := cnt_ok (M := M2) (P := fun n => Q (.int (n : Int)) M2) (z.mono t2) ry p1 p2 q3
      exact ⟨a, vs, u, d', ds', rfl, eu, t2.t _ _ sT, g1, g2, g3, g4, g5, k _ _ _ _ (t1.trans t2) rep_int v2 g6⟩)
  rw [hs] at hA ⊢
  refine Calls.callWith_builtin (by show (false || (backTo cpos (starEach [] X.env)).any (·.1)) = false; rw [hplain] <;> rfl) (Calls.evalArgs_plain ?_)
  exact thn hA fun us s2 ⟨ws, H2, I2, r2, q2⟩ => mt_cntT hu pins s2 σ H2 (.ref a) ws _ us Q' I2 rfl r2 q2
end
end HC
namespace HC
open PySem L2
theorem hu65_of {k : Nat} {A : Around} (r : Room k A) : A.units + 65 < cLine := by
  have := r.un
  omega
end HC
set_option maxHeartbeats 1000000
namespace HC
open PySem PySem.Spec L2 PyProof.Rows
section
variable {X : Cx} {e o f tg : Expr} {es : List Expr} {te to tf : RE} {t : RA} {pos apos cpos p : Pos} {K : PySem.W.Frag}
def aSetd (to te tf : RE) : RE := fun ρ M Q => to ρ M fun x M1 => match x with
  | .ref a => (∃ kvs, M1 a = some (.dic kvs)) ∧ te ρ M1 fun y M2 => tf ρ M2 fun z M3 => match M3 a with
    | some (.dic kvs) => onS (keyD y) fun k => kvs.length < sizeLine ∧ match getK kvs k with
      | some d => Q d M3
      | none => Q z (mup M3 a (.dic (putA kvs k z)))
    | _ => False
  | _ => False
theorem view_dic {M : Ms} {H : Hp} {a : Addr} {kds : List (Key × Dv)} (hv : View K M H) (h : M a = some (.dic kds)) : ∃ kvs, H a = some (.dK kvs) ∧ KP K H Key kds kvs := hv a _ h
theorem ae_setd (ho : AE X o to) (he : AE X e te) (hf : AE X f tf) (m : M2 X o "setdefault" apos e f cpos) : AE X (.Call (.Attribute o "setdefault" apos) [e, f] [] cpos) (aSetd to te tf) :=
  pe_imp (pe_dsetd ho he hf m) fun σ H Q' ⟨ρ, M, Q, hr, hv, q, k⟩ => seqE hr hv q fun v H1 d M1 t1 r1 v1 q1 => by
    cases d <;> first | exact q1.elim | skip
    case ref a =>
      obtain ⟨⟨kds0, e0⟩, q1⟩ := q1
      obtain ⟨kv0, e00, _⟩ := view_dic v1 e0
      refine ⟨a, rep_ref_inv r1, .inl ⟨kv0, .inl e00⟩, ?_⟩
      refine seqE (hr.mono t1) v1 q1 fun y H2 dy M2 t2 r2 v2 q2 => ?_
      have t12 := t1.trans t2
      refine seqE (hr.mono t12) v2 q2 fun z H3 dz M3 t3 r3 v3 q3 => ?_
      have t13 := t12.trans t3
      split at q3
      · next kds e3 =>
        obtain ⟨kk, e4, hl, q4⟩ := onS_ex q3
        obtain ⟨kvs, e5, r⟩ := view_dic v3 e3
        have ey : y = kV kk := keyD_ok (r2.mono t3) e4
        have tp := Tp.put (K := X.K) (H := H3) (a := a) (o := .dK (putK kvs kk z)) (v3.soft e3)
        refine ⟨kvs, kk, e5, ey, by rw [← kp_len r]; exact hl, fun w hw => ?_, fun hn => ?_⟩
        · rcases getK_ok (k := kk) r with ⟨h1, h2⟩ | ⟨d', v', h1, h2, h3⟩
          · rw [h2] at hw; cases hw
          · rw [h2] at hw
            cases hw
            rw [h1] at q4
            exact k _ _ d' _ t13 h3 v3 q4
        · rcases getK_ok (k := kk) r with ⟨h1, h2⟩ | ⟨d', v', h1, h2, h3⟩
          · rw [h1] at q4
            exact k _ _ dz _ (t13.trans tp) (r3.mono tp) (v3.put (c := .dic (putA kds kk dz)) (v3.soft e3) ⟨_, upd_same, kp_mono (kp_put r3 r) tp⟩) q4
          · rw [h2] at hn; cases hn
      · exact q3.elim
def keyDv : Key → Dv
  | .inl i => .int i
  | .inr x => .str x
theorem rep_key {H : Hp} (k : Key) : Rep K H (keyDv k) (kV k) := by cases k <;> first | exact rep_int | exact rep_str
theorem reps_keys {H : Hp} : ∀ ks : List Key, Reps K H (ks.map keyDv) (ks.map kV)
  | [] => .nil
  | k :: ks => .cons (rep_key k) (reps_keys ks)
def dicA (M : Ms) (d : Dv) : Option (List (Key × Dv)) := match d with
  | .ref a => match M a with
    | some (.dic kvs) => some kvs
    | some (.fdc kvs) => some kvs
    | _ => none
  | _ => none
theorem dicA_ok {M : Ms} {H : Hp} {d : Dv} {v : V} {kds : List (Key × Dv)} (r : Rep K H d v) (hv : View K M H) (h : dicA M d = some kds) : ∃ a kvs, v = .ref a ∧ d = .ref a ∧ Rd H a (.dK kvs) ∧ KP K H Key kds kvs := by
  cases d <;> first | cases h; done | skip
  case ref a =>
    simp only [dicA] at h
    split at h
    · next kvs e =>
      cases h
      obtain ⟨ws, e2, z⟩ := view_dic hv e
      exact ⟨a, ws, rep_ref_inv r, rfl, .inl e2, z⟩
    · next kvs e =>
      cases h
      obtain ⟨ws, ob, e2, z⟩ := (show ∃ kvs' o', H a = some (.frz o' (.dK kvs')) ∧ KP K H Key kds kvs' from hv a _ e)
      exact ⟨a, ws, rep_ref_inv r, rfl, .inr ⟨ob, e2⟩, z⟩
    · cases h
theorem kp_keys {H : Hp} {kds : List (Key × Dv)} {kvs : List (Key × V)} (h : KP K H Key kds kvs) : kds.map (·.1) = kvs.map (·.1) := by
  induction h with
  | nil => rfl
  | cons r t ih => rw [List.map_cons, List.map_cons, ih, r.1]
def acLstD : ARC := fun ds M Q => match ds with
  | [d] => onS (dicA M d) fun kds => ∀ p, M p = none → Q (.ref p) (mup M p (.lst (kds.map fun kv => keyDv kv.1)))
  | _ => False
theorem abc_lstD : AbC K (fun xs H Q => ∃ (a : Addr) (kvs : List (Key × V)), xs = [.ref a] ∧ Rd H a (.dK kvs) ∧ ∀ p, H p = none → Q (.ref p) (upd H p (.lst (kvs.map fun kv => kV kv.1)))) acLstD := by
  intro H M vs ds Q Q' r hv q k
  match ds, q with
  | [d], q =>
    obtain ⟨kds, h, q⟩ := onS_ex q
    obtain ⟨v, e, rd⟩ := reps1 r
    obtain ⟨a, kvs, e1, _, z, kp⟩ := dicA_ok rd hv h
    refine ⟨a, kvs, by rw [e, e1], z, end_lst ?_ hv q k⟩
    have e2 : (kds.map fun kv => keyDv kv.1) = (kvs.map (·.1)).map keyDv := by
      rw [← kp_keys kp, List.map_map]
      rfl
    have e3 : (kvs.map fun kv => kV kv.1) = (kvs.map (·.1)).map kV := by
      rw [List.map_map]
      rfl
    rw [e2, e3]
    exact reps_keys _
def rSortedDI : List V → Hp → VK → Prop := fun xs H Q => ∃ (a : Addr) (kvs : List (Key × V)) (ns : List Int), xs = [.ref a] ∧ Rd H a (.dK kvs) ∧ kvs.map (·.1) = ns.map Sum.inl ∧
  ∀ (ns' : List Int) (p : Addr), ns'.Perm ns → ns'.Pairwise (· ≤ ·) → H p = none → Q (.ref p) (upd H p (.lst (ns'.map V.int)))
theorem ints_atK : ∀ {us : List Value} {ns : List Int}, us.length = ns.length → (∀ j v, us[j]? = some v → ∃ t, v = Value.int (ns.getD j 0) t) → IntsAre us ns
  | [], [], _, _ => .nil
  | [], _ :: _, h, _ => by simp at h
  | _ :: _, [], h, _ => by simp at h
  | u :: us, n :: ns, hl, h => by
    obtain ⟨t, e⟩ := h 0 u rfl
    have e' : u = Value.int n t := e
    subst e'
    exact .cons _ _ (ints_atK (by simpa using hl) fun j v hv => h (j + 1) v (by simpa using hv))
theorem cr_sortedDI (hcalm : X.calm = true) : CallR X (.builtin "sorted") rSortedDI := by
  intro pins s σ H xs us Q I r q
  obtain ⟨a, kvs, ns, ex, hd, hks, q⟩ := q
  subst ex
  obtain ⟨u, eu, rx⟩ := vals1 r
  subst eu
  cases rx
  obtain ⟨z, lo, vs, rel, dd⟩ := dk_rd I.hok hd
  obtain ⟨ep, hat⟩ := dd.dictAt
  have hkeys : vs.map (·.1) = ns.map Sum.inl := rel.keys.symm.trans hks
  have hl : vs.length = ns.length := by
    have e := congrArg List.length hkeys
    rw [List.length_map, List.length_map] at e
    exact e
  have hz : vs.length ≤ sizeLine := by rw [← rel.length]; exact z
  refine Calls.call_function_entry PyProof.Rows.kind_sorted PyProof.Rows.plain_sorted PyProof.Rows.entry_sorted (PyProof.Rows.args_sorted1 _) ?_
  unfold Builtin.«sorted»
  refine wpAny_bind (m := checkCount "sorted" 1 1 _) (wpAny_pure ?_)
  refine wpAny_bind (PySem.W.kdu_collect (A := X.A.in1) (PySem.W.kdl_dict (knd := mixKind X.prog X.w) (kvs := vs) (ep := ep) lo) (I.ok.hd hcalm) hat hz fun h' tk acc hk hacc => ?_)
  have hal : acc.toList.length = ns.length := by rw [Array.length_toList, hacc.1, hl]
  have hS : IntsAre acc.toList ns := ints_atK hal fun j v e => by
    obtain ⟨k, x, e1, e2⟩ := hacc.2 j v (by rw [← Array.getElem?_toList]; exact e)
    have e3 : (vs.map (·.1))[j]? = some k := by rw [List.getElem?_map, e1]; all_goals rfl
    rw [hkeys, List.getElem?_map] at e3
    rw [List.getD_eq_getElem?_getD]
    cases e4 : ns[j]? with
    | none => rw [e4] at e3; cases e3
    | some y =>
      rw [e4] at e3
      have e5 : Sum.inl y = k := Option.some.inj e3
      subst e5
      rcases keyIs_shape (k := Sum.inl y) (v := v) e2 with ⟨i, t, ek, ev⟩ | ⟨_, _, ek, _⟩
      · cases ek
        exact ⟨t, ev⟩
      · cases ek
  have I1 : Inv X pins σ H { s with heap := h', toks := tk } := I.kept hk
  have hz2 : acc.toList.length ≤ sizeLine := by rw [hal, ← hl]; exact hz
  refine wpAny_bind (wpAny_newList ?_ hz2)
  have hoL : (h'.push (seqObj "list" acc.toList.toArray 0)).get? h'.objs.size = some (seqObj "list" acc.toList.toArray 0) := Heap.get?_push_size _ rfl
  show wpAny _ _ _ _ _ { s with heap := h'.push (seqObj "list" acc.toList.toArray 0), toks := tk }
  refine wpAny_bind (wpAny_holding (wpAny_call_entry PyProof.Rows.slot_list_sort ⟨_, hoL, rfl⟩ PyProof.Rows.entry_list_sort
    (SrtO.list_sort_ord SrtO.swo_int (s := { s with heap := h'.push (seqObj "list" acc.toList.toArray 0), toks := tk }) hoL hz2 (fun h2 => SrtO.ints_sortable hS h2) fun out h1 h2 => ⟨_, rfl, ?_⟩)
    (PyProof.Rows.args_list_sort _)))
  obtain ⟨k1, k2, k3⟩ := SrtO.ints_out hS h1 h2
  obtain ⟨e', he'⟩ := PyProof.Rows.sortedHeap_at (vs := acc.toList) (out := out.toArray) hoL
  have hlen : ((out.map SrtO.iv).map V.int).length ≤ sizeLine := by
    rw [List.length_map, k2.length_eq, ← hal]
    exact hz2
  refine wpAny_pure ⟨_, rfl, .ref h'.objs.size, upd H h'.objs.size (.lst ((out.map SrtO.iv).map V.int)), I1.laid (t' := tk) (fun b u e => ?_) (Nat.le_refl _)
    (show ObjOk X.prog X.w _ _ _ (.lst ((out.map SrtO.iv).map V.int)) from ⟨hlen, out, e', vals_of_ints k1, he'⟩), rfl, q _ _ k2 k3 (I1.hok.fresh (Nat.le_refl _))⟩
  have hb : b < h'.objs.size := Heap.lt_size e
  rw [PyProof.Rows.sortedHeap_old (Nat.ne_of_lt hb) (by rw [size_push']; exact Nat.lt_succ_of_lt hb)]
  exact Heap.get?_push_of_some _ e
def acSortDI : ARC := fun ds M Q => match ds with
  | [d] => onS (dicA M d) fun kds => ∃ ns : List Int, kds.map (·.1) = ns.map Sum.inl ∧ ∀ ns' : List Int, ns'.Perm ns → ns'.Pairwise (· ≤ ·) → ∀ p, M p = none → Q (.ref p) (mup M p (.lst (ns'.map Dv.int)))
  | _ => False
theorem abc_sortDI : AbC K rSortedDI acSortDI := by
  intro H M vs ds Q Q' r hv q k
  match ds, q with
  | [d], q =>
    obtain ⟨kds, h, ns, hk, q⟩ := onS_ex q
    obtain ⟨v, e, rd⟩ := reps1 r
    obtain ⟨a, kvs, e1, _, z, kp⟩ := dicA_ok rd hv h
    exact ⟨a, kvs, ns, by rw [e, e1], z, by rw [← kp_keys kp]; exact hk, fun ns' p h1 h2 hn => end_lst (reps_ints ns') hv (q ns' h1 h2) k p hn⟩
end
end HC
namespace HC
open PySem PySem.Spec L2 PyProof.Rows
theorem inv_frzD {X : Cx} {pins : List (Addr × Obj)} {σ : L2.St} {H : Hp} {s : Shared} {a : Addr} {kvs : List (Key × V)} (I : Inv X pins σ H s) (h : H a = some (.dK kvs)) : ∃ o, Inv X pins σ (upd H a (.frz o (.dK kvs))) s := by
  have hk := I.hok a _ h
  obtain ⟨o, e⟩ : ∃ o, s.heap.get? a = some o := objOk_get hk
  have ne : ∀ {b : Addr} {u : HO}, H b = some u → u ≠ .dK kvs → b ≠ a := fun {b u} q hu e' => by
    subst e'; rw [h] at q; cases q; exact hu rfl
  refine ⟨o, I.un (h' := s.heap) (t' := s.toks) ⟨fun b o q n hb hx => q, fun b o q n _ _ => ⟨o.slots, q⟩, fun b o q n hx => ?_, fun b o q _ => ⟨o, q⟩, fun b ys q => ?_, fun b o u q => ?_, fun b ps q => ⟨#[], ?_⟩⟩ fun b u (q : upd H a (.frz o (.dK kvs)) b = some u) => ?_⟩
  · rw [upd_ne]
    · exact n
    · intro e'; subst e'; rw [h] at n; cases n
  · rw [upd_ne (ne q (fun z => nomatch z))]; exact q
  · rw [upd_ne (ne q (fun z => nomatch z))]; exact q
  · rw [upd_ne (ne q (fun z => nomatch z))]; simpa using q
  · by_cases hb : b = a
    · subst hb
      rw [upd_same] at q
      cases q
      refine ⟨e, ?_⟩
      exact hk.stay (fun _ _ _ q => q) (fun c q => by rw [upd_ne (ne q (fun z => nomatch z))]; exact q) (fun c ys q => by rw [upd_ne (ne q (fun z => nomatch z))]; exact q)
    · rw [upd_ne hb] at q
      exact (I.hok b u q).stay (fun _ _ _ q => q) (fun c q => by rw [upd_ne (ne q (fun z => nomatch z))]; exact q) (fun c ys q => by rw [upd_ne (ne q (fun z => nomatch z))]; exact q)
theorem pe_frzD {X : Cx} {e : Expr} {t : TE} (h : PE X e t) : PE X e (fun σ H Q => t σ H (fun v H' => Q v H' ∨ ∃ a kvs, v = .ref a ∧ H' a = some (.dK kvs) ∧ ∀ o, Q v (upd H' a (.frz o (.dK kvs))))) :=
  ⟨fun pins s σ H Q I q => thn (h.run pins s σ H _ I q) fun u s' ⟨v, H', I', r, q'⟩ => by
    rcases q' with q' | ⟨a, kvs, e, hl, q'⟩
    · exact ⟨v, H', I', r, q'⟩
    · obtain ⟨o, I2⟩ := inv_frzD I' hl
      exact ⟨v, _, I2, r, q' o⟩⟩
section
variable {X : Cx} {e o f tg : Expr} {es : List Expr} {te to tf : RE} {t : RA} {pos apos cpos p : Pos} {K : PySem.W.Frag}
def aiKeys (te : RE) : RI := fun ρ M Q => te ρ M fun x M1 => match x with
  | .ref a => match M1 a with
    | some (.dic kds) => Q (kds.map fun kv => keyDv kv.1) (fun _ => True) (mup M1 a (.fdc kds))
    | some (.fdc kds) => Q (kds.map fun kv => keyDv kv.1) (fun _ => True) M1
    | _ => False
  | _ => False
theorem iw_keys {a : Addr} {ob : Obj} {kds : List (Key × Dv)} {kvs : List (Key × V)} {H0 H1 : Hp} (z : KP K H0 Key kds kvs) (h : H1 a = some (.frz ob (.dK kvs))) : IW K (Itk a ob kvs) (kds.map fun kv => keyDv kv.1) (fun _ => True) H1 where
  go := fun i H M hi t v _ => ⟨t.d _ _ _ h, by rw [← kp_len z]; simpa using hi⟩
  stop := fun H M t v _ => ⟨t.d _ _ _ h, by rw [List.length_map, kp_len z]; exact Nat.le_refl _⟩
  yld := fun i H M x H' hi t v _ y => by
    obtain ⟨e, k, w, hk, ex⟩ := y
    subst e
    have ek := kp_keys z
    have e2 : (kds.map (·.1))[i]? = some k := by rw [ek, List.getElem?_map, hk]; rfl
    refine ⟨keyDv k, ?_, Tp.refl _, ?_, v, fun _ _ => rfl⟩
    · rw [List.getElem?_map] at e2 ⊢
      obtain ⟨q, hq, e3⟩ := Option.map_eq_some_iff.mp e2
      rw [hq, ← e3]
      rfl
    · rw [ex]; exact rep_key k
theorem ai_keys (he : AE X e te) : AI X tg e (aiKeys te) :=
  pi_imp (pi_keys (pe_frzD he)) fun σ H R ⟨ρ, M, Q, hr, hv, q, k⟩ => seqE hr hv q fun v H1 d M1 t1 r1 v1 q1 => by
    cases d <;> first | exact q1.elim | skip
    case ref a =>
      have ev := rep_ref_inv r1
      subst ev
      simp only [] at q1
      split at q1
      · next kds e =>
        obtain ⟨kvs, e2, z⟩ := view_dic v1 e
        refine .inr ⟨a, kvs, rfl, e2, fun ob => ?_⟩
        have tp := Tp.put (K := X.K) (H := H1) (a := a) (o := .frz ob (.dK kvs)) (v1.soft e)
        have z2 := kp_mono z tp
        exact ⟨a, ob, rfl, .inl ⟨kvs, upd_same, k _ _ _ _ _ (t1.trans tp) (v1.put (c := .fdc kds) (v1.soft e) ⟨kvs, ob, upd_same, z2⟩) q1 (iw_keys z upd_same)⟩⟩
      · next kds e =>
        obtain ⟨kvs, ob, e2, z⟩ := (show ∃ kvs' o', H1 a = some (.frz o' (.dK kvs')) ∧ KP X.K H1 Key kds kvs' from v1 a _ e)
        exact .inl ⟨a, ob, rfl, .inl ⟨kvs, e2, k _ _ _ _ _ t1 v1 q1 (iw_keys z e2)⟩⟩
      · exact q1.elim
def aIxD : AR2 := fun x y M Q => onS (dicA M x) fun kds => onS (keyD y) fun k => onS (getK kds k) fun d => Q d M
theorem ab_ixD : Ab2 K (rIxH K) aIxD := by
  intro H M x y dx dy Q Q' rx ry hv q k
  obtain ⟨kds, h, q⟩ := onS_ex q
  obtain ⟨kk, e1, q⟩ := onS_ex q
  obtain ⟨d, hd, q⟩ := onS_ex q
  obtain ⟨a, kvs, ex, _, z, kp⟩ := dicA_ok rx hv h
  rcases getK_ok (k := kk) kp with ⟨h1, _⟩ | ⟨d', v, h1, h2, h3⟩
  · rw [h1] at hd; cases hd
  · rw [h1] at hd; cases hd
    exact .inr ⟨a, v, ex, .inl ⟨kvs, kk, z, keyD_ok ry e1, h2.symm⟩, k _ _ _ _ (Tp.refl H) h3 hv q⟩
theorem ae_ixD {a b : Expr} {ta tb : RE} (hu : X.A.units + 1 < cLine) (ha : AE X a ta) (hb : AE X b tb) (hs : PlainIx b := by exact fun _ _ => rfl) : AE X (.Subscript a b pos) (aOp aIxD ta tb) := pe_imp (pe_ix (ix_H hu) ha hb hs) (aop_imp ab_ixD)
def aiRev (te : RE) : RI := fun ρ M Q => te ρ M fun d M1 => onS (itemsA d M1) fun ds => Q ds.reverse (fun M => itemsA d M = some ds) M1
theorem rev_get {α : Type} {l : List α} {i : Nat} (h : i < l.length) : l.reverse[i]? = l[l.length - 1 - i]? := List.getElem?_reverse h
theorem ai_rev (he : AE X e te) (hm : X.mg "reversed" = none) (hg : Gl X "reversed" := by rfl) (hs : starEach [e] X.env = (false, eval e X.env) :: starEach [] X.env := by rfl) : AI X tg (.Call (.Name "reversed" p) [e] [] pos) (aiRev te) :=
  pi_imp (RT.pi_revA hg hm he hs) fun σ H R ⟨ρ, M, Q, hr, hv, q, k⟩ => seqE hr hv q fun v H1 d M1 t1 r1 v1 q1 => by
    obtain ⟨ds, hi, q1⟩ := onS_ex q1
    obtain ⟨a, vs, e1, z, hs⟩ := items_stand r1 v1 hi
    have hl := z.length
    refine ⟨a, vs, e1, ?_⟩
    rcases hs with ⟨s, hs⟩ | ⟨s, hs⟩
    · refine .inr ⟨s, k _ H1 _ _ M1 t1 v1 q1 ⟨fun i H M hi t v _ => ?_, fun H M t v _ => ?_, fun i H M x H' hi t v _ y => ?_⟩⟩
      · have hi' : i < ds.length := by simpa using hi
        obtain ⟨w, hw, _⟩ := (z.mono t).get (i := vs.length - 1 - i) (List.getElem?_eq_getElem (by omega))
        exact ⟨by omega, vs, w, hs H t, hw⟩
      · show vs.length ≤ ds.reverse.length
        rw [List.length_reverse]; omega
      · have hi' : i < ds.length := by simpa using hi
        obtain ⟨w, hw, rw'⟩ := (z.mono t).get (i := vs.length - 1 - i) (List.getElem?_eq_getElem (by omega))
        obtain ⟨e, y2⟩ := y
        subst e
        have := y2 vs (hs _ t)
        rw [hw] at this
        cases this
        refine ⟨_, ?_, Tp.refl _, rw', v, fun _ _ => rfl⟩
        rw [rev_get hi', show ds.length - 1 - i = vs.length - 1 - i by omega]
        exact List.getElem?_eq_getElem (by omega)
    · refine .inl ⟨s, k _ H1 _ _ M1 t1 v1 q1 ⟨fun i H M hi t v kp => ?_, fun H M t v _ => ?_, fun i H M x H' hi t v kp y => ?_⟩⟩
      · have hi' : i < ds.length := by simpa using hi
        obtain ⟨ws, s2, z2⟩ := hs H M t v kp
        have l2 := z2.length
        obtain ⟨w, hw, _⟩ := z2.get (i := vs.length - 1 - i) (List.getElem?_eq_getElem (by omega))
        exact ⟨by omega, ws, w, s2, hw⟩
      · show vs.length ≤ ds.reverse.length
        rw [List.length_reverse]; omega
      · have hi' : i < ds.length := by simpa using hi
        obtain ⟨ws, s2, z2⟩ := hs H M t v kp
        have l2 := z2.length
        obtain ⟨w, hw, rw'⟩ := z2.get (i := vs.length - 1 - i) (List.getElem?_eq_getElem (by omega))
        obtain ⟨e, y2⟩ := y
        subst e
        have := y2 ws s2
        rw [hw] at this
        cases this
        refine ⟨_, ?_, Tp.refl _, rw', v, fun _ _ => rfl⟩
        rw [rev_get hi', show ds.length - 1 - i = vs.length - 1 - i by omega]
        exact List.getElem?_eq_getElem (by omega)
open Classical in
noncomputable def aInDB (neg : Bool) : AR2 := fun x y M Q => onS (itemsA y M) fun ys => Pl 8 x ∧ (∀ z ∈ ys, Pl 8 z) ∧ Q (.bl (negB neg (decide (x ∈ ys)))) M
noncomputable def aInD : AR2 := aInDB false
noncomputable def aNotInD : AR2 := aInDB true
def rInT (K : PySem.W.Frag) (neg : Bool) : R2 := fun x y H Q => ∃ d ds, Dp K H x d ∧ Dp K H y (.tuple ds) ∧ SeqAt.shaped d = true ∧ SeqAt.shaped (.tuple ds) = true ∧ Q (.bl (negB neg (ds.any fun z => PyData.eqv z d))) H
theorem op_inT (hu : X.A.units + 65 < cLine) : OpR X (compareOp .In) (rInT X.K false) := by
  intro pins s σ H x y v u Q I rx ry h
  obtain ⟨d, ds, hd, he, sd, se, q⟩ := h
  obtain ⟨as, r1⟩ := Dp.reads I d x v hd rx
  obtain ⟨bs, r2⟩ := Dp.reads I (.tuple ds) y u he ry
  exact SeqAt.in_tuple_reads r2 r1 (SeqAt.canLay_of_shaped se) (SeqAt.canLay_of_shaped sd) (room_in_shaped sd hu) ⟨.bl _, H, I, rfl, q⟩
theorem op_notInT (hu : X.A.units + 65 < cLine) : OpR X (compareOp .NotIn) (rInT X.K true) := by
  intro pins s σ H x y v u Q I rx ry h
  obtain ⟨d, ds, hd, he, sd, se, q⟩ := h
  obtain ⟨as, r1⟩ := Dp.reads I d x v hd rx
  obtain ⟨bs, r2⟩ := Dp.reads I (.tuple ds) y u he ry
  exact SeqAt.notIn_tuple_reads r2 r1 (SeqAt.canLay_of_shaped se) (SeqAt.canLay_of_shaped sd) (room_in_shaped sd hu) ⟨.bl _, H, I, rfl, q⟩
open Classical in
theorem any_pl {n : Nat} {x : Dv} (hx : Pl n x) : ∀ {ys : List Dv}, (∀ y ∈ ys, Pl n y) → ((ys.map (pyP n)).any fun z => PyData.eqv z (pyP n x)) = decide (x ∈ ys)
  | [], _ => by simp
  | y :: ys, h => by
    rw [List.map_cons, List.any_cons, any_pl hx fun z hz => h z (List.mem_cons_of_mem _ hz), eqv_dec n y x (h y List.mem_cons_self) hx]
    by_cases e : x = y
    · subst e; simp
    · have e' : ¬ y = x := fun z => e z.symm
      simp [e, e']
def rInB (K : PySem.W.Frag) (neg : Bool) : R2 := fun x y H Q => (∃ d ds, Dp K H x d ∧ Dp K H y (.list ds) ∧ SeqAt.shaped d = true ∧ SeqAt.shaped (.list ds) = true ∧ Q (.bl (negB neg (ds.any fun z => PyData.eqv z d))) H) ∨ rInT K neg x y H Q
theorem op_inB (hu : X.A.units + 65 < cLine) : OpR X (compareOp .In) (rInB X.K false) := opr_or (op_inD hu) (op_inT hu)
theorem op_notInB (hu : X.A.units + 65 < cLine) : OpR X (compareOp .NotIn) (rInB X.K true) := opr_or (op_notInD hu) (op_notInT hu)
theorem ab_inDB {neg : Bool} : Ab2 K (rInB K neg) (aInDB neg) := by
  intro H M x y dx dy Q Q' rx ry hv q k
  obtain ⟨ys, h, px, py, q⟩ := onS_ex q
  obtain ⟨a, vs, e, s, z⟩ := itemsA_ok ry hv h
  have dall := dpAll_of (dp_of 8) py z
  have dx' := dp_of 8 _ _ px rx
  have l1 : PyData.canLayAll0 (ys.map (pyP 8)) = true := canLayAll_of fun d hd => canLay_pl 8 d (py d hd)
  have z1 := depthAll_of fun d hd => depth_pl 8 d (py d hd)
  have l2 := canLay_pl _ _ px
  have z2 := depth_pl _ _ px
  subst e
  have fin : Q' (.bl (negB neg ((ys.map (pyP 8)).any fun z => PyData.eqv z (pyP 8 dx)))) H := by
    rw [any_pl px py]
    exact k _ _ _ _ (Tp.refl H) rep_bl hv q
  rcases s with s | s
  · exact .inr ⟨_, _, dx', .tup s dall, shaped_of l2 (by omega), shaped_of (by simp only [PyData.canLay0]; exact l1) (by simp only [PyData.depth]; omega), fin⟩
  · exact .inl ⟨_, _, dx', .lst s dall, shaped_of l2 (by omega), shaped_of (by simp only [PyData.canLay0]; exact l1) (by simp only [PyData.depth]; omega), fin⟩
theorem ae_inD {a b : Expr} {ta tb : RE} (hu : X.A.units + 65 < cLine) (ha : AE X a ta) (hb : AE X b tb) (hm : behindInMarks .In b = false := by with_unfolding_all rfl) : AE X (.Compare a [.In] [b] pos) (aOp aInD ta tb) := ae_cmp (op_inB hu) ab_inDB ha hb hm
theorem ae_notinD {a b : Expr} {ta tb : RE} (hu : X.A.units + 65 < cLine) (ha : AE X a ta) (hb : AE X b tb) (hm : behindInMarks .NotIn b = false := by with_unfolding_all rfl) : AE X (.Compare a [.NotIn] [b] pos) (aOp aNotInD ta tb) := ae_cmp (op_notInB hu) ab_inDB ha hb hm
theorem at_inD {a b : Expr} {ta tb : RE} (hu : X.A.units + 65 < cLine) (ha : AE X a ta) (hb : AE X b tb) (hm : behindInMarks .In b = false := by with_unfolding_all rfl) : AT X (.Compare a [.In] [b] pos) (aB (aOp aInD ta tb)) := at_cmp (op_inB hu) ab_inDB ha hb hm
theorem at_notinD {a b : Expr} {ta tb : RE} (hu : X.A.units + 65 < cLine) (ha : AE X a ta) (hb : AE X b tb) (hm : behindInMarks .NotIn b = false := by with_unfolding_all rfl) : AT X (.Compare a [.NotIn] [b] pos) (aB (aOp aNotInD ta tb)) := at_cmp (op_notInB hu) ab_inDB ha hb hm
end
section
theorem ext_listW (l : Addr) (items : Array Value) (n : Nat) (b : Addr) (items2 : Array Value) (n2 : Nat) (dd : Option Addr) (sl : Array (Option Value)) (hlong : ¬(!items.isEmpty && Builtin.List.listTooLong (items.size + items2.size)) = true) (hz : items.size ≤ sizeLine) (hz2 : items.size + items2.size ≤ sizeLine + 1) :
    Meets (Builtin.«list.extend» ⟨[.ref l, .ref b], []⟩) (fun _ R s => s.heap.get? l = some { cls := .type "list", dict := none, data := .seq items n, slots := #[] } ∧ s.heap.get? b = some { cls := .type "list", dict := dd, data := .seq items2 n2, slots := sl } ∧
      R (.ok (.ret Value.none)) { s with heap := s.heap.update l (Obj.mapSeq fun x => x ++ items2), toks := s.toks }) :=
  .of_wp fun prog w A R s h => by
    obtain ⟨hp, g, d, tk, os⟩ := s
    obtain ⟨hl, hb, h⟩ := h
    have f1 := AutoSeq1.idx_int
    have f2 := AutoSeq1.sub_tuple_tuple
    have f3 := AutoSeq1.sub_list_list
    have hz' : (items ++ items2).size ≤ sizeLine + 1 := by rw [Array.size_append]; exact hz2
    wp_walk using (wpAny_updateSeq hl rfl (hz := hz) (_hz' := hz')), wpAny_loadPart' hl, wpAny_loadPart' hb
    exact ⟨_, rfl, h⟩
theorem ext_tupleW (l : Addr) (items : Array Value) (n : Nat) (b : Addr) (items2 : Array Value) (n2 : Nat) (dd : Option Addr) (sl : Array (Option Value)) (hlong : ¬(!items.isEmpty && Builtin.List.listTooLong (items.size + items2.size)) = true) (hz : items.size ≤ sizeLine) (hz2 : items.size + items2.size ≤ sizeLine + 1) :
    Meets (Builtin.«list.extend» ⟨[.ref l, .ref b], []⟩) (fun _ R s => s.heap.get? l = some { cls := .type "list", dict := none, data := .seq items n, slots := #[] } ∧ s.heap.get? b = some { cls := .type "tuple", dict := dd, data := .seq items2 n2, slots := sl } ∧
      R (.ok (.ret Value.none)) { s with heap := s.heap.update l (Obj.mapSeq fun x => x ++ items2), toks := s.toks }) :=
  .of_wp fun prog w A R s h => by
    obtain ⟨hp, g, d, tk, os⟩ := s
    obtain ⟨hl, hb, h⟩ := h
    have f1 := AutoSeq1.idx_int
    have f2 := AutoSeq1.sub_tuple_tuple
    have f3 := AutoSeq1.sub_list_list
    have hz' : (items ++ items2).size ≤ sizeLine + 1 := by rw [Array.size_append]; exact hz2
    wp_walk using (wpAny_updateSeq hl rfl (hz := hz) (_hz' := hz')), wpAny_loadPart' hl, wpAny_loadPart' hb
    exact ⟨_, rfl, h⟩
end
section
variable {X : Cx} {e o f tg : Expr} {es : List Expr} {te to tf : RE} {t : RA} {pos apos cpos p : Pos} {K : PySem.W.Frag}
def rExtA (K : PySem.W.Frag) : V → List V → Hp → VK → Prop := fun x vs H Q => ∃ l b xs zs, x = .ref l ∧ vs = [.ref b] ∧ H l = some (.lst xs) ∧ (SqL K H b zs ∨ SqT K H b zs) ∧ xs.length + zs.length ≤ sizeLine ∧ Q .non (upd H l (.lst (xs ++ zs)))
theorem mt_extA : MtM X "list.extend" (rExtA X.K) := by
  intro pins s σ H x vs v us Q I rx rv h
  obtain ⟨l, b, xs, zs, rfl, rfl, hH, hB, hz, q⟩ := h
  cases rx
  obtain ⟨u, rfl, ru⟩ := rv.one
  cases ru
  obtain ⟨z, its, n, r, hl, e⟩ := I.lstM hH
  have fin : ∀ its2 : List Value, Vals zs its2 → EP X pins σ Q .none { s with heap := s.heap.update l (Obj.mapSeq fun x => x ++ its2.toArray), toks := s.toks } := fun its2 r2 => by
    have := r2.length
    refine ⟨.non, _, I.lset (its' := its ++ its2) hH e (by simp) (r.append r2) ?_, rfl, q⟩
    rw [List.length_append]
    omega
  have notLong : ∀ its2 : List Value, Vals zs its2 → its.toArray.size + its2.toArray.size ≤ sizeLine ∧ ¬ (!its.toArray.isEmpty && Builtin.List.listTooLong (its.toArray.size + its2.toArray.size)) = true := fun its2 r2 => by
    have := r2.length
    have hsz : its.toArray.size + its2.toArray.size ≤ sizeLine := by rw [List.size_toArray, List.size_toArray]; omega
    refine ⟨hsz, ?_⟩
    rw [notLongL hsz, Bool.and_false]
    exact Bool.false_ne_true
  rcases hB with hB | hB
  · obtain ⟨its2, r2, ⟨⟨cls, dd, data, sls⟩, n2, ho, hc, hdn, hdt⟩, hl2⟩ := I.list hB
    simp only at hc hdt
    subst hc hdt
    obtain ⟨hsz, hlong⟩ := notLong its2 r2
    exact call_meets PySem.F.slot_list_extend ⟨_, e, rfl⟩ PySem.F.entry_list_extend (PySem.F.args_list_extend_2 _ _) (ext_listW l its.toArray n b its2.toArray n2 dd sls hlong (by omega) (by omega)) ⟨e, ho, fin its2 r2⟩
  · obtain ⟨its2, r2, ⟨⟨cls, dd, data, sls⟩, ho, hc, n2, hdt⟩, hl2⟩ := I.tuple hB
    simp only at hc hdt
    subst hc hdt
    obtain ⟨hsz, hlong⟩ := notLong its2 r2
    exact call_meets PySem.F.slot_list_extend ⟨_, e, rfl⟩ PySem.F.entry_list_extend (PySem.F.args_list_extend_2 _ _) (ext_tupleW l its.toArray n b its2.toArray n2 dd sls hlong (by omega) (by omega)) ⟨e, ho, fin its2 r2⟩
def amExtA : ARM := fun x ds M Q => match x, ds with
  | .ref l, [d] => onS (lstC (M l)) fun xs => onS (itemsA d M) fun ys => xs.length + ys.length ≤ sizeLine ∧ Q .non (mup M l (.lst (xs ++ ys)))
  | _, _ => False
theorem abm_extA : AbM K (rExtA K) amExtA := by
  intro H M x dx vs ds Q Q' rx rd hv q k
  match dx, ds, q with
  | .ref l, [d], q =>
    obtain ⟨xs, h1, q⟩ := onS_ex q
    obtain ⟨ys, h2, hz, q⟩ := onS_ex q
    replace h1 := lstC_eq h1
    obtain ⟨v, e, r1⟩ := reps1 rd
    obtain ⟨ws, e2, z⟩ := view_lst hv h1
    obtain ⟨b, us, e3, s3, z3⟩ := itemsA_ok r1 hv h2
    have l1 := z.length
    have l3 := z3.length
    exact ⟨l, b, ws, us, rep_ref_inv rx, by rw [e, e3], e2, s3.symm, by omega, end_wr hv h1 (z.append z3) rep_non q k⟩
theorem ae_extA (ho : AE X o to) (ha : AA X [e] t) (hline : (apos.endLine == cpos.line) = true := by rfl) (hbase : attributeBase o "extend" X.env (eval o X.env) = eval o X.env := by rfl)
    (hfew : ((backTo cpos (starEach [e] X.env)).all (fun x => !x.1) && (backToKw cpos (keywordEach [] X.env)).all (fun x => x.1.isSome)
      && decide (([e] : List Expr).length + ([] : List Keyword).length + (if ([] : List Keyword).isEmpty then 0 else 1) < 30)) = true := by rfl)
    (hs : starEach [e] X.env = (false, eval e X.env) :: starEach [] X.env := by rfl) (hplain : (backTo cpos (starEach [] X.env)).any (·.1) = false := by rfl) :
    AE X (.Call (.Attribute o "extend" apos) [e] [] cpos) (aMth "list" amExtA to t) := ae_bm PySem.F.plainAttrs_list PySem.F.slot_list_extend PySem.F.type_list_extend mt_extA abm_extA ho ha hbase hfew hline hs hplain
end
end HC
set_option maxHeartbeats 1000000
namespace HC
open PySem PySem.Spec L2 PyProof.Rows
section
variable {X : Cx} {e : Expr} {te : RE} {pos : Pos} {K : PySem.W.Frag}
def aAug (i : Nat) (te : RE) (f : Int → Int → Int) : RS := fun D ρ M => onS ρ[i]? fun o => onS o fun x => te ρ M fun y M1 => onI2 x y fun m n => D.nx (ρ.set i (some (.int (f m n)))) M1
theorem aug_imp {i : Nat} {f : Int → Int → Int} : ∀ D σ H, cS K (aAug i te f) D σ H → tAug i (cE K te) (ipI f) D σ H := fun D' σ H ⟨ρ, M, D, hr, hv, q, k⟩ => by
  obtain ⟨o, e1, q⟩ := onS_ex q
  obtain ⟨x, e2, q⟩ := onS_ex q
  subst e2
  obtain ⟨v, h1, h2⟩ := hr.at' i x e1
  refine ⟨v, h1, seqE hr hv q fun w H1 d M1 t1 r1 v1 q1 => ?_⟩
  obtain ⟨m, n, e3, e4, q2⟩ := onI2_ex q1
  subst e3 e4
  exact ⟨m, n, rep_int_inv h2, rep_int_inv r1, k.nx _ _ _ _ t1 ((hr.mono t1).set i rep_int) v1 q2⟩
theorem as_aug_add (i : Nat) {x : Str} {pos' : Pos} (hN : X.N.Nodup) (he : AE X e te) (hi : X.N[i]? = some x := by rfl) (hx : Loc X.env.scope x := by first | exact .inl rfl | exact .inr rfl) (hf : X.fn x = true ∨ X.env.scope.names.lookup x = some .local := by first | exact .inl rfl | exact .inr rfl) :
    AS X (.AugAssign (.Name x pos') .Add e pos) (aAug i te fun i j => i + j) := ps_imp (ps_aug hN hi hx he ip_add hf) aug_imp
theorem as_aug_sub (i : Nat) {x : Str} {pos' : Pos} (hN : X.N.Nodup) (he : AE X e te) (hi : X.N[i]? = some x := by rfl) (hx : Loc X.env.scope x := by first | exact .inl rfl | exact .inr rfl) (hf : X.fn x = true ∨ X.env.scope.names.lookup x = some .local := by first | exact .inl rfl | exact .inr rfl) :
    AS X (.AugAssign (.Name x pos') .Sub e pos) (aAug i te fun i j => i - j) := ps_imp (ps_aug hN hi hx he ip_sub hf) aug_imp
end
end HC
namespace HC
open PySem PySem.Spec L2 PyProof.Rows
def acDivmod : ARC := fun ds M Q => match ds with
  | [d, f] => onI2 d f fun i j => (0 < j ∧ j < 1073741824) ∧ Q (.tup [.int (i / j), .int (i % j)]) M
  | _ => False
theorem abc_divmod {K : PySem.W.Frag} : AbC K (fun xs H Q => ∃ i j, xs = [.int i, .int j] ∧ CDiv i j ∧ ∀ p, H p = none → Q (.ref p) (upd H p (.tup [.int (i / j), .int (i % j)]))) acDivmod := by
  intro H M vs ds Q Q' r hv q k
  match ds, q with
  | [d, f], q =>
    obtain ⟨i, j, e1, e2, hc, q0⟩ := onI2_ex q
    subst e1 e2
    obtain ⟨v, w, e, rd, rd2⟩ := reps2 r
    exact ⟨i, j, by rw [e, rep_int_inv rd, rep_int_inv rd2], hc, end_tup (.cons rep_int (.cons rep_int .nil)) hv q0 k⟩
end HC
set_option maxHeartbeats 1000000
namespace HC
open PySem L2 PyProof.Rows
abbrev WXA := Str → Option Int → Ms → Prop
abbrev XSp := List Dv → Ms → DK → WXA → Prop
def RepX (K : PySem.W.Frag) (H : Hp) (c : Str) (f : Option Int) (cls : Value) (d : Option Addr) : Prop := (∃ C, cls = .ref C ∧ PySem.W.nsIn K mainGlobals c = some (some (.ref C))) ∧
  match f with
  | none => d = none
  | some r => ∃ dx, d = some dx ∧ H dx = some (.xd [(("row" : Str), .int r)])
def liftW (K : PySem.W.Frag) (W : WXA) : L2.WX := fun cls d σ H => ∃ c f M, RepX K H c f cls d ∧ View K M H ∧ W c f M
def cSpX (K : PySem.W.Frag) (asp : XSp) : Sp := fun vs H Q' E' => ∃ ds M Q E, Reps K H ds vs ∧ View K M H ∧ asp ds M Q E ∧ LkV K H Q Q' ∧
  ∀ c f cls d M1 H1, RepX K H1 c f cls d → Tp K H H1 → View K M1 H1 → E c f M1 → E' cls d H1
abbrev FnX (P : Program) (w : World) (K : PySem.W.Frag) (mg : Str → Option Value) (base : Heap) (k : Nat) (f : Addr) (fd : FuncData) (ps : List Str) (asp : XSp) : Prop := FnOk P w K mg base (L2N.CX P w) k f fd ps (cSpX K asp)
theorem flyZ_imp {h B : Heap} {l : List Env} {a : Addr} {Z Z' : Obj → Prop} (z : ∀ o, Z o → Z' o) (x : HandSPX.FlyingZ B l a Z h) : HandSPX.FlyingZ B l a Z' h := by
  obtain ⟨h1, h2, h3, oe, vs, T, oT, ts, he, hz, r⟩ := x
  exact ⟨h1, h2, h3, oe, vs, T, oT, ts, he, z _ hz, r⟩
theorem sky_imp {h B : Heap} {l : List Env} {a L : Addr} {Z Z' : Obj → Prop} (z : ∀ o, Z o → Z' o) (x : Sky B l a Z L h) : Sky B l a Z' L h := by
  rcases x with ⟨h1, h2, h3, oe, vs, he, hz, r⟩ | x | ⟨h1, h2, h3, oe, vs, T, oT, ts, he, hz, r⟩
  · exact .inl ⟨h1, h2, h3, oe, vs, he, z _ hz, r⟩
  · exact .inr (.inl (flyZ_imp z x))
  · exact .inr (.inr ⟨h1, h2, h3, oe, vs, T, oT, ts, he, z _ hz, r⟩)
theorem takesN {X : Cx} {W : WX} (tk : L2.Takes X W) : L2N.Takes X W := fun u s' ⟨a, B, sI, pins, σ, H, cls, d, e, I, nb, up, sky, na, os, ag, w⟩ =>
  tk u s' ⟨a, B, sI, pins, σ, H, cls, d, e, I, nb, up, sky_imp (fun _ z => z.zc) sky, na, os, ag, w⟩
theorem takesF {X : Cx} : L2N.Takes X (fun _ _ _ _ => False) := fun _ _ x => by
  obtain ⟨_, _, _, _, _, _, _, _, _, _, _, _, _, _, _, _, z⟩ := x
  exact z.elim
theorem takesFW {X : Cx} : L2.Takes X (liftW X.K fun _ _ _ => False) := L2.takes0.imp fun _ _ _ _ ⟨_, _, _, _, _, z⟩ => z.elim
def noxS (asp : XSp) : ASp := fun ds M Q => asp ds M Q fun _ _ _ => False
theorem FnX.nox {P : Program} {w : World} {K : PySem.W.Frag} {mg : Str → Option Value} {base : Heap} {k : Nat} {f : Addr} {fd : FuncData} {ps : List Str} {asp : XSp} (F : FnX P w K mg base k f fd ps asp) : FnA P w K mg base k f fd ps (noxS asp) := by
  have sp' : ∀ vs H Q E, cSp K (noxS asp) vs H Q E → cSpX K asp vs H Q (fun _ _ _ => False) := fun vs H Q E ⟨ds, M, Q1, r, v, q, kk⟩ => ⟨ds, M, Q1, _, r, v, q, kk, fun _ _ _ _ _ _ _ _ _ z => z⟩
  refine ⟨fun vs H Q E h => F.len vs H Q _ (sp' vs H Q E h), fun A outer s H args us vs Q E hr e0 hb r h => ?_⟩
  refine codeAny_mono (F.run A outer s H args us vs Q (fun _ _ _ => False) hr e0 hb r (sp' vs H Q E h)) fun r s' hq => ?_
  cases r with
  | error e =>
    obtain ⟨_, _, _, _, _, _, _, _, _, _, _, _, z⟩ := hq
    exact z.elim
  | ok fl => cases fl <;> exact hq
def aCallX (asp : XSp) (t : RA) (W : WXA) : RE := fun ρ M Q => t ρ M fun ds M1 => asp ds M1 Q W
section
variable {X : Cx} {K : PySem.W.Frag} {W : WXA} {x : Str} {p pos : Pos} {e : Expr} {es : List Expr} {t : RA} {k : Nat} {f : Addr} {fd : FuncData} {ps : List Str} {asp : XSp}
theorem acallX_imp : ∀ σ H Q, cE K (aCallX asp t W) σ H Q → tCallSD (cSpX K asp) [] (WE (liftW K W)) (cA K t) σ H Q := fun σ H Q' ⟨ρ, M, Q, hr, hv, q, kk⟩ => seqA hr hv q fun vs H1 ds M1 t1 r1 v1 q1 =>
  ⟨ds, M1, Q, W, by rw [List.append_nil]; exact r1, v1, q1, kk.up t1, fun c f cls d M2 H2 hc t2 v2 w => ⟨c, f, M2, hc, v2, w⟩⟩
theorem ae_callX (tk : L2N.Takes X (liftW X.K W)) (F : FnX X.prog X.w X.K X.mg X.base k f fd ps asp) (hr : Room k X.A) (hm : X.mg x = some (.ref f)) (hk : PySem.W.keepIn X.K (.ref f) = true) (hb : Binds X.K fd ps []) (ha : AA X (e :: es) t) (hg : Gl X x := by rfl)
    (hdb : (x == ("__debug__" : Str)) = false := by decide) (he : starEach (e :: es) X.env = (false, eval e X.env) :: starEach es X.env := by rfl) (hpl : (backTo pos (starEach es X.env)).any (·.1) = false := by rfl) : AE X (.Call (.Name x p) (e :: es) [] pos) (aCallX asp t W) :=
  pe_imp (pe_callSD (E := WE (liftW X.K W)) F hr hg hm hk hb .nil (L2N.passAt tk) ha hdb he hpl) acallX_imp
end
section
variable {X : Cx} {K : PySem.W.Frag} {W : WXA} {x : Str} {p pos : Pos}
def aRaise (W : WXA) (x : Str) : RS := fun _ _ M => W x none M
structure XcT (K : PySem.W.Frag) (mg : Str → Option Value) (x : Str) : Prop where
  ex : ∃ C, PySem.W.nsIn K mainGlobals x = some (some (.ref C)) ∧ mg x = some (.ref C) ∧ PySem.W.excIn K C [.type "ValueError", .type "Exception", .type "BaseException", .type "object"] "ValueError.__new__" = true ∧ PySem.W.keepIn K (.ref C) = true ∧
    PySem.W.subIn K (.ref C) (.type "BaseException") = some true ∧ PySem.W.typeIn K (.ref C) = some (.type "type")
theorem as_raise {m : Str} {j : Nat} {p2 pos' : Pos} (hc : X.calm = true) (tk : L2N.Takes X (liftW X.K W)) (T : XcT X.K X.mg x) (hg : Gl X x := by rfl)
    (hdb : (x == ("__debug__" : Str)) = false := by decide) : AS X (.Raise (some (.Call (.Name x p) [.Constant (.str m) j p2] [] pos)) none pos') (aRaise W x) := by
  obtain ⟨C, hn, gC, q, kC, b1, b2⟩ := T.ex
  refine ps_imp (L2N.ps_raise hc tk (L2N.pmk_own PySem.F.excBase_ValueError q gC kC (raises_own b1 b2) hg hdb)) fun D σ H h => ?_
  obtain ⟨ρ, M, D', hr, hv, w, _⟩ := h
  exact ⟨x, none, M, ⟨⟨C, rfl, hn⟩, rfl⟩, hv, w⟩
end
section
variable {X : Cx} {e : Expr} {es : List Expr} {ta : TA} {p pos : Pos}
theorem pmk_oexN {CX : CXT} {x : Str} {C fI : Addr} {k : Nat} {fd : FuncData} {ps : List Str} {sp : Sp} {ds : List Value} {dvs : List V} (T : OexC X.K C) (iC : PySem.W.findIn X.K (.ref C) "__init__" = some (some (.ref fI))) (tI : PySem.W.typeIn X.K (.ref fI) = some (.type "function"))
    (F1 : FnOk X.prog X.w X.K X.mg X.base CX k fI fd ps sp) (hr : Room (k + 1) X.A) (hb : Binds X.K fd ps ds) (hd : Vals dvs ds) (hx : Passes CX X (fun _ _ _ => False)) (hg : Gl X x) (hm : X.mg x = some (.ref C)) (ha : PA X (e :: es) ta)
    (hdb : (x == ("__debug__" : Str)) = false := by decide) (he : starEach (e :: es) X.env = (false, eval e X.env) :: starEach es X.env := by rfl) (hpl : (backTo pos (starEach es X.env)).any (·.1) = false := by rfl) :
    L2N.PMk X (.Call (.Name x p) (e :: es) [] pos) (tMkO C sp dvs ta) := by
  intro pins s σ H Q I h
  obtain ⟨nm, q, N, bs, bm, sn, sub, ab, col, dd, k0, k1, k2, k3, k5, hC, hbm⟩ := T.cls
  refine wpAny_Call_Name_kw (ld_glob I hg hm ?_ hdb)
  refine PySem.W.callWith_K (h₀ := X.base) I.ok.mod.kin T.kC (thn (ha.run pos pins s σ H _ I h) fun us s1 ⟨vs, H1, I1, r1, hz, q1⟩ => ⟨I1.kIn, ?_⟩) he hpl
  show wpAny _ _ (call (.ref C) us) _ _ _
  obtain ⟨hp, g, dr, tk, os⟩ := s1
  have hsz : hp.objs.size ≤ hp.objs.size + 1 := Nat.le_succ _
  have hn : H1 (hp.objs.size + 1) = none := I1.hok.fresh hsz
  have hq := q1 (hp.objs.size + 1) hn
  have kk : ∀ b o, hp.get? b = some o → ((hp.push (PySem.W.kdv_tup us)).push (PySem.HandSPX.excO C hp.objs.size)).get? b = some o := fun b o e => Heap.get?_push_of_some _ (Heap.get?_push_of_some _ e)
  have hget : ((hp.push (PySem.W.kdv_tup us)).push (PySem.HandSPX.excO C hp.objs.size)).get? (hp.objs.size + 1) = some (PySem.HandSPX.excO C hp.objs.size) := by heap_get
  have I2 : Inv X pins σ (upd H1 (hp.objs.size + 1) (exo (hp.objs.size + 1) C none)) ⟨(hp.push (PySem.W.kdv_tup us)).push (PySem.HandSPX.excO C hp.objs.size), g, dr, tk, os⟩ :=
    I1.laid (t' := tk) (a := hp.objs.size + 1) (o := exo (hp.objs.size + 1) C none) (h' := (hp.push (PySem.W.kdv_tup us)).push (PySem.HandSPX.excO C hp.objs.size)) kk hsz (exo_ok hget)
  have r2 : Vals (V.ref (hp.objs.size + 1) :: (vs ++ dvs)) (Value.ref (hp.objs.size + 1) :: (us ++ ds)) := .cons rfl (r1.append hd)
  have hl : (Value.ref (hp.objs.size + 1) :: us ++ ds).length = ps.length := by
    have e := r2.length
    rw [F1.len _ _ _ _ hq] at e
    exact e.symm
  have hus : us.length ≤ sizeLine := by
    rw [← Paired.length r1, sizeLine_eq]
    omega
  refine wpAny_call (PySem.HandSPX.call_own F.excBase_ValueError (fun Y => PySem.HandSPX.refsVE_contains Y bm hbm) (I1.kIn _ _ hC) (PySem.W.looks_findIn I1.kIn iC) (fun self => PySem.W.bind_fn I1.kIn self tI) hus
    (codeAny_mono (F1.run _ X.stack _ _ ⟨Value.ref (hp.objs.size + 1) :: us, []⟩ (Value.ref (hp.objs.size + 1) :: (us ++ ds)) _ _ (fun _ _ _ => False) (hr.make C us []) (I2.env0.make C us []) (hb _ (Value.ref (hp.objs.size + 1) :: us) I2.kIn hl) r2 hq) fun r s' hq' => ?_))
  cases r with
  | error er => exact hx pins σ _ _ er s' I2 hq'
  | ok fl =>
    cases fl with
    | ret u =>
      obtain ⟨v, H2, os2, bare2, un2, hok2, rv, ev, d, fs, ea, ed, hd1, q2⟩ := hq'
      subst ev
      obtain ⟨h2, g2, d2, t2, os'⟩ := s'
      obtain ⟨t0, G, J, kG, ge, hoe, na⟩ := mk_end0 (d2 := d2) (t2 := t2) I1 hsz kk un2 hok2 os2 bare2 ea ed hd1
      refine ⟨rv, ⟨hp.objs.size + 1, _, _, ⟨G, g2, d2, t2, os'⟩, _, .ref C, some d, rfl, J, kG, ge, hoe, ⟨rfl, rfl, fun vs hv => ?_⟩, rfl, rfl, na, rfl, bare2, raises_own T.exC T.tyC, q2⟩⟩
      cases hv
      rfl
    | next => exact False.elim hq'
    | brk => exact False.elim hq'
    | cont => exact False.elim hq'
end
def spInit (C : Addr) : Sp := fun vs H Q _ => ∃ a v, vs = [.ref a, v] ∧ H a = some (exo a C none) ∧ ∀ dx, H dx = none → dx ≠ a → Q .non (upd (upd H dx (exd dx [(("row" : Str), v)])) a (exo a C (some dx)))
structure XrT (P : Program) (w : World) (K : PySem.W.Frag) (mg : Str → Option Value) (base : Heap) (x : Str) : Prop where
  ex : ∃ C fI fd, PySem.W.nsIn K mainGlobals x = some (some (.ref C)) ∧ mg x = some (.ref C) ∧ OexC K C ∧ PySem.W.findIn K (.ref C) "__init__" = some (some (.ref fI)) ∧ PySem.W.typeIn K (.ref fI) = some (.type "function") ∧ FnOk P w K mg base CX0 1 fI fd ["self", "row"] (spInit C) ∧ Binds K fd ["self", "row"] []
section
variable {X : Cx} {W : WXA} {x : Str} {e : Expr} {te : RE} {p pos : Pos}
def aRaiseR (W : WXA) (x : Str) (te : RE) : RS := fun _ ρ M => aCons te aNil ρ M fun ds M1 => on1 ds fun d => onI d fun r => W x (some r) M1
theorem as_raiseR {k : Nat} {pos' : Pos} (hc : X.calm = true) (tk : L2N.Takes X (liftW X.K W)) (T : XrT X.prog X.w X.K X.mg X.base x) (hr : Room k X.A) (hk : 2 ≤ k) (he : AE X e te) (hg : Gl X x := by rfl)
    (hdb : (x == ("__debug__" : Str)) = false := by decide) (hse : starEach [e] X.env = (false, eval e X.env) :: starEach [] X.env := by rfl) (hpl : (backTo pos (starEach [] X.env)).any (·.1) = false := by rfl) :
    AS X (.Raise (some (.Call (.Name x p) [e] [] pos)) none pos') (aRaiseR W x te) := by
  obtain ⟨C, fI, fd, hn, gC, o, iC, tI, F, hb⟩ := T.ex
  refine ps_imp (L2N.ps_raise hc tk (pmk_oexN o iC tI F (hr.mono hk) hb .nil pass0 hg gC (aa_cons he aa_nil (hs := hse)) hdb (he := hse) (hpl := hpl))) fun D σ H h => ?_
  obtain ⟨ρ, M, D', hr', hv, w, _⟩ := h
  show cA X.K (aCons te aNil) σ H _
  refine ⟨ρ, M, _, hr', hv, w, ?_⟩
  · intro vs H1 ds M1 t1 r1 v1 q
    obtain ⟨d, rfl, q⟩ := on1_ex q
    obtain ⟨r, rfl, q⟩ := onI_ex q
    obtain ⟨v, rfl, rv⟩ := reps1 r1
    have ev := rep_int_inv rv
    subst ev
    refine ⟨(show 1 ≤ 1000 by decide), fun a ha => ⟨a, .int r, rfl, upd_same, fun dx hdx hne => ⟨rfl, dx, [(("row" : Str), .int r)], upd_same, ?_, ?_, ?_⟩⟩⟩
    · rw [upd_ne hne, upd_same]
    · rw [upd_ne hne] at hdx; exact hdx
    · have hdx' : H1 dx = none := by rw [upd_ne hne] at hdx; exact hdx
      have eh : upd (del (upd (upd (upd H1 a (exo a C none)) dx (exd dx [(("row" : Str), .int r)])) a (exo a C (some dx))) a) dx (.xd [(("row" : Str), .int r)]) = upd H1 dx (.xd [(("row" : Str), .int r)]) := by
        funext b
        unfold upd del
        by_cases h1 : b = dx
        · rw [if_pos h1, if_pos h1]
        · rw [if_neg h1, if_neg h1]
          by_cases h2 : b = a
          · rw [if_pos h2, h2, ha]
          · rw [if_neg h2]
            show (if b = a then some (exo a C (some dx)) else if b = dx then some (exd dx [(("row" : Str), .int r)]) else if b = a then some (exo a C none) else H1 b) = H1 b
            rw [if_neg h2, if_neg h1, if_neg h2]
      rw [eh]
      exact ⟨x, some r, M1, ⟨⟨C, rfl, hn⟩, dx, rfl, upd_same⟩, v1.new hdx', q⟩
end
end HC
set_option maxHeartbeats 1000000
namespace HC
open PySem L2 PyProof.Rows
theorem tp_un {K : PySem.W.Frag} {fs ex : List Addr} {H H' : Hp} {h h' : Heap} (u : Un fs ex H H' h h') : Tp K H H' := by
  refine ⟨fun a vs q => ?_, fun a vs q => ?_, fun a vs ⟨o, q, hd⟩ => ⟨o, u.frzs _ _ _ q, hd⟩, fun a o v q => u.frzs _ _ _ q⟩
  · rcases q with (q | ⟨o, q⟩) | q
    · exact .inl (.inl (u.tups _ _ q))
    · exact .inl (.inr ⟨o, u.frzs _ _ _ q⟩)
    · exact .inr q
  · rcases q with ⟨o, q⟩ | q
    · exact .inl ⟨o, u.frzs _ _ _ q⟩
    · exact .inr q
theorem takes_tp {X : Cx} {K : PySem.W.Frag} {W : WXA} {E' : XK} (tk : L2N.Takes X (fun cls d _ H => E' cls d H)) (h : ∀ cls d σ H, liftW K W cls d σ H → Tp K X.H_0 H → E' cls d H) : L2N.Takes X (liftW K W) := fun u s' ⟨a, B, sI, pins, σ, H, cls, d, e, I, nb, up, sky, na, os, ag, w⟩ =>
  tk u s' ⟨a, B, sI, pins, σ, H, cls, d, e, I, nb, up, sky, na, os, ag, h cls d σ H w (tp_un I.base)⟩
theorem passes_ofN {X : Cx} {K : Value → Shared → Prop} {E₁ : Value → Shared → Prop} (hx : X.xe = fun e s' => wpAny (model X.prog X.w) X.A (leaving X.env e) (fun _ s'' => K e s'') E₁ s') : PassesOwn (model X.prog X.w) X.A X.env X.xe := L2.passes_of hx
theorem fnX {P : Program} {w : World} {K : PySem.W.Frag} {mg : Str → Option Value} {base : Heap} {qual : Str} {st : Stmt} {N ps : List Str} {x : Str} {f : Addr} {fd : FuncData} {k : Nat} {asp : XSp} {t : WXA → RS} (F : Fun K x qual st f fd) (S : FnScope N ps (defScope st)) (len : ∀ ds M Q E, asp ds M Q E → ds.length = ps.length)
    (body : ∀ (cdv : Value) (A : Around) (outer : List Env) (s : Shared) (H : Hp) (E : XK) (W : WXA), Room k (A.deeper (envOfC qual (defScope st) s.heap.objs.size f cdv)) →
      L2N.Takes (cxOf (L2N.CX P w) P w K mg base N qual (defScope st) f cdv A outer s H E) (liftW K W) → PassesOwn (model P w) (A.deeper (envOfC qual (defScope st) s.heap.objs.size f cdv)) (envOfC qual (defScope st) s.heap.objs.size f cdv) (cxOf (L2N.CX P w) P w K mg base N qual (defScope st) f cdv A outer s H E).xe →
      ASs (cxOf (L2N.CX P w) P w K mg base N qual (defScope st) f cdv A outer s H E) (defBody st) (t W))
    (spec : ∀ ds M Q E, asp ds M Q E → t (fun c f M => ∃ M', Sub M' M ∧ E c f M') (retD Q) (startA N.length ds) M) : FnX P w K mg base (k + 1) f fd ps asp := by
  obtain ⟨oc, od, kV, doc, pm, an, cdv0, ct, osl, rfl, lk, hcd⟩ := F.ex
  refine fn_of lk hcd S (fun vs H Q' E' ⟨ds, M, Q, E, r, _, q, _⟩ => by rw [← r.length]; exact len ds M Q E q) fun A outer s H vs Q' E' hr ⟨ds, M, Q, E, r, hv, q, kk, ke⟩ => ?_
  have tk0 : L2N.Takes (cxOf (L2N.CX P w) P w K mg base N qual (defScope st) f cdv0 A outer s H E') (fun cls d _ H => E' cls d H) := L2N.takes_of rfl rfl rfl rfl
  have tk := takes_tp (K := K) (W := fun c f M => ∃ M', Sub M' M ∧ E c f M') tk0 fun cls d σ H1 ⟨c, f, M1, hc, hv1, M2, sb, he⟩ tp => ke c f cls d M2 H1 hc tp (hv1.sub sb) he
  refine ⟨_, body cdv0 A outer s H E' _ hr tk (L2.passes_of (K := fun e s'' => L2N.CX P w outer H s E' e s'') rfl), startA N.length ds, M, retD Q, repE_start r, hv, spec ds M Q E q, ?_, ?_, ?_, ?_⟩
  · rintro σ H' ρ M' tp _ v ⟨M'', sb, q'⟩
    exact kk _ _ _ M'' tp rep_non (v.sub sb) q'
  · rintro v H' d M' tp rd vv ⟨M'', sb, q'⟩
    exact kk _ _ _ M'' tp rd (vv.sub sb) q'
  · rintro _ _ _ _ _ _ _ h
    exact h.elim
  · rintro _ _ _ _ _ _ _ h
    exact h.elim
abbrev REX := Env' → Ms → DK → WXA → Prop
abbrev RSX := WXA → RS
def LkX (K : PySem.W.Frag) (σ : L2.St) (H : Hp) (E : WXA) (W : L2.WX) : Prop := ∀ c f cls d H' M', Tp K H H' → RepX K H' c f cls d → View K M' H' → E c f M' → W cls d σ H'
theorem LkX.up {K : PySem.W.Frag} {σ : L2.St} {H H1 : Hp} {E : WXA} {W : L2.WX} (l : LkX K σ H E W) (t : Tp K H H1) : LkX K σ H1 E W := fun c f cls d H' M' t' => l c f cls d H' M' (t.trans t')
def cEX (K : PySem.W.Frag) (W : L2.WX) (t : REX) : TE := fun σ H Q' => ∃ ρ M Q E, RepE K H ρ σ ∧ View K M H ∧ t ρ M Q E ∧ LkV K H Q Q' ∧ LkX K σ H E W
def cSX (K : PySem.W.Frag) (W : L2.WX) (t : RSX) : TS := fun D' σ H => ∃ ρ M D E, RepE K H ρ σ ∧ View K M H ∧ t E D ρ M ∧ LkD K H D D' ∧ LkX K σ H E W
def AEX (X : Cx) (W : L2.WX) (e : Expr) (t : REX) : Prop := PE X e (cEX X.K W t)
def ASX (X : Cx) (W : L2.WX) (st : Stmt) (t : RSX) : Prop := PS X st (cSX X.K W t)
def ASXs (X : Cx) (W : L2.WX) (st : List Stmt) (t : RSX) : Prop := PSs X st (cSX X.K W t)
section
variable {X : Cx} {W : L2.WX} {x : Str} {p pos : Pos} {e : Expr} {es : List Expr} {t : RA} {k : Nat} {f : Addr} {fd : FuncData} {ps : List Str} {asp : XSp}
def axCall (asp : XSp) (t : RA) : REX := fun ρ M Q E => t ρ M fun ds M1 => asp ds M1 Q E
theorem axcall_imp {K : PySem.W.Frag} : ∀ σ H Q, cEX K W (axCall asp t) σ H Q → tCallSD (cSpX K asp) [] (WE W) (cA K t) σ H Q := fun σ H Q' ⟨ρ, M, Q, E, hr, hv, q, kk, kx⟩ => seqA hr hv q fun vs H1 ds M1 t1 r1 v1 q1 =>
  ⟨ds, M1, Q, E, by rw [List.append_nil]; exact r1, v1, q1, kk.up t1, fun c f cls d M2 H2 hc t2 v2 w => kx c f cls d H2 M2 (t1.trans t2) hc v2 w⟩
theorem ax_call (tk : L2N.Takes X W) (F : FnX X.prog X.w X.K X.mg X.base k f fd ps asp) (hr : Room k X.A) (hm : X.mg x = some (.ref f)) (hk : PySem.W.keepIn X.K (.ref f) = true) (hb : Binds X.K fd ps []) (ha : AA X (e :: es) t) (hg : Gl X x := by rfl)
    (hdb : (x == ("__debug__" : Str)) = false := by decide) (he : starEach (e :: es) X.env = (false, eval e X.env) :: starEach es X.env := by rfl) (hpl : (backTo pos (starEach es X.env)).any (·.1) = false := by rfl) : AEX X W (.Call (.Name x p) (e :: es) [] pos) (axCall asp t) :=
  pe_imp (pe_callSD (E := WE W) F hr hg hm hk hb .nil (L2N.passAt tk) ha hdb he hpl) axcall_imp
variable {te : REX} {c : Expr} {tc : RT} {a b : List Stmt} {ta tb : RSX} {st : Stmt}
def sxExpr (te : REX) : RSX := fun E D ρ M => te ρ M (fun _ M1 => D.nx ρ M1) E
theorem sx_expr (he : AEX X W e te) (hs : swapsWith e none pos.line X.env = pure false := by rfl) : ASX X W (.Expr e pos) (sxExpr te) :=
  ps_imp (ps_expr he hs) fun D' σ H ⟨ρ, M, D, E, hr, hv, q, k, kx⟩ => ⟨ρ, M, _, E, hr, hv, q, fun v H1 d M1 t1 r1 v1 q1 => k.nx _ _ _ _ t1 (hr.mono t1) v1 q1, kx⟩
def sxSet (te : REX) (i : Nat) : RSX := fun E D ρ M => te ρ M (fun d M1 => D.nx (ρ.set i (some d)) M1) E
theorem sx_set (i : Nat) {y : Str} {py : Pos} (hN : X.N.Nodup) (he : AEX X W e te) (hi : X.N[i]? = some y := by rfl) (hx : Loc X.env.scope y := by first | exact Or.inl rfl | exact Or.inr rfl) (hs : swapsWith e (some (.Name y py)) pos.line X.env = pure false := by rfl)
    (hf : X.fn y = true ∨ X.env.scope.names.lookup y = some .local := by first | exact .inl rfl | exact .inr rfl) : ASX X W (.Assign [.Name y py] e pos) (sxSet te i) :=
  ps_imp (ps_set hN hi hx he hs hf) fun D' σ H ⟨ρ, M, D, E, hr, hv, q, k, kx⟩ => ⟨ρ, M, _, E, hr, hv, q, fun v H1 d M1 t1 r1 v1 q1 => k.nx _ _ _ _ t1 ((hr.mono t1).set i r1) v1 q1, kx⟩
def sxRet (te : REX) : RSX := fun E D ρ M => te ρ M D.rt E
theorem sx_ret (he : AEX X W e te) : ASX X W (.Return (some e) pos) (sxRet te) :=
  ps_imp (ps_ret he) fun D' σ H ⟨ρ, M, D, E, hr, hv, q, k, kx⟩ => ⟨ρ, M, _, E, hr, hv, q, k.rt, kx⟩
def sxIf (tc : RT) (ta tb : RSX) : RSX := fun E D ρ M => tc ρ M fun b M1 => onIf b (ta E D ρ M1) (tb E D ρ M1)
theorem sx_if (hc : AT X c tc) (ha : ASXs X W a ta) (hb : ASXs X W b tb) : ASX X W (.If c a b pos) (sxIf tc ta tb) :=
  ps_imp (ps_if hc ha hb) fun D' σ H ⟨ρ, M, D, E, hr, hv, q, k, kx⟩ => seqT hr hv q fun b H1 M1 t1 v1 q1 => by
    cases b with
    | true => exact ⟨ρ, M1, D, E, hr.mono t1, v1, q1, k.up t1, kx.up t1⟩
    | false => exact ⟨ρ, M1, D, E, hr.mono t1, v1, q1, k.up t1, kx.up t1⟩
theorem sxs_one (h : ASX X W st ta) : ASXs X W [st] ta := pss_one h
end
end HC
set_option maxHeartbeats 2000000
namespace HC
open PySem PySem.Spec L2 PyProof.Rows
section
variable {X : Cx} {pins : List (Addr × Obj)} {σ : L2.St} {H : Hp} {s : Shared} {a dx : Addr} {oe od : Obj} {vs : Array Value} {fs : List (Str × V)}
def anyO : HO := .ext fun _ => True
theorem anyO_ok {P : Program} {w : World} {H : Hp} {h : Heap} (e : h.get? a = some oe) : ObjOk P w H h a anyO := ⟨trivial, ⟨oe, e⟩, fun _ _ _ _ => trivial⟩
theorem inv_track (I : Inv X pins σ H s) (ha : s.heap.get? a = some oe) (hd : oe.data = .fields vs) (na : H a = none) (nL : a ≠ X.env.locals) (n0 : X.s_0.heap.get? a = none) (np : ∀ p ∈ X.pn ++ pins, p.1 ≠ a) : Inv X pins σ (upd H a (.frz oe anyO)) s := by
  refine ⟨I.ok, I.os, I.bare, ⟨I.base.keep, I.base.slot, fun b o e n hx => ?_, I.base.there, fun b xs e => ?_, fun b o u e => ?_, fun b ps e => ?_⟩, I.loc, I.cell, ?_, fun x c e => ?_, fun p hp => ?_, fun b u e => ?_, I.len⟩
  · have hb : b ≠ a := fun z => by rw [z, n0] at e; cases e
    rw [upd_ne hb]
    exact I.base.free b o e n hx
  · have q := I.base.tups b xs e
    rw [upd_ne (ne_of_none q na)]
    exact q
  · have q := I.base.frzs b o u e
    rw [upd_ne (ne_of_none q na)]
    exact q
  · obtain ⟨m, q⟩ := I.base.tbls b ps e
    exact ⟨m, by rw [upd_ne (ne_of_none q na)]; exact q⟩
  · rw [upd_ne nL.symm]
    exact I.free
  · have hc : c ≠ a := fun z => by
      obtain ⟨v, o, ho, hv⟩ := I.cell x c e
      rw [z, ha] at ho
      cases ho
      rw [hd] at hv
      cases hv
    rw [upd_ne hc]
    exact I.freeC x c e
  · obtain ⟨e, n, r⟩ := I.pin p hp
    exact ⟨e, by rw [upd_ne (np p hp)]; exact n, r⟩
  · by_cases hb : b = a
    · subst hb
      rw [upd_same] at e
      cases e
      exact ⟨ha, anyO_ok ha⟩
    · rw [upd_ne hb] at e
      exact (I.hok b u e).stay (fun c v _ q => q) (fun c q => by rw [upd_ne (ne_of_none q na)]; exact q) fun c xs q => by rw [upd_ne (ne_of_none q na)]; exact q
theorem inv_frzX (I : Inv X pins σ H s) (hx : H dx = some (.xd fs)) (hd : s.heap.get? dx = some od) : Inv X pins σ (upd H dx (.frz od (.xd fs))) s := by
  have ne : ∀ {b : Addr} {u : HO}, H b = some u → u ≠ .xd fs → b ≠ dx := fun {b u} q hu z => by
    rw [z, hx] at q
    exact hu (Option.some.inj q).symm
  have nn : ∀ {b : Addr}, H b = none → b ≠ dx := fun {b} q z => by rw [z, hx] at q; cases q
  refine ⟨I.ok, I.os, I.bare, ⟨I.base.keep, I.base.slot, fun b o e n hx => ?_, I.base.there, fun b xs e => ?_, fun b o u e => ?_, fun b ps e => ?_⟩, I.loc, I.cell, ?_, fun x c e => ?_, fun p hp => ?_, fun b u e => ?_, I.len⟩
  · have q := I.base.free b o e n hx
    rw [upd_ne (nn q)]
    exact q
  · have q := I.base.tups b xs e
    rw [upd_ne (ne q (fun z => nomatch z))]
    exact q
  · have q := I.base.frzs b o u e
    rw [upd_ne (ne q (fun z => nomatch z))]
    exact q
  · obtain ⟨m, q⟩ := I.base.tbls b ps e
    exact ⟨m, by rw [upd_ne (ne q (fun z => nomatch z))]; exact q⟩
  · rw [upd_ne (nn I.free)]
    exact I.free
  · rw [upd_ne (nn (I.freeC x c e))]
    exact I.freeC x c e
  · obtain ⟨e, n, r⟩ := I.pin p hp
    exact ⟨e, by rw [upd_ne (nn n)]; exact n, r⟩
  · by_cases hb : b = dx
    · subst hb
      rw [upd_same] at e
      cases e
      have q : ObjOk X.prog X.w H s.heap b (.xd fs) := I.hok b _ hx
      exact ⟨hd, ObjOk.stay q (fun c v _ q => q) (fun c q => by rw [upd_ne (ne q (fun z => nomatch z))]; exact q) fun c xs q => by rw [upd_ne (ne q (fun z => nomatch z))]; exact q⟩
    · rw [upd_ne hb] at e
      exact (I.hok b u e).stay (fun c v _ q => q) (fun c q => by rw [upd_ne (ne q (fun z => nomatch z))]; exact q) fun c xs q => by rw [upd_ne (ne q (fun z => nomatch z))]; exact q
end
theorem inv_suiteT {X : Cx} {pins : List (Addr × Obj)} {σ : L2.St} {H : Hp} {s : Shared} (I : Inv X pins σ H s) (a : Addr) : Inv (X.suite a (X.pn ++ pins)) [] σ H s :=
  ⟨I.ok.suite _ _, I.os, I.bare, I.base, I.loc, I.cell, I.free, I.freeC, fun p hp => I.pin p (by rw [List.append_nil] at hp; exact hp), I.hok, I.len⟩
theorem inv_unsuiteT {X : Cx} {pins pn' : List (Addr × Obj)} {σ : L2.St} {H : Hp} {s : Shared} {a : Addr} (I : Inv (X.suite a (X.pn ++ pins)) pn' σ H s) (ok : X.Ok) : Inv X pins σ H s :=
  ⟨ok, I.os, I.bare, I.base, I.loc, I.cell, I.free, I.freeC, fun p hp => I.pin p (List.mem_append_left _ hp), I.hok, I.len⟩
def caughtH (H : Hp) (a : Addr) (oe : Obj) (d : Option Addr) (od : Obj) (fs : List (Str × V)) : Hp := match d with
  | none => upd H a (.frz oe anyO)
  | some dx => upd (upd H dx (.frz od (.xd fs))) a (.frz oe anyO)
theorem inv_caught {X : Cx} {pins : List (Addr × Obj)} {σ : L2.St} {H : Hp} {s : Shared} {a : Addr} {oe : Obj} {vs : Array Value} {d : Option Addr} (I : Inv X pins σ H s) (ha : s.heap.get? a = some oe) (hd : oe.data = .fields vs) (na : H a = none) (nL : a ≠ X.env.locals) (n0 : X.s_0.heap.get? a = none) (npin : ∀ p ∈ X.pn ++ pins, p.1 ≠ a)
    (hdx : ∀ dx, d = some dx → ∃ fs, H dx = some (.xd fs)) : ∃ od fs, (∀ dx, d = some dx → H dx = some (.xd fs)) ∧ Inv X pins σ (caughtH H a oe d od fs) s := by
  cases d with
  | none => exact ⟨oe, [], (fun dx z => by cases z), inv_track I ha hd na nL n0 npin⟩
  | some dx =>
    obtain ⟨fs, hfs⟩ := hdx dx rfl
    obtain ⟨od, hod⟩ := objOk_get (I.hok dx _ hfs)
    have hne : a ≠ dx := fun z => by rw [z, hfs] at na; cases na
    exact ⟨od, fs, (fun dx' z => by cases z; exact hfs), inv_track (inv_frzX I hfs hod) ha hd (by rw [upd_ne hne]; exact na) nL n0 npin⟩
def wAsT (K : PySem.W.Frag) (c : Value) (i : Nat) (ts : TS) (Wout : WX) (D : Ends) : WX := fun cls d σ H =>
  ∃ b, PySem.W.exmOne K cls c = some b ∧ (b = true → ∀ (a : Addr) (oe : Obj) (od : Obj) (fs : List (Str × V)), H a = none → L2.Zc cls d oe → (∃ vs, oe.data = .fields vs) → (∀ dx, d = some dx → H dx = some (.xd fs)) →
    ts { nx := fun σ' H' => D.nx (σ'.set i none) H', rt := D.rt, bk := fun σ' H' => D.bk (σ'.set i none) H', ct := fun σ' H' => D.ct (σ'.set i none) H' } (σ.set i (some (.ref a))) (caughtH H a oe d od fs)) ∧
    (b = true → ∀ dx, d = some dx → ∃ fs, H dx = some (.xd fs)) ∧ (b = false → Wout cls d σ H)
section
variable {X : Cx} {x n : Str} {c : Value} {i : Nat} {body suite : List Stmt} {b₀ : Stmt} {np pos pos' : Pos} {tb : WX → TS} {ts : TS} {Wout : WX}
theorem ps_tryT (hs : X.stack = X.env :: X.outer) (hf : X.env.frame = some X.env.locals) (hex : X.ex = []) (hN : X.N.Nodup) (hi : X.N[i]? = some n) (hln : X.env.kindOf n = some .local) (hc : Names X x c) (tk : L2.Takes X Wout)
    (hb : ∀ (W : WX) (pn : List (Addr × Obj)) (xe : Value → Shared → Prop), L2.Takes (X.tr pn xe) W → PassesOwn (model X.prog X.w) X.A X.env xe → PSs (X.tr pn xe) body (tb W))
    (hsu : ∀ (a : Addr) (pn : List (Addr × Obj)), PSs (X.suite a pn) (b₀ :: suite) ts) :
    PS X (.Try body [.ExceptHandler (some (.Name x np)) (some n) (b₀ :: suite) pos'] [] [] pos) (fun D σ H => tb (wAsT X.K c i ts Wout D) D σ H) := by
  refine ⟨fun pins s σ H D I h => ?_⟩
  have ok := I.ok
  have hfr : X.A.frames = some (X.env :: X.outer) := by rw [ok.frames, hs]
  have hloc : Loc X.env.scope n := .inl hln
  refine wpAny_Try_except ?_
  refine wpAny_mono ((hb (wAsT X.K c i ts Wout D) (X.pn ++ pins) (fun e s₁ => wpAny (model X.prog X.w) X.A (noteFrame e X.env) (fun _ s₂ => wpAny (model X.prog X.w) X.A (setFlight e none) (fun _ s₃ =>
    wpAny (model X.prog X.w) X.A (handleBy e X.env [.ExceptHandler (some (.Name x np)) (some n) (b₀ :: suite) pos']) (SP X pins D) X.xe s₃) X.xe s₂) X.xe s₁) (fun u s' xx => ?_) PassesOwn.looking).run [] s σ H D (I.toTry _) h) (fun f s1 hsp => ?_) (fun e s1 he => he)
  ·
    obtain ⟨a, B, sI, pins', σ', H', cls, d, rfl, J', nb, up, sky, na, os, ag, b, hb1, hyes, hdx, hno⟩ := xx
    have J : Inv X pins σ' H' sI := J'.ofTry ok
    have sky' : Sky B (X.env :: X.outer) a (L2.Zc cls d) X.env.locals s'.heap := by rw [← hs]; exact sky
    show wpAny (model X.prog X.w) X.A (noteFrame (.ref a) X.env) _ _ _
    refine L2.Sky.land L2.Zc.steady hfr hf sky' fun h3 fl3 up3 => ?_
    have J3 : Inv X pins σ' H' { s' with heap := h3 } := J.landed nb fl3.1 (up.trans up3) os ag
    obtain ⟨oe3, vs3, he3, hz3, hd3⟩ := fl3.there
    have notFr : ∀ {h : Heap} {o : Obj} {vs : Array Value}, h.FunFrames B (X.env :: X.outer) → h.get? a = some o → o.data = .fields vs → a ∉ frs (X.env :: X.outer) := fun {h o vs} ff e dd hm => by
      obtain ⟨_, o', e', hnf⟩ := ff.mem hm
      rw [e] at e'; cases e'
      exact hnf _ dd
    have nfr := notFr fl3.2.2.1 he3 hd3
    have nL : a ≠ X.env.locals := fun z => nfr (List.mem_filterMap.mpr ⟨X.env, List.mem_cons_self, by rw [hf, z]⟩)
    have nF : a ∉ X.fs := fun hm => by
      obtain ⟨e, he, q⟩ := List.mem_filterMap.mp hm
      exact nfr (List.mem_filterMap.mpr ⟨e, List.mem_cons_of_mem _ he, q⟩)
    have nfs : a ∉ frs X.stack := by rw [hs]; exact nfr
    have nI : sI.heap.get? a = none := by
      cases q : sI.heap.get? a with
      | none => rfl
      | some o =>
        have z := nb a o q nfs
        rw [fl3.2.1] at z
        cases z
    have n0 : X.s_0.heap.get? a = none := by
      cases q : X.s_0.heap.get? a with
      | none => rfl
      | some o =>
        obtain ⟨o', z⟩ := J.base.there a o q (by rw [hex]; exact fun z => nomatch z)
        rw [nI] at z
        cases z
    have npin : ∀ p ∈ X.pn ++ pins, p.1 ≠ a := fun p hp z => by
      have := (J.pin p hp).1
      rw [z, nI] at this
      cases this
    have S3 := J3.suite he3 hd3 na nL nF
    refine wpAny_handleBy_cons (codeAny_handlers_test ?_) (by intro q; cases q)
    have LT : PySem.W.Looks (model X.prog X.w) h3 (typeOf (.ref a)) cls := fun A Q E s k q => wpAny_typeOf_ref (k _ _ he3) (by rw [hz3.1]; exact q)
    have LM := PySem.W.exm_one (M := model X.prog X.w) (J3.kIn) LT hb1
    have test : ∀ {Q : Value → Shared → Prop} {E : Value → Shared → Prop}, Q c { s' with heap := h3 } → wpAny (model X.prog X.w) (X.A.mark (some (.ref a))) (eval (.Name x np) X.env) Q E { s' with heap := h3 } := fun {Q E} q => by
      obtain ⟨hg, hdbg, hm | ⟨hm, hv, hnn⟩⟩ := hc
      · exact ld_glob (X := X.suite a ((a, oe3) :: (X.pn ++ pins))) S3 hg hm q hdbg
      · exact ld_blt (X := X.suite a ((a, oe3) :: (X.pn ++ pins))) S3 hg hm hv q hnn hdbg
    refine test (LM.here ?_)
    cases b with
    | true =>
      refine codeAny_handlers_suite_as ?_
      refine HandSPX.lands_againZ fl3 fun h4 fl4 up4 => ?_
      have J4 : Inv X pins σ' H' { s' with heap := h4 } := J.landed nb fl4.1 ((up.trans up3).trans up4) os ag
      obtain ⟨oe4, vs4, he4, hz4, hd4⟩ := fl4.there
      obtain ⟨od, fs, hfs, J5⟩ := inv_caught J4 he4 hd4 na nL n0 npin (fun dx z => hdx rfl dx z)
      have S4 := inv_suiteT J5 a
      refine store_ok (X := X.suite a (X.pn ++ pins)) (v := .ref a) S4 hN hi hloc rfl (fun s5 S5 => ?_) (.inr hln)
      refine wpAny_mono ((hsu a (X.pn ++ pins)).run [] s5 _ _ _ S5 (hyes rfl a oe4 od fs na hz4 ⟨_, hd4⟩ hfs)) (fun f s6 hsp => ?_) (fun _ _ z => False.elim z)
      have end_ : ∀ {σ6 : L2.St} {H6 : Hp} {Q : Shared → Prop}, Inv (X.suite a (X.pn ++ pins)) [] σ6 H6 s6 → (∀ s7, Inv X pins (σ6.set i none) H6 s7 → Q s7) →
          wpAny (model X.prog X.w) X.A (do bindName X.env n .none; unbindBehindTheSuite X.env n pos') (fun _ s7 => Q s7) X.xe s6 := fun {σ6 H6 Q} S6 hq => gone_ok (inv_unsuiteT S6 ok) hN hi hln hq
      cases f with
      | next =>
        obtain ⟨σ6, H6, S6, q6⟩ := hsp
        exact end_ S6 fun s7 J7 => ⟨_, _, J7, q6⟩
      | brk =>
        obtain ⟨σ6, H6, S6, q6⟩ := hsp
        exact end_ S6 fun s7 J7 => ⟨_, _, J7, q6⟩
      | cont =>
        obtain ⟨σ6, H6, S6, q6⟩ := hsp
        exact end_ S6 fun s7 J7 => ⟨_, _, J7, q6⟩
      | ret u =>
        obtain ⟨v6, σ6, H6, S6, r6, q6⟩ := hsp
        exact end_ S6 fun s7 J7 => ⟨_, _, _, J7, r6, q6⟩
    | false =>
      show wpAny _ X.A (handleBy (.ref a) X.env []) _ _ _
      refine wpAny_handleBy_nil ?_
      obtain ⟨k1, k2, k3, oe, vs, T, oT, ts', he, hz, hd, h1, hr⟩ := id fl3
      unfold PySem.passOn
      refine wpAny_bind (wpAny_field he hd h1 ?_)
      rw [if_neg (show ¬ ((Value.ref T == Value.none) = true) from by simp)]
      have fin : wpAny (model X.prog X.w) X.A (setFlight (.ref a) X.env.frame) (fun _ s4 => wpAny (model X.prog X.w) X.A (throw (.ref a) : Sem Flow) (SP X pins D) X.xe s4) X.xe { s' with heap := h3 } := by
        rw [hf]
        refine HandSPX.setFlight_upZ fl3 fun h4 hh4 up4 => wpAny_throw (tk _ _ ?_)
        exact ⟨a, B, sI, pins, σ', H', cls, d, rfl, J, nb, (up.trans up3).trans up4, .inr (.inr (by rw [hs]; exact hh4)), na, os, ag, hno rfl⟩
      first
        | exact wpAny_bind (wpAny_pure (wpAny_bind fin))
        | exact wpAny_bind fin
  · cases f with
    | next =>
      obtain ⟨σ', H', J', q⟩ := hsp
      exact wpAny_execs_nil ⟨σ', H', J'.ofTry ok, q⟩
    | brk =>
      obtain ⟨σ', H', J', q⟩ := hsp
      exact ⟨σ', H', J'.ofTry ok, q⟩
    | cont =>
      obtain ⟨σ', H', J', q⟩ := hsp
      exact ⟨σ', H', J'.ofTry ok, q⟩
    | ret u =>
      obtain ⟨v, σ', H', J', r, q⟩ := hsp
      exact ⟨v, σ', H', J'.ofTry ok, r, q⟩
end
end HC
set_option maxHeartbeats 2000000
namespace HC
open PySem PySem.Spec L2 PyProof.Rows
def XM (K : PySem.W.Frag) (cv : Value) (xt : List (Str × Bool)) : Prop := ∀ c b, xt.lookup c = some b → ∃ C, PySem.W.nsIn K mainGlobals c = some (some (.ref C)) ∧ PySem.W.exmOne K (.ref C) cv = some b
theorem xm_nil {K : PySem.W.Frag} {cv : Value} : XM K cv [] := fun c b h => by cases h
theorem xm_cons {K : PySem.W.Frag} {cv : Value} {x : Str} {b : Bool} {xt : List (Str × Bool)} (h : ∃ C, PySem.W.nsIn K mainGlobals x = some (some (.ref C)) ∧ PySem.W.exmOne K (.ref C) cv = some b) (r : XM K cv xt) : XM K cv ((x, b) :: xt) := fun c d e => by
  rw [List.lookup_cons] at e
  split at e
  · rename_i q
    have q : c = x := by simpa using q
    subst q
    cases e
    exact h
  · exact r c d e
theorem tp_xd {K : PySem.W.Frag} {H : Hp} {a : Addr} {fs : List (Str × V)} {o : HO} (h : H a = some (.xd fs)) : Tp K H (upd H a o) := by
  have ne : ∀ {b : Addr} {u : HO}, H b = some u → u ≠ .xd fs → b ≠ a := fun {b u} q hu z => by
    rw [z, h] at q
    exact hu (Option.some.inj q).symm
  refine ⟨fun b vs q => ?_, fun b vs q => ?_, fun b vs ⟨ob, q, hd⟩ => ⟨ob, (upd_ne (ne q (fun z => nomatch z))).trans q, hd⟩, fun b o u q => (upd_ne (ne q (fun z => nomatch z))).trans q⟩
  · rcases q with (q | ⟨ob, q⟩) | q
    · exact .inl (.inl ((upd_ne (ne q (fun z => nomatch z))).trans q))
    · exact .inl (.inr ⟨ob, (upd_ne (ne q (fun z => nomatch z))).trans q⟩)
    · exact .inr q
  · rcases q with ⟨ob, q⟩ | q
    · exact .inl ⟨ob, (upd_ne (ne q (fun z => nomatch z))).trans q⟩
    · exact .inr q
theorem repc_xd {K : PySem.W.Frag} {H : Hp} {a : Addr} {fs : List (Str × V)} {c : Cell} (h : H a = some (.xd fs)) : ¬ RepC K H a c := fun r => by
  cases c with
  | lst ds => obtain ⟨vs, e, _⟩ := r; rw [h] at e; cases e
  | dic ds => obtain ⟨vs, e, _⟩ := r; rw [h] at e; cases e
  | dit ds => obtain ⟨vs, e, _⟩ := r; rw [h] at e; cases e
  | fdc ds => obtain ⟨vs, o, e, _⟩ := r; rw [h] at e; cases e
  | obj C ds => obtain ⟨dx, vs, e, _⟩ := r; rw [h] at e; cases e
  | tab x => obtain ⟨_, ps, e, _⟩ := r; rw [h] at e; cases e
  | cod q => have r : H a = some (LamX.CodeO a q) := r; rw [h] at r; cases r
theorem view_xd {K : PySem.W.Frag} {M : Ms} {H : Hp} {a : Addr} {fs : List (Str × V)} {o : HO} (v : View K M H) (h : H a = some (.xd fs)) : View K M (upd H a o) := fun b c e => by
  have hb : b ≠ a := fun z => repc_xd h (by rw [z] at e; exact v a c e)
  refine (v b c e).keep (tp_xd h) (upd_ne hb) fun d u q hu => (upd_ne (fun z => ?_)).trans q
  subst z
  rw [h] at q
  cases q
  rcases hu with ⟨_, z⟩ | ⟨_, z⟩ <;> cases z
theorem caught_tp {K : PySem.W.Frag} {H : Hp} {a : Addr} {oe od : Obj} {d : Option Addr} {fs : List (Str × V)} (na : H a = none) (hfs : ∀ dx, d = some dx → H dx = some (.xd fs)) : Tp K H (caughtH H a oe d od fs) := by
  cases d with
  | none => exact Tp.new na
  | some dx =>
    have hne : a ≠ dx := fun z => by have := hfs dx rfl; rw [← z, na] at this; cases this
    exact (tp_xd (hfs dx rfl)).trans (Tp.new (by rw [upd_ne hne]; exact na))
theorem caught_view {K : PySem.W.Frag} {M : Ms} {H : Hp} {a : Addr} {oe od : Obj} {d : Option Addr} {fs : List (Str × V)} (v : View K M H) (na : H a = none) (hfs : ∀ dx, d = some dx → H dx = some (.xd fs)) : View K M (caughtH H a oe d od fs) := by
  cases d with
  | none => exact v.new na
  | some dx =>
    have hne : a ≠ dx := fun z => by have := hfs dx rfl; rw [← z, na] at this; cases this
    exact (view_xd v (hfs dx rfl)).new (by rw [upd_ne hne]; exact na)
theorem caught_rep {K : PySem.W.Frag} {H : Hp} {a : Addr} {oe od : Obj} {d : Option Addr} {fs : List (Str × V)} {c : Str} {f : Option Int} {cls : Value} (rx : RepX K H c f cls d) (na : H a = none) (hz : L2.Zc cls d oe) (hv : ∃ vs, oe.data = .fields vs) (hfs : ∀ dx, d = some dx → H dx = some (.xd fs)) : SqX K (caughtH H a oe d od fs) a c f := by
  obtain ⟨⟨C, rfl, hn⟩, hf⟩ := rx
  have e1 : caughtH H a oe d od fs a = some (.frz oe anyO) := by cases d <;> exact upd_same
  refine ⟨C, oe, anyO, hn, e1, hz.1, hv, ?_⟩
  cases f with
  | none =>
    have hf : d = none := hf
    exact hz.2.trans hf
  | some r =>
    obtain ⟨dx, rfl, q⟩ := hf
    have q2 := hfs dx rfl
    rw [q2] at q
    cases q
    have hne : dx ≠ a := fun z => by rw [← z, q2] at na; cases na
    exact ⟨dx, od, hz.2, (upd_ne hne).trans upd_same⟩
def aTryAs (tb : RSX) (xt : List (Str × Bool)) (i : Nat) (ts : RS) (W : WXA) : RS := fun D ρ M => tb (fun c f M1 => onS (xt.lookup c) fun b => onIf b
  (ts { nx := fun ρ' M' => D.nx (ρ'.set i none) M', rt := D.rt, bk := fun ρ' M' => D.bk (ρ'.set i none) M', ct := fun ρ' M' => D.ct (ρ'.set i none) M' } (ρ.set i (some (.exc c f))) M1) (W c f M1)) D ρ M
section
variable {X : Cx} {x n : Str} {c : Value} {body suite : List Stmt} {b₀ : Stmt} {np pos pos' : Pos} {tb : RSX} {ts : RS} {W : WXA} {xt : List (Str × Bool)}
theorem as_tryAs (i : Nat) (hc : Names X x c) (tk : L2.Takes X (liftW X.K W)) (xm : XM X.K c xt) (hN : X.N.Nodup)
    (hb : ∀ (Wk : L2.WX) (pn : List (Addr × Obj)) (xe : Value → Shared → Prop), L2.Takes (X.tr pn xe) Wk → ASXs (X.tr pn xe) Wk body tb)
    (hsu : ∀ (a : Addr) (pn : List (Addr × Obj)), ASs (X.suite a pn) (b₀ :: suite) ts)
    (hs : X.stack = X.env :: X.outer := by rfl) (hf : X.env.frame = some X.env.locals := by rfl) (hex : X.ex = [] := by rfl) (hi : X.N[i]? = some n := by rfl) (hln : X.env.kindOf n = some .local := by rfl) :
    AS X (.Try body [.ExceptHandler (some (.Name x np)) (some n) (b₀ :: suite) pos'] [] [] pos) (aTryAs tb xt i ts W) :=
  ps_imp (ps_tryT (tb := fun Wk => cSX X.K Wk tb) (ts := cS X.K ts) hs hf hex hN hi hln hc tk (fun Wk pn xe tk2 _ => hb Wk pn xe tk2) hsu) fun D' σ H ⟨ρ, M, D, hr, hv, q, k⟩ => ⟨ρ, M, D, _, hr, hv, q, k, fun cc f cls d H1 M1 tp rx v1 e => by
    obtain ⟨b, hb1, e⟩ := onS_ex e
    obtain ⟨C, hC, hx⟩ := xm cc b hb1
    have ecls : cls = .ref C := by
      obtain ⟨⟨C', rfl, hC'⟩, _⟩ := rx
      rw [hC] at hC'
      cases hC'
      rfl
    refine ⟨b, by rw [ecls]; exact hx, ?_, ?_, ?_⟩
    · intro hbt a oe od fs na hz hfd hfs
      subst hbt
      have t2 := caught_tp (K := X.K) (oe := oe) (od := od) na hfs
      have t3 := tp.trans t2
      refine ⟨ρ.set i (some (.exc cc f)), M1, _, (hr.mono t3).set i (rep_exc (caught_rep rx na hz hfd hfs)), caught_view v1 na hfs, e, ?_, k.rt.up t3, ?_, ?_⟩
      · exact fun σ' H' ρ' M' t r v q => k.nx _ _ _ _ (t3.trans t) (r.drop i none) v q
      · exact fun σ' H' ρ' M' t r v q => k.bk _ _ _ _ (t3.trans t) (r.drop i none) v q
      · exact fun σ' H' ρ' M' t r v q => k.ct _ _ _ _ (t3.trans t) (r.drop i none) v q
    · intro _ dx hd
      obtain ⟨_, hf⟩ := rx
      cases f with
      | none =>
        have hf : d = none := hf
        rw [hf] at hd
        cases hd
      | some r =>
        obtain ⟨dx', e', q⟩ := hf
        rw [e'] at hd
        cases hd
        exact ⟨_, q⟩
    · intro hbf
      subst hbf
      exact ⟨cc, f, M1, rx, v1, e⟩⟩
def aTryOnly (tb : RSX) (xt : List (Str × Bool)) (ts : RS) (W : WXA) : RS := fun D ρ M => tb (fun c f M1 => onS (xt.lookup c) fun b => onIf b (ts D ρ M1) (W c f M1)) D ρ M
theorem as_tryOnly (hc : Names X x c) (tk : L2.Takes X (liftW X.K W)) (xm : XM X.K c xt)
    (hb : ∀ (Wk : L2.WX) (pn : List (Addr × Obj)) (xe : Value → Shared → Prop), L2.Takes (X.tr pn xe) Wk → ASXs (X.tr pn xe) Wk body tb)
    (hsu : ∀ (a : Addr) (pn : List (Addr × Obj)), ASs (X.suite a pn) (b₀ :: suite) ts)
    (hs : X.stack = X.env :: X.outer := by rfl) (hf : X.env.frame = some X.env.locals := by rfl) :
    AS X (.Try body [.ExceptHandler (some (.Name x np)) none (b₀ :: suite) pos'] [] [] pos) (aTryOnly tb xt ts W) :=
  ps_imp (L2.ps_try_only (tb := fun Wk => cSX X.K Wk tb) (ts := fun _ _ _ => cS X.K ts) hs hf hc tk (fun Wk pn xe tk2 _ => hb Wk pn xe tk2) (fun a oe _ _ pn _ _ => hsu a ((a, oe) :: pn))) fun D' σ H ⟨ρ, M, D, hr, hv, q, k⟩ => ⟨ρ, M, D, _, hr, hv, q, k, fun cc f cls d H1 M1 tp rx v1 e => by
    obtain ⟨b, hb1, e⟩ := onS_ex e
    obtain ⟨C, hC, hx⟩ := xm cc b hb1
    have ecls : cls = .ref C := by
      obtain ⟨⟨C', rfl, hC'⟩, _⟩ := rx
      rw [hC] at hC'
      cases hC'
      rfl
    refine ⟨b, by rw [ecls]; exact hx, ?_, ?_⟩
    · intro hbt a na
      subst hbt
      exact ⟨ρ, M1, D, hr.mono tp, v1, e, k.up tp⟩
    · intro hbf
      subst hbf
      exact ⟨cc, f, M1, rx, v1, e⟩⟩
end
structure XcK (K : PySem.W.Frag) (C : Addr) : Prop where
  cl : (PySem.W.clsIn K C).isSome = true
  ga : PySem.W.findIn K (.ref C) "__getattribute__" = some (some (.builtin "BaseException.__getattribute__"))
  gg : PySem.W.findIn K (.ref C) "__getattr__" = some none
  sb : PySem.W.subIn K (.ref C) (.type "BaseException") = some true
  kl : PySem.W.findIn K (.ref C) "__class__" = some (some (.builtin "object.__class__"))
  sp : PySem.W.specialIn K (.builtin "object.__class__") "__get__" = some (some (.builtin "getset_descriptor.__get__"))
  tk : PySem.W.takesIn K (.builtin "object.__class__") = some true
  mr : PySem.W.mroIn K C (.type "object") = some true
def XI (K : PySem.W.Frag) (cv : Value) (xt : List (Str × Bool)) : Prop := ∀ c b, xt.lookup c = some b → ∃ C, PySem.W.nsIn K mainGlobals c = some (some (.ref C)) ∧ PySem.W.kitOne K (.ref C) cv = some b ∧ XcK K C
theorem xi_nil {K : PySem.W.Frag} {cv : Value} : XI K cv [] := fun c b h => by cases h
theorem xi_cons {K : PySem.W.Frag} {cv : Value} {x : Str} {b : Bool} {xt : List (Str × Bool)} (h : ∃ C, PySem.W.nsIn K mainGlobals x = some (some (.ref C)) ∧ PySem.W.kitOne K (.ref C) cv = some b ∧ XcK K C) (r : XI K cv xt) : XI K cv ((x, b) :: xt) := fun c d e => by
  rw [List.lookup_cons] at e
  split at e
  · rename_i q
    have q : c = x := by simpa using q
    subst q
    cases e
    exact h
  · exact r c d e
def onXc (d : Dv) (Q : Str → Option Int → Prop) : Prop := match d with | .exc c f => Q c f | _ => False
theorem onXc_ex {d : Dv} {Q : Str → Option Int → Prop} (h : onXc d Q) : ∃ c f, d = .exc c f ∧ Q c f := by
  cases d <;> first | exact h.elim | exact ⟨_, _, rfl, h⟩
theorem sqx_inst {K : PySem.W.Frag} {P : Program} {w : World} {H : Hp} {h : Heap} {a : Addr} {c : Str} {f : Option Int} (q : SqX K H a c f) (hok : HOk P w H h) : ∃ C oe od, PySem.W.nsIn K mainGlobals c = some (some (.ref C)) ∧ PySem.W.InstAt h a oe C od := by
  obtain ⟨C, oe, u, hn, e, hc, ⟨vs, hv⟩, hf⟩ := q
  obtain ⟨ha, _⟩ := hok a _ e
  have nc : PySem.W.notCls oe := by unfold PySem.W.notCls; rw [hv] <;> rfl
  cases f with
  | none => exact ⟨C, oe, none, hn, ha, hc, nc, by rw [show oe.dict = none from hf]; trivial⟩
  | some r =>
    obtain ⟨dx, od, e1, e2⟩ := hf
    obtain ⟨hd, _⟩ := hok dx _ e2
    exact ⟨C, oe, some od, hn, ha, hc, nc, by rw [e1]; exact hd⟩
def rIsX (K : PySem.W.Frag) : List V → Hp → VK → Prop := fun xs H Q => ∃ (a : Addr) (cc : V) (cv : Value) (c : Str) (f : Option Int) (C : Addr) (b : Bool), xs = [.ref a, cc] ∧ ClsV cc cv ∧ SqX K H a c f ∧ PySem.W.nsIn K mainGlobals c = some (some (.ref C)) ∧ PySem.W.kitOne K (.ref C) cv = some b ∧ XcK K C ∧ Q (.bl b) H
theorem call_isX {X : Cx} : CallR X (.builtin "isinstance") (rIsX X.K) := by
  intro pins s σ H xs us Q I r h
  obtain ⟨a, cc, cv, c, f, C, b, rfl, k, sq, hn, e, T, q⟩ := h
  obtain ⟨u1, u2, rfl, r1, r2⟩ := vals2 r
  have e2 := k.eq r2
  subst e2
  cases (show u1 = Value.ref a from r1)
  obtain ⟨C', oe, od, hn', J⟩ := sqx_inst sq I.hok
  rw [hn] at hn'
  cases hn'
  exact PySem.W.kia_one (PySem.W.kitx_exc T.cl T.ga T.gg T.sb T.kl T.sp T.tk T.mr) I.kIn J e (fun z => nomatch z) fun tk => ⟨.bl b, H, I.tok tk, rfl, q⟩
section
variable {X : Cx} {e : Expr} {te : RE} {y : Str} {p q pos : Pos} {xt : List (Str × Bool)} {v : V} {cv : Value}
def aIsX (te : RE) (xt : List (Str × Bool)) : RE := fun ρ M Q => te ρ M fun d M1 => onXc d fun c _ => onS (xt.lookup c) fun b => Q (.bl b) M1
theorem ae_isX (hm : X.mg "isinstance" = none) (he : AE X e te) (hy : PE X (.Name y q) (tC v)) (hcv : ClsV v cv) (xi : XI X.K cv xt) (hg : Gl X "isinstance" := by rfl)
    (hes : starEach [e, .Name y q] X.env = (false, eval e X.env) :: starEach [.Name y q] X.env := by rfl) (hes2 : starEach [.Name y q] X.env = (false, eval (.Name y q) X.env) :: starEach [] X.env := by rfl) (hpl : (backTo pos (starEach [.Name y q] X.env)).any (·.1) = false := by rfl) :
    AE X (.Call (.Name "isinstance" p) [e, .Name y q] [] pos) (aIsX te xt) :=
  pe_imp (pe_callB call_isX hg hm PyProof.Rows.Boot.«isinstance» (pa_cons he (pa_cons hy pa_nil (hs := hes2)) (hs := hes)) (by decide) (by decide) hes hpl) fun σ H Q' ⟨ρ, M, Q, hr, hv, h, k⟩ => by
    refine seqE hr hv h fun u H1 d M1 t1 r1 v1 q1 => ?_
    obtain ⟨c, f, rfl, q1⟩ := onXc_ex q1
    obtain ⟨b, hb, q1⟩ := onS_ex q1
    obtain ⟨a, rfl, sq⟩ := rep_exc_inv r1
    obtain ⟨C, hn, hk, T⟩ := xi c b hb
    exact ⟨a, v, cv, c, f, C, b, rfl, hcv, sq, hn, hk, T, k _ _ _ _ t1 rep_bl v1 q1⟩
def XF (K : PySem.W.Frag) (xs : List Str) : Prop := ∀ c, c ∈ xs → ∃ C, PySem.W.nsIn K mainGlobals c = some (some (.ref C)) ∧ XfC K C ∧ PySem.W.findIn K (.ref C) "row" = some none
def aRow (te : RE) (xs : List Str) : RE := fun ρ M Q => te ρ M fun d M1 => onXc d fun c f => c ∈ xs ∧ onS f fun r => Q (.int r) M1
theorem ae_row {xs : List Str} (xf : XF X.K xs) (he : AE X e te) (hb : attributeBase e "row" X.env (eval e X.env) = eval e X.env := by rfl) : AE X (.Attribute e "row" pos) (aRow te xs) := by
  refine ⟨fun pins s σ H Q' I ⟨ρ, M, Q, hr, hv, h, k⟩ => ?_⟩
  refine attr_of hb (thn (he.run pins s σ H _ I (seqE (Q' := fun u H1 => ∃ a r od0, u = .ref a ∧ (∃ c, c ∈ xs ∧ SqX X.K H1 a c (some r)) ∧ od0 = () ∧ Q' (V.int r) H1) hr hv h fun u H1 d M1 t1 r1 v1 q1 => ?_)) fun u s1 hh => ?_)
  · obtain ⟨c, f, rfl, hm, q1⟩ := onXc_ex q1
    obtain ⟨r, rfl, q1⟩ := onS_ex q1
    obtain ⟨a, rfl, sq⟩ := rep_exc_inv r1
    exact ⟨a, r, (), rfl, ⟨c, hm, sq⟩, rfl, k _ _ _ _ t1 rep_int v1 q1⟩
  · obtain ⟨x, H1, I1, rx, a, r, _, rfl, ⟨c, hm, sq⟩, _, q⟩ := hh
    obtain rfl : u = Value.ref a := rx
    obtain ⟨C, hn, T, hno⟩ := xf c hm
    obtain ⟨C', oe, uu, hn', ea, hc, ⟨vs, hvs⟩, dx, od, ed, edx⟩ := sq
    rw [hn] at hn'
    cases hn'
    obtain ⟨ha, _⟩ := I1.hok a _ ea
    obtain ⟨hod, hxd⟩ := I1.hok dx _ edx
    have hx : ObjOk X.prog X.w H1 s1.heap dx (.xd [(("row" : Str), .int r)]) := hxd
    obtain ⟨mA, hns, hrr⟩ := hx
    obtain ⟨od', ho, hl⟩ := lookIn_ns hns
    have er := hrr ("row" : Str)
    have el : ([(("row" : Str), V.int r)] : List (Str × V)).lookup ("row" : Str) = some (V.int r) := by rw [List.lookup_cons, BEq.rfl]
    rw [el] at er
    obtain ⟨uv, hu, ru⟩ := RelO.some_of (v := V.int r) (o := mA ("row" : Str)) er
    have J : PySem.W.InstAt s1.heap a oe C (some od') := ⟨ha, hc, by unfold PySem.W.notCls; rw [hvs] <;> rfl, by rw [ed]; exact ho⟩
    exact HandSPX.exc_get I1.kIn J T.ga T.gg T.exC (PySem.W.findObj_own T.hdC hno rfl (by rw [hl, hu])) (handed_of ru) ⟨V.int r, H1, I1.tok _, ru, q⟩
end
end HC
set_option maxHeartbeats 2000000
namespace HC
open PySem PySem.Spec L2 L2H PyProof.Rows
structure FnT (P : Program) (w : World) (K : PySem.W.Frag) (mg : Str → Option Value) (base : Heap) (k : Nat) (f : Addr) (fd : FuncData) (ps : List Str) (sp : Sp) : Prop where
  len : ∀ vs H Q E, sp vs H Q E → vs.length = ps.length
  run : ∀ (A : Around) (outer : List Env) (s : Shared) (H : Hp) (args : Args) (us : List Value) (vs : List V) (Q : VK) (E : XK), RoomH k A → Env0 P w K mg base A outer s H → BindsTo s fd args (ps.zip us) → Vals vs us → sp vs H Q E →
    codeAny (model P w) A (.call (.ref f) args) (CR CX0 outer P w H s Q E) s
theorem FnT.mono {P : Program} {w : World} {K : PySem.W.Frag} {mg : Str → Option Value} {base : Heap} {j k : Nat} {f : Addr} {fd : FuncData} {ps : List Str} {sp : Sp} (F : FnT P w K mg base j f fd ps sp) (h : j ≤ k) : FnT P w K mg base k f fd ps sp :=
  ⟨F.len, fun A outer s H args us vs Q E hr => F.run A outer s H args us vs Q E (hr.mono h)⟩
def cxT (P : Program) (w : World) (K : PySem.W.Frag) (mg : Str → Option Value) (base : Heap) (N : List Str) (qual : Str) (scope : Scope) (f : Addr) (cd : Value) (A : Around) (outer : List Env) (s : Shared) (H : Hp) (E : XK) : Cx :=
  { cxOf CX0 P w K mg base N qual scope f cd A outer s H E with calm := false }
theorem inv_startT {P : Program} {w : World} {K : PySem.W.Frag} {mg : Str → Option Value} {base : Heap} {N ps : List Str} {qual : Str} {scope : Scope} {f : Addr} {cd : Value} {A : Around} {outer : List Env} {s s1 : Shared} {H : Hp} {E : XK} {us : List Value} {vs : List V}
    (S : FnScope N ps scope) (e0 : Env0 P w K mg base A outer s H) (hl : vs.length = ps.length) (r : Vals vs us)
    (x : InCallC s s.heap.objs.size (bindL (envOfC qual scope s.heap.objs.size f cd).kindOf (ps.zip us) fun _ => none) (cellsFrom (s.heap.objs.size + 1) scope.names []) (bindC (envOfC qual scope s.heap.objs.size f cd).kindOf (ps.zip us) fun _ => none) s1) :
    Inv (cxT P w K mg base N qual scope f cd A outer s H E) [] (L2.start N vs) H s1 := by
  have hpl : ps.length ≤ N.length := by have := congrArg List.length S.pre; rw [List.length_take] at this; omega
  obtain ⟨h1, tk, rfl, hk⟩ := x.done
  have noA : ∀ b : Addr, b ∉ (cxT P w K mg base N qual scope f cd A outer s H E).ex := fun b z => absurd (show b ∈ ([] : List Addr) from z) (by simp)
  refine ⟨⟨e0.mod, S.kind, rfl, rfl, Nat.le_refl _, fun y z c h1 h2 => ?_, fun y hy => ?_, fun y c _ h => ?_, (fun z => Bool.noConfusion (show false = true from z)), Around.frames_deeper e0.frames, .inr ⟨rfl, rfl⟩, fun b z => absurd z (noA b), e0.bs, e0.bsz, fun b _ _ => noA b, fun b z => absurd z (noA b), e0.funs, e0.frf⟩,
    rfl, e0.bare, Un.kept hk, ⟨_, x.toInCall.ns, fun i y v h1 h2 h3 => ?_⟩, fun y c h => ⟨_, x.cell y c h⟩, e0.hok.fresh (Nat.le_refl _), fun y c h => ?_, fun p hp => absurd (show p ∈ ([] : List (Addr × Obj)) from hp) (by simp), e0.hok.kept hk, ?_⟩
  · exact name_of_addr x.apart (PySem.mem_of_lookup h1) (PySem.mem_of_lookup h2)
  · have hy : scope.names.lookup y = some .cell ∨ scope.names.lookup y = some .free := hy
    rcases hy with hy | hy
    · exact cell_has hy
    · exact absurd rfl (S.nofree _ (PySem.mem_of_lookup hy))
  · exact Nat.le_of_lt (x.above y c (PySem.mem_of_lookup h))
  · have hi : i < vs.length := by
      unfold L2.start at h2
      by_cases hi : i < vs.length
      · exact hi
      · rw [List.getElem?_append_right (by simpa using hi)] at h2
        rw [List.getElem?_replicate] at h2
        split at h2 <;> cases h2
    have ha : vs[i]? = some v := by
      unfold L2.start at h2
      rw [List.getElem?_append_left (by simpa using hi), List.getElem?_map] at h2
      cases e : vs[i]? with
      | none => rw [e] at h2; cases h2
      | some a => rw [e] at h2; cases h2; rfl
    obtain ⟨u, hu, rv⟩ := r.get ha
    have hp : ps[i]? = some y := by
      rw [← S.pre, List.getElem?_take_of_lt (by omega)]; exact h1
    have ndP : ps.Nodup := by rw [← S.pre]; exact S.nd.sublist (List.take_sublist _ _)
    refine ⟨u, rv, ?_⟩
    rcases S.par y (List.mem_of_getElem? hp) with k | k
    · exact .inl ⟨k, bindL_get ndP hp hu k⟩
    · obtain ⟨c, e⟩ := cell_has (n := s.heap.objs.size + 1) k
      refine .inr ⟨.inl k, c, e, ?_⟩
      have q := x.cell y c e
      rw [bindC_get ndP hp hu (by show scope.names.lookup y ≠ _; rw [k]; decide)] at q
      exact q
  · exact e0.hok.fresh (Nat.le_of_lt (x.above y c (PySem.mem_of_lookup h)))
  · unfold L2.start
    show _ = N.length
    rw [List.length_append, List.length_map, List.length_replicate]
    omega
theorem fn_ofT {P : Program} {w : World} {K : PySem.W.Frag} {mg : Str → Option Value} {base : Heap} {k : Nat} {f : Addr} {name qual : Str} {params : Arguments} {body : List Stmt} {scope : Scope} {dV kV doc pm cdv ct oc : Value} {an od : Option Addr}
    {osl : Array (Option Value)} {N ps : List Str} {sp : Sp} (lk : K.lookup f = some ⟨oc, od, .func (PySem.W.fnOf name qual params body scope dV kV doc pm an cdv ct), osl⟩) (hcd : PySem.W.codeIn K cdv qual = true) (S : FnScope N ps scope)
    (len : ∀ vs H Q E, sp vs H Q E → vs.length = ps.length)
    (hbody : ∀ (A : Around) (outer : List Env) (s : Shared) (H : Hp) (vs : List V) (Q : VK) (E : XK), RoomH k (A.deeper (envOfC qual scope s.heap.objs.size f cdv)) → sp vs H Q E →
      ∃ t, PSs (cxT P w K mg base N qual scope f cdv A outer s H E) body t ∧ t { nx := fun _ H' => Q .non H', rt := Q } (L2.start N vs) H) :
    FnT P w K mg base (k + 1) f (PySem.W.fnOf name qual params body scope dV kV doc pm an cdv ct) ps sp := by
  refine ⟨len, fun A outer s H args us vs Q E hr e0 hb r hsp => ?_⟩
  have hl := len _ _ _ _ hsp
  have KX : K.In s.heap := e0.mod.kin.keeps fun b o e => (e0.bs b o e).1
  have lim : s.heap.NoLimit := e0.mod.nolimit.keeps fun b o e => (e0.bs b o e).1
  have hkind : ∀ y ∈ ps.zip us, scope.names.lookup y.1 = some .local ∨ (scope.names.lookup y.1 = some .cell ∧ ((cellsFrom (s.heap.objs.size + 1) scope.names []).lookup y.1).isSome = true) := fun ⟨n, v⟩ hy => by
    rcases S.par n (List.of_mem_zip hy).1 with q | q
    · exact .inl q
    · exact .inr ⟨q, PySem.W.cellsFrom_some _ _ _ (.inl q)⟩
  refine codeAny_call_function hr.depth (KX _ _ lk) rfl S.co S.gen rfl (PySem.W.codeRec_of KX hcd) (hb _ _ _ _ ?_)
  refine wpAny_newFunctionEnv_cells S.kind hkind fun env he s1 x => ?_
  subst he
  refine ⟨lim.keeps x.toInCall.keep, codeAny_func ?_⟩
  obtain ⟨t, ht, hq⟩ := hbody A outer s H vs Q E (hr.deeper _) hsp
  have I : Inv (cxT P w K mg base N qual scope f cdv A outer s H E) [] (L2.start N vs) H s1 := inv_startT S e0 hl r x
  refine wpAny_mono (ht.run [] s1 (L2.start N vs) H _ I hq) (fun fl s' hs => ?_) fun e s' hs => hs
  have fin : ∀ {σ' : L2.St} {H' : Hp} {v : V} {u : Value}, Inv (cxT P w K mg base N qual scope f cdv A outer s H E) [] σ' H' s' → RelV v u → Q v H' → CE outer P w H s Q u s' :=
    fun {σ' H' v u} J rv q => ⟨v, H', J.os, J.bare, J.base, J.hok, rv, q⟩
  cases fl with
  | ret u =>
    obtain ⟨v, σ', H', J, rv, q⟩ := hs
    exact fin J rv q
  | next =>
    obtain ⟨σ', H', J, q⟩ := hs
    exact fin (v := V.non) (u := Value.none) J rfl q
  | brk =>
    obtain ⟨_, _, _, q⟩ := hs
    exact False.elim q
  | cont =>
    obtain ⟨_, _, _, q⟩ := hs
    exact False.elim q
section
variable {X : Cx} {k : Nat} {f : Addr} {fd : FuncData} {ps : List Str} {sp : Sp} {x : Str} {p pos : Pos} {e : Expr} {es : List Expr} {t : TA}
theorem pe_callT (F : FnT X.prog X.w X.K X.mg X.base k f fd ps sp) (hr : RoomH k X.A) (hg : Gl X x) (hm : X.mg x = some (.ref f)) (hk : PySem.W.keepIn X.K (.ref f) = true) (hb : Binds X.K fd ps [])
    (ha : PA X (e :: es) t) (hdb : (x == ("__debug__" : Str)) = false := by decide) (he : starEach (e :: es) X.env = (false, eval e X.env) :: starEach es X.env := by rfl) (hpl : (backTo pos (starEach es X.env)).any (·.1) = false := by rfl) :
    PE X (.Call (.Name x p) (e :: es) [] pos) (tCall sp [] E0 t) := by
  refine ⟨fun pins s σ H Q I h => ?_⟩
  refine wpAny_Call_Name_kw (ld_glob I hg hm ?_ hdb)
  refine PySem.W.callWith_K (h₀ := X.base) I.ok.mod.kin hk (thn (ha.run pos pins s σ H _ I h) fun us s1 ⟨vs, H1, I1, r, q⟩ => ⟨I1.kIn, ?_⟩) he hpl
  have q : sp (vs ++ []) H1 Q E0 := q
  rw [List.append_nil] at q
  show wpAny _ _ (call (.ref f) us) _ _ _
  have hl : us.length = ps.length := by rw [← r.length]; exact F.len _ _ _ _ q
  have b := hb s1 us I1.kIn (by rw [List.append_nil]; exact hl)
  rw [List.append_nil] at b
  refine wpAny_call (codeAny_mono (F.run X.A X.stack s1 H1 ⟨us, []⟩ us vs Q E0 hr I1.env0 b r q) fun r s' hq => ?_)
  cases r with
  | error e => exact (pass0 (X := X)) pins σ H1 s1 e s' I1 hq
  | ok fl =>
    cases fl with
    | ret u => exact I1.after hq
    | next => exact False.elim hq
    | brk => exact False.elim hq
    | cont => exact False.elim hq
end
abbrev FnTA (P : Program) (w : World) (K : PySem.W.Frag) (mg : Str → Option Value) (base : Heap) (k : Nat) (f : Addr) (fd : FuncData) (ps : List Str) (asp : ASp) : Prop := FnT P w K mg base k f fd ps (cSp K asp)
section
variable {X : Cx} {k : Nat} {f : Addr} {fd : FuncData} {ps : List Str} {asp : ASp} {x : Str} {p pos : Pos} {e : Expr} {es : List Expr} {t : RA}
theorem ae_callT (F : FnTA X.prog X.w X.K X.mg X.base k f fd ps asp) (hr : RoomH k X.A) (hm : X.mg x = some (.ref f)) (hk : PySem.W.keepIn X.K (.ref f) = true) (hb : Binds X.K fd ps []) (ha : AA X (e :: es) t) (hg : Gl X x := by rfl)
    (hdb : (x == ("__debug__" : Str)) = false := by decide) (he : starEach (e :: es) X.env = (false, eval e X.env) :: starEach es X.env := by rfl) (hpl : (backTo pos (starEach es X.env)).any (·.1) = false := by rfl) : AE X (.Call (.Name x p) (e :: es) [] pos) (aCall asp t) :=
  pe_imp (pe_callT F hr hg hm hk hb ha hdb he hpl) acall_imp
abbrev BXT (P : Program) (w : World) (K : PySem.W.Frag) (mg : Str → Option Value) (base : Heap) (N : List Str) (qual : Str) (st : Stmt) (f : Addr) (cdv : Value) (A : Around) (outer : List Env) (s : Shared) (H : Hp) (E : XK) : Cx := (cxT P w K mg base N qual (defScope st) f cdv A outer s H E).nox
theorem fnTA {P : Program} {w : World} {K : PySem.W.Frag} {mg : Str → Option Value} {base : Heap} {qual : Str} {st : Stmt} {N : List Str} {t : RS} (F : Fun K x qual st f fd) (S : FnScope N ps (defScope st)) (len : ∀ ds M Q, asp ds M Q → ds.length = ps.length)
    (body : ∀ (cdv : Value) (A : Around) (outer : List Env) (s : Shared) (H : Hp) (E : XK), RoomH k (A.deeper (envOfC qual (defScope st) s.heap.objs.size f cdv)) → ASs (BXT P w K mg base N qual st f cdv A outer s H E) (defBody st) t)
    (spec : ∀ ds M Q, asp ds M Q → t (retD Q) (startA N.length ds) M) : FnTA P w K mg base (k + 1) f fd ps asp := by
  obtain ⟨oc, od, kV, doc, pm, an, cdv0, ct, osl, rfl, lk, hcd⟩ := F.ex
  refine fn_ofT lk hcd S (fun vs H Q' E ⟨ds, M, Q, r, _, q, _⟩ => by rw [← r.length]; exact len ds M Q q) fun A outer s H vs Q' E hr ⟨ds, M, Q, r, hv, q, kk⟩ => ?_
  refine ⟨_, (PSs.nox (body cdv0 A outer s H E hr)), startA N.length ds, M, retD Q, repE_start r, hv, spec ds M Q q, ?_, ?_, ?_, ?_⟩
  · rintro σ H' ρ M' tp _ v ⟨M'', sb, q'⟩
    exact kk _ _ _ M'' tp rep_non (v.sub sb) q'
  · rintro v H' d M' tp rd vv ⟨M'', sb, q'⟩
    exact kk _ _ _ M'' tp rd (vv.sub sb) q'
  · rintro _ _ _ _ _ _ _ h
    exact h.elim
  · rintro _ _ _ _ _ _ _ h
    exact h.elim
theorem huT_of {A : Around} {k : Nat} (hr : RoomH k A) : A.units + 1 < cLine := by have := hr.un; omega
theorem hu64T_of {A : Around} {k : Nat} (hr : RoomH k A) : A.units + 64 < cLine := by have := hr.un; omega
end
end HC
namespace HC
open PySem L2 PyProof.Rows
theorem sx_as {X : Cx} {W : L2.WX} {st : Stmt} {t : RS} (h : AS X st t) : ASX X W st (fun _ => t) := ps_imp h fun D' σ H ⟨ρ, M, D, E, hr, hv, q, k, kx⟩ => ⟨ρ, M, D, hr, hv, q, k⟩
def sxNext : RSX := fun _ => aNext
theorem sxs_nil {X : Cx} {W : L2.WX} : ASXs X W [] sxNext := pss_imp (ass_nil (X := X)) fun D' σ H ⟨ρ, M, D, E, hr, hv, q, k, kx⟩ => ⟨ρ, M, D, hr, hv, q, k⟩
theorem xf_nil {K : PySem.W.Frag} : XF K [] := fun c h => by cases h
theorem xf_cons {K : PySem.W.Frag} {x : Str} {xs : List Str} (h : ∃ C, PySem.W.nsIn K mainGlobals x = some (some (.ref C)) ∧ XfC K C ∧ PySem.W.findIn K (.ref C) "row" = some none) (r : XF K xs) : XF K (x :: xs) := fun c e => by
  rcases List.mem_cons.mp e with q | q
  · rw [q]; exact h
  · exact r c q
theorem FnX.norm {P : Program} {w : World} {K : PySem.W.Frag} {mg : Str → Option Value} {base : Heap} {k : Nat} {f : Addr} {fd : FuncData} {ps : List Str} {asp : XSp} {sp : ASp} (F : FnX P w K mg base k f fd ps asp) (h : ∀ ds M Q, sp ds M Q → asp ds M Q fun _ _ _ => False) : FnA P w K mg base k f fd ps sp := by
  have G := F.nox
  exact ⟨fun vs H Q E ⟨ds, M, Q1, r, v, q, kk⟩ => G.len vs H Q E ⟨ds, M, Q1, r, v, h _ _ _ q, kk⟩, fun A outer s H args us vs Q E hr e0 hb r ⟨ds, M, Q1, r1, v, q, kk⟩ => G.run A outer s H args us vs Q E hr e0 hb r ⟨ds, M, Q1, r1, v, h _ _ _ q, kk⟩⟩
theorem boot_ValueError : bootBuiltins ("ValueError" : Str) = some (.type "ValueError") := PyProof.Rows.Boot.«ValueError»
theorem xr_mk {P : Program} {w : World} {K : PySem.W.Frag} {mg : Str → Option Value} {base : Heap} {x qual : Str} {st : Stmt} {C fI : Addr} {fd : FuncData} (hn : PySem.W.nsIn K mainGlobals x = some (some (.ref C))) (gC : mg x = some (.ref C)) (o : OexC K C) (hno : PySem.W.findIn K (.ref C) "row" = some none)
    (iC : PySem.W.findIn K (.ref C) "__init__" = some (some (.ref fI))) (tI : PySem.W.typeIn K (.ref fI) = some (.type "function")) (F : Fun K "__init__" qual st fI fd) (S : FnScope ["self", "row"] ["self", "row"] (defScope st)) (hb : Binds K fd ["self", "row"] [])
    {p1 p2 p3 p4 : Pos} (hv0 : Vis (defScope st) "self") (hv1 : Vis (defScope st) "row") (hbody : defBody st = [.Assign [.Attribute (.Name "self" p1) "row" p2] (.Name "row" p3) p4]) : XrT P w K mg base x := by
  refine ⟨C, fI, fd, hn, gC, o, iC, tI, F.ok S (fun vs H Q E ⟨a, v, e, _⟩ => by rw [e]; rfl) (fun cdv A outer s H vs Q E hr ⟨a, v, e, h1, h2⟩ => ?_), hb⟩
  refine ⟨tOst K "row" (tVar 0) (tVar 1), ?_, ?_⟩
  · rw [hbody]
    exact pss_one (ps_ost (pv 0 (hv := hv0)) (pv 1 (hv := hv1)))
  · subst e
    refine ⟨_, rfl, _, rfl, a, C, rfl, o, hno, .inl ⟨h1, fun dx n ne => h2 dx n ne⟩⟩
end HC
set_option maxHeartbeats 2000000
namespace HC
open PySem PySem.Spec L2 PyProof.Rows
def XIT (K : PySem.W.Frag) (us : List Value) (xt : List (Str × Bool)) : Prop := ∀ c b, xt.lookup c = some b → ∃ C, PySem.W.nsIn K mainGlobals c = some (some (.ref C)) ∧ PySem.W.kitAny K (.ref C) us = some b ∧ XcK K C
theorem xit_nil {K : PySem.W.Frag} {us : List Value} : XIT K us [] := fun c b h => by cases h
theorem xit_cons {K : PySem.W.Frag} {us : List Value} {x : Str} {b : Bool} {xt : List (Str × Bool)} (h : ∃ C, PySem.W.nsIn K mainGlobals x = some (some (.ref C)) ∧ PySem.W.kitAny K (.ref C) us = some b ∧ XcK K C) (r : XIT K us xt) : XIT K us ((x, b) :: xt) := fun c d e => by
  rw [List.lookup_cons] at e
  split at e
  · rename_i q
    have q : c = x := by simpa using q
    subst q
    cases e
    exact h
  · exact r c d e
def rIsXT (K : PySem.W.Frag) : List V → Hp → VK → Prop := fun xs H Q => ∃ (a tp : Addr) (cs : List V) (us : List Value) (c : Str) (f : Option Int) (C : Addr) (b : Bool), xs = [.ref a, .ref tp] ∧ H tp = some (.tup cs) ∧ Paired ClsV cs us ∧ SqX K H a c f ∧ PySem.W.nsIn K mainGlobals c = some (some (.ref C)) ∧ PySem.W.kitAny K (.ref C) us = some b ∧ XcK K C ∧ Q (.bl b) H
theorem call_isXT {X : Cx} : CallR X (.builtin "isinstance") (rIsXT X.K) := by
  intro pins s σ H xs us Q I r h
  obtain ⟨a, tp, cs, ws, c, f, C, b, rfl, hT, k, sq, hn, e, T, q⟩ := h
  obtain ⟨u1, u2, rfl, r1, r2⟩ := vals2 r
  cases (show u2 = Value.ref tp from r2)
  cases (show u1 = Value.ref a from r1)
  obtain ⟨C', oe, od, hn', J⟩ := sqx_inst sq I.hok
  rw [hn] at hn'
  cases hn'
  obtain ⟨_, its, rv, o, h1, h2, n, h3⟩ := (show ObjOk X.prog X.w H s.heap tp (.tup cs) from I.hok tp _ hT)
  have e3 := ClsV.all k rv
  subst e3
  obtain ⟨oc, od, dt, sl⟩ := o
  simp only at h2 h3
  subst h2 h3
  exact PySem.W.kia_tup (PySem.W.kitx_exc T.cl T.ga T.gg T.sb T.kl T.sp T.tk T.mr) I.kIn J h1 e (fun z => nomatch z) fun tk => ⟨.bl b, H, I.tok tk, rfl, q⟩
section
variable {X : Cx} {e : Expr} {te : RE} {ys : List Expr} {kk : Nat} {p q pos : Pos} {xt : List (Str × Bool)} {vs : List V} {us : List Value} {ta : TA}
theorem ae_isXT (hm : X.mg "isinstance" = none) (he : AE X e te) (hy : PA X ys ta) (ht : ∀ σ H Q, ta σ H Q = Q vs H) (hcv : Paired ClsV vs us) (hl : vs.length ≤ sizeLine) (xi : XIT X.K us xt) (hg : Gl X "isinstance" := by rfl)
    (hes : starEach [e, .Tuple ys kk q] X.env = (false, eval e X.env) :: starEach [.Tuple ys kk q] X.env := by rfl) (hes2 : starEach [.Tuple ys kk q] X.env = (false, eval (.Tuple ys kk q) X.env) :: starEach [] X.env := by rfl) (hpl : (backTo pos (starEach [.Tuple ys kk q] X.env)).any (·.1) = false := by rfl) :
    AE X (.Call (.Name "isinstance" p) [e, .Tuple ys kk q] [] pos) (aIsX te xt) :=
  pe_imp (pe_callB call_isXT hg hm PyProof.Rows.Boot.«isinstance» (pa_cons he (pa_cons (pe_tup hy) pa_nil (hs := hes2)) (hs := hes)) (by decide) (by decide) hes hpl) fun σ H Q' ⟨ρ, M, Q, hr, hv, h, k⟩ => by
    refine seqE hr hv h fun u H1 d M1 t1 r1 v1 q1 => ?_
    obtain ⟨c, f, rfl, q1⟩ := onXc_ex q1
    obtain ⟨b, hb, q1⟩ := onS_ex q1
    obtain ⟨a, rfl, sq⟩ := rep_exc_inv r1
    obtain ⟨C, hn, hk, T⟩ := xi c b hb
    show ta σ H1 _
    rw [ht]
    refine ⟨hl, fun l hl0 => ⟨a, l, vs, us, c, f, C, b, rfl, upd_same, hcv, ?_, hn, hk, T, ?_⟩⟩
    · have r2 := rep_exc_inv (r1.mono (Tp.new (o := .tup vs) hl0))
      obtain ⟨a', e', sq'⟩ := r2
      cases e'
      exact sq'
    · exact k _ _ _ _ (t1.trans (Tp.new hl0)) rep_bl (v1.new hl0) q1
end
end HC
set_option maxHeartbeats 2000000
namespace HC
open PySem PySem.Spec L2 L2H PyProof.Rows
abbrev FnC (P : Program) (w : World) (K : PySem.W.Frag) (mg : Str → Option Value) (base : Heap) (k : Nat) (f : Addr) (fd : FuncData) (ps : List Str) (asp : XSp) : Prop := FnOk P w K mg base (L2.CX P w) k f fd ps (cSpX K asp)
section
variable {P : Program} {w : World} {K : PySem.W.Frag} {mg : Str → Option Value} {base : Heap} {k : Nat} {f : Addr} {fd : FuncData} {ps : List Str} {asp : XSp} {sp : ASp}
theorem cx_up {outer : List Env} {H : Hp} {s s' : Shared} {E : XK} {u : Value} (h : L2N.CX P w outer H s E u s') : L2.CX P w outer H s E u s' := by
  obtain ⟨a, B, H', cls, d, e, fl, r⟩ := h
  exact ⟨a, B, H', cls, d, e, flyZ_imp (fun _ z => z.zc) fl, r⟩
theorem FnX.c (F : FnX P w K mg base k f fd ps asp) : FnC P w K mg base k f fd ps asp := ⟨F.len, fun A outer s H args us vs Q E hr e0 hb r h => codeAny_mono (F.run A outer s H args us vs Q E hr e0 hb r h) fun r s' hq => by
  cases r with
  | error e => exact cx_up hq
  | ok fl => cases fl <;> exact hq⟩
theorem FnC.nox (F : FnC P w K mg base k f fd ps asp) : FnA P w K mg base k f fd ps (noxS asp) := by
  have sp' : ∀ vs H Q E, cSp K (noxS asp) vs H Q E → cSpX K asp vs H Q (fun _ _ _ => False) := fun vs H Q E ⟨ds, M, Q1, r, v, q, kk⟩ => ⟨ds, M, Q1, _, r, v, q, kk, fun _ _ _ _ _ _ _ _ _ z => z⟩
  refine ⟨fun vs H Q E h => F.len vs H Q _ (sp' vs H Q E h), fun A outer s H args us vs Q E hr e0 hb r h => ?_⟩
  refine codeAny_mono (F.run A outer s H args us vs Q (fun _ _ _ => False) hr e0 hb r (sp' vs H Q E h)) fun r s' hq => ?_
  cases r with
  | error e =>
    obtain ⟨_, _, _, _, _, _, _, _, _, _, _, _, z⟩ := hq
    exact z.elim
  | ok fl => cases fl <;> exact hq
theorem FnC.norm (F : FnC P w K mg base k f fd ps asp) (h : ∀ ds M Q, sp ds M Q → asp ds M Q fun _ _ _ => False) : FnA P w K mg base k f fd ps sp := by
  have G := F.nox
  exact ⟨fun vs H Q E ⟨ds, M, Q1, r, v, q, kk⟩ => G.len vs H Q E ⟨ds, M, Q1, r, v, h _ _ _ q, kk⟩, fun A outer s H args us vs Q E hr e0 hb r ⟨ds, M, Q1, r1, v, q, kk⟩ => G.run A outer s H args us vs Q E hr e0 hb r ⟨ds, M, Q1, r1, v, h _ _ _ q, kk⟩⟩
end
theorem takes_tpC {X : Cx} {K : PySem.W.Frag} {W : WXA} {E' : XK} (tk : L2.Takes X (fun cls d _ H => E' cls d H)) (h : ∀ cls d σ H, liftW K W cls d σ H → Tp K X.H_0 H → E' cls d H) : L2.Takes X (liftW K W) := fun u s' ⟨a, B, sI, pins, σ, H, cls, d, e, I, nb, up, sky, na, os, ag, w⟩ =>
  tk u s' ⟨a, B, sI, pins, σ, H, cls, d, e, I, nb, up, sky, na, os, ag, h cls d σ H w (tp_un I.base)⟩
theorem fnC {P : Program} {w : World} {K : PySem.W.Frag} {mg : Str → Option Value} {base : Heap} {qual : Str} {st : Stmt} {N ps : List Str} {x : Str} {f : Addr} {fd : FuncData} {k : Nat} {asp : XSp} {t : WXA → RS} (F : Fun K x qual st f fd) (S : FnScope N ps (defScope st)) (len : ∀ ds M Q E, asp ds M Q E → ds.length = ps.length)
    (body : ∀ (cdv : Value) (A : Around) (outer : List Env) (s : Shared) (H : Hp) (E : XK) (W : WXA), Room k (A.deeper (envOfC qual (defScope st) s.heap.objs.size f cdv)) →
      L2.Takes (cxOf (L2.CX P w) P w K mg base N qual (defScope st) f cdv A outer s H E) (liftW K W) → PassesOwn (model P w) (A.deeper (envOfC qual (defScope st) s.heap.objs.size f cdv)) (envOfC qual (defScope st) s.heap.objs.size f cdv) (cxOf (L2.CX P w) P w K mg base N qual (defScope st) f cdv A outer s H E).xe →
      (∀ hd : Option Value, PassesOwnAt (model P w) ((A.deeper (envOfC qual (defScope st) s.heap.objs.size f cdv)).mark hd) (A.deeper (envOfC qual (defScope st) s.heap.objs.size f cdv)) (envOfC qual (defScope st) s.heap.objs.size f cdv) (cxOf (L2.CX P w) P w K mg base N qual (defScope st) f cdv A outer s H E).xe) →
      ASs (cxOf (L2.CX P w) P w K mg base N qual (defScope st) f cdv A outer s H E) (defBody st) (t W))
    (spec : ∀ ds M Q E, asp ds M Q E → t (fun c f M => ∃ M', Sub M' M ∧ E c f M') (retD Q) (startA N.length ds) M) : FnC P w K mg base (k + 1) f fd ps asp := by
  obtain ⟨oc, od, kV, doc, pm, an, cdv0, ct, osl, rfl, lk, hcd⟩ := F.ex
  refine fn_of lk hcd S (fun vs H Q' E' ⟨ds, M, Q, E, r, _, q, _⟩ => by rw [← r.length]; exact len ds M Q E q) fun A outer s H vs Q' E' hr ⟨ds, M, Q, E, r, hv, q, kk, ke⟩ => ?_
  have tk0 : L2.Takes (cxOf (L2.CX P w) P w K mg base N qual (defScope st) f cdv0 A outer s H E') (fun cls d _ H => E' cls d H) := L2.takes_of rfl rfl rfl rfl
  have tk := takes_tpC (K := K) (W := fun c f M => ∃ M', Sub M' M ∧ E c f M') tk0 fun cls d σ H1 ⟨c, f, M1, hc, hv1, M2, sb, he⟩ tp => ke c f cls d M2 H1 hc tp (hv1.sub sb) he
  refine ⟨_, body cdv0 A outer s H E' _ hr tk (L2.passes_of (K := fun e s'' => L2.CX P w outer H s E' e s'') rfl) (L2H.passesAt_of (X := cxOf (L2.CX P w) P w K mg base N qual (defScope st) f cdv0 A outer s H E') (K := fun e s'' => L2.CX P w outer H s E' e s'') rfl), startA N.length ds, M, retD Q, repE_start r, hv, spec ds M Q E q, ?_, ?_, ?_, ?_⟩
  · rintro σ H' ρ M' tp _ v ⟨M'', sb, q'⟩
    exact kk _ _ _ M'' tp rep_non (v.sub sb) q'
  · rintro v H' d M' tp rd vv ⟨M'', sb, q'⟩
    exact kk _ _ _ M'' tp rd (vv.sub sb) q'
  · rintro _ _ _ _ _ _ _ h
    exact h.elim
  · rintro _ _ _ _ _ _ _ h
    exact h.elim
section
variable {X : Cx} {W : WXA} {x : Str} {p pos : Pos} {e : Expr} {es : List Expr} {t : RA} {k : Nat} {f : Addr} {fd : FuncData} {ps : List Str} {asp : XSp}
theorem ae_callC (tk : L2.Takes X (liftW X.K W)) (F : FnC X.prog X.w X.K X.mg X.base k f fd ps asp) (hr : Room k X.A) (hm : X.mg x = some (.ref f)) (hk : PySem.W.keepIn X.K (.ref f) = true) (hb : Binds X.K fd ps []) (ha : AA X (e :: es) t) (hg : Gl X x := by rfl)
    (hdb : (x == ("__debug__" : Str)) = false := by decide) (he : starEach (e :: es) X.env = (false, eval e X.env) :: starEach es X.env := by rfl) (hpl : (backTo pos (starEach es X.env)).any (·.1) = false := by rfl) : AE X (.Call (.Name x p) (e :: es) [] pos) (aCallX asp t W) :=
  pe_imp (pe_callSD (E := WE (liftW X.K W)) F hr hg hm hk hb .nil (L2.passAt tk) ha hdb he hpl) acallX_imp
variable {Wk : L2.WX}
theorem ax_callC (tk : L2.Takes X Wk) (F : FnC X.prog X.w X.K X.mg X.base k f fd ps asp) (hr : Room k X.A) (hm : X.mg x = some (.ref f)) (hk : PySem.W.keepIn X.K (.ref f) = true) (hb : Binds X.K fd ps []) (ha : AA X (e :: es) t) (hg : Gl X x := by rfl)
    (hdb : (x == ("__debug__" : Str)) = false := by decide) (he : starEach (e :: es) X.env = (false, eval e X.env) :: starEach es X.env := by rfl) (hpl : (backTo pos (starEach es X.env)).any (·.1) = false := by rfl) : AEX X Wk (.Call (.Name x p) (e :: es) [] pos) (axCall asp t) :=
  pe_imp (pe_callSD (E := WE Wk) F hr hg hm hk hb .nil (L2.passAt tk) ha hdb he hpl) axcall_imp
end
theorem mkR_imp {K : PySem.W.Frag} {te : RE} {C : Addr} {x : Str} {W : WXA} (hn : PySem.W.nsIn K mainGlobals x = some (some (.ref C))) {ρ : Env'} {M : Ms} {σ : L2.St} {H : Hp} (hr' : RepE K H ρ σ) (hv : View K M H)
    (w : aCons te aNil ρ M fun ds M1 => on1 ds fun d => onI d fun r => W x (some r) M1) : tMkO C (spInit C) [] (cA K (aCons te aNil)) σ H (fun cls d H' => liftW K W cls d σ H') := by
  show cA K (aCons te aNil) σ H _
  refine ⟨ρ, M, _, hr', hv, w, ?_⟩
  · intro vs H1 ds M1 t1 r1 v1 q
    obtain ⟨d, rfl, q⟩ := on1_ex q
    obtain ⟨r, rfl, q⟩ := onI_ex q
    obtain ⟨v, rfl, rv⟩ := reps1 r1
    have ev := rep_int_inv rv
    subst ev
    refine ⟨(show 1 ≤ 1000 by decide), fun a ha => ⟨a, .int r, rfl, upd_same, fun dx hdx hne => ⟨rfl, dx, [(("row" : Str), .int r)], upd_same, ?_, ?_, ?_⟩⟩⟩
    · rw [upd_ne hne, upd_same]
    · rw [upd_ne hne] at hdx; exact hdx
    · have hdx' : H1 dx = none := by rw [upd_ne hne] at hdx; exact hdx
      have eh : upd (del (upd (upd (upd H1 a (exo a C none)) dx (exd dx [(("row" : Str), .int r)])) a (exo a C (some dx))) a) dx (.xd [(("row" : Str), .int r)]) = upd H1 dx (.xd [(("row" : Str), .int r)]) := by
        funext b
        unfold upd del
        by_cases h1 : b = dx
        · rw [if_pos h1, if_pos h1]
        · rw [if_neg h1, if_neg h1]
          by_cases h2 : b = a
          · rw [if_pos h2, h2, ha]
          · rw [if_neg h2]
            show (if b = a then some (exo a C (some dx)) else if b = dx then some (exd dx [(("row" : Str), .int r)]) else if b = a then some (exo a C none) else H1 b) = H1 b
            rw [if_neg h2, if_neg h1, if_neg h2]
      rw [eh]
      exact ⟨x, some r, M1, ⟨⟨C, rfl, hn⟩, dx, rfl, upd_same⟩, v1.new hdx', q⟩
structure XrH (P : Program) (w : World) (K : PySem.W.Frag) (mg : Str → Option Value) (base : Heap) (x : Str) : Prop where
  ex : ∃ C fI fd, PySem.W.nsIn K mainGlobals x = some (some (.ref C)) ∧ mg x = some (.ref C) ∧ OexC K C ∧ PySem.W.findIn K (.ref C) "__init__" = some (some (.ref fI)) ∧ PySem.W.typeIn K (.ref fI) = some (.type "function") ∧ FnH P w K mg base CX0 1 fI fd ["self", "row"] (spInit C) ∧ Binds K fd ["self", "row"] []
theorem xrh_mk {P : Program} {w : World} {K : PySem.W.Frag} {mg : Str → Option Value} {base : Heap} {x qual : Str} {st : Stmt} {C fI : Addr} {fd : FuncData} (hn : PySem.W.nsIn K mainGlobals x = some (some (.ref C))) (gC : mg x = some (.ref C)) (o : OexC K C) (hno : PySem.W.findIn K (.ref C) "row" = some none)
    (iC : PySem.W.findIn K (.ref C) "__init__" = some (some (.ref fI))) (tI : PySem.W.typeIn K (.ref fI) = some (.type "function")) (F : Fun K "__init__" qual st fI fd) (S : FnScope ["self", "row"] ["self", "row"] (defScope st)) (hb : Binds K fd ["self", "row"] [])
    {p1 p2 p3 p4 : Pos} (hv0 : Vis (defScope st) "self") (hv1 : Vis (defScope st) "row") (hbody : defBody st = [.Assign [.Attribute (.Name "self" p1) "row" p2] (.Name "row" p3) p4]) : XrH P w K mg base x := by
  obtain ⟨oc, od, kV, doc, pm, an, cdv0, ct, osl, rfl, lk, hcd⟩ := F.ex
  refine ⟨C, fI, _, hn, gC, o, iC, tI, L2H.fn_ofH lk hcd S (fun vs H Q E ⟨a, v, e, _⟩ => by rw [e]; rfl) (fun A outer s H vs Q E p hot hr ⟨a, v, e, h1, h2⟩ => ?_), hb⟩
  refine ⟨tOst K "row" (tVar 0) (tVar 1), ?_, ?_⟩
  · rw [hbody]
    exact pss_one (ps_ost (pv 0 (hv := hv0)) (pv 1 (hv := hv1)))
  · subst e
    refine ⟨_, rfl, _, rfl, a, C, rfl, o, hno, .inl ⟨h1, fun dx n ne => h2 dx n ne⟩⟩
def aTryR (tb : RSX) (xt : List (Str × Bool)) (x : Str) (te : RE) (W : WXA) : RS := fun D ρ M => tb (fun c f M1 => onS (xt.lookup c) fun b => onIf b (aCons te aNil ρ M1 fun ds M2 => on1 ds fun d => onI d fun r => W x (some r) M2) (W c f M1)) D ρ M
section
variable {X : Cx} {x x0 : Str} {c : Value} {body : List Stmt} {np p pos pos' pos2 pos3 : Pos} {tb : RSX} {W : WXA} {xt : List (Str × Bool)} {e : Expr} {te : RE} {k : Nat}
theorem as_tryRaise (hc : Names X x0 c) (tk : L2.Takes X (liftW X.K W)) (hpa : ∀ hd : Option Value, PassesOwnAt (model X.prog X.w) (X.A.mark hd) X.A X.env X.xe) (xm : XM X.K c xt) (T : XrH X.prog X.w X.K X.mg X.base x) (hr : Room k X.A) (hk : 2 ≤ k)
    (hb : ∀ (Wk : L2.WX) (pn : List (Addr × Obj)) (xe : Value → Shared → Prop), L2N.Takes (X.tr pn xe) Wk → ASXs (X.tr pn xe) Wk body tb)
    (he : ∀ (a : Addr) (pn : List (Addr × Obj)), AE (suiteX X a pn) e te)
    (hs : X.stack = X.env :: X.outer := by rfl) (hf : X.env.frame = some X.env.locals := by rfl) (hg : Gl X x := by rfl)
    (hdb : (x == ("__debug__" : Str)) = false := by decide) (hse : starEach [e] X.env = (false, eval e X.env) :: starEach [] X.env := by rfl) (hpl : (backTo pos (starEach [] X.env)).any (·.1) = false := by rfl) :
    AS X (.Try body [.ExceptHandler (some (.Name x0 np)) none [.Raise (some (.Call (.Name x p) [e] [] pos)) none pos'] pos2] [] [] pos3) (aTryR tb xt x te W) := by
  obtain ⟨C, fI, fd, hn, gC, o, iC, tI, F, hbd⟩ := T.ex
  refine ps_imp (L2H.ps_try_onlyX (tb := fun Wk => cSX X.K Wk tb) (ts := fun _ _ _ => fun _ σ H => tMkO C (spInit C) [] (cA X.K (aCons te aNil)) σ H fun cls d H' => liftW X.K W cls d σ H') hs hf hc hpa tk (fun Wk pn xe tk2 _ _ => hb Wk pn xe tk2) (fun a oe cls d pn hz hv tkS hot => ?_)) fun D' σ H ⟨ρ, M, D, hr1, hv, q, kk⟩ => ⟨ρ, M, D, _, hr1, hv, q, kk, fun cc f cls d H1 M1 tp rx v1 e1 => ?_⟩
  · have hr2 : RoomH (1 + 1) (suiteX X a ((a, oe) :: pn)).A := (L2H.roomH_mark hr _).mono hk
    exact pss_one (L2H.ps_raiseH hot tkS (L2H.pmk5_oexH (X := suiteX X a ((a, oe) :: pn)) o iC tI F hr2 hot hbd pass0 hg gC (aa_cons (he a ((a, oe) :: pn)) aa_nil (hs := hse)) hdb (he := hse) (hpl := hpl)).pmk)
  · obtain ⟨b, hb1, e1⟩ := onS_ex e1
    obtain ⟨C', hC, hx⟩ := xm cc b hb1
    have ecls : cls = .ref C' := by
      obtain ⟨⟨C'', rfl, hC'⟩, _⟩ := rx
      rw [hC] at hC'
      cases hC'
      rfl
    refine ⟨b, by rw [ecls]; exact hx, ?_, ?_⟩
    · intro hbt a na
      subst hbt
      exact mkR_imp hn (hr1.mono tp) v1 e1
    · intro hbf
      subst hbf
      exact ⟨cc, f, M1, rx, v1, e1⟩
end
end HC
set_option maxHeartbeats 2000000
namespace HC
open PySem PySem.Spec L2 LamX PyProof.Rows
abbrev lamZC (P : Program) (w : World) (K : PySem.W.Frag) (mg : Str → Option Value) (base : Heap) (A : Around) (st : List Env) (N : List Str) (q : Str) (sc : Scope) (g : Addr) (cd : Value) (s : Shared) (H : Hp) : Cx := cxOf CX0 P w K mg base N q sc g cd A st s H E0
abbrev lamZ (X : Cx) (N : List Str) (q : Str) (sc : Scope) (g : Addr) (cd : Value) (s : Shared) (H : Hp) : Cx := lamZC X.prog X.w X.K X.mg X.base X.A X.stack N q sc g cd s H
section
variable {X : Cx} {pins : List (Addr × Obj)} {σ : L2.St} {H : Hp} {s : Shared} {N : List Str} {qz a : Str} {sz scope : Scope} {g f c' : Addr} {cz pm ctv : Value} {params : Arguments} {body : Expr} {k : Nat} {pn : List (Addr × Obj)} {xe : Value → Shared → Prop} {W : L2.WX} {tb : XK → TE} {p1 p2 : Pos}
theorem pe_lact (I : Inv X pins σ H s) (L : LamS X.env.scope scope)
    (hf : s.heap.get? f = some (PySem.W.kla_obj "<lambda>" (X.env.qual ++ "<lambda>") params body scope (cloFrom X.env.cells scope.names []) pm c' ctv)) (hfn : H f = none) (hfr : f ∉ frs X.stack)
    (hbind : bindArgs (PySem.W.kla_fn "<lambda>" (X.env.qual ++ "<lambda>") params body scope (cloFrom X.env.cells scope.names []) pm (.ref c') ctv) ⟨[], []⟩ = pure [])
    (tk : L2.Takes ((lamZ X N qz sz g cz s H).tr pn xe) W) (hr : Room (k + 1) (X.A.deeper (envOfC qz sz s.heap.objs.size g cz)))
    (hbody : ∀ (E : XK) (A : Around) (outer : List Env) (s : Shared) (H : Hp), Room k (A.deeper (lamEnv X scope s.heap.objs.size f c')) → PE (lamCx X A outer s H E scope f c') body (tb E))
    (hN : N[0]? = some a) (hv : Vis sz a) (hd : (a == ("__debug__" : Str)) = false) (hcd : (a == ("__classdict__" : Str)) = false) :
    PE ((lamZ X N qz sz g cz s H).tr pn xe) (.Call (.Name a p1) [] [] p2)
      (fun τ G Q => τ[0]? = some (some (.ref f)) ∧ G c' = some (CodeO c' (X.env.qual ++ "<lambda>")) ∧ ∃ E : XK, (∀ cls d G', E cls d G' → W cls d τ G') ∧ tb E σ G Q) := by
  constructor
  intro pz sa τ G Q J h
  obtain ⟨h0, hc, E, hE, ht⟩ := h
  have pv0 : PE ((lamZ X N qz sz g cz s H).tr pn xe) (.Name a p1) (tVar 0) := pe_var (i := 0) hN hv hd hcd
  refine wpAny_Call_Name_kw ?_
  refine thn (pv0.run pz sa τ G (fun v G1 => v = .ref f ∧ G1 = G) J ⟨.ref f, h0, rfl, rfl⟩) ?_
  rintro u sb ⟨v, G1, J1, r1, rfl, rfl⟩
  obtain rfl : u = Value.ref f := r1
  have there := J1.base.keep f _ hf hfn hfr (fun z => nomatch (show f ∈ ([] : List Addr) from z))
  refine PySem.W.callWith_F0 ⟨_, _, _, _, there⟩ (wpAny_call ?_)
  have cc : ObjOk X.prog X.w G1 sb.heap c' (CodeO c' (X.env.qual ++ "<lambda>")) := J1.hok c' _ hc
  obtain ⟨oc, vs, t, hoc, hdc, hvc⟩ := cc.1
  have end_ : codeAny (model X.prog X.w) (X.A.deeper (envOfC qz sz s.heap.objs.size g cz)) (.call (.ref f) ⟨[], []⟩) (CR (L2.CX X.prog X.w) (envOfC qz sz s.heap.objs.size g cz :: X.stack) X.prog X.w G1 sb Q E) sb := by
    refine PySem.W.kla_callFunE hr.depth there rfl L.co L.gen rfl ⟨c', oc, vs, t, rfl, hoc, hdc, hvc⟩ ?_
    rw [hbind]
    refine wpAny_pure (wpAny_newFunctionEnv (fun y hy => (L.own y hy).2) (fun y hy => (List.not_mem_nil hy).elim) (fun h1 hns hsb => ?_) L.kind)
    refine ⟨J1.nolimit.fresh _ hsb, ?_⟩
    have ext : ∀ b o, sb.heap.get? b = some o → h1.get? b = some o := fun b o e => hsb.extBut b o (Nat.ne_of_lt (Heap.lt_size e)) (Heap.get?_push_of_some _ e)
    have start := lam_start2 (tk := sb.toks + ([] : List (Str × Value)).length) (E := E) (f := f) (c' := c') I L J1.env0 hr.hd J1.base hns ext
    refine PySem.W.kla_codeExpr (wpAny_mono ((hbody E _ _ sb G1 (hr.deeper _)).run [] _ σ G1 Q start ht) ?_ fun e sc hq => hq)
    rintro v sc ⟨x, G2, J2, rv, q⟩
    exact ⟨x, G2, J2.os, J2.bare, J2.base, J2.hok, rv, q⟩
  refine codeAny_mono end_ fun r sc hq => ?_
  match r, hq with
  | .error e, hq => exact tk e sc (XE.of_call J1 hE hq)
  | .ok (.ret u), hq => exact J1.after hq
end
def OffT (P : Addr) (H G : Hp) : Prop := ∀ b o, b ≠ P → H b = some o → G b = some o
theorem lam_makeL {X : Cx} {pins : List (Addr × Obj)} {σ : L2.St} {H : Hp} {s : Shared} {c P : Addr} {q : Str} {params : Arguments} {body : Expr} {scope : Scope} {pos : Pos} {E Q : Value → Shared → Prop}
    (I : Inv X pins σ H s) (TB : TabB X.base X.mg c P) (hcode : X.env.code = .ref c) (hq : X.env.qual ++ "<lambda>" = q) (hT : TabS H P q) (hdef : defaultsOf params X.env = ([], [])) (hfree : ∀ y ∈ scope.names, y.2 = .free → ∃ d, X.env.cells.lookup y.1 = some d)
    (k : ∀ (f d : Addr) (pm ctv : Value) (G : Hp) (s' : Shared), Inv X pins σ G s' → OffT P H G → TabS G P q →
      s'.heap.get? f = some (PySem.W.kla_obj "<lambda>" q params body scope (cloFrom X.env.cells scope.names []) pm d ctv) → G f = none → f ∉ frs X.stack → G d = some (CodeO d q) → Q (.ref f) s') :
    wpAny (model X.prog X.w) X.A (eval (.Lambda params body scope pos) X.env) Q E s := by
  subst hq
  obtain ⟨ps, aP, tr, know⟩ := hT
  have oP : s.heap.get? P = some { cls := .none, data := .fields ps } := I.hok P _ aP
  have fresh : ∀ f, s.heap.objs.size ≤ f → f ∉ frs X.stack := by
    intro f hf m
    rcases List.mem_cons.mp (I.stkSub _ m) with rfl | m
    · exact Nat.lt_irrefl _ (Nat.lt_of_lt_of_le I.lt hf)
    · exact I.nofs hf m
  apply PySem.W.kla_eval hdef
  rcases hc : codeAmong pos ps.toList with _ | cv
  · apply PySem.W.kla_makeFunction (mg := X.mg) (c := c) (P := P) (ps := ps) (closure_ok hfree) I.ok.glob (I.mod.glob.keeps I.bk) hcode (TB.code.keeps I.bk) oP tr hc TB.gP (TB.bm.keeps I.bk)
    intro d ctv h' tk hx hge hlt ⟨d', oc, vs, t, e2, hoc, hd, hv⟩ htb
    cases e2
    have nD : H d = none := I.hok.fresh hge
    have nPD : P ≠ d := ne_of_none aP nD
    have hsz : s.heap.objs.size ≤ h'.objs.size := Nat.le_trans hge (Nat.le_of_lt hlt)
    have J := inv_table (t' := tk) (q := X.env.qual ++ "<lambda>") (more := #[rawInt pos.line, rawInt pos.col, .ref d]) (h' := h'.push (PySem.W.kla_obj "<lambda>" (X.env.qual ++ "<lambda>") params body scope (cloFrom X.env.cells scope.names []) ((X.mg "__name__").getD .none) d ctv))
      I aP (fun b o hb e => Heap.get?_push_of_some _ (hx b o hb e)) (Heap.get?_push_of_some _ htb) hge ⟨oc, vs, t, Heap.get?_push_of_some _ hoc, hd, hv⟩
    have off : OffT P H (upd (upd H P (.tbl (ps ++ #[rawInt pos.line, rawInt pos.col, .ref d]))) d (CodeO d (X.env.qual ++ "<lambda>"))) := fun b o hb e => by rw [upd_ne (ne_of_none e nD), upd_ne hb]; exact e
    refine k h'.objs.size d _ ctv _ _ J off ⟨_, (upd_ne nPD).trans upd_same, ?_, ?_⟩ (Heap.get?_push_size _ rfl) ?_ (fresh _ hsz) upd_same
    · rw [Array.toList_append]
      exact PySem.TriplesOk_snoc _ _ _ _ tr
    · intro p' cv hcv
      rw [Array.toList_append] at hcv
      rcases among_app _ tr hcv with z | rfl
      · obtain ⟨e, rfl, e2⟩ := know p' cv z
        exact ⟨e, rfl, off e _ (fun w => by subst w; rw [aP] at e2; cases e2) e2⟩
      · exact ⟨d, rfl, upd_same⟩
    · rw [upd_ne (Nat.ne_of_gt hlt), upd_ne (Nat.ne_of_gt (Nat.lt_of_lt_of_le (Heap.lt_size oP) hsz))]
      exact I.hok.fresh hsz
  · obtain ⟨d, rfl, hd⟩ := know pos cv hc
    apply PySem.W.kla_makeFunctionHit (mg := X.mg) (c := c) (P := P) (ps := ps) (closure_ok hfree) I.ok.glob (I.mod.glob.keeps I.bk) hcode (TB.code.keeps I.bk) oP tr hc (TB.bm.keeps I.bk)
    intro ctv h' tk hx hsz
    exact k h'.objs.size d _ ctv H _ (I.kept fun b o e => Heap.get?_push_of_some _ (hx b o e)) (fun b o _ e => e) ⟨ps, aP, tr, know⟩ (Heap.get?_push_size _ rfl) (I.hok.fresh hsz) (fresh _ hsz) hd
section
variable {X : Cx} {pins : List (Addr × Obj)} {σ : L2.St} {H : Hp} {s : Shared}
def LGivesC (P : Program) (w : World) (K : PySem.W.Frag) (mg : Str → Option Value) (base : Heap) (A : Around) (st : List Env) (N : List Str) (x : Str) (sz : Scope) (g : Addr) (cz : Value) (bz : List Stmt) (a q : Str) (TT : (XK → Hp → VK → Prop) → Hp → VK → Prop) : Prop :=
  ∀ (f c' : Addr) (s : Shared) (H : Hp) (Q : VK) (tl : XK → Hp → VK → Prop), Room 1 ((lamZC P w K mg base A st N x sz g cz s H).A) → HOk P w H s.heap →
    (∀ (W : L2.WX) (pn : List (Addr × Obj)) (xe : Value → Shared → Prop) (p1 p2 : Pos), L2.Takes ((lamZC P w K mg base A st N x sz g cz s H).tr pn xe) W →
      PE ((lamZC P w K mg base A st N x sz g cz s H).tr pn xe) (.Call (.Name a p1) [] [] p2) (fun τ G Q => τ[0]? = some (some (.ref f)) ∧ G c' = some (CodeO c' q) ∧ ∃ E : XK, (∀ cls d G', E cls d G' → W cls d τ G') ∧ tl E G Q)) →
    H c' = some (CodeO c' q) → TT tl H Q →
    ∃ t, PSs (lamZC P w K mg base A st N x sz g cz s H) bz t ∧ t { nx := fun _ G => Q .non G, rt := Q } (L2.start N [.ref f]) H
abbrev LGives (X : Cx) (N : List Str) (x : Str) (sz : Scope) (g : Addr) (cz : Value) (bz : List Stmt) (a q : Str) (TT : (XK → Hp → VK → Prop) → Hp → VK → Prop) : Prop := LGivesC X.prog X.w X.K X.mg X.base X.A X.stack N x sz g cz bz a q TT
def tLamL (P : Addr) (q : Str) (TT : (XK → Hp → VK → Prop) → Hp → VK → Prop) (t : XK → TE) : TE := fun σ H Q => TabS H P q ∧ ∀ G, OffT P H G → TabS G P q → TT (fun E G' Q' => t E σ G' Q') G Q
end
section
variable {X : Cx}
theorem pe_laml {TT : (XK → Hp → VK → Prop) → Hp → VK → Prop} {x a : Str} {g c P : Addr} {k : Nat} {pz : Arguments} {bz : List Stmt} {sz : Scope} {kV doc pm cz ct oc : Value} {dV : Value} {an od : Option Addr} {osl : Array (Option Value)} {N : List Str}
    {params : Arguments} {body : Expr} {scope : Scope} {t : XK → TE} {p lpos pos : Pos} (hg : Gl X x) (hm : X.mg x = some (.ref g)) (hk : PySem.W.keepIn X.K (.ref g) = true)
    (lk : X.K.lookup g = some ⟨oc, od, .func (PySem.W.fnOf x x pz bz sz dV kV doc pm an cz ct), osl⟩) (hcz : PySem.W.codeIn X.K cz x = true) (hb : L2.Binds X.K (PySem.W.fnOf x x pz bz sz dV kV doc pm an cz ct) [a] []) (Sz : FnScope N [a] sz) (hN : N[0]? = some a) (hva : Vis sz a)
    (hG : LGives X N x sz g cz bz a (X.env.qual ++ "<lambda>") TT)
    (TB : TabB X.base X.mg c P) (hcode : X.env.code = .ref c) (hr : Room (k + 2) X.A) (L : LamS X.env.scope scope) (hdef : defaultsOf params X.env = ([], []))
    (hbind : ∀ (q : Str) (cl : List (Str × Addr)) (pm cv ctv : Value), bindArgs (PySem.W.kla_fn "<lambda>" q params body scope cl pm cv ctv) ⟨[], []⟩ = pure [])
    (hbody : ∀ (E : XK) (A : Around) (outer : List Env) (s : Shared) (H : Hp) (f c' : Addr), Room k (A.deeper (lamEnv X scope s.heap.objs.size f c')) → PE (lamCx X A outer s H E scope f c') body (t E))
    (hdb : (x == ("__debug__" : Str)) = false) (hd : (a == ("__debug__" : Str)) = false) (hcd : (a == ("__classdict__" : Str)) = false) :
    PE X (.Call (.Name x p) [.Lambda params body scope lpos] [] pos) (tLamL P (X.env.qual ++ "<lambda>") TT t) := by
  constructor
  rintro pins s σ H Q I ⟨hT, h⟩
  refine wpAny_Call_Name_kw (ld_glob I hg hm (PySem.W.callWith_K (h₀ := X.base) I.ok.mod.kin hk ?_ (by rfl) (by rfl)) hdb)
  show wpAny (model X.prog X.w) X.A (spliced ((false, eval (.Lambda params body scope lpos) X.env) :: [])) _ _ s
  refine Calls.spliced_cons (lam_makeL I TB hcode rfl hT hdef (L.has I.ok) ?_)
  intro f c' pm' ctv G s' J eN T1 hf hfn hfr hco
  refine Calls.spliced_nil ⟨J.kIn, wpAny_call ?_⟩
  have run : codeAny (model X.prog X.w) X.A (.call (.ref g) ⟨[.ref f], []⟩) (CR CX0 X.stack X.prog X.w G s' Q E0) s' := by
    refine run_ofS (N := N) (ps := [a]) (us := [.ref f]) (vs := [.ref f]) lk hcz Sz hr J.env0 (hb s' [.ref f] J.kIn rfl) (.cons rfl .nil) rfl fun hr' => ?_
    exact hG f c' s' G Q (fun E G' Q' => t E σ G' Q') (hr'.mono (by omega)) J.hok (fun W pn xe q1 q2 tk => pe_lact J L hf hfn hfr (hbind _ _ _ _ _) tk hr' (fun E A outer s H hr2 => hbody E A outer s H f c' hr2) hN hva hd hcd) hco (h G eN T1)
  refine codeAny_mono run fun r s2 hq => ?_
  match r, hq with
  | .ok (.ret u), hq => exact J.after hq
  | .error e, hq => exact (show False from hq).elim
end
end HC
set_option maxHeartbeats 2000000
namespace HC
open PySem PySem.Spec L2 LamX PyProof.Rows
abbrev LSp := (Ms → DK → WXA → Prop) → Ms → DK → Prop
def LamOk (K : PySem.W.Frag) (H : Hp) (lam : Ms → DK → WXA → Prop) (tl : XK → Hp → VK → Prop) : Prop :=
  ∀ (G : Hp) (M : Ms) (Q : DK) (E : WXA) (Q' : VK) (E' : XK), Tp K H G → View K M G → lam M Q E → LkV K G Q Q' → (∀ c f cls d G' M', Tp K G G' → RepX K G' c f cls d → View K M' G' → E c f M' → E' cls d G') → tl E' G Q'
def TTL (K : PySem.W.Frag) (lsp : LSp) : (XK → Hp → VK → Prop) → Hp → VK → Prop := fun tl H Q' => ∃ lam M Q, LamOk K H lam tl ∧ View K M H ∧ lsp lam M Q ∧ LkV K H Q Q'
def aLam (x : Str) (lsp : LSp) (te : REX) : RE := fun ρ M Q => (∃ P, M P = some (.tab x)) ∧ lsp (fun M' Q' E' => te ρ M' Q' E') M Q
def axAct (f c : Addr) (q : Str) (lam : Ms → DK → WXA → Prop) : REX := fun ρ M Q E => ρ[0]? = some (some (.ref f)) ∧ M c = some (.cod q) ∧ ∃ M0, Sub M0 M ∧ lam M0 Q E
section
variable {K : PySem.W.Frag} {H G : Hp} {M : Ms} {P : Addr}
theorem offT_tp {ps : Array Value} (hP : H P = some (.tbl ps)) (off : OffT P H G) : Tp K H G := by
  have at_ : ∀ b u, H b = some u → (∀ ps, u ≠ .tbl ps) → G b = some u := fun b u e n => off b u (fun z => by subst z; rw [hP] at e; exact n ps (Option.some.inj e).symm) e
  refine ⟨fun a vs q => ?_, fun a vs q => ?_, fun a vs ⟨o, q, hd⟩ => ⟨o, at_ _ _ q (fun _ z => nomatch z), hd⟩, fun a o u q => at_ _ _ q (fun _ z => nomatch z)⟩
  · rcases q with (q | ⟨o, q⟩) | q
    · exact .inl (.inl (at_ _ _ q (fun _ z => nomatch z)))
    · exact .inl (.inr ⟨o, at_ _ _ q (fun _ z => nomatch z)⟩)
    · exact .inr q
  · rcases q with ⟨o, q⟩ | q
    · exact .inl ⟨o, at_ _ _ q (fun _ z => nomatch z)⟩
    · exact .inr q
theorem offT_view {x : Str} (v : View K M H) (hP : M P = some (.tab x)) (off : OffT P H G) (t : TabS G P (lamQ x)) : View K M G := by
  obtain ⟨eP, ps, aP, _⟩ := (v P _ hP : P = lamP K x ∧ TabS H P (lamQ x))
  have tp := offT_tp (K := K) aP off
  intro b c e
  by_cases hb : b = P
  · subst hb
    rw [hP] at e
    cases e
    exact ⟨eP, t⟩
  have r := v b c e
  have at_ : ∀ u, H b = some u → G b = some u := fun u h => off b u hb h
  cases c with
  | tab y =>
    obtain ⟨e1, qs, h1, h2, h3⟩ := (r : b = lamP K y ∧ TabS H b (lamQ y))
    refine ⟨e1, qs, at_ _ h1, h2, fun pos cv hc => ?_⟩
    obtain ⟨d, e2, e3⟩ := h3 pos cv hc
    exact ⟨d, e2, off _ _ (fun z => by subst z; rw [aP] at e3; cases e3) e3⟩
  | cod q => exact at_ _ r
  | lst ds =>
    obtain ⟨vs, h, q⟩ := r
    exact ⟨vs, at_ _ h, q.mono tp⟩
  | dic ds =>
    obtain ⟨vs, h, q⟩ := r
    exact ⟨vs, at_ _ h, Paired.mapP q fun _ _ z => ⟨z.1, z.2.mono tp⟩⟩
  | dit ds =>
    obtain ⟨vs, h, q⟩ := r
    exact ⟨vs, at_ _ h, Paired.mapP q fun _ _ z => ⟨z.1, z.2.mono tp⟩⟩
  | fdc ds =>
    obtain ⟨vs, o, h, q⟩ := r
    exact ⟨vs, o, at_ _ h, Paired.mapP q fun _ _ z => ⟨z.1, z.2.mono tp⟩⟩
  | obj C ds =>
    obtain ⟨dx, vs, h, q⟩ := r
    exact ⟨dx, vs, at_ _ h, Paired.mapP q fun _ _ z => ⟨z.1, z.2.mono tp⟩⟩
theorem codeO_inj {P : Program} {w : World} {c : Addr} {q q' : Str} {h : Heap} (ok : HOk P w H h) (e : H c = some (CodeO c q)) (e' : H c = some (CodeO c q')) : q = q' := by
  have h1 : ObjOk P w H h c (CodeO c q) := ok c _ e
  have h2 : ObjOk P w H h c (CodeO c q') := ok c _ e'
  obtain ⟨o1, v1, t1, a1, b1, c1⟩ := h1.1
  obtain ⟨o2, v2, t2, a2, b2, c2⟩ := h2.1
  rw [a1] at a2
  cases a2
  rw [b1] at b2
  cases b2
  rw [c1] at c2
  cases c2
  rfl
end
theorem lgives {P : Program} {w : World} {K : PySem.W.Frag} {mg : Str → Option Value} {base : Heap} {A : Around} {st : List Env} {N : List Str} {y a q : Str} {sz : Scope} {g : Addr} {cz : Value} {bz : List Stmt} {lsp : LSp} {t : Addr → Addr → Str → (Ms → DK → WXA → Prop) → RS}
    (body : ∀ (f c : Addr) (lam : Ms → DK → WXA → Prop) (s : Shared) (H : Hp), Room 1 (lamZC P w K mg base A st N y sz g cz s H).A →
      (∀ (W : L2.WX) (pn : List (Addr × Obj)) (xe : Value → Shared → Prop) (p1 p2 : Pos), L2.Takes ((lamZC P w K mg base A st N y sz g cz s H).nox.tr pn xe) W → AEX ((lamZC P w K mg base A st N y sz g cz s H).nox.tr pn xe) W (.Call (.Name a p1) [] [] p2) (axAct f c q lam)) →
      ASs (lamZC P w K mg base A st N y sz g cz s H).nox bz (t f c q lam))
    (spec : ∀ (q : Str) (f c : Addr) (lam : Ms → DK → WXA → Prop) (M M1 : Ms) (Q : DK), lsp lam M Q → Sub M M1 → M1 c = some (.cod q) → t f c q lam (retD Q) (startA N.length [.ref f]) M1) :
    LGivesC P w K mg base A st N y sz g cz bz a q (TTL K lsp) := by
  intro f c s H Q' tl hr hok act hc ⟨lam, M, Q, lo, hv, hl, kk⟩
  have hact : ∀ (W : L2.WX) (pn : List (Addr × Obj)) (xe : Value → Shared → Prop) (p1 p2 : Pos), L2.Takes ((lamZC P w K mg base A st N y sz g cz s H).nox.tr pn xe) W → AEX ((lamZC P w K mg base A st N y sz g cz s H).nox.tr pn xe) W (.Call (.Name a p1) [] [] p2) (axAct f c q lam) := by
    intro W pn xe p1 p2 tk
    refine ⟨fun pins sZ τ G Q2 J h => ?_⟩
    obtain ⟨ρ, M2, Q3, E, hr2, hv2, ⟨h0, hcod, M0, sb, hl2⟩, k2, kx⟩ := h
    refine (act W pn xe p1 p2 tk).run pins sZ τ G Q2 J ⟨?_, hv2 _ _ hcod, fun cls d G' => ∃ c f M', Tp K G G' ∧ RepX K G' c f cls d ∧ View K M' G' ∧ E c f M', ?_, ?_⟩
    · obtain ⟨v, e1, e2⟩ := hr2.at' 0 _ h0
      rw [e1]
      have : v = .ref f := by simpa only [Rep] using e2
      rw [this]
    · rintro cls d G' ⟨c, f, M', tp, rx, v, e⟩
      exact kx c f cls d G' M' tp rx v e
    · exact lo G M0 Q3 E Q2 _ (tp_un J.base) (hv2.sub sb) hl2 k2 fun c f cls d G' M' tp rx v e => ⟨c, f, M', tp, rx, v, e⟩
  have hv1 : View K (mup M c (.cod q)) H := fun b d e => by
    by_cases hb : b = c
    · subst hb
      rw [mup_same] at e
      cases e
      exact hc
    · rw [mup_ne hb] at e
      exact hv b d e
  have sb1 : Sub M (mup M c (.cod q)) := fun b d e => by
    by_cases hb : b = c
    · subst hb
      rw [mup_same]
      have r := hv b d e
      cases d with
      | cod q' => rw [codeO_inj hok hc r]
      | tab y => obtain ⟨_, ps, r, _⟩ := r; rw [hc] at r; cases r
      | lst ds => obtain ⟨vs, r, _⟩ := r; rw [hc] at r; cases r
      | dic ds => obtain ⟨vs, r, _⟩ := r; rw [hc] at r; cases r
      | dit ds => obtain ⟨vs, r, _⟩ := r; rw [hc] at r; cases r
      | fdc ds => obtain ⟨vs, o, r, _⟩ := r; rw [hc] at r; cases r
      | obj C ds => obtain ⟨dx, vs, r, _⟩ := r; rw [hc] at r; cases r
    · rw [mup_ne hb]
      exact e
  refine ⟨_, (body f c lam s H hr hact).nox, startA N.length [.ref f], mup M c (.cod q), retD Q, repE_start (.cons (by simp only [Rep]) .nil), hv1, spec q f c lam M _ Q hl sb1 mup_same, ?_, ?_, ?_, ?_⟩
  · rintro σ H' ρ M' tp _ v ⟨M'', sb, q'⟩
    exact kk _ _ _ M'' tp rep_non (v.sub sb) q'
  · rintro v H' d M' tp rd vv ⟨M'', sb, q'⟩
    exact kk _ _ _ M'' tp rd (vv.sub sb) q'
  · rintro _ _ _ _ _ _ _ h
    exact h.elim
  · rintro _ _ _ _ _ _ _ h
    exact h.elim
section
variable {X : Cx} {x y a : Str} {lsp : LSp} {te : REX} {st : Stmt} {g : Addr} {fd : FuncData} {N : List Str} {params : Arguments} {body : Expr} {scope : Scope} {p lpos pos : Pos} {k j : Nat}
theorem ae_lam (F : Fun X.K y y st g fd) (hm : X.mg y = some (.ref g)) (hb : L2.Binds X.K fd [a] []) (S : FnScope N [a] (defScope st)) (hG : ∀ cz, LGives X N y (defScope st) g cz (defBody st) a (lamQ x) (TTL X.K lsp))
    (TB : TabB X.base X.mg (He.codeOf X.K (x, none)) (lamP X.K x)) (hcode : X.env.code = .ref (He.codeOf X.K (x, none))) (hr : Room j X.A) (hk : k + 2 ≤ j) (L : LamS X.env.scope scope)
    (hbody : ∀ (E : XK) (A : Around) (outer : List Env) (s : Shared) (H : Hp) (f c' : Addr), Room k (A.deeper (lamEnv X scope s.heap.objs.size f c')) → L2.Takes (lamCx X A outer s H E scope f c') (fun cls d _ G => E cls d G) → AEX (lamCx X A outer s H E scope f c') (fun cls d _ G => E cls d G) body te)
    (hq : X.env.qual ++ "<lambda>" = lamQ x := by rfl) (hg : Gl X y := by rfl) (hN : N[0]? = some a := by rfl) (hva : Vis (defScope st) a := by first | exact .inl rfl | exact .inr (.inl rfl))
    (hdef : defaultsOf params X.env = ([], []) := by rfl) (hbind : ∀ (q : Str) (cl : List (Str × Addr)) (pm cv ctv : Value), bindArgs (PySem.W.kla_fn "<lambda>" q params body scope cl pm cv ctv) ⟨[], []⟩ = pure [] := by intros; rfl)
    (hdb : (y == ("__debug__" : Str)) = false := by decide) (hd : (a == ("__debug__" : Str)) = false := by decide) (hcd : (a == ("__classdict__" : Str)) = false := by decide) :
    AE X (.Call (.Name y p) [.Lambda params body scope lpos] [] pos) (aLam x lsp te) := by
  obtain ⟨⟨oc, od, kV, doc, pm, an, cz, ct, osl, rfl, lk, hcz⟩, kp⟩ := F
  have main := pe_laml (X := X) (TT := TTL X.K lsp) (t := fun E => cEX X.K (fun cls d _ G => E cls d G) te) (p := p) (lpos := lpos) (pos := pos) hg hm kp lk hcz hb S hN hva (by rw [hq]; exact hG cz) TB hcode (hr.mono hk) L hdef hbind (fun E A outer s H f c' hr2 => hbody E A outer s H f c' hr2 (L2.takes_of rfl rfl rfl rfl)) hdb hd hcd
  refine pe_imp main fun σ H Q' ⟨ρ, M, Q, hr1, hv, ⟨⟨P, hP⟩, hl⟩, kk⟩ => ?_
  obtain ⟨eP, t⟩ := (hv P _ hP : P = lamP X.K x ∧ TabS H P (lamQ x))
  subst eP
  have aP := t
  obtain ⟨ps, aP, _⟩ := aP
  refine ⟨by rw [hq]; exact t, fun G off tG => ?_⟩
  rw [hq] at tG
  have tp := offT_tp (K := X.K) aP off
  refine ⟨fun M' Q' E' => te ρ M' Q' E', M, Q, ?_, offT_view hv hP off tG, hl, kk.up tp⟩
  intro G' M' Q1 E1 Q2 E2 tp2 v2 h2 k2 kx
  exact ⟨ρ, M', Q1, E1, (hr1.mono tp).mono tp2, v2, h2, k2, fun c f cls d G2 M2 t3 rx v3 e3 => kx c f cls d G2 M2 t3 rx v3 e3⟩
end
theorem ax_as {X : Cx} {W : L2.WX} {e : Expr} {te : RE} (h : AE X e te) : AEX X W e (fun ρ M Q _ => te ρ M Q) :=
  pe_imp h fun σ H Q' ⟨ρ, M, Q, E, hr, hv, q, k, _⟩ => ⟨ρ, M, Q, hr, hv, q, k⟩
theorem fnAL {P : Program} {w : World} {K : PySem.W.Frag} {mg : Str → Option Value} {base : Heap} {x : Str} {st : Stmt} {N ps : List Str} {f : Addr} {fd : FuncData} {k : Nat} {asp : ASp} {t : RS} (hf : f = He.ga K x) (F : Fun K x x st f fd) (S : FnScope N ps (defScope st)) (len : ∀ ds M Q, asp ds M Q → ds.length = ps.length)
    (body : ∀ (cdv : Value) (A : Around) (outer : List Env) (s : Shared) (H : Hp) (E : XK), cdv = .ref (He.codeOf K (x, none)) → Room k (A.deeper (envOfC x (defScope st) s.heap.objs.size f cdv)) → ASs (BX P w K mg base N x st f cdv A outer s H E) (defBody st) t)
    (spec : ∀ ds M Q, asp ds M Q → t (retD Q) (startA N.length ds) M) : FnA P w K mg base (k + 1) f fd ps asp := by
  obtain ⟨oc, od, kV, doc, pm, an, cdv, ct, osl, rfl, lk, hcd⟩ := F.ex
  obtain ⟨c, rfl⟩ := He.codeIn_ref hcd
  have ec : He.codeOf K (x, none) = c := He.codeOf_eq (p := (x, none)) (by rw [hf] at lk; exact lk) rfl
  refine fn_of lk hcd S (fun vs H Q' E ⟨ds, M, Q, r, hv, q, kk⟩ => by rw [← r.length]; exact len ds M Q q) fun A outer s H vs Q' E hr ⟨ds, M, Q, r, hv, q, kk⟩ => ?_
  refine ⟨_, (body _ A outer s H E (by rw [ec]) hr).nox, startA N.length ds, M, retD Q, repE_start r, hv, spec ds M Q q, ?_, ?_, ?_, ?_⟩
  · rintro σ H' ρ M' tp _ v ⟨M'', sb, q'⟩
    exact kk _ _ _ M'' tp rep_non (v.sub sb) q'
  · rintro v H' d M' tp rd vv ⟨M'', sb, q'⟩
    exact kk _ _ _ M'' tp rd (vv.sub sb) q'
  · rintro _ _ _ _ _ _ _ h
    exact h.elim
  · rintro _ _ _ _ _ _ _ h
    exact h.elim
end HC
set_option maxHeartbeats 1000000
namespace HC
open PySem PySem.Spec L2 PyProof.Rows
theorem fun_ofD {K : PySem.W.Frag} {x q : Str} {st : Stmt} {f : Addr} {fd : FuncData} (F : FunD K x q (defArgs st) (defBody st) (defScope st) [] [] f fd) : Fun K x q st f fd := by
  obtain ⟨oc, od, dV, kV, doc, pm, an, cdv, ct, osl, e, lk, hcd, hd, _⟩ := F.ex
  rcases hd with ⟨_, rfl⟩ | ⟨h, _⟩
  · exact ⟨⟨oc, od, kV, doc, pm, an, cdv, ct, osl, e, lk, hcd⟩, F.kp⟩
  · exact absurd rfl h
section
variable {fa : List He.Fa} {fn : List He.DefD} {ts : List He.Tab} {ex : List (PySem.W.Frag → Bool)} {w : World} {K : PySem.W.Frag} {h : Heap} {mg : Str → Option Value}
theorem SaysY.t (c : SaysY fa fn ts ex w K) : He.SaysT fa fn ts w K := congrArg (fun z : AlY => z.1) c
theorem SaysY.at_ (c : SaysY fa fn ts ex w K) (i : Nat) {f : PySem.W.Frag → Bool} (e : ex[i]? = some f := by rfl) : f K = true := by
  have c1 : (ex.all fun f => f K) = true := congrArg (fun z : AlY => z.2) c
  exact List.all_eq_true.mp c1 f (List.mem_of_getElem? e)
theorem SaysY.fact (c : SaysY fa fn ts ex w K) (i : Nat) {f : He.Fa} (e : fa[i]? = some f := by rfl) : f.ok K = true := c.t.d.fact i e
theorem SaysY.fn_ (c : SaysY fa fn ts ex w K) (i : Nat) {x : Str} {st : Stmt} (e : fn[i]? = some (ddF x st) := by rfl) : ∃ fd, Fun K x x st (He.ga K x) fd := by
  obtain ⟨fd, F⟩ := c.t.d.def_ i e
  exact ⟨fd, fun_ofD F⟩
theorem SaysY.law_ (c : SaysY fa fn ts ex w K) (i : Nat) {x : Str} {st : Stmt} (e : fn[i]? = some (ddF x st) := by rfl) : ∃ fd, FunD K x x (defArgs st) (defBody st) (defScope st) [] [] (He.ga K x) fd := c.t.d.def_ i e
theorem SaysY.in_ (c : SaysY fa fn ts ex w K) (i : Nat) {x q : Str} {st : Stmt} (e : fn[i]? = some (ddI x q st) := by rfl) : ∃ fd, Fun K "__init__" q st (He.ma K (He.ga K x) "__init__") fd := by
  obtain ⟨fd, F⟩ := c.t.d.def_ i e
  exact ⟨fd, fun_ofD F⟩
theorem SaysY.glo (c : SaysY fa fn ts ex w K) (X : K.In h) (G : h.Ns mainGlobals mg) (i : Nat) {x : Str} (e : fa[i]? = some (.glo x) := by rfl) : mg x = some (.ref (He.ga K x)) := He.glo_ok X G (c.fact i e)
theorem SaysY.gn (c : SaysY fa fn ts ex w K) (i : Nat) {x : Str} (e : fa[i]? = some (.glo x) := by rfl) : PySem.W.nsIn K mainGlobals x = some (some (.ref (He.ga K x))) := He.eqO_ok (c.fact i e)
theorem SaysY.free (c : SaysY fa fn ts ex w K) (X : K.In h) (G : h.Ns mainGlobals mg) (i : Nat) {x : Str} (e : fa[i]? = some (.free x) := by rfl) : mg x = none := He.free_ok X G (c.fact i e)
theorem SaysY.int (c : SaysY fa fn ts ex w K) (X : K.In h) (G : h.Ns mainGlobals mg) (i : Nat) {x : Str} {k : Int} (e : fa[i]? = some (.int x k) := by rfl) : ∃ t, mg x = some (.int k t) := He.int_ok X G (c.fact i e)
theorem SaysY.str (c : SaysY fa fn ts ex w K) (X : K.In h) (G : h.Ns mainGlobals mg) (i : Nat) {x z : Str} (e : fa[i]? = some (.str x z) := by rfl) : ∃ t, mg x = some (.str z t) := He.str_ok X G (c.fact i e)
theorem SaysY.tabK (c : SaysY fa fn ts ex w K) (X : K.In h) (G : h.Ns mainGlobals mg) (i j : Nat) {x : Str} {ks : List Str} (e : fa[i]? = some (.glo x) := by rfl) (e2 : ts[j]? = some ((fun K => He.ga K x), ks) := by rfl) : TabK K w mg x (He.ga K x) := ⟨c.glo X G i e, c.t.tab j e2⟩
theorem SaysY.inTab (c : SaysY fa fn ts ex w K) (i : Nat) {T x : Str} {f : Option Str} (e : ex[i]? = some (inTabB T x f) := by rfl) : PySem.W.nsIn K (He.ga K T) x = (tabV K f) := He.eqO_ok (c.at_ i e)
end
end HC
set_option maxHeartbeats 2000000
namespace HC
open PySem PySem.Spec L2 LamX PyProof.Rows
def spFz (K : PySem.W.Frag) (sp : Sp) : Sp := fun vs H Q E => ∃ a xs, vs = [.ref a] ∧ SqL K H a xs ∧ ∀ G, SqF K G a xs → (∀ b ps, H b = some (.tbl ps) → G b = some (.tbl ps)) → sp [.ref a] G Q E
theorem env0_frz {P : Program} {w : World} {K : PySem.W.Frag} {mg : Str → Option Value} {base : Heap} {A : Around} {outer : List Env} {s : Shared} {H : Hp} {a : Addr} {xs : List V} (e0 : Env0 P w K mg base A outer s H) (h : H a = some (.lst xs)) : ∃ o, Env0 P w K mg base A outer s (upd H a (.frz o (.lst xs))) := by
  obtain ⟨z, its, n, r, e⟩ := e0.hok a _ h
  have ne : ∀ {b : Addr} {u : HO}, H b = some u → u ≠ .lst xs → b ≠ a := fun {b u} q hu e' => by
    subst e'; rw [h] at q; cases q; exact hu rfl
  have nn : ∀ {b : Addr}, H b = none → b ≠ a := fun {b} q e' => by subst e'; rw [h] at q; cases q
  refine ⟨{ cls := .type "list", data := .seq its.toArray n }, e0.frames, e0.mod, fun b o q => ⟨(e0.bs b o q).1, ?_⟩, e0.bsz, e0.funs, fun b hb => ?_, fun b u q => ?_, e0.bare⟩
  · rw [upd_ne (nn (e0.bs b o q).2)]
    exact (e0.bs b o q).2
  · rw [upd_ne (nn (e0.frf b hb))]
    exact e0.frf b hb
  · by_cases hb : b = a
    · subst hb
      rw [upd_same] at q
      cases q
      exact ⟨e, z, its, n, r, e⟩
    · rw [upd_ne hb] at q
      exact (e0.hok b u q).stay (fun _ _ _ q => q) (fun c q => by rw [upd_ne (ne q (fun z => nomatch z))]; exact q) (fun c ys q => by rw [upd_ne (ne q (fun z => nomatch z))]; exact q)
theorem fn_frz {P : Program} {w : World} {K : PySem.W.Frag} {mg : Str → Option Value} {base : Heap} {k : Nat} {f : Addr} {fd : FuncData} {x : Str} {sp : Sp} (F : FnOk P w K mg base CX0 k f fd [x] sp) : FnOk P w K mg base CX0 k f fd [x] (spFz K sp) := by
  refine ⟨fun vs H Q E ⟨a, xs, e, _⟩ => by rw [e]; rfl, fun A outer s H args us vs Q E hr e0 hb r ⟨a, xs, e, hS, hg⟩ => ?_⟩
  subst e
  rcases hS with (q | ⟨o, q⟩) | q
  · obtain ⟨o, e1⟩ := env0_frz e0 q
    have nn : ∀ {b : Addr} {u : Option HO}, H b = u → u ≠ some (.lst xs) → b ≠ a := fun {b u} e hu z => by subst z; exact hu (e.symm.trans q)
    refine codeAny_mono (F.run A outer s _ args us _ Q E hr e1 hb r (hg _ (.inl ⟨o, upd_same⟩) fun b ps e => by rw [upd_ne (nn e (fun z => nomatch z))]; exact e)) fun r s' hq => ?_
    match r, hq with
    | .error e, hq => exact (show False from hq).elim
    | .ok (.ret u), ⟨v, H', os, bare, un, hok, rv, q'⟩ =>
      have at_ : ∀ b u, H b = u → u ≠ some (.lst xs) → upd H a (.frz o (.lst xs)) b = u := fun b u e n => (upd_ne (nn e n)).trans e
      exact ⟨v, H', os, bare, ⟨fun b o e n => un.keep b o e (at_ b _ n (fun z => nomatch z)), fun b o e n => un.slot b o e (at_ b _ n (fun z => nomatch z)), fun b o e n => un.free b o e (at_ b _ n (fun z => nomatch z)), un.there,
        fun b ys e => un.tups b ys (at_ b _ e (fun z => nomatch z)), fun b o u e => un.frzs b o u (at_ b _ e (fun z => nomatch z)), fun b ps e => un.tbls b ps (at_ b _ e (fun z => nomatch z))⟩, hok, rv, q'⟩
    | .ok .next, hq => exact (show False from hq).elim
    | .ok .brk, hq => exact (show False from hq).elim
    | .ok .cont, hq => exact (show False from hq).elim
  · exact F.run A outer s H args us _ Q E hr e0 hb r (hg H (.inl ⟨o, q⟩) fun _ _ e => e)
  · exact F.run A outer s H args us _ Q E hr e0 hb r (hg H (.inr (.inr q)) fun _ _ e => e)
def tabM (K : PySem.W.Frag) (xs : List Str) : Ms := fun a => (xs.find? fun x => a == lamP K x).map Cell.tab
theorem tabM_has {K : PySem.W.Frag} {xs : List Str} (nd : (xs.map (lamP K)).Nodup) : ∀ x ∈ xs, tabM K xs (lamP K x) = some (.tab x) := by
  intro x hx
  unfold tabM
  cases e : xs.find? (fun y => lamP K x == lamP K y) with
  | none =>
    have := List.find?_eq_none.mp e x hx
    simp at this
  | some y =>
    have h1 : lamP K x = lamP K y := by simpa using List.find?_some e
    have h2 := List.mem_of_find?_eq_some e
    have : y = x := by
      obtain ⟨i, hi, rfl⟩ := List.getElem_of_mem hx
      obtain ⟨j, hj, rfl⟩ := List.getElem_of_mem h2
      have nd' := List.pairwise_iff_getElem.mp nd
      have this : j = i := by
        rcases Nat.lt_trichotomy j i with q | q | q
        · exact (nd' j i (by simpa using hj) (by simpa using hi) q (by simp [h1])).elim
        · exact q
        · exact (nd' i j (by simpa using hi) (by simpa using hj) q (by simp [h1])).elim
      subst this
      rfl
    rw [this]
    rfl
theorem tabM_view {K : PySem.W.Frag} {xs : List Str} {H : Hp} (h : ∀ x ∈ xs, H (lamP K x) = some (.tbl #[])) : View K (tabM K xs) H := by
  intro a c e
  unfold tabM at e
  obtain ⟨x, e1, rfl⟩ := Option.map_eq_some_iff.mp e
  have h1 : a = lamP K x := by simpa using List.find?_some e1
  have h2 := List.mem_of_find?_eq_some e1
  subst h1
  exact ⟨rfl, TabS.nil (h x h2)⟩
theorem law_endT {K : PySem.W.Frag} {H : Hp} {a : Addr} {ns : List Int} {sp : ASp} {E : XK} {xs : List Str} (nd : (xs.map (lamP K)).Nodup) (hl : ns.length ≤ 63) (hT : ∀ x ∈ xs, H (lamP K x) = some (.tbl #[])) (hS : SqL K H a (ns.map V.int))
    (h : ∀ (ns : List Int) (M : Ms), ns.length ≤ 63 → (∀ x ∈ xs, ∃ P, M P = some (.tab x)) → sp [.rol (ns.map Dv.int)] M (fun d _ => d = .bl true)) : spFz K (cSp K sp) [.ref a] H (fun v _ => v = .bl true) E := by
  refine ⟨a, _, rfl, hS, fun G hF hG => ?_⟩
  refine ⟨[.rol (ns.map Dv.int)], tabM K xs, fun d _ => d = .bl true, Reps.cons ?_ Reps.nil, tabM_view fun x hx => hG _ _ (hT x hx), h ns _ hl fun x hx => ⟨_, tabM_has nd x hx⟩, ?_⟩
  · simp only [Rep]
    exact ⟨a, _, rfl, hF, Reps.of_ints ns⟩
  · rintro v H' d M' _ r _ rfl
    exact rep_bl_inv r
theorem tabNd_ok {K : PySem.W.Frag} {xs : List Str} (h : tabNd (xs.map fun x => (x, none)) K = true) : (xs.map (lamP K)).Nodup := by
  have := of_decide_eq_true h
  rw [List.map_map] at this
  exact this
theorem lawAtT {l : PySem.W.OpenLaw} {w : World} {K : PySem.W.Frag} {k : Nat} {x : Str} {mg : Str → Option Value} {fa : Addr} {h : Heap} {xs : List Str} {sp : ASp} {fd : FuncData} (X : K.In h) (t : TabsIn (xs.map fun x => (x, none)) K h) (nd : (xs.map (lamP K)).Nodup)
    (hb : ∀ (s : Shared) (u : Value), BindsTo s fd ⟨[u], []⟩ [(x, u)]) (F : ∀ base : Heap, K.In base → base.Ns mainGlobals mg → (∀ y ∈ xs, TabB base mg (He.codeOf K (y, none)) (lamP K y)) → FnA l.prog w K mg base k fa fd [x] sp)
    (h0 : ∀ (ns : List Int) (M : Ms), ns.length ≤ 63 → (∀ x ∈ xs, ∃ P, M P = some (.tab x)) → sp [.rol (ns.map Dv.int)] M (fun d _ => d = .bl true)) : LawAtS l w K CX0 k 63 x mg fa h := by
  have mem : ∀ y ∈ xs, He.cT K (y, none) ∈ (xs.map fun x => (x, none)).map (He.cT K) := fun y hy => List.mem_map.mpr ⟨_, List.mem_map.mpr ⟨y, hy, rfl⟩, rfl⟩
  have inv : ∀ p ∈ (xs.map fun x => (x, none)).map (He.cT K), ∃ q ∈ (xs.map fun x => (x, none)), p = He.cT K q := fun p hp => by
    obtain ⟨q, hq, e⟩ := List.mem_map.mp hp
    exact ⟨q, hq, e.symm⟩
  refine ⟨fd, (xs.map fun x => (x, none)).map (He.cT K), spFz K (cSp K sp), fun p hp => ?_, fun p hp => ?_, fun p hp => ?_, hb, fun H a ns hl _ hT hS => ?_, fun base X1 G tb => fn_frz (F base X1 G fun y hy => tb _ (mem y hy))⟩
  · obtain ⟨q, hq, rfl⟩ := inv p hp
    exact (t q hq).2.2
  · obtain ⟨q, hq, rfl⟩ := inv p hp
    exact (t q hq).2.1
  · obtain ⟨q, hq, rfl⟩ := inv p hp
    exact PySem.W.codeHd_of_K X (t q hq).1
  · exact law_endT nd hl (fun y hy => hT _ (mem y hy)) hS h0
end HC
set_option maxHeartbeats 1000000
namespace HC
open PySem PySem.Spec L2 PyProof.Rows
theorem oexB_ok {K : PySem.W.Frag} {x : Str} (h : oexB x K = true) : OexC K (He.ga K x) := by
  unfold oexB at h
  obtain ⟨h0, h1⟩ := He.ba h
  obtain ⟨h2, h3⟩ := He.ba h1
  obtain ⟨h4, h5⟩ := He.ba h3
  obtain ⟨h6, h7⟩ := He.ba h5
  refine ⟨?_, He.eqO_ok h2, of_decide_eq_true h4, of_decide_eq_true h6, h7⟩
  generalize He.ga K x = C at h0 ⊢
  cases q : K.lookup C with
  | none => rw [q] at h0; cases h0
  | some o =>
    obtain ⟨oc, od, dt, osl⟩ := o
    rw [q] at h0
    cases oc with
    | type c =>
      cases dt with
      | cls cd =>
        obtain ⟨k1, k2⟩ := He.ba h0
        obtain rfl : c = "type" := of_decide_eq_true k1
        obtain ⟨nm, bs, mro, ns, qn, hdct, sn, sub, ab, col, hdel⟩ := cd
        obtain ⟨l⟩ := osl
        match mro, l, k2 with
        | .ref C' :: bm, [k0, k1, k2', k3, some (.builtin n), k5], k2 =>
          obtain ⟨e1, k2⟩ := He.ba k2
          obtain ⟨e2, k2⟩ := He.ba k2
          obtain ⟨e3, k2⟩ := He.ba k2
          obtain ⟨e4, e5⟩ := He.ba k2
          have f1 := of_decide_eq_true e1
          have f2 := of_decide_eq_true e2
          have f3 : hdct = true := e3
          have f4 : hdel = false := by
            cases hdel with
            | false => rfl
            | true => cases e4
          subst f1 f2 f3 f4
          exact ⟨nm, qn, ns, bs, bm, sn, sub, ab, col, od, k0, k1, k2', k3, k5, rfl, e5⟩
      | _ => cases h0
    | _ => cases dt <;> cases h0
theorem initB_ok {K : PySem.W.Frag} {x : Str} (h : initB x K = true) : PySem.W.findIn K (.ref (He.ga K x)) "__init__" = some (some (.ref (He.ma K (He.ga K x) "__init__"))) ∧ PySem.W.typeIn K (.ref (He.ma K (He.ga K x) "__init__")) = some (.type "function") := by
  obtain ⟨h1, h2⟩ := He.ba h
  exact ⟨He.eqO_ok h1, of_decide_eq_true h2⟩
theorem xckB_ok {K : PySem.W.Frag} {x : Str} (h : xckB x K = true) : XcK K (He.ga K x) := by
  obtain ⟨h1, h⟩ := He.ba h
  obtain ⟨h2, h⟩ := He.ba h
  obtain ⟨h3, h⟩ := He.ba h
  obtain ⟨h4, h⟩ := He.ba h
  obtain ⟨h5, h⟩ := He.ba h
  obtain ⟨h6, h⟩ := He.ba h
  obtain ⟨h7, h8⟩ := He.ba h
  exact ⟨h1, He.eqO_ok h2, He.eqO_ok h3, of_decide_eq_true h4, He.eqO_ok h5, He.eqO_ok h6, of_decide_eq_true h7, of_decide_eq_true h8⟩
theorem xfcB_ok {K : PySem.W.Frag} {x : Str} (h : xfcB x K = true) : XfC K (He.ga K x) := xfB_ok h
theorem kitQB_ok {K : PySem.W.Frag} {x : Str} {y : Option Str} {b : Bool} (h : kitQB x y b K = true) : PySem.W.kitOne K (.ref (He.ga K x)) (kitQV K y) = some b := of_decide_eq_true h
theorem xct_of {K : PySem.W.Frag} {h : Heap} {mg : Str → Option Value} {x : Str} (X : K.In h) (G : h.Ns mainGlobals mg) (g : (He.Fa.glo x).ok K = true) (c : (He.Fa.exc x).ok K = true) : XcT K mg x := by
  obtain ⟨h1, h2, h3, h4⟩ := He.exc_ok c
  exact ⟨He.ga K x, He.eqO_ok g, He.glo_ok X G g, h1, h2, h3, h4⟩
end HC
set_option maxHeartbeats 4000000
namespace HC
open PySem PySem.Spec L2 PyProof.Rows HT
theorem noI_tup : typeLookup (.type "tuple") (dunderI "add") = pure none := by rw [typeLookup_type, builtinLookup_eq_fast]; kernel_rfl
section
variable {prog : Program} {w : World} {A : Around} {E : Value → Shared → Prop} {s : Shared}
theorem icat_meets {t b : Addr} {S : PySem.Spec} {Q : Value → Shared → Prop} (ha : s.TypeIs (.ref t) "tuple") (hb : s.TypeIs (.ref b) "tuple") (g : Meets (Builtin.«tuple.__add__» ⟨[.ref t, .ref b], []⟩) S) (h : S A (wants Q E) s) :
    wpAny (model prog w) A (inplaceOp .Add (.ref t) (.ref b)) Q E s :=
  wpAny_inplaceOp_concat ha hb noI_tup noFill_tuple_add seq_tuple_add (call_meets PySem.F.slot_tuple_add ha PySem.F.entry_tuple_add (PySem.F.args_tuple_add_2 _ _) g h)
theorem icat_tup {t b : Addr} {vs us : List Value} {Q : Value → Shared → Prop} (ht : IsTup s.heap t vs.toArray) (hb : IsTup s.heap b us.toArray) (h0 : vs = [] → Q (.ref b) s)
    (h1 : vs ≠ [] → us = [] → Q (.ref t) s) (h2 : vs ≠ [] → us ≠ [] → Q (.ref s.heap.objs.size) { s with heap := s.heap.push { cls := .type "tuple", data := .seq (vs ++ us).toArray } })
    (hz : vs.length + us.length ≤ sizeLine) : wpAny (model prog w) A (inplaceOp .Add (.ref t) (.ref b)) Q E s := by
  obtain ⟨⟨c1, d1, x1, l1⟩, o1, e1, n1, f1⟩ := id ht
  obtain ⟨⟨c2, d2, x2, l2⟩, o2, e2, n2, f2⟩ := id hb
  simp only at e1 f1 e2 f2
  subst e1 f1 e2 f2
  by_cases hv : vs = []
  · exact icat_meets ⟨_, o1, rfl⟩ ⟨_, o2, rfl⟩ (tuple_addW0 t b vs.toArray us.toArray n1 n2 d1 d2 l1 l2 (by simp [hv])) ⟨o1, o2, h0 hv⟩
  · by_cases hw : us = []
    · exact icat_meets ⟨_, o1, rfl⟩ ⟨_, o2, rfl⟩ (tuple_addW1 t b vs.toArray us.toArray n1 n2 d1 d2 l1 l2 (by simpa using hv) (by simp [hw])) ⟨o1, o2, h1 hv hw⟩
    · refine icat_meets ⟨_, o1, rfl⟩ ⟨_, o2, rfl⟩ (tuple_addW2 t b vs.toArray us.toArray n1 n2 d1 d2 l1 l2 (by simpa using hv) (by simpa using hw) (by rw [List.size_toArray, List.size_toArray]; exact hz)) ⟨o1, o2, ?_⟩
      have e : vs.toArray ++ us.toArray = (vs ++ us).toArray := by simp
      rw [e]
      exact h2 hv hw
end
section
variable {X : Cx} {e : Expr} {te : RE} {pos : Pos} {K : PySem.W.Frag}
theorem ip_catA : PIp X .Add (rCatA X.K) := by
  intro pins s σ H x y v u Q I rx ry h
  obtain ⟨a, b, xs, ys, rfl, rfl, ha, hb, hz, q0, q1, q2⟩ := h
  cases rx
  cases ry
  obtain ⟨i1, r1, p1, _⟩ := I.tuple ha
  obtain ⟨i2, r2, p2, _⟩ := I.tuple hb
  refine icat_tup p1 p2 (fun z => ⟨.ref b, H, I, rfl, q0 (r1.nil_iff.mp z)⟩) (fun z z2 => ⟨.ref a, H, I, rfl, q1 (fun w => z (r1.nil_iff.mpr w)) (r2.nil_iff.mp z2)⟩) (fun z z2 => ?_) (by rw [← r1.length, ← r2.length]; exact hz)
  refine ⟨.ref s.heap.objs.size, _, I.laid (t' := s.toks) (o := .tup (xs ++ ys)) (fun b ob q => Heap.get?_push_of_some _ q) (Nat.le_refl _) ?_, rfl, q2 (fun w => z (r1.nil_iff.mpr w)) (fun w => z2 (r2.nil_iff.mpr w)) _ (I.hok.fresh (Nat.le_refl _))⟩
  exact ⟨by rw [List.length_append]; exact hz, _, r1.append r2, IsTup.new _ _⟩
def onTup (d : Dv) (P : List Dv → Prop) : Prop := match d with
  | .tup xs => P xs
  | _ => False
theorem onTup_ex {d : Dv} {P : List Dv → Prop} (h : onTup d P) : ∃ xs, d = .tup xs ∧ P xs := by
  cases d <;> first | exact ⟨_, rfl, h⟩ | exact h.elim
def aAugT (i : Nat) (te : RE) : RS := fun D ρ M => onS ρ[i]? fun o => onS o fun x => te ρ M fun y M1 => onTup x fun xs => onTup y fun ys => xs.length + ys.length ≤ sizeLine ∧ D.nx (ρ.set i (some (.tup (xs ++ ys)))) M1
theorem augT_imp {i : Nat} : ∀ D σ H, cS K (aAugT i te) D σ H → tAug i (cE K te) (rCatA K) D σ H := fun D' σ H ⟨ρ, M, D, hr, hv, q, k⟩ => by
  obtain ⟨o, e1, q⟩ := onS_ex q
  obtain ⟨x, e2, q⟩ := onS_ex q
  subst e2
  obtain ⟨v, h1, h2⟩ := hr.at' i x e1
  refine ⟨v, h1, seqE hr hv q fun w H1 d M1 t1 r1 v1 q1 => ?_⟩
  obtain ⟨xs, e3, q1⟩ := onTup_ex q1
  obtain ⟨ys, e4, hz, q2⟩ := onTup_ex q1
  subst e3 e4
  obtain ⟨a, vs, f1, s1, g1⟩ := rep_tup_inv (h2.mono t1)
  obtain ⟨b, ws, f2, s2, g2⟩ := rep_tup_inv r1
  have l1 := g1.length
  have l2 := g2.length
  refine ⟨a, b, vs, ws, f1, f2, s1, s2, by omega, fun h => ?_, fun _ h => ?_, fun _ _ p hp => ?_⟩
  · subst h
    have e5 : xs = [] := List.length_eq_zero_iff.mp l1
    subst e5
    exact k.nx _ _ _ _ t1 ((hr.mono t1).set i (rep_tup s2 g2)) v1 q2
  · subst h
    have e5 : ys = [] := List.length_eq_zero_iff.mp l2
    subst e5
    rw [List.append_nil] at q2
    exact k.nx _ _ _ _ t1 ((hr.mono t1).set i (rep_tup s1 g1)) v1 q2
  · exact k.nx _ _ _ _ (t1.trans (Tp.new hp)) (((hr.mono t1).mono (Tp.new hp)).set i (rep_tup (.inl (.inl upd_same)) ((g1.append g2).mono (Tp.new hp)))) (v1.new hp) q2
theorem as_aug_tup (i : Nat) {x : Str} {pos' : Pos} (hN : X.N.Nodup) (he : AE X e te) (hi : X.N[i]? = some x := by rfl) (hx : Loc X.env.scope x := by first | exact .inl rfl | exact .inr rfl) (hf : X.fn x = true ∨ X.env.scope.names.lookup x = some .local := by first | exact .inl rfl | exact .inr rfl) :
    AS X (.AugAssign (.Name x pos') .Add e pos) (aAugT i te) := ps_imp (ps_aug hN hi hx he ip_catA hf) augT_imp
end
end HC
set_option maxHeartbeats 4000000
namespace HC
open PySem PySem.Spec L2 PyProof.Rows HT
def rIdxL (K : PySem.W.Frag) : V → List V → Hp → VK → Prop := fun x xs H Q => ∃ (a : Addr) (vs : List V) (y : V) (d : PyData) (ds : List PyData) (j : Nat), x = V.ref a ∧ xs = [y] ∧ SqL K H a vs ∧ DpAll K H vs ds ∧ Dp K H y d ∧ PyData.canLayAll0 ds = true ∧ d.canLay0 = true ∧ PyData.depth d ≤ 20 ∧
  (∃ z, ds[j]? = some z ∧ PyData.eqv z d = true) ∧ (∀ m, m < j → ∀ z, ds[m]? = some z → PyData.eqv z d = false) ∧ Q (.int (j : Int)) H
section
variable {X : Cx}
theorem mt_idxL (hu : X.A.units + 64 < cLine) : MtR X "list.index" (rIdxL X.K) := by
  intro pins s σ H x xs v us Q I rx rxs h
  obtain ⟨a, vs, y, d, ds, j, rfl, rfl, hs, ha, hy, c1, c2, hd, hit, hno, q⟩ := h
  cases rx
  obtain ⟨uy, rfl, ry⟩ := rxs.one
  obtain ⟨bs, r1⟩ := Dp.reads I d y uy hy ry
  obtain ⟨its, rv, ⟨⟨cls, dd, data, sls⟩, n, ho, hc, hdn, hdt⟩, hlen⟩ := I.list hs
  simp only at hc hdt
  subst hc hdt
  obtain ⟨as, h4⟩ := Dp.readsAll I ds _ its ha rv
  have hmap : its.map (SeqAt.readOf s.heap) = ds := SeqAt.readsAll_map ds its as c1 h4
  have at' : ∀ m (hm : m < its.length), ds[m]? = some (SeqAt.readOf s.heap its[m]) := fun m hm => by
    rw [← hmap, List.getElem?_map, List.getElem?_eq_getElem hm]; rfl
  obtain ⟨z, hz, ez⟩ := hit
  have hj : j < its.length := by
    have := (List.getElem?_eq_some_iff.mp hz).1
    rw [← hmap, List.length_map] at this
    exact this
  have ez2 : PyData.eqv (SeqAt.readOf s.heap its[j]) d = true := by
    have := at' j hj
    rw [hz] at this
    cases this
    exact ez
  have jl : (j : Int) < 2 ^ 63 - 1 := by
    have h6 := hlen
    have h8 := rv.length
    have h7 : sizeLine ≤ 1000000000 := by decide
    omega
  refine call_meets PySem.F.slot_list_index ⟨_, ho, rfl⟩ PySem.F.entry_list_index (PySem.F.args_list_index_2 _ _)
    (SeqAt.list_indexAt a its.toArray n dd sls uy (fun u => PyData.eqv (SeqAt.readOf s.heap u) d) j (by simpa using hj) jl (by simpa using ez2) (fun m hm hmj => by
      have hm2 : m < its.length := by simpa using hm
      have := hno m hmj _ (at' m hm2)
      simpa using this)) ⟨ho, SeqAt.items_eqAt (vs := its.toArray) (show ReadsAll s.heap its.toArray.toList ds as from h4) r1 c1 c2 (cnt_room hd hu), ?_⟩
  exact ⟨.int (j : Int), H, I.tok _, ⟨s.toks, rfl⟩, q⟩
end
open Classical in
noncomputable def firstD (xs : List Dv) (y : Dv) : Nat := xs.findIdx fun x => decide (x = y)
theorem first_pl {n : Nat} {y : Dv} {xs : List Dv} (hy : Pl n y) (h : ∀ x ∈ xs, Pl n x) (hm : y ∈ xs) :
    (∃ z, (xs.map (pyP n))[firstD xs y]? = some z ∧ PyData.eqv z (pyP n y) = true) ∧ ∀ m, m < firstD xs y → ∀ z, (xs.map (pyP n))[m]? = some z → PyData.eqv z (pyP n y) = false := by
  classical
  have hlt : firstD xs y < xs.length := by
    unfold firstD
    exact List.findIdx_lt_length_of_exists ⟨y, hm, by simp⟩
  refine ⟨⟨pyP n xs[firstD xs y], by rw [List.getElem?_map, List.getElem?_eq_getElem hlt]; rfl, ?_⟩, fun m hmf z hz => ?_⟩
  · rw [eqv_dec n _ y (h _ (List.getElem_mem hlt)) hy]
    exact List.findIdx_getElem (p := fun x => decide (x = y)) (w := hlt)
  · have hml : m < xs.length := Nat.lt_trans hmf hlt
    rw [List.getElem?_map, List.getElem?_eq_getElem hml] at hz
    have hz : pyP n xs[m] = z := Option.some.inj hz
    subst hz
    rw [eqv_dec n _ y (h _ (List.getElem_mem hml)) hy]
    have := List.not_of_lt_findIdx (p := fun x => decide (x = y)) (xs := xs) (i := m) hmf
    simpa using this
noncomputable def amIdx : ARM := fun x ds M Q => match ds with
  | [y] => onS (itemsA x M) fun xs => (∀ z ∈ xs, Pl 8 z) ∧ Pl 8 y ∧ y ∈ xs ∧ Q (.int (firstD xs y : Nat)) M
  | _ => False
noncomputable def aIdxL (to : RE) (t : RA) : RE := fun ρ M Q => to ρ M fun x M1 => tyM "list" x M1 ∧ t ρ M1 fun ds M2 => tyM "list" x M2 ∧ amIdx x ds M2 Q
section
variable {X : Cx} {o e : Expr} {to : RE} {t : RA} {apos cpos : Pos}
theorem ae_indexL (hu : X.A.units + 64 < cLine) (ho : AE X o to) (ha : AA X [e] t) (hline : (apos.endLine == cpos.line) = true := by rfl) (hbase : attributeBase o "index" X.env (eval o X.env) = eval o X.env := by rfl)
    (hfew : ((backTo cpos (starEach [e] X.env)).all (fun x => !x.1) && (backToKw cpos (keywordEach [] X.env)).all (fun x => x.1.isSome)
      && decide (([e] : List Expr).length + ([] : List Keyword).length + (if ([] : List Keyword).isEmpty then 0 else 1) < 30)) = true := by rfl)
    (hs : starEach [e] X.env = (false, eval e X.env) :: starEach [] X.env := by rfl) (hplain : (backTo cpos (starEach [] X.env)).any (·.1) = false := by rfl) :
    AE X (.Call (.Attribute o "index" apos) [e] [] cpos) (aIdxL to t) :=
  pe_imp (pe_bm PySem.F.plainAttrs_list PySem.F.slot_list_index PySem.F.type_list_index (mt_idxL hu) ho ha hbase hfew hline hs hplain) fun σ H Q' ⟨ρ, M, Q, hr, hv, q, k⟩ =>
    seqE hr hv q fun v H1 d M1 t1 r1 v1 ⟨ht, q1⟩ => ⟨tyM_ok r1 v1 ht, seqA (hr.mono t1) v1 q1 fun vs H2 ds M2 t2 r2 v2 ⟨ht2, q2⟩ => by
      match ds, q2 with
      | [y], q2 =>
        obtain ⟨xs, hx, p1, p2, hm, q3⟩ := onS_ex q2
        obtain ⟨u, eu, ry⟩ := reps1 r2
        obtain ⟨a, ws, e1, s, z⟩ := lstA_ok (r1.mono t2) v2 (lst_of_tyM hx ht2)
        have d2 := depth_pl 8 _ p2
        obtain ⟨f1, f2⟩ := first_pl p2 p1 hm
        exact ⟨a, ws, u, _, _, firstD xs y, e1, eu, s, dpAll_of (dp_of 8) p1 z, dp_of 8 _ _ p2 ry, canLayAll_of (fun d hd => canLay_pl 8 d (p1 d hd)), canLay_pl _ _ p2, by omega, f1, f2, k _ _ _ _ (t1.trans t2) rep_int v2 q3⟩⟩
end
end HC
namespace HC
open PySem PySem.Spec L2 PyProof.Rows
section
variable {X : Cx} {a b : Expr} {ta tb : RE} {rest : List Expr} {pos : Pos}
def aOrT (t u : RE) : RE := fun ρ M Q => t ρ M fun x M1 => onS (truA x M1) fun b => onIf b (Q x M1) (u ρ M1 Q)
theorem ae_orT (ha : AE X a ta) (hb : AE X (.BoolOp .Or (b :: rest) pos) tb) : AE X (.BoolOp .Or (a :: b :: rest) pos) (aOrT ta tb) :=
  pe_imp (pe_orT ha hb) fun σ H Q' ⟨ρ, M, Q, hr, hv, q, k⟩ => seqE hr hv q fun v H1 d M1 t1 r1 v1 q1 => by
    obtain ⟨c, e, q1⟩ := onS_ex q1
    refine ⟨c, truA_ok r1 v1 e, ?_⟩
    cases c with
    | true => exact k _ _ _ _ t1 r1 v1 q1
    | false => exact seqE (hr.mono t1) v1 q1 (k.up t1)
end
end HC
set_option maxHeartbeats 1000000
namespace HC
open PySem L2 PyProof.Rows
def PlB : Nat → Dv → Prop
  | _, .non => True
  | _, .int _ => True
  | _, .bl _ => True
  | _, .str x => PyData.canLay0 (.str x) = true
  | n + 1, .tup xs => ∀ d ∈ xs, PlB n d
  | n + 1, .rol xs => ∀ d ∈ xs, PlB n d
  | _, _ => False
def pyB : Nat → Dv → PyData
  | _, .int i => .int i
  | _, .bl b => .bool b
  | _, .str x => .str x
  | n + 1, .tup xs => .tuple (xs.map (pyB n))
  | n + 1, .rol xs => .list (xs.map (pyB n))
  | _, _ => .none
section
variable {K : PySem.W.Frag} {H : Hp}
theorem dpAllB_of {n : Nat} (ih : ∀ d v, PlB n d → Rep K H d v → Dp K H v (pyB n d)) : ∀ {xs : List Dv} {vs : List V}, (∀ d ∈ xs, PlB n d) → Reps K H xs vs → DpAll K H vs (xs.map (pyB n))
  | [], _, _, r => by rw [r.nil_inv]; exact .nil
  | d :: xs, _, h, r => by
    obtain ⟨v, w, rfl, r1, r2⟩ := r.cons_inv
    exact .cons (ih d v (h d (by simp)) r1) (dpAllB_of ih (fun e he => h e (by simp [he])) r2)
theorem dpB_of : ∀ (n : Nat) (d : Dv) (v : V), PlB n d → Rep K H d v → Dp K H v (pyB n d)
  | 0, .non, v, _, r => by rw [rep_non_inv r]; exact .non
  | n + 1, .non, v, _, r => by rw [rep_non_inv r]; exact .non
  | 0, .int i, v, _, r => by rw [rep_int_inv r]; exact .int i
  | n + 1, .int i, v, _, r => by rw [rep_int_inv r]; exact .int i
  | 0, .bl i, v, _, r => by rw [rep_bl_inv r]; exact .bl i
  | n + 1, .bl i, v, _, r => by rw [rep_bl_inv r]; exact .bl i
  | 0, .str i, v, _, r => by rw [rep_str_inv r]; exact .str i
  | n + 1, .str i, v, _, r => by rw [rep_str_inv r]; exact .str i
  | n + 1, .tup xs, v, h, r => by
    obtain ⟨a, vs, e, s, z⟩ := rep_tup_inv r
    subst e
    exact .tup s (dpAllB_of (dpB_of n) h z)
  | n + 1, .rol xs, v, h, r => by
    obtain ⟨a, vs, e, s, z⟩ := rep_rol_inv r
    subst e
    exact .lst s.l (dpAllB_of (dpB_of n) h z)
theorem canLay_plb : ∀ (n : Nat) (d : Dv), PlB n d → (pyB n d).canLay0 = true
  | 0, .non, _ => by simp [pyB, PyData.canLay0]
  | n + 1, .non, _ => by simp [pyB, PyData.canLay0]
  | 0, .int _, _ => by simp [pyB, PyData.canLay0]
  | n + 1, .int _, _ => by simp [pyB, PyData.canLay0]
  | 0, .bl _, _ => by simp [pyB, PyData.canLay0]
  | n + 1, .bl _, _ => by simp [pyB, PyData.canLay0]
  | 0, .str _, h => h
  | n + 1, .str _, h => h
  | n + 1, .tup xs, h => by
    simp only [pyB, PyData.canLay0]
    exact canLayAll_of fun d hd => canLay_plb n d (h d hd)
  | n + 1, .rol xs, h => by
    simp only [pyB, PyData.canLay0]
    exact canLayAll_of fun d hd => canLay_plb n d (h d hd)
theorem depth_plb : ∀ (n : Nat) (d : Dv), PlB n d → (pyB n d).depth ≤ n
  | 0, .non, _ => by simp [pyB, PyData.depth]
  | n + 1, .non, _ => by simp [pyB, PyData.depth]
  | 0, .int _, _ => by simp [pyB, PyData.depth]
  | n + 1, .int _, _ => by simp [pyB, PyData.depth]
  | 0, .bl _, _ => by simp [pyB, PyData.depth]
  | n + 1, .bl _, _ => by simp [pyB, PyData.depth]
  | 0, .str _, h => by simp [pyB, PyData.depth]
  | n + 1, .str _, h => by simp [pyB, PyData.depth]
  | n + 1, .tup xs, h => by
    simp only [pyB, PyData.depth]
    have := depthAll_of fun d hd => depth_plb n d (h d hd)
    omega
  | n + 1, .rol xs, h => by
    simp only [pyB, PyData.depth]
    have := depthAll_of fun d hd => depth_plb n d (h d hd)
    omega
theorem eqvAll_refl {n : Nat} (ih : ∀ d, PlB n d → PyData.eqv (pyB n d) (pyB n d) = true) : ∀ {xs : List Dv}, (∀ d ∈ xs, PlB n d) → PyData.eqvAll (xs.map (pyB n)) (xs.map (pyB n)) = true
  | [], _ => by simp [PyData.eqvAll]
  | d :: xs, h => by
    have h1 := ih d (h d (by simp))
    have h2 := eqvAll_refl ih (xs := xs) fun z hz => h z (by simp [hz])
    simp [PyData.eqvAll, h1, h2]
theorem eqv_refl : ∀ (n : Nat) (d : Dv), PlB n d → PyData.eqv (pyB n d) (pyB n d) = true := by
  intro n
  induction n with
  | zero =>
    intro d hd
    cases d <;> first | exact hd.elim | simp [pyB, PyData.eqv]
  | succ n ih =>
    intro d hd
    cases d <;> first | exact hd.elim | skip
    case tup xs =>
      simp only [pyB, PyData.eqv]
      exact eqvAll_refl ih hd
    case rol xs =>
      simp only [pyB, PyData.eqv]
      exact eqvAll_refl ih hd
    all_goals simp [pyB, PyData.eqv]
end
def aEqR : AR2 := fun x y M Q => x = y ∧ PlB 9 x ∧ Q (.bl true) M
def aNeR : AR2 := fun x y M Q => x = y ∧ PlB 9 x ∧ Q (.bl false) M
theorem aEqR_ok {K : PySem.W.Frag} {H : Hp} {x y : V} {d : Dv} (rx : Rep K H d x) (ry : Rep K H d y) (h : PlB 9 d) :
    ∃ d e, Dp K H x d ∧ Dp K H y e ∧ SeqAt.shaped d = true ∧ SeqAt.shaped e = true ∧ PyData.eqv d e = true := by
  have d1 := depth_plb 9 _ h
  exact ⟨_, _, dpB_of 9 _ _ h rx, dpB_of 9 _ _ h ry, shaped_of (canLay_plb _ _ h) (by omega), shaped_of (canLay_plb _ _ h) (by omega), eqv_refl 9 _ h⟩
theorem ab_eqR {K : PySem.W.Frag} : Ab2 K (rEqD K) aEqR := fun H M x y dx dy Q Q' rx ry hv ⟨e0, p, q⟩ k => by
  subst e0
  obtain ⟨d, e, h1, h2, h3, h4, h5⟩ := aEqR_ok rx ry p
  exact ⟨d, e, h1, h2, h3, h4, by rw [h5]; exact k _ _ _ _ (Tp.refl H) rep_bl hv q⟩
theorem ab_neR {K : PySem.W.Frag} : Ab2 K (rNeD K) aNeR := fun H M x y dx dy Q Q' rx ry hv ⟨e0, p, q⟩ k => by
  subst e0
  obtain ⟨d, e, h1, h2, h3, h4, h5⟩ := aEqR_ok rx ry p
  exact ⟨d, e, h1, h2, h3, h4, by rw [h5]; exact k _ _ _ _ (Tp.refl H) rep_bl hv q⟩
section
variable {X : Cx} {a b : Expr} {ta tb : RE} {pos : Pos}
theorem ae_eqR (hu : X.A.units + 64 < cLine) (ha : AE X a ta) (hb : AE X b tb) : AE X (.Compare a [.Eq] [b] pos) (aOp aEqR ta tb) := ae_cmp (op_eqD hu) ab_eqR ha hb (nomark _)
theorem ae_neR (hu : X.A.units + 64 < cLine) (ha : AE X a ta) (hb : AE X b tb) : AE X (.Compare a [.NotEq] [b] pos) (aOp aNeR ta tb) := ae_cmp (op_neD hu) ab_neR ha hb (nomark _)
theorem at_eqR (hu : X.A.units + 64 < cLine) (ha : AE X a ta) (hb : AE X b tb) : AT X (.Compare a [.Eq] [b] pos) (aB (aOp aEqR ta tb)) := at_cmp (op_eqD hu) ab_eqR ha hb (nomark _)
theorem at_neR (hu : X.A.units + 64 < cLine) (ha : AE X a ta) (hb : AE X b tb) : AT X (.Compare a [.NotEq] [b] pos) (aB (aOp aNeR ta tb)) := at_cmp (op_neD hu) ab_neR ha hb (nomark _)
end
end HC
set_option maxHeartbeats 4000000
namespace HC
open PySem PySem.Spec L2 PyProof.Rows HT
theorem plb_bools (bs : List Bool) : ∀ d ∈ bs.map Dv.bl, PlB 8 d := fun d hd => by
  obtain ⟨b, _, rfl⟩ := List.mem_map.mp hd
  trivial
theorem py_bools (bs : List Bool) : (bs.map Dv.bl).map (pyB 8) = bs.map PyData.bool := by
  rw [List.map_map]
  rfl
theorem eqv_bool (a b : Bool) : PyData.eqv (.bool a) (.bool b) = (a == b) := by
  cases a <;> cases b <;> simp [PyData.eqv]
theorem count_bools (b : Bool) : ∀ bs : List Bool, (bs.map PyData.bool).countP (fun z => PyData.eqv z (.bool b)) = bs.count b
  | [] => rfl
  | a :: bs => by
    rw [List.map_cons, List.countP_cons, count_bools b bs, List.count_cons, eqv_bool]
def aCntB (to : RE) (b : Bool) : RE := fun ρ M Q => to ρ M fun x M1 => tyM "list" x M1 ∧ ∃ bs : List Bool, itemsA x M1 = some (bs.map Dv.bl) ∧ Q (.int (bs.count b : Nat)) M1
def aIdxB (to : RE) (b : Bool) : RE := fun ρ M Q => to ρ M fun x M1 => tyM "list" x M1 ∧ ∃ bs : List Bool, itemsA x M1 = some (bs.map Dv.bl) ∧ b ∈ bs ∧ Q (.int (bs.idxOf b : Nat)) M1
section
variable {X : Cx} {o : Expr} {to : RE} {apos cpos p : Pos} {j : Nat} {b : Bool}
theorem ae_countB (hu : X.A.units + 64 < cLine) (ho : AE X o to) (hline : (apos.endLine == cpos.line) = true := by rfl) (hbase : attributeBase o "count" X.env (eval o X.env) = eval o X.env := by rfl)
    (hfew : ((backTo cpos (starEach [.Constant (.bool b) j p] X.env)).all (fun x => !x.1) && (backToKw cpos (keywordEach [] X.env)).all (fun x => x.1.isSome)
      && decide (([.Constant (.bool b) j p] : List Expr).length + ([] : List Keyword).length + (if ([] : List Keyword).isEmpty then 0 else 1) < 30)) = true := by rfl)
    (hs : starEach [.Constant (.bool b) j p] X.env = (false, eval (.Constant (.bool b) j p) X.env) :: starEach [] X.env := by rfl) (hplain : (backTo cpos (starEach [] X.env)).any (·.1) = false := by rfl) :
    AE X (.Call (.Attribute o "count" apos) [.Constant (.bool b) j p] [] cpos) (aCntB to b) :=
  pe_imp (pe_bm PySem.F.plainAttrs_list PySem.F.slot_list_count PySem.F.type_list_count (mt_cntL hu) ho (aa_cons (e := .Constant (.bool b) j p) ae_bl aa_nil (hs := hs)) hbase hfew hline hs hplain) fun σ H Q' ⟨ρ, M, Q, hr, hv, q, k⟩ =>
    seqE hr hv q fun v H1 d M1 t1 r1 v1 ⟨ht, bs, hi, q1⟩ => ⟨tyM_ok r1 v1 ht, seqA (t := aCons (aC (.bl b)) aNil) (hr.mono t1) v1 (Q := fun ds M2 => ds = [.bl b] ∧ M2 = M1) ⟨rfl, rfl⟩ fun vs H2 ds M2 t2 r2 v2 ⟨e1, e2⟩ => by
      subst e1
      subst e2
      obtain ⟨u, eu, ry⟩ := reps1 r2
      obtain ⟨a, ws, e1, s, z⟩ := lstA_ok (r1.mono t2) v2 (lst_of_tyM hi ht)
      refine ⟨a, ws, u, .bool b, (bs.map Dv.bl).map (pyB 8), e1, eu, s, dpAllB_of (dpB_of 8) (plb_bools bs) z, dpB_of 8 (.bl b) u trivial ry, canLayAll_of (fun d hd => canLay_plb 8 d (plb_bools bs d hd)), canLay_plb 8 (.bl b) trivial, by simp [PyData.depth], ?_⟩
      rw [py_bools, count_bools]
      exact k _ _ _ _ (t1.trans t2) rep_int v2 q1⟩
theorem ae_indexB (hu : X.A.units + 64 < cLine) (ho : AE X o to) (hline : (apos.endLine == cpos.line) = true := by rfl) (hbase : attributeBase o "index" X.env (eval o X.env) = eval o X.env := by rfl)
    (hfew : ((backTo cpos (starEach [.Constant (.bool b) j p] X.env)).all (fun x => !x.1) && (backToKw cpos (keywordEach [] X.env)).all (fun x => x.1.isSome)
      && decide (([.Constant (.bool b) j p] : List Expr).length + ([] : List Keyword).length + (if ([] : List Keyword).isEmpty then 0 else 1) < 30)) = true := by rfl)
    (hs : starEach [.Constant (.bool b) j p] X.env = (false, eval (.Constant (.bool b) j p) X.env) :: starEach [] X.env := by rfl) (hplain : (backTo cpos (starEach [] X.env)).any (·.1) = false := by rfl) :
    AE X (.Call (.Attribute o "index" apos) [.Constant (.bool b) j p] [] cpos) (aIdxB to b) :=
  pe_imp (pe_bm PySem.F.plainAttrs_list PySem.F.slot_list_index PySem.F.type_list_index (mt_idxL hu) ho (aa_cons (e := .Constant (.bool b) j p) ae_bl aa_nil (hs := hs)) hbase hfew hline hs hplain) fun σ H Q' ⟨ρ, M, Q, hr, hv, q, k⟩ =>
    seqE hr hv q fun v H1 d M1 t1 r1 v1 ⟨ht, bs, hi, hm, q1⟩ => ⟨tyM_ok r1 v1 ht, seqA (t := aCons (aC (.bl b)) aNil) (hr.mono t1) v1 (Q := fun ds M2 => ds = [.bl b] ∧ M2 = M1) ⟨rfl, rfl⟩ fun vs H2 ds M2 t2 r2 v2 ⟨e1, e2⟩ => by
      subst e1
      subst e2
      obtain ⟨u, eu, ry⟩ := reps1 r2
      obtain ⟨a, ws, e1, s, z⟩ := lstA_ok (r1.mono t2) v2 (lst_of_tyM hi ht)
      have hlt : bs.idxOf b < bs.length := List.idxOf_lt_length_of_mem hm
      have eq : ∀ m, (hm : m < bs.length) → ((bs.map Dv.bl).map (pyB 8))[m]? = some (.bool bs[m]) := fun m hm => by
        rw [py_bools, List.getElem?_map, List.getElem?_eq_getElem hm]
        rfl
      refine ⟨a, ws, u, .bool b, (bs.map Dv.bl).map (pyB 8), bs.idxOf b, e1, eu, s, dpAllB_of (dpB_of 8) (plb_bools bs) z, dpB_of 8 (.bl b) u trivial ry, canLayAll_of (fun d hd => canLay_plb 8 d (plb_bools bs d hd)), canLay_plb 8 (.bl b) trivial, by simp [PyData.depth], ⟨_, eq _ hlt, ?_⟩, fun m hmj z hz => ?_, k _ _ _ _ (t1.trans t2) rep_int v2 q1⟩
      · rw [eqv_bool, List.getElem_idxOf hlt]
        simp
      · have hml := Nat.lt_trans hmj hlt
        rw [eq m hml] at hz
        cases hz
        rw [eqv_bool]
        have := List.not_of_lt_findIdx (p := fun x => x == b) (xs := bs) (i := m) hmj
        simpa using this⟩
end
def unB (xs : List Dv) : List Bool := xs.map fun | .bl b => b | _ => false
theorem bools_of {x : Dv} {M : Ms} {xs : List Dv} {P : List Bool → Prop} (h : itemsA x M = some xs) (e : (unB xs).map Dv.bl = xs) (p : P (unB xs)) : ∃ bs, itemsA x M = some (bs.map Dv.bl) ∧ P bs := ⟨unB xs, by rw [e]; exact h, p⟩
end HC
set_option maxHeartbeats 1000000
namespace HC
open PySem L2 PyProof.Rows
def strI (i : Int) : Str := toString i
def acStr : ARC := fun ds M Q => match ds with | [.int i] => i.natAbs.log2 < 1920 ∧ Q (.str (strI i)) M | _ => False
theorem abc_str {K : PySem.W.Frag} : AbC K (fun xs H Q => ∃ i, xs = [.int i] ∧ i.natAbs.log2 < 1920 ∧ Q (.str (toString i)) H) acStr := by
  intro H M vs ds Q Q' r hv q k
  match ds, q with
  | [.int i], q =>
    obtain ⟨v, e, rd⟩ := reps1 r
    exact ⟨i, by rw [e, rep_int_inv rd], q.1, k _ _ _ _ (Tp.refl H) rep_str hv q.2⟩
theorem log_small {i : Int} (h : i.natAbs < 2 ^ 64) : i.natAbs.log2 < 1920 := by
  by_cases z : i.natAbs = 0
  · rw [z]; decide
  · exact Nat.lt_trans ((Nat.log2_lt z).mpr h) (by decide)
theorem strI_len {i : Int} (h : i.natAbs.log2 < 1920) : (strI i).length ≤ 1921 := PyProof.Rows.int_text_len_1921 h
theorem lay_asc {x : Str} (h : PySem.W.KSb.Asc x) : PyData.canLay0 (.str x) = true := by
  show x.cps.all (· < 0x110000) = true
  rw [Array.all_eq_true]
  intro i hi
  have := h x.cps[i] (Array.mem_toList_iff.mpr (Array.getElem_mem hi))
  exact decide_eq_true (by omega)
theorem asc_lost (i : Int) : PySem.W.KSb.Asc (("Lost " : Str) ++ strI i) := PySem.W.KSb.asc_app (PySem.W.KSb.asc_of (by decide +kernel)) (PySem.W.KSb.asc_num i)
end HC
namespace Law
open PySem L2 HC PyProof.Rows
abbrev kS (x : Str) : Key := .inr x
def boxQ (ns : List Nat) (a : Nat) : Cell := .lst [.rol (ns.map fun n => dn n), dn a]
structure DPot (p q : Addr) (M : Ms) : Prop where
  e : q = p
  d : ∃ (ns : List Nat) (a : Nat), M p = some (boxQ ns a) ∧ ns ≠ [] ∧ ns.length ≤ 1000000 ∧ ∀ x ∈ ns, x < 400000000
def But (p q : Addr) (M M' : Ms) : Prop := ∀ a c, a ≠ p → a ≠ q → M a = some c → M' a = some c
theorem But.p {p q : Addr} {M M1 : Ms} {c : Cell} (h : But p q M M1) : But p q M (mup M1 p c) := fun a d h1 h2 e => by rw [mup_ne h1]; exact h a d h1 h2 e
theorem But.new {p q r : Addr} {M M1 : Ms} {c : Cell} (h : But p q M M1) (hr : M1 r = none) : But p q M (mup M1 r c) := fun a d h1 h2 e => Sub.new hr a d (h a d h1 h2 e)
theorem But.refl (p q : Addr) (M : Ms) : But p q M M := fun _ _ _ _ e => e
theorem But.trans {p q : Addr} {M M1 M2 : Ms} (h : But p q M M1) (k : But p q M1 M2) : But p q M M2 := fun a d h1 h2 e => k a d h1 h2 (h a d h1 h2 e)
theorem But.sub {p q : Addr} {M M1 M2 : Ms} (h : But p q M M1) (k : Sub M1 M2) : But p q M M2 := fun a d h1 h2 e => k a d (h a d h1 h2 e)
theorem DPot.sub {p q : Addr} {M M1 : Ms} (h : DPot p q M) (k : Sub M M1) : DPot p q M1 := by
  obtain ⟨e, c, a, hp, b⟩ := h
  exact ⟨e, c, a, k _ _ hp, b⟩
theorem DPot.set {p q : Addr} {M : Ms} {ns : List Nat} {a : Nat} (h : q = p) (h0 : ns ≠ []) (hl : ns.length ≤ 1000000) (hb : ∀ x ∈ ns, x < 400000000) : DPot p q (mup M p (boxQ ns a)) := ⟨h, ns, a, mup_same, h0, hl, hb⟩
theorem DPot.nep {p q r : Addr} {M : Ms} (h : DPot p q M) (hr : M r = none) : r ≠ p := by
  obtain ⟨_, _, _, hp, _⟩ := h
  exact (ne_of_new hp hr).symm
theorem DPot.neq {p q r : Addr} {M : Ms} (h : DPot p q M) (hr : M r = none) : r ≠ q := by
  rw [h.e]; exact h.nep hr
theorem DPot.del {p q r : Addr} {M : Ms} (h : DPot p q M) (h1 : r ≠ p) (h2 : r ≠ q) : DPot p q (mdel M r) := by
  obtain ⟨e, c, a, hp, b⟩ := h
  exact ⟨e, c, a, by rw [mdel_ne h1.symm]; exact hp, b⟩
theorem But.del {p q r : Addr} {M M1 : Ms} (h : But p q M M1) (hr : M r = none) : But p q M (mdel M1 r) := fun a d h1 h2 e => by rw [mdel_ne (ne_of_new e hr)]; exact h a d h1 h2 e
theorem But.at {p q r : Addr} {M M1 : Ms} {c : Cell} (h : But p q M M1) (h1 : r ≠ p) (h2 : r ≠ q) (e : M r = some c) : M1 r = some c := h r c h1 h2 e
theorem DPot.put {p q r : Addr} {M : Ms} {c : Cell} (h : DPot p q M) (h1 : r ≠ p) (h2 : r ≠ q) : DPot p q (mup M r c) := by
  obtain ⟨e, cs, a, hp, b⟩ := h
  exact ⟨e, cs, a, by rw [mup_ne h1.symm]; exact hp, b⟩
theorem But.mdel2 {p q r : Addr} {M M1 : Ms} (h : But p q M M1) : But p q (mdel M r) (mdel M1 r) := fun a d h1 h2 e => by
  by_cases ha : a = r
  · subst ha; rw [mdel_same] at e; cases e
  · rw [mdel_ne ha] at e ⊢; exact h a d h1 h2 e
theorem But.put {p q r : Addr} {M M1 : Ms} {c : Cell} (h : But p q M M1) (hr : M r = none) : But p q M (mup M1 r c) := fun a d h1 h2 e => by rw [mup_ne (ne_of_new e hr)]; exact h a d h1 h2 e
theorem but_free {p q u : Addr} {M M1 : Ms} (h : But p q M M1) (h1 : u ≠ p) (h2 : u ≠ q) (hu : M1 u = none) : M u = none := by
  cases e : M u with
  | none => rfl
  | some c => rw [h u c h1 h2 e] at hu; cases hu
end Law
namespace Law
open PySem L2 HC PyProof.Rows
def Pn : Nat → Dv → Prop
  | _, .non => True
  | _, .bl _ => True
  | _, .int _ => True
  | _, .str x => PyData.canLay0 (.str x) = true
  | n + 1, .tup xs => xs.length ≤ sizeLine ∧ ∀ d ∈ xs, Pn n d
  | n + 1, .rol xs => xs.length ≤ sizeLine ∧ ∀ d ∈ xs, Pn n d
  | _, _ => False
theorem Pn.up : ∀ {n : Nat} {d : Dv}, Pn n d → Pn (n + 1) d
  | 0, .non, _ => trivial
  | 0, .bl _, _ => trivial
  | 0, .int _, _ => trivial
  | 0, .str _, h => h
  | n + 1, .non, _ => trivial
  | n + 1, .bl _, _ => trivial
  | n + 1, .int _, _ => trivial
  | n + 1, .str _, h => h
  | n + 1, .tup xs, h => ⟨h.1, fun d hd => Pn.up (h.2 d hd)⟩
  | n + 1, .rol xs, h => ⟨h.1, fun d hd => Pn.up (h.2 d hd)⟩
def wholeB : Dv → Bool
  | .int _ => true
  | _ => false
def betwB (d : Dv) (lo hi : Int) : Bool := match d with
  | .int i => decide (lo ≤ i) && decide (i ≤ hi)
  | _ => false
def blockB (d : Dv) (size : Int) : Bool := match d with
  | .tup xs => decide ((xs.length : Int) = size) && xs.all fun x => betwB x 0 255
  | _ => false
def diskB (d : Dv) (size rows : Int) : Bool := match d with
  | .non => true
  | .tup xs => decide ((xs.length : Int) = rows) && xs.all fun x => isNon x || blockB x size
  | _ => false
def widthsB (w m : Dv) (par rows many : Int) : Bool := match w, m with
  | .int w, .int m => (decide (par + 1 ≤ w) && decide (w ≤ 10)) && (if many = w then decide (m = 0) else decide (many = w + 1) && (decide (many ≤ 10) && (decide (0 ≤ m) && decide (m < rows))))
  | _, _ => false
def natB (d : Dv) : Bool := match d with
  | .int i => decide (0 ≤ i)
  | _ => false
def headB (d : Dv) (many : Int) : Bool := match d with
  | .tup [a, b, c, w, m, f] => betwB a 1 2 && (betwB b 1 16 && (betwB c 1 24 && (natB f && (match a, c with
    | .int p, .int r => widthsB w m p r many
    | _, _ => false))))
  | _ => false
def noteB (d : Dv) (at' par size rows many : Int) : Bool := match d with
  | .tup [.str x, a, b, c] => if x = ("end" : Str) then (match a with | .int a => decide (a = at') | _ => false) && widthsB b c par rows many
      else if x = ("block" : Str) then betwB a 0 (many - 1) && (betwB b 0 (rows - 1) && blockB c size) else false
  | _ => false
def isBlk (d : Dv) : Bool := match d with
  | .tup (.str x :: _) => decide (x = ("block" : Str))
  | _ => false
def journalB (d : Dv) (par size rows many : Int) : Bool := match d with
  | .tup xs => ((List.range xs.length).all fun (i : Nat) => noteB (xs.getD i .non) i par size rows many) && (xs.take (xs.length - 1)).all isBlk
  | _ => false
def storeB (d : Dv) : Bool := match d with
  | .tup [h, .tup disks, j] => headB h disks.length && (match h with
    | .tup [.int p, .int s, .int r, _, _, _] => (disks.all fun x => diskB x s r) && journalB j p s r disks.length
    | _ => false)
  | _ => false
theorem betwB_int {d : Dv} {lo hi : Int} (h : betwB d lo hi = true) : ∃ i, d = .int i ∧ lo ≤ i ∧ i ≤ hi := by
  cases d <;> first | cases h | skip
  simp only [betwB, Bool.and_eq_true, decide_eq_true_eq] at h
  exact ⟨_, rfl, h⟩
theorem headB_shape {d : Dv} {many : Int} (h : headB d many = true) : ∃ p s r w m f, d = .tup [.int p, .int s, .int r, w, m, .int f] := by
  unfold headB at h
  split at h
  · next a b c w m f =>
    simp only [Bool.and_eq_true] at h
    obtain ⟨h1, h2, h3, h4, _⟩ := h
    obtain ⟨p, rfl, _⟩ := betwB_int h1
    obtain ⟨s, rfl, _⟩ := betwB_int h2
    obtain ⟨r, rfl, _⟩ := betwB_int h3
    cases f <;> first | cases h4 | skip
    exact ⟨_, _, _, _, _, _, rfl⟩
  · cases h
theorem headB_len {xs : List Dv} {many : Int} (h : ¬ xs.length = 6) : headB (.tup xs) many = false := by
  unfold headB
  split
  · next e => cases e; exact absurd rfl h
  · rfl
theorem noteB_len {xs : List Dv} {a p s r m : Int} (h : ¬ xs.length = 4) : noteB (.tup xs) a p s r m = false := by
  unfold noteB
  split
  · next e => cases e; exact absurd rfl h
  · rfl
theorem noteB_str {d a b c : Dv} {a' p s r m : Int} (h : ∀ x, d ≠ .str x) : noteB (.tup [d, a, b, c]) a' p s r m = false := by
  cases d <;> first | rfl | exact absurd rfl (h _)
theorem noteB_shape {d : Dv} {a' p s r m : Int} (h : noteB d a' p s r m = true) : ∃ x a b c, d = .tup [.str x, a, b, c] := by
  unfold noteB at h
  split at h
  · exact ⟨_, _, _, _, rfl⟩
  · cases h
theorem storeB_len {xs : List Dv} (h : ¬ xs.length = 3) : storeB (.tup xs) = false := by
  unfold storeB
  split
  · next e => cases e; exact absurd rfl h
  · rfl
theorem storeB_mid {a b c : Dv} (h : ∀ xs, b ≠ .tup xs) : storeB (.tup [a, b, c]) = false := by
  cases b <;> first | rfl | exact absurd rfl (h _)
theorem cut_last (xs : List Dv) : cutA xs none (some (-1)) = xs.take (xs.length - 1) := by
  have e : HT.sIx xs.length xs.length (some (-1)) = xs.length - 1 := by
    show (if (-1 : Int) < 0 then ((-1 : Int) + (xs.length : Int)).toNat else min (-1 : Int).toNat xs.length) = _
    rw [if_pos (by decide)]
    omega
  unfold cutA
  rw [e]
  show (xs.drop 0).take (xs.length - 1 - 0) = _
  rfl
abbrev Blk := List Nat
structure Head where
  par : Nat
  size : Nat
  rows : Nat
  width : Nat
  moved : Nat
  spares : Nat
def Head.d (h : Head) : Dv := .tup [dn h.par, dn h.size, dn h.rows, dn h.width, dn h.moved, dn h.spares]
structure Head.Ok (h : Head) (many : Nat) : Prop where
  par1 : 1 ≤ h.par
  par2 : h.par ≤ 2
  size1 : 1 ≤ h.size
  size2 : h.size ≤ 16
  rows1 : 1 ≤ h.rows
  rows2 : h.rows ≤ 24
  width1 : h.par + 1 ≤ h.width
  width2 : h.width ≤ 10
  many : (many = h.width ∧ h.moved = 0) ∨ (many = h.width + 1 ∧ many ≤ 10 ∧ h.moved < h.rows)
  sp : h.spares ≤ 1000000
theorem headOk {par size rows width moved spares many : Nat} (h1 : 1 ≤ par) (h2 : par ≤ 2) (h3 : 1 ≤ size) (h4 : size ≤ 16) (h5 : 1 ≤ rows) (h6 : rows ≤ 24) (h7 : par + 1 ≤ width) (h8 : width ≤ 10)
    (h9 : (many = width ∧ moved = 0) ∨ (many = width + 1 ∧ many ≤ 10 ∧ moved < rows)) (h10 : spares ≤ 1000000) : (⟨par, size, rows, width, moved, spares⟩ : Head).Ok many := ⟨h1, h2, h3, h4, h5, h6, h7, h8, h9, h10⟩
def bD (b : Blk) : Dv := .tup (b.map fun n => dn n)
def oD : Option Blk → Dv
  | none => .non
  | some b => bD b
abbrev Disk := Option (List (Option Blk))
def kD : Disk → Dv
  | none => .non
  | some bs => .tup (bs.map oD)
inductive Note where
  | block (disk row : Nat) (b : Blk)
  | fin (many width moved : Nat)
def nD : Note → Dv
  | .block disk row b => .tup [.str ("block" : Str), dn disk, dn row, bD b]
  | .fin many width moved => .tup [.str ("end" : Str), dn many, dn width, dn moved]
structure Store where
  head : Head
  disks : List Disk
  journal : List Note
def Store.d (s : Store) : Dv := .tup [s.head.d, .tup (s.disks.map kD), .tup (s.journal.map nD)]
def BlkOk' (b : Blk) (size : Nat) : Prop := b.length = size ∧ ∀ x ∈ b, x < 256
def DiskOk (k : Disk) (size rows : Nat) : Prop := ∀ bs, k = some bs → bs.length = rows ∧ ∀ o ∈ bs, ∀ b, o = some b → BlkOk' b size
def WidthsOk (w m par rows many : Nat) : Prop := par + 1 ≤ w ∧ w ≤ 10 ∧ ((many = w ∧ m = 0) ∨ (many = w + 1 ∧ many ≤ 10 ∧ m < rows))
def NoteOk (h : Head) (many : Nat) (i : Nat) (last : Bool) : Note → Prop
  | .block disk row b => disk < many ∧ row < h.rows ∧ BlkOk' b h.size
  | .fin k w m => last = true ∧ k = i ∧ WidthsOk w m h.par h.rows many
structure Store.Ok (s : Store) : Prop where
  head : s.head.Ok s.disks.length
  disks : ∀ k ∈ s.disks, DiskOk k s.head.size s.head.rows
  journal : ∀ i n, s.journal[i]? = some n → NoteOk s.head s.disks.length i (decide (i + 1 = s.journal.length)) n
theorem blockB_ok {b : Blk} {size : Nat} (h : BlkOk' b size) : blockB (bD b) size = true := by
  unfold blockB bD
  simp only [List.length_map, h.1, decide_true, Bool.true_and, List.all_map, List.all_eq_true]
  intro x hx
  have := h.2 x hx
  simp [betwB]
  omega
theorem diskB_ok {k : Disk} {size rows : Nat} (h : DiskOk k size rows) : diskB (kD k) size rows = true := by
  cases k with
  | none => rfl
  | some bs =>
    obtain ⟨h1, h2⟩ := h bs rfl
    simp only [kD, diskB, List.length_map, h1, decide_true, Bool.true_and, List.all_map, List.all_eq_true]
    intro o ho
    cases o with
    | none => rfl
    | some b =>
      have := blockB_ok (h2 _ ho b rfl)
      simp only [Function.comp, oD, this, Bool.or_true]
theorem widthsB_ok {w m par rows many : Nat} (h : WidthsOk w m par rows many) : widthsB (dn w) (dn m) par rows many = true := by
  obtain ⟨h1, h2, h3⟩ := h
  unfold widthsB
  simp only [dn, Bool.and_eq_true, decide_eq_true_eq]
  refine ⟨⟨by omega, by omega⟩, ?_⟩
  rcases h3 with ⟨e, e2⟩ | ⟨e, e2, e3⟩
  · rw [if_pos (by omega)]
    simp [e2]
  · rw [if_neg (by omega)]
    simp only [Bool.and_eq_true, decide_eq_true_eq]
    omega
theorem headB_ok {h : Head} {many : Nat} (k : h.Ok many) : headB h.d many = true := by
  obtain ⟨h1, h2, h3, h4, h5, h6, h7, h8, h9, h10⟩ := k
  have hw : widthsB (dn h.width) (dn h.moved) h.par h.rows many = true := widthsB_ok ⟨h7, h8, h9⟩
  simp only [dn] at hw
  simp only [headB, Head.d, dn, hw, betwB, natB, Bool.and_eq_true, decide_eq_true_eq, and_true]
  omega
theorem noteB_ok {h : Head} {many i : Nat} {last : Bool} {n : Note} (k : NoteOk h many i last n) : noteB (nD n) i h.par h.size h.rows many = true := by
  cases n with
  | block disk row b =>
    obtain ⟨h1, h2, h3⟩ := k
    have hb := blockB_ok h3
    have ne : ¬ ("block" : Str) = ("end" : Str) := by decide
    simp only [nD, noteB, if_neg ne, if_pos, hb, betwB, dn, Bool.and_eq_true, decide_eq_true_eq, and_true]
    omega
  | fin kk w m =>
    obtain ⟨h1, h2, h3⟩ := k
    have hw := widthsB_ok h3
    simp only [dn] at hw
    simp only [nD, noteB, if_pos, dn, hw, Bool.and_true, decide_eq_true_eq]
    omega
theorem storeB_ok {s : Store} (h : s.Ok) : storeB s.d = true := by
  have h1 := headB_ok h.head
  have h2 : ∀ k ∈ s.disks, diskB (kD k) s.head.size s.head.rows = true := fun k hk => diskB_ok (h.disks k hk)
  have e : s.d = .tup [.tup [dn s.head.par, dn s.head.size, dn s.head.rows, dn s.head.width, dn s.head.moved, dn s.head.spares], .tup (s.disks.map kD), .tup (s.journal.map nD)] := rfl
  rw [e]
  simp only [storeB, dn, List.length_map, Bool.and_eq_true]
  refine ⟨h1, ?_, ?_⟩
  · simp only [List.all_map, List.all_eq_true]
    exact fun k hk => h2 k hk
  · simp only [journalB, List.length_map, Bool.and_eq_true, List.all_eq_true]
    refine ⟨fun i hi => ?_, fun d hd => ?_⟩
    · have hl : i < s.journal.length := List.mem_range.mp hi
      have := noteB_ok (h.journal i _ (List.getElem?_eq_getElem hl))
      simpa [List.getD, hl] using this
    · obtain ⟨i, hi, e⟩ := List.mem_iff_getElem.mp hd
      simp at hi e
      have hl : i < s.journal.length := by omega
      have k := h.journal i _ (List.getElem?_eq_getElem hl)
      rw [decide_eq_false (by omega)] at k
      subst e
      cases q : s.journal[i] with
      | block disk row b => simp [nD, isBlk]
      | fin kk w m => rw [q] at k; exact absurd k.1 (by decide)
def newS (par size rows width spares : Nat) : Store := ⟨⟨par, size, rows, width, 0, spares⟩, List.replicate width (some (List.replicate rows (some (List.replicate size 0)))), []⟩
def noughtD (size : Nat) : Dv := .tup (List.replicate size (.int 0))
theorem newS_d (par size rows width spares : Nat) : (newS par size rows width spares).d = .tup [.tup [dn par, dn size, dn rows, dn width, .int 0, dn spares], .tup (List.replicate width (.tup (List.replicate rows (noughtD size)))), .tup []] := by
  simp [newS, Store.d, Head.d, kD, oD, bD, noughtD, List.map_replicate, dn]
theorem newS_ok {par size rows width spares : Nat} (h1 : 1 ≤ par) (h2 : par ≤ 2) (h3 : 1 ≤ size) (h4 : size ≤ 16) (h5 : 1 ≤ rows) (h6 : rows ≤ 24) (h7 : par + 1 ≤ width) (h8 : width ≤ 10) (h9 : spares ≤ 1000000) : (newS par size rows width spares).Ok := by
  refine ⟨⟨h1, h2, h3, h4, h5, h6, h7, h8, .inl ⟨by simp [newS], rfl⟩, h9⟩, fun k hk => ?_, fun i n h => by simp [newS] at h⟩
  have e : k = some (List.replicate rows (some (List.replicate size 0))) := (List.mem_replicate.mp hk).2
  subst e
  intro bs e
  cases e
  refine ⟨by simp [newS], fun o ho b e => ?_⟩
  have e2 := (List.mem_replicate.mp ho).2
  rw [e2] at e
  cases e
  exact ⟨by simp [newS], fun x hx => by rw [(List.mem_replicate.mp hx).2]; decide⟩
theorem pl_block (n : Nat) (b : Blk) : Pl (n + 1) (bD b) := by
  intro d hd
  obtain ⟨x, _, rfl⟩ := List.mem_map.mp hd
  cases n <;> trivial
theorem pl_oblock (n : Nat) (b : Option Blk) : Pl (n + 1) (oD b) := by
  cases b with
  | none => trivial
  | some b => exact pl_block n b
theorem pl_disk (n : Nat) (k : Disk) : Pl (n + 2) (kD k) := by
  cases k with
  | none => trivial
  | some bs =>
    intro d hd
    obtain ⟨x, _, rfl⟩ := List.mem_map.mp hd
    exact pl_oblock n x
theorem pl_str {n : Nat} {x : Str} (h : PyData.canLay0 (.str x) = true) : Pl n (.str x) := by cases n <;> exact h
theorem pl_int {n : Nat} {i : Int} : Pl n (.int i) := by cases n <;> trivial
theorem pl_non {n : Nat} : Pl n .non := by cases n <;> trivial
theorem lay_block : PyData.canLay0 (.str ("block" : Str)) = true := by decide +kernel
theorem lay_end : PyData.canLay0 (.str ("end" : Str)) = true := by decide +kernel
theorem pl_note (n : Nat) (k : Note) : Pl (n + 2) (nD k) := by
  cases k with
  | block disk row b =>
    intro d hd
    simp only [nD, List.mem_cons, List.not_mem_nil, or_false] at hd
    rcases hd with rfl | rfl | rfl | rfl
    · exact pl_str lay_block
    · exact pl_int
    · exact pl_int
    · exact pl_block n b
  | fin a b c =>
    intro d hd
    simp only [nD, List.mem_cons, List.not_mem_nil, or_false] at hd
    rcases hd with rfl | rfl | rfl | rfl
    · exact pl_str lay_end
    · exact pl_int
    · exact pl_int
    · exact pl_int
theorem pl_head (n : Nat) (h : Head) : Pl (n + 1) h.d := by
  intro d hd
  simp only [List.mem_cons, List.not_mem_nil, or_false] at hd
  rcases hd with rfl | rfl | rfl | rfl | rfl | rfl <;> exact pl_int
theorem pl_store (n : Nat) (s : Store) : Pl (n + 4) s.d := by
  intro d hd
  simp only [List.mem_cons, List.not_mem_nil, or_false] at hd
  rcases hd with rfl | rfl | rfl
  · exact pl_head _ _
  · intro d hd
    obtain ⟨x, _, rfl⟩ := List.mem_map.mp hd
    exact pl_disk n x
  · intro d hd
    obtain ⟨x, _, rfl⟩ := List.mem_map.mp hd
    exact pl_note n x
structure Store.Fit (s : Store) : Prop where
  disks : s.disks.length ≤ 1000000
  journal : s.journal.length ≤ 1000000
  rows : ∀ k ∈ s.disks, ∀ bs, k = some bs → bs.length ≤ 1000000 ∧ ∀ o ∈ bs, ∀ b, o = some b → b.length ≤ 1000000
  notes : ∀ n ∈ s.journal, ∀ i r b, n = .block i r b → b.length ≤ 1000000
theorem pn_int {n : Nat} {i : Int} : Pn n (.int i) := by cases n <;> trivial
theorem pn_str {n : Nat} {x : Str} (h : PyData.canLay0 (.str x) = true) : Pn n (.str x) := by cases n <;> exact h
theorem pn_block (n : Nat) {b : Blk} (h : b.length ≤ 1000000) : Pn (n + 1) (bD b) := by
  refine ⟨le_line (by simpa using h), fun d hd => ?_⟩
  obtain ⟨x, _, rfl⟩ := List.mem_map.mp hd
  exact pn_int
theorem pn_store {s : Store} (h : s.Fit) : Pn 4 s.d := by
  refine ⟨le_line (by simp), fun d hd => ?_⟩
  simp only [List.mem_cons, List.not_mem_nil, or_false] at hd
  rcases hd with rfl | rfl | rfl
  · refine ⟨le_line (by simp), fun d hd => ?_⟩
    simp only [List.mem_cons, List.not_mem_nil, or_false] at hd
    rcases hd with rfl | rfl | rfl | rfl | rfl | rfl <;> exact pn_int
  · refine ⟨le_line (by simpa using h.disks), fun d hd => ?_⟩
    obtain ⟨k, hk, rfl⟩ := List.mem_map.mp hd
    cases k with
    | none => trivial
    | some bs =>
      obtain ⟨h1, h2⟩ := h.rows _ hk bs rfl
      refine ⟨le_line (by simpa using h1), fun d hd => ?_⟩
      obtain ⟨o, ho, rfl⟩ := List.mem_map.mp hd
      cases o with
      | none => trivial
      | some b => exact pn_block 0 (h2 _ ho b rfl)
  · refine ⟨le_line (by simpa using h.journal), fun d hd => ?_⟩
    obtain ⟨k, hk, rfl⟩ := List.mem_map.mp hd
    cases k with
    | block i r b =>
      refine ⟨le_line (by simp), fun d hd => ?_⟩
      simp only [List.mem_cons, List.not_mem_nil, or_false] at hd
      rcases hd with rfl | rfl | rfl | rfl
      · exact pn_str lay_block
      · exact pn_int
      · exact pn_int
      · exact pn_block 0 (h.notes _ hk i r b rfl)
    | fin a b c =>
      refine ⟨le_line (by simp), fun d hd => ?_⟩
      simp only [List.mem_cons, List.not_mem_nil, or_false] at hd
      rcases hd with rfl | rfl | rfl | rfl
      · exact pn_str lay_end
      · exact pn_int
      · exact pn_int
      · exact pn_int
theorem Store.Ok.fit {s : Store} (h : s.Ok) (hj : s.journal.length ≤ 1000000) : s.Fit := by
  have hh := h.head
  refine ⟨?_, hj, fun k hk bs e => ?_, fun n hn i r b e => ?_⟩
  · have := hh.many
    have := hh.width2
    omega
  · obtain ⟨h1, h2⟩ := h.disks k hk bs e
    refine ⟨?_, fun o ho b e => ?_⟩
    · have := hh.rows2
      omega
    · have := (h2 o ho b e).1
      have := hh.size2
      omega
  · obtain ⟨j, hj, e2⟩ := List.mem_iff_getElem.mp hn
    have := h.journal j n (by rw [List.getElem?_eq_getElem hj, e2])
    rw [e] at this
    have := this.2.2.1
    have := hh.size2
    omega
def Store.wide (s : Store) (row : Nat) : Nat := s.head.width + (if row < s.head.moved then 1 else 0)
def Store.cell (s : Store) (disk row : Nat) : Option Blk := match s.disks.getD disk none with
  | none => none
  | some bs => bs.getD row none
def Store.row (s : Store) (row : Nat) : List (Option Blk) := (List.range (s.wide row)).map fun j => s.cell ((row + j) % s.wide row) row
theorem Store.row_len {s : Store} {row : Nat} : (s.row row).length = s.wide row := by simp [Store.row]
theorem Store.Ok.wide_le {s : Store} (h : s.Ok) (row : Nat) : s.wide row ≤ s.disks.length := by
  have := h.head.many
  unfold Store.wide
  split <;> omega
theorem Store.Ok.wide_pos {s : Store} (h : s.Ok) (row : Nat) : s.head.par < s.wide row := by
  have := h.head.width1
  unfold Store.wide
  omega
theorem Store.Ok.many_le {s : Store} (h : s.Ok) : s.disks.length ≤ 10 := by
  have := h.head.many
  have := h.head.width2
  omega
theorem Store.Ok.wide_ten {s : Store} (h : s.Ok) (row : Nat) : s.wide row ≤ 10 := Nat.le_trans (h.wide_le row) h.many_le
theorem Store.Ok.wide_moved {s : Store} (h : s.Ok) {row : Nat} (hm : row < s.head.moved) : s.disks.length = s.wide row := by
  have := h.head.many
  unfold Store.wide
  rw [if_pos hm]
  omega
theorem disk_at {s : Store} {i : Nat} (h : i < s.disks.length) : (s.disks.map kD)[i]? = some (kD (s.disks.getD i none)) := by
  rw [List.getElem?_map, List.getElem?_eq_getElem h]
  simp [List.getD, h]
theorem Store.Ok.disk {s : Store} (h : s.Ok) {i : Nat} : DiskOk (s.disks.getD i none) s.head.size s.head.rows := by
  by_cases hi : i < s.disks.length
  · have : s.disks.getD i none ∈ s.disks := by
      rw [List.getD_eq_getElem?_getD, List.getElem?_eq_getElem hi]
      exact List.getElem_mem hi
    exact h.disks _ this
  · rw [List.getD_eq_getElem?_getD, List.getElem?_eq_none (by omega)]
    exact fun bs e => nomatch e
theorem cell_lost {s : Store} {i row : Nat} (h : s.disks.getD i none = none) : s.cell i row = none := by
  unfold Store.cell; rw [h]
theorem cell_there {s : Store} {i row : Nat} {bs : List (Option Blk)} (h : s.disks.getD i none = some bs) : s.cell i row = bs.getD row none := by
  unfold Store.cell; rw [h]
theorem block_at' {bs : List (Option Blk)} {row : Nat} (h : row < bs.length) : (bs.map oD)[row]? = some (oD (bs.getD row none)) := by
  rw [List.getElem?_map, List.getElem?_eq_getElem h]
  simp [List.getD, h]
def Store.kept (s : Store) : Nat := s.head.rows * (s.head.width - s.head.par)
end Law
namespace Law
open PySem L2 HC PyProof.Rows
def kinds : List Str := ["NoPlace", "Halfway", "Lost", "Untold", "Gone", "There", "NoSpare", "Growing", "NotGrowing", "TooFew", "NoStore", "NoText"]
def kindOf (c : Str) : Nat := kinds.idxOf c
def onlyD (k : Nat) : Dv := .rol ((List.range 12).map (fun i => .bl (decide (i = k))) ++ [.bl true])
theorem kind_NoPlace : kindOf ("NoPlace" : Str) = 0 := by decide +kernel
theorem kind_Halfway : kindOf ("Halfway" : Str) = 1 := by decide +kernel
theorem kind_Lost : kindOf ("Lost" : Str) = 2 := by decide +kernel
theorem kind_Untold : kindOf ("Untold" : Str) = 3 := by decide +kernel
theorem kind_Gone : kindOf ("Gone" : Str) = 4 := by decide +kernel
theorem kind_There : kindOf ("There" : Str) = 5 := by decide +kernel
theorem kind_NoSpare : kindOf ("NoSpare" : Str) = 6 := by decide +kernel
theorem kind_Growing : kindOf ("Growing" : Str) = 7 := by decide +kernel
theorem kind_NotGrowing : kindOf ("NotGrowing" : Str) = 8 := by decide +kernel
theorem kind_TooFew : kindOf ("TooFew" : Str) = 9 := by decide +kernel
theorem kind_NoStore : kindOf ("NoStore" : Str) = 10 := by decide +kernel
theorem kind_NoText : kindOf ("NoText" : Str) = 11 := by decide +kernel
theorem plb_only (n k : Nat) : PlB (n + 1) (onlyD k) := fun d hd => by
  rcases List.mem_append.mp hd with h | h
  · obtain ⟨i, _, rfl⟩ := List.mem_map.mp h
    cases n <;> trivial
  · rw [List.mem_singleton.mp h]
    cases n <;> trivial
theorem plb_told {d e : Dv} (h1 : PlB 8 d) (h2 : PlB 8 e) : PlB 9 (.tup [d, e]) := fun x hx => by
  simp only [List.mem_cons, List.not_mem_nil, or_false] at hx
  rcases hx with rfl | rfl
  · exact h1
  · exact h2
theorem plb_none : PlB 9 (.tup [.rol [], .non]) := plb_told (fun _ h => by cases h) trivial
theorem plb_kind (k : Nat) : PlB 9 (.tup [onlyD k, .non]) := plb_told (plb_only 7 k) trivial
theorem plb_row (k r : Nat) : PlB 9 (.tup [onlyD k, dn r]) := plb_told (plb_only 7 k) trivial
end Law
namespace Law
open PySem L2 HC PyProof.Rows
def pnB : Nat → Dv → Bool
  | _, .non => true
  | _, .bl _ => true
  | _, .int _ => true
  | _, .str x => PyData.canLay0 (.str x)
  | n + 1, .tup xs => decide (xs.length ≤ 1000) && xs.all (pnB n)
  | n + 1, .rol xs => decide (xs.length ≤ 1000) && xs.all (pnB n)
  | _, _ => false
theorem pnB_ok : ∀ {n : Nat} {d : Dv}, pnB n d = true → Pn n d
  | 0, .non, _ => trivial
  | 0, .bl _, _ => trivial
  | 0, .int _, _ => trivial
  | 0, .str x, h => h
  | n + 1, .non, _ => trivial
  | n + 1, .bl _, _ => trivial
  | n + 1, .int _, _ => trivial
  | n + 1, .str x, h => h
  | n + 1, .tup xs, h => by
    simp only [pnB, Bool.and_eq_true, decide_eq_true_eq, List.all_eq_true] at h
    exact ⟨le_line (by omega), fun d hd => pnB_ok (h.2 d hd)⟩
  | n + 1, .rol xs, h => by
    simp only [pnB, Bool.and_eq_true, decide_eq_true_eq, List.all_eq_true] at h
    exact ⟨le_line (by omega), fun d hd => pnB_ok (h.2 d hd)⟩
theorem pn_tup {n : Nat} {xs : List Dv} (hl : xs.length ≤ 1000000) (h : ∀ d ∈ xs, Pn n d) : Pn (n + 1) (.tup xs) := ⟨le_line hl, h⟩
theorem pn_rol {n : Nat} {xs : List Dv} (hl : xs.length ≤ 1000000) (h : ∀ d ∈ xs, Pn n d) : Pn (n + 1) (.rol xs) := ⟨le_line hl, h⟩
theorem Pn.le {n : Nat} {d : Dv} (h : Pn n d) : ∀ k, Pn (n + k) d
  | 0 => h
  | k + 1 => Pn.up (Pn.le h k)
theorem pn_set {n : Nat} {xs : List Dv} {i : Nat} {d : Dv} (h : Pn (n + 1) (.tup xs)) (hd : Pn n d) : Pn (n + 1) (.tup (xs.set i d)) := ⟨by rw [List.length_set]; exact h.1, fun e he => by
  rcases List.mem_or_eq_of_mem_set he with q | q
  · exact h.2 e q
  · rw [q]; exact hd⟩
theorem nr_tup {xs : List Dv} (a : Addr) : Dv.tup xs ≠ .ref a := fun e => Dv.noConfusion e
theorem nr_rol {xs : List Dv} (a : Addr) : Dv.rol xs ≠ .ref a := fun e => Dv.noConfusion e
theorem nr_non (a : Addr) : Dv.non ≠ .ref a := fun e => Dv.noConfusion e
theorem nr_int {i : Int} (a : Addr) : Dv.int i ≠ .ref a := fun e => Dv.noConfusion e
theorem nr_str {i : Str} (a : Addr) : Dv.str i ≠ .ref a := fun e => Dv.noConfusion e
theorem nr_bl {i : Bool} (a : Addr) : Dv.bl i ≠ .ref a := fun e => Dv.noConfusion e
theorem le_k {n m : Nat} (h : Nat.ble n m = true) : n ≤ m := Nat.le_of_ble_eq_true h
structure BigOk (s : Store) : Prop where
  ok : s.Ok
  len : s.journal.length ≤ 10
  rows : 2 ≤ s.head.rows
  width : s.head.par + 2 ≤ s.head.width
  first : ∃ bs : List Blk, s.disks.getD 0 none = some (bs.map some) ∧ bs.length = s.head.rows ∧ ∀ b ∈ bs, BlkOk' b s.head.size
end Law
namespace Law
open PySem L2 HC PyProof.Rows
inductive Chg where
  | note (n : Note)
  | block (d r : Nat) (b : Blk)
  | spoil (d r : Nat) (b : Blk)
  | head (w m : Nat)
  | clear
  | add
  | lose (d : Nat)
  | bad (d r : Nat)
  | spare (d : Nat)
def cD : Chg → Dv
  | .note n => .tup [.str ("note" : Str), nD n]
  | .block d r b => .tup [.str ("block" : Str), dn d, dn r, bD b]
  | .spoil d r b => .tup [.str ("spoil" : Str), dn d, dn r, bD b]
  | .head w m => .tup [.str ("head" : Str), dn w, dn m]
  | .clear => .tup [.str ("clear" : Str)]
  | .add => .tup [.str ("add" : Str)]
  | .lose d => .tup [.str ("lose" : Str), dn d]
  | .bad d r => .tup [.str ("bad" : Str), dn d, dn r]
  | .spare d => .tup [.str ("spare" : Str), dn d]
def freshK (h : Head) : Disk := some (List.replicate h.rows none)
def lessH (h : Head) : Head := ⟨h.par, h.size, h.rows, h.width, h.moved, h.spares - 1⟩
def Store.setCell (s : Store) (d r : Nat) (o : Option Blk) : Store := match s.disks.getD d none with
  | none => s
  | some bs => ⟨s.head, s.disks.set d (some (bs.set r o)), s.journal⟩
def applyC (s : Store) : Chg → Store
  | .note n => ⟨s.head, s.disks, s.journal ++ [n]⟩
  | .block d r b => s.setCell d r (some b)
  | .spoil d r b => s.setCell d r (some b)
  | .head w m => ⟨⟨s.head.par, s.head.size, s.head.rows, w, m, s.head.spares⟩, s.disks, s.journal⟩
  | .clear => ⟨s.head, s.disks, []⟩
  | .add => ⟨lessH s.head, s.disks ++ [freshK s.head], s.journal⟩
  | .lose d => ⟨s.head, s.disks.set d none, s.journal⟩
  | .bad d r => s.setCell d r none
  | .spare d => ⟨lessH s.head, s.disks.set d (freshK s.head), s.journal⟩
def noteLen : Note → Nat
  | .block _ _ b => b.length
  | .fin _ _ _ => 0
structure SC (s : Store) (n : Nat) : Prop where
  d1 : 1 ≤ s.disks.length
  d2 : s.disks.length ≤ 10 + n
  r1 : 1 ≤ s.head.rows
  r2 : s.head.rows ≤ 24
  z2 : s.head.size ≤ 16
  rows : ∀ k ∈ s.disks, ∀ bs, k = some bs → bs.length = s.head.rows ∧ ∀ o ∈ bs, ∀ b, o = some b → b.length ≤ 16
  j : s.journal.length ≤ 20 + n
  notes : ∀ x ∈ s.journal, noteLen x ≤ 16
def CV (s : Store) : Chg → Prop
  | .note n => noteLen n ≤ 16
  | .block d r b => d < s.disks.length ∧ r < s.head.rows ∧ b.length ≤ 16
  | .spoil d r b => d < s.disks.length ∧ r < s.head.rows ∧ b.length ≤ 16
  | .head _ _ => True
  | .clear => True
  | .add => 1 ≤ s.head.spares
  | .lose d => d < s.disks.length
  | .bad d r => d < s.disks.length ∧ r < s.head.rows
  | .spare d => d < s.disks.length ∧ 1 ≤ s.head.spares
def CVs (s : Store) : List Chg → Prop
  | [] => True
  | c :: cs => CV s c ∧ CVs (applyC s c) cs
theorem SC.up {s : Store} {n : Nat} (h : SC s n) (m : Nat) : SC s (n + m) := ⟨h.d1, by have := h.d2; omega, h.r1, h.r2, h.z2, h.rows, by have := h.j; omega, h.notes⟩
theorem sc_cell {s : Store} {n d r : Nat} {o : Option Blk} (h : SC s n) (ho : ∀ b, o = some b → b.length ≤ 16) : SC (s.setCell d r o) n := by
  unfold Store.setCell
  cases q : s.disks.getD d none with
  | none => exact h
  | some bs =>
    have hm : some bs ∈ s.disks := by
      by_cases hd : d < s.disks.length
      · rw [List.getD_eq_getElem?_getD, List.getElem?_eq_getElem hd] at q
        rw [← (show s.disks[d] = some bs from q)]
        exact List.getElem_mem hd
      · rw [List.getD_eq_getElem?_getD, List.getElem?_eq_none (by omega)] at q
        cases q
    obtain ⟨h1, h2⟩ := h.rows _ hm bs rfl
    refine ⟨by rw [List.length_set]; exact h.d1, by rw [List.length_set]; exact h.d2, h.r1, h.r2, h.z2, fun k hk bs' e => ?_, h.j, h.notes⟩
    rcases List.mem_or_eq_of_mem_set hk with e' | e'
    · exact h.rows k e' bs' e
    · rw [e'] at e
      cases e
      refine ⟨by rw [List.length_set]; exact h1, fun o' ho' b e => ?_⟩
      rcases List.mem_or_eq_of_mem_set ho' with e2 | e2
      · exact h2 o' e2 b e
      · exact ho b (by rw [← e2]; exact e)
theorem fresh_ok (h : Head) : ∀ bs, freshK h = some bs → bs.length = h.rows ∧ ∀ o ∈ bs, ∀ b, o = some b → b.length ≤ 16 := by
  intro bs e
  cases e
  exact ⟨by simp, fun o ho b e => by rw [(List.mem_replicate.mp ho).2] at e; cases e⟩
theorem sc_apply {s : Store} {n : Nat} {c : Chg} (h : SC s n) (v : CV s c) : SC (applyC s c) (n + 1) := by
  have h2 := h.d2
  have h1 := h.d1
  have hj := h.j
  cases c with
  | note x =>
    refine ⟨h1, by show s.disks.length ≤ _; omega, h.r1, h.r2, h.z2, h.rows, by show (s.journal ++ [x]).length ≤ _; rw [List.length_append]; simp; omega, fun y hy => ?_⟩
    rcases List.mem_append.mp hy with q | q
    · exact h.notes y q
    · rw [List.mem_singleton.mp q]; exact v
  | block d r b => exact (sc_cell h fun b' e => by cases e; exact v.2.2).up 1
  | spoil d r b => exact (sc_cell h fun b' e => by cases e; exact v.2.2).up 1
  | bad d r => exact (sc_cell h fun b' e => by cases e).up 1
  | head w m => exact ⟨h1, by show s.disks.length ≤ _; omega, h.r1, h.r2, h.z2, h.rows, by show s.journal.length ≤ _; omega, h.notes⟩
  | clear => exact ⟨h1, by show s.disks.length ≤ _; omega, h.r1, h.r2, h.z2, h.rows, by show ([] : List Note).length ≤ _; simp, fun y hy => by cases hy⟩
  | add =>
    refine ⟨by show 1 ≤ (s.disks ++ [freshK s.head]).length; rw [List.length_append]; omega, by show (s.disks ++ [freshK s.head]).length ≤ _; rw [List.length_append]; simp; omega, h.r1, h.r2, h.z2, fun k hk bs e => ?_, by show s.journal.length ≤ _; omega, h.notes⟩
    rcases List.mem_append.mp hk with q | q
    · exact h.rows k q bs e
    · rw [List.mem_singleton.mp q] at e; exact fresh_ok s.head bs e
  | lose d =>
    refine ⟨by show 1 ≤ (s.disks.set d none).length; rw [List.length_set]; exact h1, by show (s.disks.set d none).length ≤ _; rw [List.length_set]; omega, h.r1, h.r2, h.z2, fun k hk bs e => ?_, by show s.journal.length ≤ _; omega, h.notes⟩
    rcases List.mem_or_eq_of_mem_set hk with q | q
    · exact h.rows k q bs e
    · rw [q] at e; cases e
  | spare d =>
    refine ⟨by show 1 ≤ (s.disks.set d (freshK s.head)).length; rw [List.length_set]; exact h1, by show (s.disks.set d (freshK s.head)).length ≤ _; rw [List.length_set]; omega, h.r1, h.r2, h.z2, fun k hk bs e => ?_, by show s.journal.length ≤ _; omega, h.notes⟩
    rcases List.mem_or_eq_of_mem_set hk with q | q
    · exact h.rows k q bs e
    · rw [q] at e; exact fresh_ok s.head bs e
theorem sc_all : ∀ {cs : List Chg} {s : Store} {n : Nat}, SC s n → CVs s cs → SC (cs.foldl applyC s) (n + cs.length)
  | [], _, _, h, _ => h
  | c :: cs, s, n, h, v => by
    have := sc_all (cs := cs) (sc_apply h v.1) v.2
    rw [List.length_cons, Nat.add_comm cs.length 1, ← Nat.add_assoc]
    exact this
theorem cvs_snoc : ∀ {cs : List Chg} {s : Store} {c : Chg}, CVs s cs → CV (cs.foldl applyC s) c → CVs s (cs ++ [c])
  | [], _, _, _, v => ⟨v, trivial⟩
  | d :: cs, s, c, h, v => ⟨h.1, cvs_snoc h.2 v⟩
theorem cvs_take : ∀ {cs : List Chg} {s : Store} (k : Nat), CVs s cs → CVs s (cs.take k)
  | _, _, 0, _ => trivial
  | [], _, k + 1, _ => trivial
  | c :: cs, s, k + 1, h => ⟨h.1, cvs_take k h.2⟩
theorem cvs_drop : ∀ {cs : List Chg} {s : Store} (k : Nat), CVs s cs → CVs ((cs.take k).foldl applyC s) (cs.drop k)
  | cs, _, 0, h => h
  | [], _, k + 1, _ => trivial
  | c :: cs, s, k + 1, h => cvs_drop (cs := cs) k h.2
def wordC : Chg → Str
  | .note _ => "note"
  | .block _ _ _ => "block"
  | .spoil _ _ _ => "spoil"
  | .head _ _ => "head"
  | .clear => "clear"
  | .add => "add"
  | .lose _ => "lose"
  | .bad _ _ => "bad"
  | .spare _ => "spare"
theorem cD_word (c : Chg) : ∃ ds, cD c = .tup (.str (wordC c) :: ds) := by cases c <;> exact ⟨_, rfl⟩
theorem d_disks (s : Store) : (s.disks.map kD).length = s.disks.length := by simp
theorem store_at {s : Store} {d : Nat} (h : d < s.disks.length) : atI (s.disks.map kD) (d : Int) = some (kD (s.disks.getD d none)) := HC.atI_nat (disk_at h)
theorem c_from (xs : List Dv) (k : Nat) (h : k ≤ xs.length) : cutA xs (some (k : Int)) none = xs.drop k := by
  unfold cutA
  have e : HT.sIx xs.length 0 (some (k : Int)) = k := by
    show (if (k : Int) < 0 then ((k : Int) + (xs.length : Int)).toNat else min (k : Int).toNat xs.length) = _
    rw [if_neg (by omega)]
    omega
  rw [e]
  show (xs.drop k).take (xs.length - k) = _
  rw [List.take_of_length_le (by simp)]
theorem c_to (xs : List Dv) (k : Nat) (h : k ≤ xs.length) : cutA xs none (some (k : Int)) = xs.take k := by
  unfold cutA
  have e : HT.sIx xs.length xs.length (some (k : Int)) = k := by
    show (if (k : Int) < 0 then ((k : Int) + (xs.length : Int)).toNat else min (k : Int).toNat xs.length) = _
    rw [if_neg (by omega)]
    omega
  rw [e]
  show (xs.drop 0).take (k - 0) = _
  rfl
theorem c_set {xs : List Dv} {i : Nat} {d : Dv} (h : i < xs.length) : xs.take i ++ [d] ++ xs.drop (i + 1) = xs.set i d := by
  rw [List.set_eq_take_append_cons_drop, if_pos h]
  simp
theorem kD_fresh (h : Head) : kD (freshK h) = .tup (List.replicate h.rows .non) := by
  show Dv.tup ((List.replicate h.rows none).map oD) = _
  rw [List.map_replicate]
  rfl
theorem less_d {h : Head} (h1 : 1 ≤ h.spares) : Dv.tup [dn h.par, dn h.size, dn h.rows, dn h.width, dn h.moved, .int ((h.spares : Int) - 1)] = (lessH h).d := by
  have e : ((h.spares : Int) - 1) = ((h.spares - 1 : Nat) : Int) := by omega
  rw [e]
  rfl
theorem ne_str {a b : Str} (h : decide (a = b) = false) : ¬ Dv.str a = Dv.str b := fun e => of_decide_eq_false h (Dv.str.inj e)
theorem lay_note : PyData.canLay0 (.str ("note" : Str)) = true := by decide +kernel
theorem lay_spoil : PyData.canLay0 (.str ("spoil" : Str)) = true := by decide +kernel
theorem lay_head : PyData.canLay0 (.str ("head" : Str)) = true := by decide +kernel
theorem lay_clear : PyData.canLay0 (.str ("clear" : Str)) = true := by decide +kernel
theorem lay_add : PyData.canLay0 (.str ("add" : Str)) = true := by decide +kernel
theorem lay_lose : PyData.canLay0 (.str ("lose" : Str)) = true := by decide +kernel
theorem lay_bad : PyData.canLay0 (.str ("bad" : Str)) = true := by decide +kernel
theorem lay_spare : PyData.canLay0 (.str ("spare" : Str)) = true := by decide +kernel
theorem lay_befall : PyData.canLay0 (.str ("befall" : Str)) = true := by decide +kernel
theorem lay_word (c : Chg) : PyData.canLay0 (.str (wordC c)) = true := by
  cases c
  · exact lay_note
  · exact lay_block
  · exact lay_spoil
  · exact lay_head
  · exact lay_clear
  · exact lay_add
  · exact lay_lose
  · exact lay_bad
  · exact lay_spare
theorem last_at {xs ys : List Dv} {y : Dv} (h : xs = ys ++ [y]) : atI xs (-1) = some y := by
  subst h
  have e : ixN (ys ++ [y]).length (-1) = some ys.length := by
    unfold ixN
    rw [List.length_append, List.length_singleton]
    rw [if_neg (by decide)]
    split
    · congr 1; omega
    · omega
  unfold atI
  rw [e]
  show (ys ++ [y])[ys.length]? = some y
  rw [List.getElem?_append_right (Nat.le_refl _), Nat.sub_self]
  rfl
def firstD : Dv → Dv
  | .tup (x :: _) => x
  | _ => .non
def wordN : Note → Str
  | .block _ _ _ => "block"
  | .fin _ _ _ => "end"
theorem nD_word (n : Note) : ∃ ds, nD n = .tup (.str (wordN n) :: ds) := by cases n <;> exact ⟨_, rfl⟩
theorem keysD_words : ∀ js : List Note, keysD ((js.map nD).map firstD) = some (js.map fun n => .inr (wordN n))
  | [] => rfl
  | n :: js => by
    have ih := keysD_words js
    obtain ⟨ds, e⟩ := nD_word n
    rw [List.map_cons, List.map_cons, e]
    show (keyD (.str (wordN n))).bind (fun k => (keysD ((js.map nD).map firstD)).map fun r => k :: r) = _
    rw [ih]
    rfl
def storesC (s : Store) (cs : List Chg) : List Dv := (List.range (cs.length + 1)).map fun k => ((cs.take k).foldl applyC s).d
theorem stores_last (s : Store) (cs : List Chg) : ∃ ys, storesC s cs = ys ++ [(cs.foldl applyC s).d] := by
  refine ⟨(List.range cs.length).map fun k => ((cs.take k).foldl applyC s).d, ?_⟩
  unfold storesC
  rw [List.range_succ, List.map_append, List.map_cons, List.map_nil, List.take_length]
theorem stores_snoc (s : Store) (cs : List Chg) (c : Chg) : storesC s (cs ++ [c]) = storesC s cs ++ [(applyC (cs.foldl applyC s) c).d] := by
  unfold storesC
  rw [List.length_append, List.length_singleton, List.range_succ, List.map_append, List.map_cons, List.map_nil]
  congr 1
  · refine List.map_congr_left fun k hk => ?_
    have := List.mem_range.mp hk
    rw [List.take_append_of_le_length (by omega)]
  · rw [List.take_of_length_le (by simp), List.foldl_append]
    rfl
theorem stores_at (s : Store) {cs : List Chg} {k : Nat} (h : k ≤ cs.length) : (storesC s cs)[k]? = some ((cs.take k).foldl applyC s).d := by
  unfold storesC
  rw [List.getElem?_map, List.getElem?_range (by omega)]
  rfl
theorem stores_len (s : Store) (cs : List Chg) : (storesC s cs).length = cs.length + 1 := by simp [storesC]
abbrev BN := Nat × Nat × Blk
def noteB' (x : BN) : Note := .block x.1 x.2.1 x.2.2
def chgB (x : BN) : Chg := .block x.1 x.2.1 x.2.2
theorem note_chg (x : BN) : nD (noteB' x) = cD (chgB x) := rfl
theorem notes_chgs (xs : List BN) : (xs.map noteB').map nD = (xs.map chgB).map cD := by
  rw [List.map_map, List.map_map]
  rfl
theorem setCell_journal (s : Store) (d r : Nat) (o : Option Blk) : (s.setCell d r o).journal = s.journal := by
  unfold Store.setCell
  split <;> rfl
theorem setCell_len (s : Store) (d r : Nat) (o : Option Blk) : (s.setCell d r o).disks.length = s.disks.length ∧ (s.setCell d r o).head = s.head := by
  unfold Store.setCell
  split
  · exact ⟨rfl, rfl⟩
  · exact ⟨List.length_set, rfl⟩
def BOk (n rows : Nat) (xs : List BN) : Prop := ∀ x ∈ xs, x.1 < n ∧ x.2.1 < rows ∧ x.2.2.length ≤ 16
theorem cvs_blocks {cs : List Chg} : ∀ {xs : List BN} {s : Store}, BOk s.disks.length s.head.rows xs → (∀ t : Store, CVs t cs) → CVs s (xs.map chgB ++ cs)
  | [], s, _, h => h s
  | x :: xs, s, hb, h => by
    refine ⟨hb x List.mem_cons_self, cvs_blocks (xs := xs) (s := applyC s (chgB x)) ?_ h⟩
    obtain ⟨h1, h2⟩ := setCell_len s x.1 x.2.1 (some x.2.2)
    show BOk (s.setCell x.1 x.2.1 (some x.2.2)).disks.length (s.setCell x.1 x.2.1 (some x.2.2)).head.rows xs
    rw [h1, h2]
    exact fun y hy => hb y (List.mem_cons_of_mem _ hy)
def keepsJ : Chg → Bool
  | .block _ _ _ => true
  | .head _ _ => true
  | _ => false
theorem journal_kept : ∀ {cs : List Chg} {s : Store}, (∀ c ∈ cs, keepsJ c = true) → (cs.foldl applyC s).journal = s.journal
  | [], _, _ => rfl
  | c :: cs, s, h => by
    rw [List.foldl_cons, journal_kept (fun d hd => h d (List.mem_cons_of_mem _ hd))]
    have := h c List.mem_cons_self
    cases c <;> first | cases this | skip
    · exact setCell_journal _ _ _ _
    · rfl
def endN (js : List Note) : Bool := match js.getLast? with
  | some (.fin _ _ _) => true
  | _ => false
end Law
namespace GF
theorem xor_bit (a b k : Nat) : (a ^^^ b) / 2 ^ k % 2 = (a / 2 ^ k % 2 + b / 2 ^ k % 2) % 2 := by
  have h := Nat.testBit_xor a b k
  rw [Nat.testBit_eq_decide_div_mod_eq, Nat.testBit_eq_decide_div_mod_eq, Nat.testBit_eq_decide_div_mod_eq] at h
  have h1 : (a ^^^ b) / 2 ^ k % 2 < 2 := Nat.mod_lt _ (by decide)
  have h2 : a / 2 ^ k % 2 < 2 := Nat.mod_lt _ (by decide)
  have h3 : b / 2 ^ k % 2 < 2 := Nat.mod_lt _ (by decide)
  generalize (a ^^^ b) / 2 ^ k % 2 = x at *
  generalize a / 2 ^ k % 2 = y at *
  generalize b / 2 ^ k % 2 = z at *
  have hx : x = 0 ∨ x = 1 := by omega
  have hy : y = 0 ∨ y = 1 := by omega
  have hz : z = 0 ∨ z = 1 := by omega
  rcases hx with rfl | rfl <;> rcases hy with rfl | rfl <;> rcases hz with rfl | rfl <;> simp_all
def xt (a : Nat) : Nat := (a * 2) ^^^ (if a.testBit 7 then 285 else 0)
def G : Nat → Nat → Nat → Nat
  | 0, _, _ => 0
  | n + 1, a, b => (if b.testBit 0 then a else 0) ^^^ G n (xt a) (b / 2)
abbrev gt (a b : Nat) : Nat := G 8 a b
def Lin (f : Nat → Nat) : Prop := ∀ x y, f (x ^^^ y) = f x ^^^ f y
theorem Lin.zero {f : Nat → Nat} (h : Lin f) : f 0 = 0 := by
  have := h 0 0
  rw [Nat.xor_self, Nat.xor_self] at this
  exact this
theorem Lin.comp {f g : Nat → Nat} (h : Lin f) (k : Lin g) : Lin fun x => f (g x) := fun x y => by
  show f (g (x ^^^ y)) = _
  rw [k, h]
theorem half_xor (x y : Nat) : (x ^^^ y) / 2 = x / 2 ^^^ y / 2 := by
  apply Nat.eq_of_testBit_eq; intro i
  simp [Nat.testBit_xor, Nat.testBit_div_two]
theorem twice_xor (x y : Nat) : (x ^^^ y) * 2 = x * 2 ^^^ y * 2 := by
  apply Nat.eq_of_testBit_eq; intro i
  cases i with
  | zero => simp [Nat.testBit_xor, Nat.testBit_zero, Nat.mul_mod_left]
  | succ n => rw [Nat.testBit_xor, Nat.testBit_succ, Nat.testBit_succ, Nat.testBit_succ, Nat.mul_div_cancel _ (by decide), Nat.mul_div_cancel _ (by decide), Nat.mul_div_cancel _ (by decide), Nat.testBit_xor]
theorem xor4 (a b c d : Nat) : (a ^^^ b) ^^^ (c ^^^ d) = (a ^^^ c) ^^^ (b ^^^ d) := by
  apply Nat.eq_of_testBit_eq; intro i
  simp only [Nat.testBit_xor]
  cases a.testBit i <;> cases b.testBit i <;> cases c.testBit i <;> cases d.testBit i <;> rfl
theorem bit_lin (k c : Nat) : Lin fun x => if x.testBit k then c else 0 := by
  intro x y
  simp only [Nat.testBit_xor]
  cases x.testBit k <;> cases y.testBit k <;> simp
theorem Lin.add {f g : Nat → Nat} (h : Lin f) (k : Lin g) : Lin fun x => f x ^^^ g x := fun x y => by
  show f (x ^^^ y) ^^^ g (x ^^^ y) = _
  rw [h, k, xor4]
theorem Lin.nil : Lin fun _ => 0 := fun _ _ => (Nat.xor_self 0).symm
theorem lin_xt : Lin xt := Lin.add (f := fun x => x * 2) twice_xor (bit_lin 7 285)
theorem lin_Ga : ∀ n b, Lin fun a => G n a b
  | 0, b => Lin.nil
  | n + 1, b => Lin.add (f := fun a => if b.testBit 0 then a else 0) (by
    cases b.testBit 0 with
    | false => exact Lin.nil
    | true => exact fun _ _ => rfl) (Lin.comp (lin_Ga n (b / 2)) lin_xt)
theorem lin_Gb : ∀ n a, Lin (G n a)
  | 0, a => Lin.nil
  | n + 1, a => Lin.add (bit_lin 0 a) (Lin.comp (lin_Gb n (xt a)) half_xor)
theorem lin_ext {f g : Nat → Nat} (hf : Lin f) (hg : Lin g) : ∀ n, (∀ j, j < n → f (2 ^ j) = g (2 ^ j)) → ∀ a, a < 2 ^ n → f a = g a
  | 0, _, a, h => by
    have : a = 0 := by simpa using h
    rw [this, hf.zero, hg.zero]
  | n + 1, hb, a, h => by
    have ih := lin_ext hf hg n fun j hj => hb j (by omega)
    by_cases hl : a < 2 ^ n
    · exact ih a hl
    · have hx : a ^^^ 2 ^ n < 2 ^ n := by
        apply Nat.lt_pow_two_of_testBit
        intro i hi
        rw [Nat.testBit_xor, Nat.testBit_two_pow]
        by_cases e : n = i
        · subst e
          have : a.testBit n = true := by
            rw [Nat.testBit_eq_decide_div_mod_eq]
            have h1 : a / 2 ^ n = 1 := by
              have hp : 0 < 2 ^ n := Nat.pow_pos (by decide)
              rw [Nat.div_eq_iff hp]
              rw [Nat.pow_succ] at h
              omega
            rw [h1]; rfl
          rw [this]; simp
        · have : a.testBit i = false := Nat.testBit_lt_two_pow (Nat.lt_of_lt_of_le h (Nat.pow_le_pow_right (by decide) (by omega)))
          rw [this]; simp [e]
      have e : a = (a ^^^ 2 ^ n) ^^^ 2 ^ n := by rw [Nat.xor_assoc, Nat.xor_self, Nat.xor_zero]
      rw [e, hf, hg, ih _ hx, hb n (by omega)]
theorem ext8 {f g : Nat → Nat} (hf : Lin f) (hg : Lin g) (h : ∀ j, j < 8 → f (2 ^ j) = g (2 ^ j)) {a : Nat} (ha : a < 256) : f a = g a := lin_ext hf hg 8 h a ha
theorem two8 {j : Nat} (h : j < 8) : 2 ^ j < 256 := Nat.pow_lt_pow_right (a := 2) (n := 8) (by decide) h
theorem xor8 {a b : Nat} (ha : a < 256) (hb : b < 256) : a ^^^ b < 256 := Nat.xor_lt_two_pow (n := 8) ha hb
theorem xt_lt : ∀ {a : Nat}, a < 256 → xt a < 256 := fun {a} h => (by decide +kernel : ∀ a : Fin 256, xt a.val < 256) ⟨a, h⟩
theorem G_lt : ∀ n {a : Nat} b, a < 256 → G n a b < 256
  | 0, _, _, _ => by simp [G]
  | n + 1, a, b, h => by
    refine xor8 ?_ (G_lt n _ (xt_lt h))
    split <;> omega
theorem gt_lt {a : Nat} (b : Nat) (h : a < 256) : gt a b < 256 := G_lt 8 b h
theorem gt_comm {a b : Nat} (ha : a < 256) (hb : b < 256) : gt a b = gt b a := by
  refine ext8 (f := fun a => gt a b) (g := fun a => gt b a) (lin_Ga 8 b) (lin_Gb 8 b) (fun j hj => ?_) ha
  refine ext8 (f := fun b => gt (2 ^ j) b) (g := fun b => gt b (2 ^ j)) (lin_Gb 8 _) (lin_Ga 8 _) (fun k hk => ?_) hb
  exact (by decide +kernel : ∀ j k : Fin 8, gt (2 ^ j.val) (2 ^ k.val) = gt (2 ^ k.val) (2 ^ j.val)) ⟨j, hj⟩ ⟨k, hk⟩
theorem gt_assoc {a b c : Nat} (ha : a < 256) (hb : b < 256) (hc : c < 256) : gt a (gt b c) = gt (gt a b) c := by
  refine ext8 (f := fun a => gt a (gt b c)) (g := fun a => gt (gt a b) c) (lin_Ga 8 _) (Lin.comp (f := fun x => gt x c) (lin_Ga 8 c) (lin_Ga 8 b)) (fun i hi => ?_) ha
  refine ext8 (f := fun b => gt (2 ^ i) (gt b c)) (g := fun b => gt (gt (2 ^ i) b) c) (Lin.comp (f := gt (2 ^ i)) (lin_Gb 8 _) (lin_Ga 8 c)) (Lin.comp (f := fun x => gt x c) (lin_Ga 8 c) (lin_Gb 8 _)) (fun j hj => ?_) hb
  refine ext8 (f := fun c => gt (2 ^ i) (gt (2 ^ j) c)) (g := fun c => gt (gt (2 ^ i) (2 ^ j)) c) (Lin.comp (f := gt (2 ^ i)) (lin_Gb 8 _) (lin_Gb 8 _)) (lin_Gb 8 _) (fun k hk => ?_) hc
  exact (by decide +kernel : ∀ i j k : Fin 8, gt (2 ^ i.val) (gt (2 ^ j.val) (2 ^ k.val)) = gt (gt (2 ^ i.val) (2 ^ j.val)) (2 ^ k.val)) ⟨i, hi⟩ ⟨j, hj⟩ ⟨k, hk⟩
theorem one_gt {a : Nat} (ha : a < 256) : gt 1 a = a :=
  ext8 (f := gt 1) (g := fun x => x) (lin_Gb 8 1) (fun _ _ => rfl) (fun j hj => (by decide +kernel : ∀ j : Fin 8, gt 1 (2 ^ j.val) = 2 ^ j.val) ⟨j, hj⟩) ha
theorem gt_one {a : Nat} (ha : a < 256) : gt a 1 = a := by rw [gt_comm ha (by decide), one_gt ha]
theorem gt_zero (a : Nat) : gt a 0 = 0 := (lin_Gb 8 a).zero
theorem zero_gt (a : Nat) : gt 0 a = 0 := (lin_Ga 8 a).zero
theorem G_zero (n a : Nat) : G n a 0 = 0 := (lin_Gb n a).zero
def inn (a b j : Nat) : Nat → Nat
  | 0 => 0
  | k + 1 => inn a b j k ^^^ (if a.testBit j then (if b.testBit k then 2 ^ (j + k) else 0) else 0)
def out (a b : Nat) : Nat → Nat
  | 0 => 0
  | j + 1 => out a b j ^^^ inn a b j 8
def redn : Nat → Nat → Nat
  | 0, R => R
  | i + 1, R => redn i R ^^^ (if (redn i R).testBit (14 - i) then 285 * 2 ^ (6 - i) else 0)
theorem lin_inn_a (b j : Nat) : ∀ k, Lin fun a => inn a b j k
  | 0 => Lin.nil
  | k + 1 => Lin.add (lin_inn_a b j k) (bit_lin j _)
theorem lin_inn_b (a j : Nat) : ∀ k, Lin fun b => inn a b j k
  | 0 => Lin.nil
  | k + 1 => Lin.add (lin_inn_b a j k) (by
    cases h : a.testBit j with
    | false => exact Lin.nil
    | true => exact bit_lin k _)
theorem lin_out_a (b : Nat) : ∀ j, Lin fun a => out a b j
  | 0 => Lin.nil
  | j + 1 => Lin.add (lin_out_a b j) (lin_inn_a b j 8)
theorem lin_out_b (a : Nat) : ∀ j, Lin fun b => out a b j
  | 0 => Lin.nil
  | j + 1 => Lin.add (lin_out_b a j) (lin_inn_b a j 8)
theorem lin_redn : ∀ i, Lin (redn i)
  | 0 => fun _ _ => rfl
  | i + 1 => Lin.add (lin_redn i) (Lin.comp (bit_lin (14 - i) _) (lin_redn i))
theorem lin_mod8 : Lin fun x => x % 256 := fun x y => Nat.xor_mod_two_pow (n := 8)
theorem lt_gt {a b : Nat} (ha : a < 256) (hb : b < 256) : redn 7 (out a b 8) % 256 = gt a b := by
  refine ext8 (f := fun a => redn 7 (out a b 8) % 256) (g := fun a => gt a b) (Lin.comp (f := fun x => x % 256) lin_mod8 (Lin.comp (lin_redn 7) (lin_out_a b 8))) (lin_Ga 8 b) (fun j hj => ?_) ha
  refine ext8 (f := fun b => redn 7 (out (2 ^ j) b 8) % 256) (g := fun b => gt (2 ^ j) b) (Lin.comp (f := fun x => x % 256) lin_mod8 (Lin.comp (lin_redn 7) (lin_out_b _ 8))) (lin_Gb 8 _) (fun k hk => ?_) hb
  exact (by decide +kernel : ∀ j k : Fin 8, redn 7 (out (2 ^ j.val) (2 ^ k.val) 8) % 256 = gt (2 ^ j.val) (2 ^ k.val)) ⟨j, hj⟩ ⟨k, hk⟩
def invS : Nat → Nat → Nat × Nat
  | 0, a => (gt a a, gt a a)
  | n + 1, a => (gt (invS n a).1 (invS n a).1, gt (invS n a).2 (gt (invS n a).1 (invS n a).1))
def inv (a : Nat) : Nat := (invS 6 a).2
theorem invS_lt {a : Nat} (h : a < 256) : ∀ n, (invS n a).1 < 256 ∧ (invS n a).2 < 256
  | 0 => ⟨gt_lt _ h, gt_lt _ h⟩
  | n + 1 => ⟨gt_lt _ (invS_lt h n).1, gt_lt _ (invS_lt h n).2⟩
theorem inv_lt {a : Nat} (h : a < 256) : inv a < 256 := (invS_lt h 6).2
def invQ : Nat → Nat → Nat → Nat
  | 0, _, i => i
  | n + 1, s, i => (fun q => invQ n q (gt i q)) (gt s s)
def invF (a : Nat) : Nat := (fun q => invQ 6 q q) (gt a a)
theorem invQ_eq : ∀ n m a, invQ n (invS m a).1 (invS m a).2 = (invS (m + n) a).2
  | 0, m, a => rfl
  | n + 1, m, a => by
    show invQ n (gt (invS m a).1 (invS m a).1) (gt (invS m a).2 (gt (invS m a).1 (invS m a).1)) = _
    have := invQ_eq n (m + 1) a
    rw [show m + 1 + n = m + (n + 1) by omega] at this
    exact this
theorem invF_eq (a : Nat) : invF a = inv a := by
  have := invQ_eq 6 0 a
  exact this
set_option maxRecDepth 100000 in
theorem inv_chk : ∀ a : Fin 256, a.val ≠ 0 → gt a.val (invF a.val) = 1 := by decide +kernel
theorem gt_inv {a : Nat} (h : a < 256) (h0 : a ≠ 0) : gt a (inv a) = 1 := by rw [← invF_eq]; exact inv_chk ⟨a, h⟩ h0
theorem inv_pos {a : Nat} (h : a < 256) (h0 : a ≠ 0) : inv a ≠ 0 := fun e => by
  have := gt_inv h h0
  rw [e, gt_zero] at this
  cases this
theorem gt_cancel {a x y : Nat} (h : a < 256) (h0 : a ≠ 0) (hx : x < 256) (hy : y < 256) (e : gt a x = gt a y) : x = y := by
  have h1 : gt (inv a) (gt a x) = gt (inv a) (gt a y) := by rw [e]
  rw [gt_assoc (inv_lt h) h hx, gt_assoc (inv_lt h) h hy, gt_comm (inv_lt h) h, gt_inv h h0, one_gt hx, one_gt hy] at h1
  exact h1
theorem inv_inv {a : Nat} (h : a < 256) (h0 : a ≠ 0) : inv (inv a) = a := by
  refine gt_cancel (inv_lt h) (inv_pos h h0) (inv_lt (inv_lt h)) h ?_
  rw [gt_inv (inv_lt h) (inv_pos h h0), gt_comm (inv_lt h) h, gt_inv h h0]
theorem gt_ne {a b : Nat} (ha : a < 256) (hb : b < 256) (h : a ≠ 0) (k : b ≠ 0) : gt a b ≠ 0 := fun e => k (gt_cancel ha h hb (by decide) (e.trans (gt_zero a).symm))
def gp (s : Nat) : Nat → Nat
  | 0 => 1
  | k + 1 => gt (gp s k) s
abbrev pw (k : Nat) : Nat := gp 2 k
theorem gp_lt (s : Nat) : ∀ k, gp s k < 256
  | 0 => show 1 < 256 by decide
  | k + 1 => gt_lt _ (gp_lt s k)
theorem gp_add {s : Nat} (hs : s < 256) (m : Nat) : ∀ n, gp s (m + n) = gt (gp s m) (gp s n)
  | 0 => (gt_one (gp_lt s m)).symm
  | n + 1 => by
    show gt (gp s (m + n)) s = gt (gp s m) (gt (gp s n) s)
    rw [gp_add hs m n, gt_assoc (gp_lt s m) (gp_lt s n) hs]
theorem gp_sq {s : Nat} (hs : s < 256) : ∀ n, gp (gt s s) n = gp s (2 * n)
  | 0 => rfl
  | n + 1 => by
    show gt (gp (gt s s) n) (gt s s) = gt (gt (gp s (2 * n)) s) s
    rw [gp_sq hs n, gt_assoc (gp_lt s _) hs hs]
def pwt : Nat → Nat → Nat
  | 0, p => p
  | n + 1, p => pwt n (gt p 2)
theorem pwt_eq : ∀ n k, pwt n (pw k) = pw (k + n)
  | 0, k => rfl
  | n + 1, k => by
    have := pwt_eq n (k + 1)
    rw [show k + 1 + n = k + (n + 1) by omega] at this
    exact this
theorem pw255 : pw 255 = 1 := by
  have h : pwt 255 (pw 0) = 1 := by decide +kernel
  rw [pwt_eq] at h
  exact h
theorem pw_per (k : Nat) : ∀ n, pw (k + 255 * n) = pw k
  | 0 => rfl
  | n + 1 => by
    show gp 2 (k + 255 * (n + 1)) = gp 2 k
    rw [show k + 255 * (n + 1) = (k + 255 * n) + 255 by omega, gp_add (by decide), show gp 2 255 = 1 from pw255, gt_one (gp_lt 2 _)]
    exact pw_per k n
theorem pw_mod (k : Nat) : pw (k % 255) = pw k := by
  have := pw_per (k % 255) (k / 255)
  rw [Nat.mod_add_div] at this
  exact this.symm
def noOne : Nat → Nat → Bool
  | 0, _ => true
  | n + 1, p => p != 1 && noOne n (gt p 2)
theorem noOne_pw : ∀ n k, noOne n (pw k) = true → ∀ i, i < n → pw (k + i) ≠ 1
  | 0, _, _, i, h => by omega
  | n + 1, k, h, i, hi => by
    simp only [noOne, Bool.and_eq_true, bne_iff_ne] at h
    cases i with
    | zero => exact h.1
    | succ i =>
      have := noOne_pw n (k + 1) h.2 i (by omega)
      rw [show k + 1 + i = k + (i + 1) by omega] at this
      exact this
theorem pw_ne_one {d : Nat} (h0 : 0 < d) (h : d < 255) : pw d ≠ 1 := by
  have c : noOne 254 (pw 1) = true := by decide +kernel
  have := noOne_pw 254 1 c (d - 1) (by omega)
  rw [show 1 + (d - 1) = d by omega] at this
  exact this
theorem pw_ne0 : ∀ k, pw k ≠ 0
  | 0 => by decide
  | k + 1 => gt_ne (gp_lt 2 k) (by decide) (pw_ne0 k) (by decide)
theorem pw_lt_ne {i j : Nat} (h : i < j) (hj : j < 255) : pw i ≠ pw j := fun e => by
  refine pw_ne_one (d := j - i) (by omega) (by omega) ?_
  refine gt_cancel (gp_lt 2 i) (pw_ne0 i) (gp_lt 2 _) (by decide) ?_
  show gt (pw i) (pw (j - i)) = gt (pw i) 1
  rw [← gp_add (by decide), show i + (j - i) = j by omega, gt_one (gp_lt 2 i)]
  exact e.symm
theorem pw_inj {i j : Nat} (hi : i < 255) (hj : j < 255) (h : i ≠ j) : pw i ≠ pw j := by
  rcases Nat.lt_or_gt_of_ne h with h | h
  · exact pw_lt_ne h hj
  · exact fun e => pw_lt_ne h hi e.symm
end GF
namespace Law
open PySem L2 HC PyProof.Rows
def xorB (a b : Blk) : Blk := a.zipWith (fun x y => x ^^^ y) b
def mulB (c : Nat) (b : Blk) : Blk := b.map (GF.gt c)
def zeroB (n : Nat) : Blk := List.replicate n 0
def sumB (n : Nat) (bs : List Blk) : Blk := bs.foldl xorB (zeroB n)
def turnB (bs : List Blk) : List Blk := (List.range bs.length).map fun i => mulB (GF.pw i) (bs.getD i [])
def parB (p n : Nat) (bs : List Blk) : List Blk := if p = 1 then [sumB n bs] else [sumB n bs, sumB n (turnB bs)]
def WfB (n : Nat) (b : Blk) : Prop := BlkOk' b n
def WfR (n : Nat) (bs : List Blk) : Prop := ∀ b ∈ bs, BlkOk' b n
theorem xorB_len {a b : Blk} : (xorB a b).length = min a.length b.length := by simp [xorB]
theorem xorB_wf {n : Nat} {a b : Blk} (ha : BlkOk' a n) (hb : BlkOk' b n) : BlkOk' (xorB a b) n := by
  refine ⟨by rw [xorB_len, ha.1, hb.1]; omega, fun x hx => ?_⟩
  obtain ⟨i, hi, e⟩ := List.mem_iff_getElem.mp hx
  unfold xorB at e hi
  rw [List.getElem_zipWith] at e
  subst e
  simp at hi
  exact GF.xor8 (ha.2 _ (List.getElem_mem _)) (hb.2 _ (List.getElem_mem _))
theorem mulB_wf {n c : Nat} {b : Blk} (hc : c < 256) (hb : BlkOk' b n) : BlkOk' (mulB c b) n := by
  refine ⟨by simp [mulB, hb.1], fun x hx => ?_⟩
  obtain ⟨y, hy, rfl⟩ := List.mem_map.mp hx
  exact GF.gt_lt y hc
theorem zeroB_wf {n : Nat} : BlkOk' (zeroB n) n := ⟨by simp [zeroB], fun x hx => by rw [(List.mem_replicate.mp hx).2]; decide⟩
theorem foldB_wf {n : Nat} : ∀ {bs : List Blk} {z : Blk}, BlkOk' z n → WfR n bs → BlkOk' (bs.foldl xorB z) n
  | [], _, h, _ => h
  | b :: bs, z, h, hb => foldB_wf (bs := bs) (xorB_wf h (hb b (by simp))) fun c hc => hb c (by simp [hc])
theorem sumB_wf {n : Nat} {bs : List Blk} (h : WfR n bs) : BlkOk' (sumB n bs) n := foldB_wf zeroB_wf h
theorem turnB_wf {n : Nat} {bs : List Blk} (h : WfR n bs) : WfR n (turnB bs) := fun b hb => by
  obtain ⟨i, hi, rfl⟩ := List.mem_map.mp hb
  have hi : i < bs.length := List.mem_range.mp hi
  refine mulB_wf (GF.gp_lt 2 i) (h _ ?_)
  rw [List.getD_eq_getElem?_getD, List.getElem?_eq_getElem hi]
  exact List.getElem_mem hi
theorem turnB_len {bs : List Blk} : (turnB bs).length = bs.length := by simp [turnB]
theorem parB_len {p n : Nat} {bs : List Blk} (h1 : 1 ≤ p) (h2 : p ≤ 2) : (parB p n bs).length = p := by
  unfold parB
  split <;> simp <;> omega
theorem parB_wf {p n : Nat} {bs : List Blk} (h : WfR n bs) : WfR n (parB p n bs) := fun b hb => by
  unfold parB at hb
  split at hb
  · rw [List.mem_singleton.mp hb]; exact sumB_wf h
  · simp only [List.mem_cons, List.not_mem_nil, or_false] at hb
    rcases hb with rfl | rfl
    · exact sumB_wf h
    · exact sumB_wf (turnB_wf h)
theorem xorB4 : ∀ (a b c d : Blk), xorB (xorB a b) (xorB c d) = xorB (xorB a c) (xorB b d)
  | [], b, c, d => by simp [xorB]
  | x :: a, [], c, d => by cases c <;> simp [xorB]
  | x :: a, y :: b, [], d => by simp [xorB]
  | x :: a, y :: b, z :: c, [] => by simp [xorB]
  | x :: a, y :: b, z :: c, w :: d => by
    have := xorB4 a b c d
    simp only [xorB, List.zipWith_cons_cons, List.cons.injEq] at this ⊢
    exact ⟨GF.xor4 x y z w, this⟩
theorem mulB_xor (c : Nat) : ∀ (a b : Blk), mulB c (xorB a b) = xorB (mulB c a) (mulB c b)
  | [], b => by simp [xorB, mulB]
  | x :: a, [] => by simp [xorB, mulB]
  | x :: a, y :: b => by
    have := mulB_xor c a b
    simp only [xorB, mulB, List.zipWith_cons_cons, List.map_cons, List.cons.injEq] at this ⊢
    exact ⟨GF.lin_Gb 8 c x y, this⟩
theorem fold_add : ∀ (as bs : List Blk) (z w : Blk), as.length = bs.length → (as.zipWith xorB bs).foldl xorB (xorB z w) = xorB (as.foldl xorB z) (bs.foldl xorB w)
  | [], [], z, w, _ => rfl
  | [], _ :: _, _, _, h => by simp at h
  | _ :: _, [], _, _, h => by simp at h
  | a :: as, b :: bs, z, w, h => by
    rw [List.zipWith_cons_cons, List.foldl_cons, List.foldl_cons, List.foldl_cons, xorB4]
    exact fold_add as bs _ _ (by simpa using h)
theorem zero_xor (n : Nat) : xorB (zeroB n) (zeroB n) = zeroB n := by
  simp [xorB, zeroB]
theorem sumB_add {n : Nat} {as bs : List Blk} (h : as.length = bs.length) : sumB n (as.zipWith xorB bs) = xorB (sumB n as) (sumB n bs) := by
  unfold sumB
  rw [← fold_add as bs _ _ h, zero_xor]
theorem turnB_add {as bs : List Blk} (h : as.length = bs.length) : turnB (as.zipWith xorB bs) = (turnB as).zipWith xorB (turnB bs) := by
  refine List.ext_getElem (by simp [turnB, h]) fun i h1 h2 => ?_
  simp [turnB, h] at h1
  have ha : i < as.length := by omega
  simp only [turnB, List.getElem_map, List.getElem_range, List.getElem_zipWith]
  rw [List.getD_eq_getElem?_getD, List.getD_eq_getElem?_getD, List.getD_eq_getElem?_getD, List.getElem?_zipWith, List.getElem?_eq_getElem ha, List.getElem?_eq_getElem h1]
  exact mulB_xor _ _ _
theorem parB_add {p n : Nat} {as bs : List Blk} (h : as.length = bs.length) : parB p n (as.zipWith xorB bs) = (parB p n as).zipWith xorB (parB p n bs) := by
  unfold parB
  split
  · simp [sumB_add h]
  · rw [sumB_add h, turnB_add h, sumB_add (by rw [turnB_len, turnB_len, h])]
    rfl
theorem sumB_snoc {n : Nat} {bs : List Blk} {b : Blk} : sumB n (bs ++ [b]) = xorB (sumB n bs) b := by simp [sumB, List.foldl_append]
theorem turnB_snoc {bs : List Blk} {b : Blk} : turnB (bs ++ [b]) = turnB bs ++ [mulB (GF.pw bs.length) b] := by
  unfold turnB
  rw [List.length_append, List.length_singleton, List.range_succ, List.map_append]
  congr 1
  · refine List.map_congr_left fun i hi => ?_
    have hi : i < bs.length := List.mem_range.mp hi
    rw [List.getD_eq_getElem?_getD, List.getD_eq_getElem?_getD, List.getElem?_append_left hi]
  · simp [List.getD]
theorem zip_dn (a b : Blk) : List.zipWith (fun x y => x ^^^ y) a b = xorB a b := rfl
theorem rowD (bs : List Blk) (i : Nat) (h : i < bs.length) : (bs.map bD)[i]? = some (bD (bs.getD i [])) := by
  rw [List.getElem?_map, List.getElem?_eq_getElem h]
  simp [List.getD, h]
theorem getD_mem {bs : List Blk} {i : Nat} (h : i < bs.length) : bs.getD i [] ∈ bs := by
  rw [List.getD_eq_getElem?_getD, List.getElem?_eq_getElem h]
  exact List.getElem_mem h
theorem cut_from (xs : List Dv) (k : Nat) (h : k ≤ xs.length) : cutA xs (some (k : Int)) none = xs.drop k := by
  have e : HT.sIx xs.length 0 (some (k : Int)) = k := by rw [HT.sIx_nat]; omega
  unfold cutA
  rw [e]
  show (xs.drop k).take (xs.length - k) = _
  exact List.take_of_length_le (by simp)
theorem cut_to (xs : List Dv) (k : Nat) (h : k ≤ xs.length) : cutA xs none (some (k : Int)) = xs.take k := by
  have e : HT.sIx xs.length xs.length (some (k : Int)) = k := by rw [HT.sIx_nat]; omega
  unfold cutA
  rw [e]
  show (xs.drop 0).take (k - 0) = _
  rfl
theorem atI_end {α : Type} (xs : List α) (x : α) : atI (xs ++ [x]) (-1) = some x := by
  have e : (-1 + ((xs.length : Int) + 1)).toNat = xs.length := by omega
  simp [atI, ixN, e, show (1 : Int) ≤ (xs.length : Int) + 1 by omega]
theorem pl_row (n : Nat) (bs : List Blk) : Pl (n + 2) (.tup (bs.map bD)) := fun d hd => by
  obtain ⟨x, _, rfl⟩ := List.mem_map.mp hd
  exact pl_block n x
def RowD (d : Dv) (xs : List Dv) : Prop := d = .tup xs ∨ d = .rol xs
theorem RowD.items {d : Dv} {xs : List Dv} (h : RowD d xs) (M : Ms) : itemsA d M = some xs := by
  rcases h with rfl | rfl <;> rfl
def mixB (j : Nat) (a b : Blk) : Blk := (List.range b.length).map fun t => if t < j then b.getD t 0 else a.getD t 0
theorem blk_range {a : Blk} {n : Nat} (h : a.length = n) : (List.range n).map (fun t => a.getD t 0) = a := by
  refine List.ext_getElem (by simp [h]) fun i h1 h2 => ?_
  simp at h1
  simp [List.getD, h2]
theorem mixB_len {j : Nat} {a b : Blk} : (mixB j a b).length = b.length := by simp [mixB]
theorem mixB_zero {a b : Blk} (h : a.length = b.length) : mixB 0 a b = a := by
  unfold mixB
  simp only [Nat.not_lt_zero, if_false]
  exact blk_range h
theorem mixB_all {a b : Blk} {n : Nat} (h : b.length ≤ n) : mixB n a b = b := by
  unfold mixB
  have e : (List.range b.length).map (fun t => if t < n then b.getD t 0 else a.getD t 0) = (List.range b.length).map fun t => b.getD t 0 :=
    List.map_congr_left fun t ht => by
      have := List.mem_range.mp ht
      rw [if_pos (by omega)]
  rw [e]
  exact blk_range rfl
theorem mixB_get {j : Nat} {a b : Blk} (hj : j < b.length) : (mixB j a b)[j]? = some (a.getD j 0) := by
  unfold mixB
  rw [List.getElem?_map, List.getElem?_range hj]
  simp
theorem mixB_set {j : Nat} {a b : Blk} (hj : j < b.length) : (mixB j a b).set j (b.getD j 0) = mixB (j + 1) a b := by
  refine List.ext_getElem (by simp [mixB_len]) fun i h1 h2 => ?_
  have hi : i < b.length := by rw [mixB_len] at h2; exact h2
  rw [List.getElem_set]
  simp only [mixB, List.getElem_map, List.getElem_range]
  by_cases e : j = i
  · subst e
    rw [if_pos rfl, if_pos (by omega)]
  · rw [if_neg e]
    by_cases h3 : i < j
    · rw [if_pos h3, if_pos (by omega)]
    · rw [if_neg h3, if_neg (by omega)]
theorem xorB_getD {a b : Blk} {j : Nat} (ha : j < a.length) (hb : j < b.length) : (xorB a b).getD j 0 = a.getD j 0 ^^^ b.getD j 0 := by
  simp [xorB, List.getD, ha, hb, List.getElem?_zipWith]
theorem mulB_getD {c : Nat} {b : Blk} {j : Nat} (hb : j < b.length) : (mulB c b).getD j 0 = GF.gt c (b.getD j 0) := by
  simp [mulB, List.getD, hb]
theorem dnD (b : Blk) (j : Nat) (h : j < b.length) : (b.map fun n => dn n)[j]? = some (dn (b.getD j 0)) := by
  rw [List.getElem?_map, List.getElem?_eq_getElem h]
  simp [List.getD, h]
def RowM (d : Dv) (xs : List Dv) (M : Ms) : Prop := d = .tup xs ∨ d = .rol xs ∨ ∃ r, d = .ref r ∧ M r = some (.lst xs)
theorem RowM.items {d : Dv} {xs : List Dv} {M : Ms} (h : RowM d xs M) : itemsA d M = some xs := by
  rcases h with rfl | rfl | ⟨r, rfl, h⟩
  · rfl
  · rfl
  · exact itemsA_l h
theorem RowM.sub {d : Dv} {xs : List Dv} {M M' : Ms} (h : RowM d xs M) (s : Sub M M') : RowM d xs M' := by
  rcases h with rfl | rfl | ⟨r, rfl, h⟩
  · exact .inl rfl
  · exact .inr (.inl rfl)
  · exact .inr (.inr ⟨r, rfl, s _ _ h⟩)
theorem gt_two {a : Nat} : GF.gt a 2 = GF.xt a := by
  simp [GF.G]
theorem pw_succ (k : Nat) : GF.pw (k + 1) = GF.xt (GF.pw k) := gt_two
def lgL (L : List Nat) (b : Nat) : Nat := L.findIdx (fun x => x == b)
def pwL : Nat → Nat → List Nat
  | 0, _ => []
  | n + 1, x => x :: pwL n (GF.xt x)
theorem pwL_eq : ∀ n k, pwL n (GF.pw k) = (List.range n).map fun i => GF.pw (k + i)
  | 0, _ => rfl
  | n + 1, k => by
    rw [pwL, ← pw_succ, pwL_eq n (k + 1), List.range_succ_eq_map, List.map_cons, List.map_map]
    congr 1
    refine List.map_congr_left fun i _ => ?_
    simp only [Function.comp]
    congr 1
    omega
def allIn (L : List Nat) : Bool := (List.range 256).all fun b => b == 0 || L.contains b
theorem all_in : allIn (pwL 255 1) = true := by decide +kernel
theorem pw_all {b : Nat} (h : b < 256) (h0 : b ≠ 0) : ∃ k, k < 255 ∧ GF.pw k = b := by
  have e := all_in
  rw [allIn, List.all_eq_true] at e
  have := e b (List.mem_range.mpr h)
  have e2 : pwL 255 1 = (List.range 255).map fun i => GF.pw (0 + i) := pwL_eq 255 0
  rw [e2] at this
  simp [h0] at this
  exact this
open Classical in
noncomputable def lg (b : Nat) : Nat := if h : ∃ k, k < 255 ∧ GF.pw k = b then Classical.choose h else 0
theorem lg_ok {b : Nat} (h : b < 256) (h0 : b ≠ 0) : lg b < 255 ∧ GF.pw (lg b) = b := by
  have e := pw_all h h0
  unfold lg
  rw [dif_pos e]
  exact Classical.choose_spec e
theorem times_lg {a b : Nat} (ha : a < 256) (hb : b < 256) (a0 : a ≠ 0) (b0 : b ≠ 0) : GF.pw ((lg a + lg b) % 255) = GF.gt a b := by
  rw [GF.pw_mod, show GF.pw (lg a + lg b) = GF.gt (GF.pw (lg a)) (GF.pw (lg b)) from GF.gp_add (by decide) _ _, (lg_ok ha a0).2, (lg_ok hb b0).2]
end Law
namespace Law
open PySem L2 HC PyProof.Rows
def wD (h : Head) (g : Nat) : Cell := .dic [(kS "parities", dn h.par), (kS "size", dn h.size), (kS "grow", dn g), (kS "width", dn h.width), (kS "rows", dn h.rows), (kS "moved", dn h.moved), (kS "spares", dn h.spares)]
structure WOk (h : Head) (g : Nat) : Prop where
  ok : h.Ok (h.width + g)
  g1 : g ≤ 1
  many : h.width + g ≤ 10
  room : h.size * (h.width + g) * h.rows ≤ 480
  sp : h.spares ≤ 9
def wideH (h : Head) (row : Nat) : Nat := h.width + (if row < h.moved then 1 else 0)
theorem WOk.wide_le {h : Head} {g : Nat} (w : WOk h g) (row : Nat) : wideH h row ≤ h.width + g := by
  have := w.ok.many
  unfold wideH
  split <;> omega
theorem WOk.wide_pos {h : Head} {g : Nat} (w : WOk h g) (row : Nat) : h.par < wideH h row := by
  have := w.ok.width1
  unfold wideH
  omega
def GoneM (M : Ms) (l b : Addr) (kl : List (Key × Dv)) (kb : List (List Key × Dv)) : Prop := M l = some (.dic kl) ∧ M b = some (.dit kb)
def lostB (kl : List (Key × Dv)) (i : Nat) : Bool := (getK kl (.inl (i : Int))).isSome
def badB (kb : List (List Key × Dv)) (i row : Nat) : Bool := (getK kb [.inl (i : Int), .inl (row : Int)]).isSome
def fullD (fs : List (List Blk)) : Dv := .rol (fs.map fun r => .rol (r.map bD))
structure FullOk (h : Head) (fs : List (List Blk)) : Prop where
  len : fs.length = h.rows
  row : ∀ i, i < h.rows → ∃ as : List Blk, fs.getD i [] = as ++ parB h.par h.size as ∧ as.length + h.par = wideH h i ∧ WfR h.size as
theorem FullOk.width {h : Head} {fs : List (List Blk)} (f : FullOk h fs) (p1 : 1 ≤ h.par) (p2 : h.par ≤ 2) {i : Nat} (hi : i < h.rows) : (fs.getD i []).length = wideH h i := by
  obtain ⟨as, e, l, w⟩ := f.row i hi
  rw [e, List.length_append, parB_len p1 p2, l]
theorem FullOk.wf {h : Head} {fs : List (List Blk)} (f : FullOk h fs) {i : Nat} (hi : i < h.rows) : WfR h.size (fs.getD i []) := by
  obtain ⟨as, e, l, w⟩ := f.row i hi
  rw [e]
  intro b hb
  rcases List.mem_append.mp hb with h | h
  · exact w b h
  · exact parB_wf w b h
def plU (i row w : Nat) : Nat := (((i : Int) - (row : Int)) % (w : Int)).toNat
theorem plU_lt {i row w : Nat} (h : 0 < w) : plU i row w < w := by
  have h1 := Int.emod_nonneg ((i : Int) - (row : Int)) (show (w : Int) ≠ 0 by omega)
  have h2 := Int.emod_lt_of_pos ((i : Int) - (row : Int)) (show (0 : Int) < w by omega)
  unfold plU
  omega
theorem plU_eq {i row w : Nat} (h : 0 < w) : ((i : Int) - (row : Int)) % (w : Int) = (plU i row w : Int) := by
  have h1 := Int.emod_nonneg ((i : Int) - (row : Int)) (show (w : Int) ≠ 0 by omega)
  unfold plU
  omega
def cellW (h : Head) (fs : List (List Blk)) (kb : List (List Key × Dv)) (i row : Nat) : Option Blk := if i < wideH h row ∧ badB kb i row = false then some ((fs.getD row []).getD (plU i row (wideH h row)) []) else none
def storeW (h : Head) (g : Nat) (fs : List (List Blk)) (kl : List (Key × Dv)) (kb : List (List Key × Dv)) : Store :=
  ⟨h, (List.range (h.width + g)).map fun i => if lostB kl i then none else some ((List.range h.rows).map fun row => cellW h fs kb i row), []⟩
end Law
namespace Law
open PySem L2 HC PyProof.Rows
theorem and1_nat (a : Nat) : Builtin.bitAnd (a : Int) 1 = ((a % 2 : Nat) : Int) := by
  have h := Bits.bitAnd_mask (x := (a : Int)) 1 (by omega)
  rw [show (2 : Int) ^ 1 - 1 = 1 from rfl, show (2 : Int) ^ 1 = 2 from rfl] at h
  rw [h]; omega
theorem xorI {x y : Int} {a b : Nat} (h : x = (a : Int)) (k : y = (b : Int)) : Builtin.bitXor x y = ((a ^^^ b : Nat) : Int) := by
  subst h; subst k
  rw [Bits.bitXor_pp (by omega) (by omega), Int.toNat_natCast, Int.toNat_natCast]
theorem xt_big {a : Nat} (h : a < 256) (k : 256 ≤ a * 2) : GF.xt a = (a * 2) ^^^ 285 := by
  unfold GF.xt
  rw [if_pos]
  rw [Nat.testBit_eq_decide_div_mod_eq]
  exact decide_eq_true (by omega)
theorem xt_small {a : Nat} (k : a * 2 < 256) : GF.xt a = a * 2 := by
  unfold GF.xt
  rw [if_neg, Nat.xor_zero]
  rw [Nat.testBit_eq_decide_div_mod_eq]
  simp; omega
theorem half_nat (b : Nat) : ((b : Int) / 2 ^ (1 : Int).toNat) = ((b / 2 : Nat) : Int) := by simp
theorem dbl_nat (a : Nat) : ((a : Int) * 2 ^ (1 : Int).toNat) = ((a * 2 : Nat) : Int) := by simp
end Law
namespace Law
open PySem L2 HC PyProof.Rows
def TabsM (xs : List Str) (M : Ms) : Prop := ∀ x ∈ xs, ∃ P, M P = some (.tab x)
theorem TabsM.sub {xs : List Str} {M M' : Ms} (h : TabsM xs M) (s : Sub M M') : TabsM xs M' := fun x hx => by
  obtain ⟨P, e⟩ := h x hx
  exact ⟨P, s _ _ e⟩
theorem But.dic {p : Addr} {M M' : Ms} (h : But p p M M') (d : DPot p p M) {a : Addr} {c : Cell} (hc : ∀ xs, c ≠ .lst xs) (e : M a = some c) : M' a = some c := by
  obtain ⟨_, ns, k, hp, _⟩ := d
  have ne : a ≠ p := fun z => by
    subst z
    rw [hp] at e
    exact hc _ (Option.some.inj e).symm
  exact h a c ne ne e
theorem TabsM.but {p : Addr} {xs : List Str} {M M' : Ms} (t : TabsM xs M) (h : But p p M M') (d : DPot p p M) : TabsM xs M' := fun x hx => by
  obtain ⟨P, e⟩ := t x hx
  exact ⟨P, h.dic d (fun _ z => nomatch z) e⟩
structure BW (p w l b : Addr) (h : Head) (g : Nat) (kl : List (Key × Dv)) (kb : List (List Key × Dv)) (xs : List Str) (M : Ms) : Prop where
  pot : DPot p p M
  w : M w = some (wD h g)
  gone : GoneM M l b kl kb
  tab : TabsM xs M
section
variable {p w l b : Addr} {h : Head} {g : Nat} {kl : List (Key × Dv)} {kb : List (List Key × Dv)} {xs : List Str} {M M' : Ms}
theorem BW.sub (q : BW p w l b h g kl kb xs M) (s : Sub M M') : BW p w l b h g kl kb xs M' := ⟨q.pot.sub s, s _ _ q.w, ⟨s _ _ q.gone.1, s _ _ q.gone.2⟩, q.tab.sub s⟩
theorem BW.next (q : BW p w l b h g kl kb xs M) (d : DPot p p M') (k : But p p M M') : BW p w l b h g kl kb xs M' :=
  ⟨d, k.dic q.pot (fun _ z => nomatch z) q.w, ⟨k.dic q.pot (fun _ z => nomatch z) q.gone.1, k.dic q.pot (fun _ z => nomatch z) q.gone.2⟩, q.tab.but k q.pot⟩
end
end Law
namespace Law
open PySem L2 HC PyProof.Rows
set_option maxHeartbeats 1000000
local macro_rules | `(tactic| infer_instance) => `(tactic| (first | exact True.intro | omega | assumption | decide | (dsimp only; omega) | exact lt_line (by omega) | exact le_line (by omega) | exact lt_line (by simp <;> omega) | exact le_line (by simp <;> omega) | exact ⟨by decide, by decide, by decide⟩ | exact ⟨by omega, by omega, by omega⟩ | exact List.cons_ne_nil _ _ | exact CMul_l (by omega) | exact CMul_r (by omega) | exact tyM_list (by (first | exact mup_same | assumption | (exact look_new (by assumption) (by assumption)) | (exact look_new (look_new (by assumption) (by assumption)) (by assumption)))) | (first | exact mup_same | assumption | (exact look_new (by assumption) (by assumption)) | (exact look_new (look_new (by assumption) (by assumption)) (by assumption))) | (simp only [List.length_cons, List.length_nil, List.length_map, List.length_replicate, List.length_append, rangeA_len] <;> omega)))
local macro_rules | `(tactic| decreasing_tactic) => `(tactic| ((conv => whnf); repeat (first | (refine And.intro (by infer_instance) ?_; (conv => whnf)) | (refine And.intro (by infer_instance) fun _ hr => fz_new hr ?_; (conv => whnf)) | (refine fun _ hr => fz_new hr ?_; (conv => whnf)) | (refine onIf_ndecF (by with_reducible rfl) ?_; (conv => whnf)) | (refine onIf_decT (by with_reducible rfl) ?_; (conv => whnf)) | (refine onIf_decT (by omega) ?_; (conv => whnf)) | (refine onIf_decF (by omega) ?_; (conv => whnf)) | (refine onIf_ndecT (by omega) ?_; (conv => whnf)) | (refine onIf_ndecF (by omega) ?_; (conv => whnf)) | (refine onIf_decT (congrArg Dv.int (by omega)) ?_; (conv => whnf)) | (refine onIf_decF (fun h => absurd (Dv.int.inj h) (by omega)) ?_; (conv => whnf)) | (refine onIf_ndecT (fun h => absurd (Dv.int.inj h) (by omega)) ?_; (conv => whnf)) | (refine onIf_ndecF (congrArg Dv.int (by omega)) ?_; (conv => whnf)) | (refine ⟨_, (by (first | exact kit_ii | exact kit_ib | exact kit_it | exact kit_is | exact kit_bi | exact kit_bb | exact kit_bt | exact kit_bs | exact kit_ti | exact kit_tb | exact kit_tt | exact kit_ts | exact kit_si | exact kit_sb | exact kit_st | exact kit_ss | exact kit_ni | exact kit_nb | exact kit_nt | exact kit_ns | exact kit_li | exact kit_lb | exact kit_lt | exact kit_ls)), ?_⟩; (conv => whnf)) | (refine onS_of (itemsA_l (by (first | exact mup_same | assumption | (exact look_new (by assumption) (by assumption)) | (exact look_new (look_new (by assumption) (by assumption)) (by assumption))))) ?_; (conv => whnf)) | (refine onS_of (lstA_l (by (first | exact mup_same | assumption | (exact look_new (by assumption) (by assumption)) | (exact look_new (look_new (by assumption) (by assumption)) (by assumption))))) ?_; (conv => whnf)) | (refine onS_of (lstC_l (by (first | exact mup_same | assumption | (exact look_new (by assumption) (by assumption)) | (exact look_new (look_new (by assumption) (by assumption)) (by assumption))))) ?_; (conv => whnf)) | (refine onS_of (lenA_l (by (first | exact mup_same | assumption | (exact look_new (by assumption) (by assumption)) | (exact look_new (look_new (by assumption) (by assumption)) (by assumption))))) ?_; (conv => whnf)))))
def xcs : List Str := [("Gone" : Str), ("NoPlace" : Str), ("NoSpare" : Str), ("There" : Str)]
abbrev N_law_next : List Str := [("_law_box" : Str)]
theorem sc_law_next : FnScope [("_law_box" : Str)] [("_law_box" : Str)] (defScope s_law_next) := ⟨rfl, rfl, rfl, by decide +kernel, rfl, by decide +kernel, by decide +kernel⟩
abbrev N_law_block : List Str := [("_law_box" : Str), ("_law_size" : Str), ("_law_k" : Str)]
theorem sc_law_block : FnScope [("_law_box" : Str), ("_law_size" : Str), ("_law_k" : Str)] [("_law_box" : Str), ("_law_size" : Str)] (defScope s_law_block) := ⟨rfl, rfl, rfl, by decide +kernel, rfl, by decide +kernel, by decide +kernel⟩
abbrev N_law_refused : List Str := [("_law_told_by" : Str), ("e" : Str), ("_law_words" : Str), ("_law_fits" : Str)]
theorem sc_law_refused : FnScope [("_law_told_by" : Str), ("e" : Str), ("_law_words" : Str), ("_law_fits" : Str)] [("_law_told_by" : Str)] (defScope s_law_refused) := ⟨rfl, rfl, rfl, by decide +kernel, rfl, by decide +kernel, by decide +kernel⟩
abbrev N_look_disk : List Str := [("store" : Str), ("disk" : Str)]
theorem sc_look_disk : FnScope [("store" : Str), ("disk" : Str)] [("store" : Str), ("disk" : Str)] (defScope s_look_disk) := ⟨rfl, rfl, rfl, by decide +kernel, rfl, by decide +kernel, by decide +kernel⟩
abbrev N_look_place : List Str := [("store" : Str), ("disk" : Str), ("row" : Str)]
theorem sc_look_place : FnScope [("store" : Str), ("disk" : Str), ("row" : Str)] [("store" : Str), ("disk" : Str), ("row" : Str)] (defScope s_look_place) := ⟨rfl, rfl, rfl, by decide +kernel, rfl, by decide +kernel, by decide +kernel⟩
abbrev N_look_there : List Str := [("store" : Str), ("disk" : Str)]
theorem sc_look_there : FnScope [("store" : Str), ("disk" : Str)] [("store" : Str), ("disk" : Str)] (defScope s_look_there) := ⟨rfl, rfl, rfl, by decide +kernel, rfl, by decide +kernel, by decide +kernel⟩
abbrev N_bad_block : List Str := [("store" : Str), ("disk" : Str), ("row" : Str)]
theorem sc_bad_block : FnScope [("store" : Str), ("disk" : Str), ("row" : Str)] [("store" : Str), ("disk" : Str), ("row" : Str)] (defScope s_bad_block) := ⟨rfl, rfl, rfl, by decide +kernel, rfl, by decide +kernel, by decide +kernel⟩
abbrev N_lose_disk : List Str := [("store" : Str), ("disk" : Str)]
theorem sc_lose_disk : FnScope [("store" : Str), ("disk" : Str)] [("store" : Str), ("disk" : Str)] (defScope s_lose_disk) := ⟨rfl, rfl, rfl, by decide +kernel, rfl, by decide +kernel, by decide +kernel⟩
abbrev N_put_spare : List Str := [("store" : Str), ("disk" : Str)]
theorem sc_put_spare : FnScope [("store" : Str), ("disk" : Str)] [("store" : Str), ("disk" : Str)] (defScope s_put_spare) := ⟨rfl, rfl, rfl, by decide +kernel, rfl, by decide +kernel, by decide +kernel⟩
abbrev N_is_full_block : List Str := [("store" : Str), ("block" : Str), ("byte" : Str)]
theorem sc_is_full_block : FnScope [("store" : Str), ("block" : Str), ("byte" : Str)] [("store" : Str), ("block" : Str)] (defScope s_is_full_block) := ⟨rfl, rfl, rfl, by decide +kernel, rfl, by decide +kernel, by decide +kernel⟩
abbrev N_spoil_block : List Str := [("store" : Str), ("disk" : Str), ("row" : Str), ("told" : Str)]
theorem sc_spoil_block : FnScope [("store" : Str), ("disk" : Str), ("row" : Str), ("told" : Str)] [("store" : Str), ("disk" : Str), ("row" : Str), ("told" : Str)] (defScope s_spoil_block) := ⟨rfl, rfl, rfl, by decide +kernel, rfl, by decide +kernel, by decide +kernel⟩
abbrev N_law_disk_right : List Str := [("_law_store_here" : Str), ("_law_disk" : Str), ("_law_row" : Str), ("_law_block_here" : Str), ("_law_there" : Str), ("_law_word" : Str), ("_law_some" : Str), ("_law_far" : Str), ("_law_wrong" : Str)]
theorem sc_law_disk_right : FnScope [("_law_store_here" : Str), ("_law_disk" : Str), ("_law_row" : Str), ("_law_block_here" : Str), ("_law_there" : Str), ("_law_word" : Str), ("_law_some" : Str), ("_law_far" : Str), ("_law_wrong" : Str)] [("_law_store_here" : Str), ("_law_disk" : Str), ("_law_row" : Str), ("_law_block_here" : Str)] (defScope s_law_disk_right) := ⟨rfl, rfl, rfl, by decide +kernel, rfl, by decide +kernel, by decide +kernel⟩
abbrev N_law_mixed : List Str := [("_law_cell" : Str), ("_law_many_here" : Str), ("_law_at" : Str), ("_law_found" : Str), ("_law_k" : Str)]
theorem sc_law_mixed : FnScope [("_law_cell" : Str), ("_law_many_here" : Str), ("_law_at" : Str), ("_law_found" : Str), ("_law_k" : Str)] [("_law_cell" : Str), ("_law_many_here" : Str)] (defScope s_law_mixed) := ⟨rfl, rfl, rfl, by decide +kernel, rfl, by decide +kernel, by decide +kernel⟩
abbrev N_law_numbers : List Str := [("_law_script" : Str), ("_law_many_here" : Str), ("_law_found" : Str), ("_law_cell" : Str), ("_law_left" : Str), ("_law_k" : Str)]
theorem sc_law_numbers : FnScope [("_law_script" : Str), ("_law_many_here" : Str), ("_law_found" : Str), ("_law_cell" : Str), ("_law_left" : Str), ("_law_k" : Str)] [("_law_script" : Str), ("_law_many_here" : Str)] (defScope s_law_numbers) := ⟨rfl, rfl, rfl, by decide +kernel, rfl, by decide +kernel, by decide +kernel⟩
abbrev N_law_head : List Str := [("_law_world_here" : Str), ("_law_words" : Str), ("_law_word" : Str)]
theorem sc_law_head : FnScope [("_law_world_here" : Str), ("_law_words" : Str), ("_law_word" : Str)] [("_law_world_here" : Str)] (defScope s_law_head) := ⟨rfl, rfl, rfl, by decide +kernel, rfl, by decide +kernel, by decide +kernel⟩
abbrev N_law_wide : List Str := [("_law_world_here" : Str), ("_law_row" : Str)]
theorem sc_law_wide : FnScope [("_law_world_here" : Str), ("_law_row" : Str)] [("_law_world_here" : Str), ("_law_row" : Str)] (defScope s_law_wide) := ⟨rfl, rfl, rfl, by decide +kernel, rfl, by decide +kernel, by decide +kernel⟩
abbrev N_law_store : List Str := [("_law_world_here" : Str), ("_law_fulls_here" : Str), ("_law_gone_here" : Str), ("_law_lost" : Str), ("_law_bad" : Str), ("_law_disks" : Str), ("_law_disk" : Str), ("_law_blocks" : Str), ("_law_row" : Str), ("_law_wide_here" : Str), ("_law_block_here" : Str)]
theorem sc_law_store : FnScope [("_law_world_here" : Str), ("_law_fulls_here" : Str), ("_law_gone_here" : Str), ("_law_lost" : Str), ("_law_bad" : Str), ("_law_disks" : Str), ("_law_disk" : Str), ("_law_blocks" : Str), ("_law_row" : Str), ("_law_wide_here" : Str), ("_law_block_here" : Str)] [("_law_world_here" : Str), ("_law_fulls_here" : Str), ("_law_gone_here" : Str)] (defScope s_law_store) := ⟨rfl, rfl, rfl, by decide +kernel, rfl, by decide +kernel, by decide +kernel⟩
abbrev N_law_times : List Str := [("_law_a" : Str), ("_law_b" : Str), ("_law_found" : Str)]
theorem sc_law_times : FnScope [("_law_a" : Str), ("_law_b" : Str), ("_law_found" : Str)] [("_law_a" : Str), ("_law_b" : Str)] (defScope s_law_times) := ⟨rfl, rfl, rfl, by decide +kernel, rfl, by decide +kernel, by decide +kernel⟩
abbrev N_law_parities : List Str := [("_law_data" : Str), ("_law_parities_here" : Str), ("_law_size" : Str), ("_law_plain" : Str), ("_law_turned" : Str), ("_law_factor" : Str), ("_law_block_here" : Str), ("_law_one" : Str), ("_law_other" : Str)]
theorem sc_law_parities : FnScope [("_law_data" : Str), ("_law_parities_here" : Str), ("_law_size" : Str), ("_law_plain" : Str), ("_law_turned" : Str), ("_law_factor" : Str), ("_law_block_here" : Str), ("_law_one" : Str), ("_law_other" : Str)] [("_law_data" : Str), ("_law_parities_here" : Str), ("_law_size" : Str)] (defScope s_law_parities) := ⟨rfl, rfl, rfl, by decide +kernel, rfl, by decide +kernel, by decide +kernel⟩
abbrev N_law_fulls : List Str := [("_law_box" : Str), ("_law_world_here" : Str), ("_law_fulls_here" : Str), ("_law_row" : Str), ("_law_data" : Str), ("_law_k" : Str)]
theorem sc_law_fulls : FnScope [("_law_box" : Str), ("_law_world_here" : Str), ("_law_fulls_here" : Str), ("_law_row" : Str), ("_law_data" : Str), ("_law_k" : Str)] [("_law_box" : Str), ("_law_world_here" : Str)] (defScope s_law_fulls) := ⟨rfl, rfl, rfl, by decide +kernel, rfl, by decide +kernel, by decide +kernel⟩
abbrev N_law_many : List Str := [("_law_box" : Str), ("_law_few" : Str), ("_law_most" : Str), ("_law_x" : Str)]
theorem sc_law_many : FnScope [("_law_box" : Str), ("_law_few" : Str), ("_law_most" : Str), ("_law_x" : Str)] [("_law_box" : Str), ("_law_few" : Str), ("_law_most" : Str)] (defScope s_law_many) := ⟨rfl, rfl, rfl, by decide +kernel, rfl, by decide +kernel, by decide +kernel⟩
abbrev N_law_gone : List Str := [("_law_box" : Str), ("_law_world_here" : Str), ("_law_disks" : Str), ("_law_lost" : Str), ("_law_k" : Str), ("_law_bad" : Str)]
theorem sc_law_gone : FnScope [("_law_box" : Str), ("_law_world_here" : Str), ("_law_disks" : Str), ("_law_lost" : Str), ("_law_k" : Str), ("_law_bad" : Str)] [("_law_box" : Str), ("_law_world_here" : Str)] (defScope s_law_gone) := ⟨rfl, rfl, rfl, by decide +kernel, rfl, by decide +kernel, by decide +kernel⟩
abbrev N_law_world : List Str := [("_law_box" : Str), ("_law_grow" : Str), ("_law_parities_here" : Str), ("_law_world_here" : Str)]
theorem sc_law_world : FnScope [("_law_box" : Str), ("_law_grow" : Str), ("_law_parities_here" : Str), ("_law_world_here" : Str)] [("_law_box" : Str)] (defScope s_law_world) := ⟨rfl, rfl, rfl, by decide +kernel, rfl, by decide +kernel, by decide +kernel⟩
abbrev N_law_world_of : List Str := [("_law_box" : Str), ("_law_world_here" : Str)]
theorem sc_law_world_of : FnScope [("_law_box" : Str), ("_law_world_here" : Str)] [("_law_box" : Str)] (defScope s_law_world_of) := ⟨rfl, rfl, rfl, by decide +kernel, rfl, by decide +kernel, by decide +kernel⟩
abbrev N_law : List Str := [("_law_script" : Str), ("_law_box" : Str), ("_law_world_here" : Str), ("_law_fulls_here" : Str), ("_law_gone_here" : Str), ("_law_whole" : Str), ("_law_block_here" : Str), ("_law_store_here" : Str), ("_law_disk" : Str), ("_law_far" : Str), ("_law_some" : Str)]
theorem sc_law : FnScope [("_law_script" : Str), ("_law_box" : Str), ("_law_world_here" : Str), ("_law_fulls_here" : Str), ("_law_gone_here" : Str), ("_law_whole" : Str), ("_law_block_here" : Str), ("_law_store_here" : Str), ("_law_disk" : Str), ("_law_far" : Str), ("_law_some" : Str)] [("_law_script" : Str)] (defScope s_law) := ⟨rfl, rfl, rfl, by decide +kernel, rfl, by decide +kernel, by decide +kernel⟩
set_option genInjectivity false in
set_option genSizeOf false in
set_option genSizeOfSpec false in
set_option maxHeartbeats 0 in
structure Tx (K : PySem.W.Frag) (mg : Str → Option Value) (base : Heap) where
  n_ValueError : mg ("ValueError" : Str) = none
  n_all : mg ("all" : Str) = none
  n_int : mg ("int" : Str) = none
  n_isinstance : mg ("isinstance" : Str) = none
  n_len : mg ("len" : Str) = none
  n_min : mg ("min" : Str) = none
  n_range : mg ("range" : Str) = none
  n_str : mg ("str" : Str) = none
  n_sum : mg ("sum" : Str) = none
  n_tuple : mg ("tuple" : Str) = none
  n_zip : mg ("zip" : Str) = none
  f_law_next : Addr
  d_law_next : FuncData
  F_law_next : Fun K ("_law_next" : Str) ("_law_next" : Str) s_law_next f_law_next d_law_next
  m_law_next : mg ("_law_next" : Str) = some (.ref f_law_next)
  b_law_next : Binds K d_law_next [("_law_box" : Str)] []
  f_law_block : Addr
  d_law_block : FuncData
  F_law_block : Fun K ("_law_block" : Str) ("_law_block" : Str) s_law_block f_law_block d_law_block
  m_law_block : mg ("_law_block" : Str) = some (.ref f_law_block)
  b_law_block : Binds K d_law_block [("_law_box" : Str), ("_law_size" : Str)] []
  f_law_refused : Addr
  d_law_refused : FuncData
  F_law_refused : Fun K ("_law_refused" : Str) ("_law_refused" : Str) s_law_refused f_law_refused d_law_refused
  m_law_refused : mg ("_law_refused" : Str) = some (.ref f_law_refused)
  b_law_refused : Binds K d_law_refused [("_law_told_by" : Str)] []
  f_look_disk : Addr
  d_look_disk : FuncData
  F_look_disk : Fun K ("look_disk" : Str) ("look_disk" : Str) s_look_disk f_look_disk d_look_disk
  m_look_disk : mg ("look_disk" : Str) = some (.ref f_look_disk)
  b_look_disk : Binds K d_look_disk [("store" : Str), ("disk" : Str)] []
  f_look_place : Addr
  d_look_place : FuncData
  F_look_place : Fun K ("look_place" : Str) ("look_place" : Str) s_look_place f_look_place d_look_place
  m_look_place : mg ("look_place" : Str) = some (.ref f_look_place)
  b_look_place : Binds K d_look_place [("store" : Str), ("disk" : Str), ("row" : Str)] []
  f_look_there : Addr
  d_look_there : FuncData
  F_look_there : Fun K ("look_there" : Str) ("look_there" : Str) s_look_there f_look_there d_look_there
  m_look_there : mg ("look_there" : Str) = some (.ref f_look_there)
  b_look_there : Binds K d_look_there [("store" : Str), ("disk" : Str)] []
  f_bad_block : Addr
  d_bad_block : FuncData
  F_bad_block : Fun K ("bad_block" : Str) ("bad_block" : Str) s_bad_block f_bad_block d_bad_block
  m_bad_block : mg ("bad_block" : Str) = some (.ref f_bad_block)
  b_bad_block : Binds K d_bad_block [("store" : Str), ("disk" : Str), ("row" : Str)] []
  f_lose_disk : Addr
  d_lose_disk : FuncData
  F_lose_disk : Fun K ("lose_disk" : Str) ("lose_disk" : Str) s_lose_disk f_lose_disk d_lose_disk
  m_lose_disk : mg ("lose_disk" : Str) = some (.ref f_lose_disk)
  b_lose_disk : Binds K d_lose_disk [("store" : Str), ("disk" : Str)] []
  f_put_spare : Addr
  d_put_spare : FuncData
  F_put_spare : Fun K ("put_spare" : Str) ("put_spare" : Str) s_put_spare f_put_spare d_put_spare
  m_put_spare : mg ("put_spare" : Str) = some (.ref f_put_spare)
  b_put_spare : Binds K d_put_spare [("store" : Str), ("disk" : Str)] []
  f_is_full_block : Addr
  d_is_full_block : FuncData
  F_is_full_block : Fun K ("is_full_block" : Str) ("is_full_block" : Str) s_is_full_block f_is_full_block d_is_full_block
  m_is_full_block : mg ("is_full_block" : Str) = some (.ref f_is_full_block)
  b_is_full_block : Binds K d_is_full_block [("store" : Str), ("block" : Str)] []
  f_spoil_block : Addr
  d_spoil_block : FuncData
  F_spoil_block : Fun K ("spoil_block" : Str) ("spoil_block" : Str) s_spoil_block f_spoil_block d_spoil_block
  m_spoil_block : mg ("spoil_block" : Str) = some (.ref f_spoil_block)
  b_spoil_block : Binds K d_spoil_block [("store" : Str), ("disk" : Str), ("row" : Str), ("told" : Str)] []
  f_law_disk_right : Addr
  d_law_disk_right : FuncData
  F_law_disk_right : Fun K ("_law_disk_right" : Str) ("_law_disk_right" : Str) s_law_disk_right f_law_disk_right d_law_disk_right
  m_law_disk_right : mg ("_law_disk_right" : Str) = some (.ref f_law_disk_right)
  b_law_disk_right : Binds K d_law_disk_right [("_law_store_here" : Str), ("_law_disk" : Str), ("_law_row" : Str), ("_law_block_here" : Str)] []
  f_law_mixed : Addr
  d_law_mixed : FuncData
  F_law_mixed : Fun K ("_law_mixed" : Str) ("_law_mixed" : Str) s_law_mixed f_law_mixed d_law_mixed
  m_law_mixed : mg ("_law_mixed" : Str) = some (.ref f_law_mixed)
  b_law_mixed : Binds K d_law_mixed [("_law_cell" : Str), ("_law_many_here" : Str)] []
  f_law_numbers : Addr
  d_law_numbers : FuncData
  F_law_numbers : Fun K ("_law_numbers" : Str) ("_law_numbers" : Str) s_law_numbers f_law_numbers d_law_numbers
  m_law_numbers : mg ("_law_numbers" : Str) = some (.ref f_law_numbers)
  b_law_numbers : Binds K d_law_numbers [("_law_script" : Str), ("_law_many_here" : Str)] []
  f_law_head : Addr
  d_law_head : FuncData
  F_law_head : Fun K ("_law_head" : Str) ("_law_head" : Str) s_law_head f_law_head d_law_head
  m_law_head : mg ("_law_head" : Str) = some (.ref f_law_head)
  b_law_head : Binds K d_law_head [("_law_world_here" : Str)] []
  f_law_wide : Addr
  d_law_wide : FuncData
  F_law_wide : Fun K ("_law_wide" : Str) ("_law_wide" : Str) s_law_wide f_law_wide d_law_wide
  m_law_wide : mg ("_law_wide" : Str) = some (.ref f_law_wide)
  b_law_wide : Binds K d_law_wide [("_law_world_here" : Str), ("_law_row" : Str)] []
  f_law_store : Addr
  d_law_store : FuncData
  F_law_store : Fun K ("_law_store" : Str) ("_law_store" : Str) s_law_store f_law_store d_law_store
  m_law_store : mg ("_law_store" : Str) = some (.ref f_law_store)
  b_law_store : Binds K d_law_store [("_law_world_here" : Str), ("_law_fulls_here" : Str), ("_law_gone_here" : Str)] []
  f_law_times : Addr
  d_law_times : FuncData
  F_law_times : Fun K ("_law_times" : Str) ("_law_times" : Str) s_law_times f_law_times d_law_times
  m_law_times : mg ("_law_times" : Str) = some (.ref f_law_times)
  b_law_times : Binds K d_law_times [("_law_a" : Str), ("_law_b" : Str)] []
  f_law_parities : Addr
  d_law_parities : FuncData
  F_law_parities : Fun K ("_law_parities" : Str) ("_law_parities" : Str) s_law_parities f_law_parities d_law_parities
  m_law_parities : mg ("_law_parities" : Str) = some (.ref f_law_parities)
  b_law_parities : Binds K d_law_parities [("_law_data" : Str), ("_law_parities_here" : Str), ("_law_size" : Str)] []
  f_law_fulls : Addr
  d_law_fulls : FuncData
  F_law_fulls : Fun K ("_law_fulls" : Str) ("_law_fulls" : Str) s_law_fulls f_law_fulls d_law_fulls
  m_law_fulls : mg ("_law_fulls" : Str) = some (.ref f_law_fulls)
  b_law_fulls : Binds K d_law_fulls [("_law_box" : Str), ("_law_world_here" : Str)] []
  f_law_many : Addr
  d_law_many : FuncData
  F_law_many : Fun K ("_law_many" : Str) ("_law_many" : Str) s_law_many f_law_many d_law_many
  m_law_many : mg ("_law_many" : Str) = some (.ref f_law_many)
  b_law_many : Binds K d_law_many [("_law_box" : Str), ("_law_few" : Str), ("_law_most" : Str)] []
  f_law_gone : Addr
  d_law_gone : FuncData
  F_law_gone : Fun K ("_law_gone" : Str) ("_law_gone" : Str) s_law_gone f_law_gone d_law_gone
  m_law_gone : mg ("_law_gone" : Str) = some (.ref f_law_gone)
  b_law_gone : Binds K d_law_gone [("_law_box" : Str), ("_law_world_here" : Str)] []
  f_law_world : Addr
  d_law_world : FuncData
  F_law_world : Fun K ("_law_world" : Str) ("_law_world" : Str) s_law_world f_law_world d_law_world
  m_law_world : mg ("_law_world" : Str) = some (.ref f_law_world)
  b_law_world : Binds K d_law_world [("_law_box" : Str)] []
  f_law_world_of : Addr
  d_law_world_of : FuncData
  F_law_world_of : Fun K ("_law_world_of" : Str) ("_law_world_of" : Str) s_law_world_of f_law_world_of d_law_world_of
  m_law_world_of : mg ("_law_world_of" : Str) = some (.ref f_law_world_of)
  b_law_world_of : Binds K d_law_world_of [("_law_box" : Str)] []
  f_law : Addr
  d_law : FuncData
  F_law : Fun K ("law" : Str) ("law" : Str) s_law f_law d_law
  m_law : mg ("law" : Str) = some (.ref f_law)
  b_law : Binds K d_law [("_law_script" : Str)] []
  fe_law_disk_right : f_law_disk_right = He.ga K ("_law_disk_right" : Str)
  tl_law_disk_right : LamX.TabB base mg (He.codeOf K (("_law_disk_right" : Str), none)) (lamP K ("_law_disk_right" : Str))
  fe_law : f_law = He.ga K ("law" : Str)
  tl_law : LamX.TabB base mg (He.codeOf K (("law" : Str), none)) (lamP K ("law" : Str))
  ca_Gone : Addr
  na_Gone : PySem.W.nsIn K mainGlobals ("Gone" : Str) = some (some (.ref ca_Gone))
  ga_Gone : mg ("Gone" : Str) = some (.ref ca_Gone)
  ca_NoPlace : Addr
  na_NoPlace : PySem.W.nsIn K mainGlobals ("NoPlace" : Str) = some (some (.ref ca_NoPlace))
  ga_NoPlace : mg ("NoPlace" : Str) = some (.ref ca_NoPlace)
  ca_NoSpare : Addr
  na_NoSpare : PySem.W.nsIn K mainGlobals ("NoSpare" : Str) = some (some (.ref ca_NoSpare))
  ga_NoSpare : mg ("NoSpare" : Str) = some (.ref ca_NoSpare)
  ca_There : Addr
  na_There : PySem.W.nsIn K mainGlobals ("There" : Str) = some (some (.ref ca_There))
  ga_There : mg ("There" : Str) = some (.ref ca_There)
  ca_Growing : Addr
  na_Growing : PySem.W.nsIn K mainGlobals ("Growing" : Str) = some (some (.ref ca_Growing))
  ga_Growing : mg ("Growing" : Str) = some (.ref ca_Growing)
  ca_Halfway : Addr
  na_Halfway : PySem.W.nsIn K mainGlobals ("Halfway" : Str) = some (some (.ref ca_Halfway))
  ga_Halfway : mg ("Halfway" : Str) = some (.ref ca_Halfway)
  ca_Lost : Addr
  na_Lost : PySem.W.nsIn K mainGlobals ("Lost" : Str) = some (some (.ref ca_Lost))
  ga_Lost : mg ("Lost" : Str) = some (.ref ca_Lost)
  ca_NoStore : Addr
  na_NoStore : PySem.W.nsIn K mainGlobals ("NoStore" : Str) = some (some (.ref ca_NoStore))
  ga_NoStore : mg ("NoStore" : Str) = some (.ref ca_NoStore)
  ca_NoText : Addr
  na_NoText : PySem.W.nsIn K mainGlobals ("NoText" : Str) = some (some (.ref ca_NoText))
  ga_NoText : mg ("NoText" : Str) = some (.ref ca_NoText)
  ca_NotGrowing : Addr
  na_NotGrowing : PySem.W.nsIn K mainGlobals ("NotGrowing" : Str) = some (some (.ref ca_NotGrowing))
  ga_NotGrowing : mg ("NotGrowing" : Str) = some (.ref ca_NotGrowing)
  ca_TooFew : Addr
  na_TooFew : PySem.W.nsIn K mainGlobals ("TooFew" : Str) = some (some (.ref ca_TooFew))
  ga_TooFew : mg ("TooFew" : Str) = some (.ref ca_TooFew)
  ca_Untold : Addr
  na_Untold : PySem.W.nsIn K mainGlobals ("Untold" : Str) = some (some (.ref ca_Untold))
  ga_Untold : mg ("Untold" : Str) = some (.ref ca_Untold)
  ca_DiskError : Addr
  na_DiskError : PySem.W.nsIn K mainGlobals ("DiskError" : Str) = some (some (.ref ca_DiskError))
  ga_DiskError : mg ("DiskError" : Str) = some (.ref ca_DiskError)
  xc_Gone : XcT K mg ("Gone" : Str)
  xk_Gone : XcK K ca_Gone
  k_Gone_Gone : PySem.W.kitOne K (.ref ca_Gone) (.ref ca_Gone) = some true
  k_Gone_Growing : PySem.W.kitOne K (.ref ca_Gone) (.ref ca_Growing) = some false
  k_Gone_Halfway : PySem.W.kitOne K (.ref ca_Gone) (.ref ca_Halfway) = some false
  k_Gone_Lost : PySem.W.kitOne K (.ref ca_Gone) (.ref ca_Lost) = some false
  k_Gone_NoPlace : PySem.W.kitOne K (.ref ca_Gone) (.ref ca_NoPlace) = some false
  k_Gone_NoSpare : PySem.W.kitOne K (.ref ca_Gone) (.ref ca_NoSpare) = some false
  k_Gone_NoStore : PySem.W.kitOne K (.ref ca_Gone) (.ref ca_NoStore) = some false
  k_Gone_NoText : PySem.W.kitOne K (.ref ca_Gone) (.ref ca_NoText) = some false
  k_Gone_NotGrowing : PySem.W.kitOne K (.ref ca_Gone) (.ref ca_NotGrowing) = some false
  k_Gone_There : PySem.W.kitOne K (.ref ca_Gone) (.ref ca_There) = some false
  k_Gone_TooFew : PySem.W.kitOne K (.ref ca_Gone) (.ref ca_TooFew) = some false
  k_Gone_Untold : PySem.W.kitOne K (.ref ca_Gone) (.ref ca_Untold) = some false
  k_Gone_ValueError : PySem.W.kitOne K (.ref ca_Gone) (.type "ValueError") = some true
  e_Gone_DiskError : PySem.W.exmOne K (.ref ca_Gone) (.ref ca_DiskError) = some true
  xc_NoPlace : XcT K mg ("NoPlace" : Str)
  xk_NoPlace : XcK K ca_NoPlace
  k_NoPlace_Gone : PySem.W.kitOne K (.ref ca_NoPlace) (.ref ca_Gone) = some false
  k_NoPlace_Growing : PySem.W.kitOne K (.ref ca_NoPlace) (.ref ca_Growing) = some false
  k_NoPlace_Halfway : PySem.W.kitOne K (.ref ca_NoPlace) (.ref ca_Halfway) = some false
  k_NoPlace_Lost : PySem.W.kitOne K (.ref ca_NoPlace) (.ref ca_Lost) = some false
  k_NoPlace_NoPlace : PySem.W.kitOne K (.ref ca_NoPlace) (.ref ca_NoPlace) = some true
  k_NoPlace_NoSpare : PySem.W.kitOne K (.ref ca_NoPlace) (.ref ca_NoSpare) = some false
  k_NoPlace_NoStore : PySem.W.kitOne K (.ref ca_NoPlace) (.ref ca_NoStore) = some false
  k_NoPlace_NoText : PySem.W.kitOne K (.ref ca_NoPlace) (.ref ca_NoText) = some false
  k_NoPlace_NotGrowing : PySem.W.kitOne K (.ref ca_NoPlace) (.ref ca_NotGrowing) = some false
  k_NoPlace_There : PySem.W.kitOne K (.ref ca_NoPlace) (.ref ca_There) = some false
  k_NoPlace_TooFew : PySem.W.kitOne K (.ref ca_NoPlace) (.ref ca_TooFew) = some false
  k_NoPlace_Untold : PySem.W.kitOne K (.ref ca_NoPlace) (.ref ca_Untold) = some false
  k_NoPlace_ValueError : PySem.W.kitOne K (.ref ca_NoPlace) (.type "ValueError") = some true
  e_NoPlace_DiskError : PySem.W.exmOne K (.ref ca_NoPlace) (.ref ca_DiskError) = some true
  xc_NoSpare : XcT K mg ("NoSpare" : Str)
  xk_NoSpare : XcK K ca_NoSpare
  k_NoSpare_Gone : PySem.W.kitOne K (.ref ca_NoSpare) (.ref ca_Gone) = some false
  k_NoSpare_Growing : PySem.W.kitOne K (.ref ca_NoSpare) (.ref ca_Growing) = some false
  k_NoSpare_Halfway : PySem.W.kitOne K (.ref ca_NoSpare) (.ref ca_Halfway) = some false
  k_NoSpare_Lost : PySem.W.kitOne K (.ref ca_NoSpare) (.ref ca_Lost) = some false
  k_NoSpare_NoPlace : PySem.W.kitOne K (.ref ca_NoSpare) (.ref ca_NoPlace) = some false
  k_NoSpare_NoSpare : PySem.W.kitOne K (.ref ca_NoSpare) (.ref ca_NoSpare) = some true
  k_NoSpare_NoStore : PySem.W.kitOne K (.ref ca_NoSpare) (.ref ca_NoStore) = some false
  k_NoSpare_NoText : PySem.W.kitOne K (.ref ca_NoSpare) (.ref ca_NoText) = some false
  k_NoSpare_NotGrowing : PySem.W.kitOne K (.ref ca_NoSpare) (.ref ca_NotGrowing) = some false
  k_NoSpare_There : PySem.W.kitOne K (.ref ca_NoSpare) (.ref ca_There) = some false
  k_NoSpare_TooFew : PySem.W.kitOne K (.ref ca_NoSpare) (.ref ca_TooFew) = some false
  k_NoSpare_Untold : PySem.W.kitOne K (.ref ca_NoSpare) (.ref ca_Untold) = some false
  k_NoSpare_ValueError : PySem.W.kitOne K (.ref ca_NoSpare) (.type "ValueError") = some true
  e_NoSpare_DiskError : PySem.W.exmOne K (.ref ca_NoSpare) (.ref ca_DiskError) = some true
  xc_There : XcT K mg ("There" : Str)
  xk_There : XcK K ca_There
  k_There_Gone : PySem.W.kitOne K (.ref ca_There) (.ref ca_Gone) = some false
  k_There_Growing : PySem.W.kitOne K (.ref ca_There) (.ref ca_Growing) = some false
  k_There_Halfway : PySem.W.kitOne K (.ref ca_There) (.ref ca_Halfway) = some false
  k_There_Lost : PySem.W.kitOne K (.ref ca_There) (.ref ca_Lost) = some false
  k_There_NoPlace : PySem.W.kitOne K (.ref ca_There) (.ref ca_NoPlace) = some false
  k_There_NoSpare : PySem.W.kitOne K (.ref ca_There) (.ref ca_NoSpare) = some false
  k_There_NoStore : PySem.W.kitOne K (.ref ca_There) (.ref ca_NoStore) = some false
  k_There_NoText : PySem.W.kitOne K (.ref ca_There) (.ref ca_NoText) = some false
  k_There_NotGrowing : PySem.W.kitOne K (.ref ca_There) (.ref ca_NotGrowing) = some false
  k_There_There : PySem.W.kitOne K (.ref ca_There) (.ref ca_There) = some true
  k_There_TooFew : PySem.W.kitOne K (.ref ca_There) (.ref ca_TooFew) = some false
  k_There_Untold : PySem.W.kitOne K (.ref ca_There) (.ref ca_Untold) = some false
  k_There_ValueError : PySem.W.kitOne K (.ref ca_There) (.type "ValueError") = some true
  e_There_DiskError : PySem.W.exmOne K (.ref ca_There) (.ref ca_DiskError) = some true
variable {P : Program} {w : World} {K : PySem.W.Frag} {mg : Str → Option Value} {base : Heap}
def sp_law_next : ASp := fun ds M Q => ∃ p q, ds = [.ref p] ∧ DPot p q M ∧
  ∀ (v : Nat) M', DPot p q M' → But p q M M' → v < 400000000 → Q (dn v) M'
def tk_law_next_1 : RS := (aRet (aOp aIx (aOp aIx (aVar 0) (aC (.int 0))) (aOp aMod (aOp aSub (aOp aIx (aVar 0) (aC (.int 1))) (aC (.int 1))) (aFn acLen (aCons (aOp aIx (aVar 0) (aC (.int 0))) aNil)))))
def t_law_next : RS := aSeq (aAugS (aVar 0) (aC (.int 1)) (aC (.int 1)) fun i j => i + j) (tk_law_next_1)
theorem len_law_next : ∀ ds M Q, sp_law_next ds M Q → ds.length = 1 := by
  rintro ds M Q ⟨p, q, rfl, _⟩
  rfl
theorem spec_law_next : ∀ ds M Q, sp_law_next ds M Q → t_law_next (retD Q) (startA 1 ds) M := by
  rintro ds M Q ⟨p, q, rfl, ⟨e, ns, a, hp, h0, hl, hb⟩, k⟩
  have i0 : ∀ b : Dv, atI [Dv.rol (ns.map fun n => dn n), b] 0 = some (.rol (ns.map fun n => dn n)) := fun b => rfl
  have i1 : ∀ b : Dv, atI [Dv.rol (ns.map fun n => dn n), b] 1 = some b := fun b => rfl
  have hp' : M p = some (.lst [.rol (ns.map fun n => dn n), dn a]) := hp
  have l0 : 0 < ns.length := List.length_pos_iff.mpr h0
  refine ⟨by decide, ?_⟩
  (conv => whnf)
  ((repeat ((conv => whnf); simp only [lenA_r, itemsA_r, lstA_r, lstC_s, Option.map_some, atI_0, ixN_0, mup_same, mup_mup, true_and, and_true, List.map_cons, List.map_nil, List.length_cons, List.length_map, List.length_nil, List.set_cons_zero, List.set_cons_succ, List.cons_append, List.nil_append, List.getElem?_cons_zero, List.getElem?_cons_succ, hp'])); (conv => whnf))
  refine ⟨by decide, ?_⟩
  have dq : DPot p q (mup M p (.lst [.rol (ns.map fun n => dn n), .int ((a : Int) + 1)])) := DPot.set (a := a + 1) e h0 hl hb
  have bq : But p q M (mup M p (.lst [.rol (ns.map fun n => dn n), .int ((a : Int) + 1)])) := (But.refl p q M).p
  have hq : mup M p (.lst [.rol (ns.map fun n => dn n), .int ((a : Int) + 1)]) p = some (.lst [.rol (ns.map fun n => dn n), .int ((a : Int) + 1)]) := mup_same
  show tk_law_next_1 (retD Q) (startA 1 [Dv.ref p]) (mup M p (.lst [.rol (ns.map fun n => dn n), .int ((a : Int) + 1)]))
  generalize mup M p (.lst [.rol (ns.map fun n => dn n), .int ((a : Int) + 1)]) = M1 at dq bq hq ⊢
  ((repeat ((conv => whnf); simp only [lenA_r, itemsA_r, lstA_r, lstC_s, Option.map_some, atI_0, ixN_0, mup_same, mup_mup, true_and, and_true, List.map_cons, List.map_nil, List.length_cons, List.length_map, List.length_nil, List.set_cons_zero, List.set_cons_succ, List.cons_append, List.nil_append, List.getElem?_cons_zero, List.getElem?_cons_succ, hq, i0, i1])); (conv => whnf))
  refine ⟨by omega, ?_⟩
  obtain ⟨j, hj, ej⟩ : ∃ j : Nat, j < ns.length ∧ ((a : Int) + 1 - 1) % (ns.length : Int) = (j : Int) := ⟨a % ns.length, Nat.mod_lt _ l0, by
    have : ((a : Int) + 1 - 1) = (a : Int) := by omega
    rw [this]; rfl⟩
  rw [ej]
  have at1 : atI (ns.map fun n => dn n) (j : Int) = some (dn (ns.getD j 0)) := HC.atI_nat (by rw [List.getElem?_map, List.getElem?_eq_getElem hj, List.getD_eq_getElem?_getD, List.getElem?_eq_getElem hj]; rfl)
  ((repeat ((conv => whnf); simp only [lenA_r, itemsA_r, lstA_r, lstC_s, Option.map_some, atI_0, ixN_0, mup_same, mup_mup, true_and, and_true, List.map_cons, List.map_nil, List.length_cons, List.length_map, List.length_nil, List.set_cons_zero, List.set_cons_succ, List.cons_append, List.nil_append, List.getElem?_cons_zero, List.getElem?_cons_succ, at1])); (conv => whnf))
  refine retEnd (k _ _ dq bq (hb _ ?_))
  rw [List.getD_eq_getElem?_getD, List.getElem?_eq_getElem hj]
  exact List.getElem_mem hj
theorem ok_law_next (T : Tx K mg base) : FnA P w K mg base 1 T.f_law_next T.d_law_next [("_law_box" : Str)] sp_law_next :=
  fnA T.F_law_next sc_law_next len_law_next (fun cdv A outer s H E hr => by
    have hu1 := hu_of hr
    have hu64 := hr.units
    exact (ass_cons (as_augS_add (av 0) ae_int ae_int)
    (ass_one (as_ret (ae_ix hu1 (ae_ix hu1 (av 0) ae_int) (ae_mod (ae_sub (ae_ix hu1 (av 0) ae_int) ae_int) (ae_callB call_len abc_len (aa_cons (ae_ix hu1 (av 0) ae_int) aa_nil) T.n_len boot_len))))))) spec_law_next
def sp_law_block : ASp := fun ds M Q => ∃ p q, ∃ size : Nat, ds = [.ref p, dn size] ∧ DPot p q M ∧ size ≤ 1000 ∧
  ∀ (b : Blk) M', DPot p q M' → But p q M M' → BlkOk' b size → Q (bD b) M'
def t_law_block : RS := (aRet (aFn acTup (aCons (aFz (aLc (aiR1 (aCons (aVar 1) aNil)) (.nm 2) [2] aYes (aOp aMod (aCall sp_law_next (aCons (aVar 0) aNil)) (aC (.int 256))))) aNil)))
theorem len_law_block : ∀ ds M Q, sp_law_block ds M Q → ds.length = 2 := by
  rintro ds M Q ⟨p, q, size, rfl, _⟩
  rfl
theorem spec_law_block : ∀ ds M Q, sp_law_block ds M Q → t_law_block (retD Q) (startA 3 ds) M := by
  rintro ds M Q ⟨p, q, size, rfl, hd, hz, k⟩
  decreasing_tactic
  intro r hr
  have rp := hd.nep hr
  have rq := hd.neq hr
  refine lcW_inv (fun i M' => ∃ L : List Nat, DPot p q M' ∧ But p q M (mdel M' r) ∧ M' r = some (.lst (L.map fun n => dn n)) ∧ L.length = i ∧ ∀ x ∈ L, x < 256) ⟨[], hd.put rp rq, by rw [mdel_put]; exact (But.refl p q M).del hr, mup_same, rfl, fun o ho => by simp at ho⟩ (fun _ _ _ _ => trivial) ?_ ?_
  · rintro i d M' hi ⟨L, hd, hb, hl, hlen, hbs⟩
    obtain ⟨hi, rfl⟩ := rangeA_get hi
    refine ⟨_, rfl, ?_⟩
    decreasing_tactic
    (refine ⟨_, _, rfl, by assumption, fun x Mx dx bx lx => ?_⟩; decreasing_tactic)
    have hl2 := bx.at rp rq hl
    obtain ⟨y, ey⟩ : ∃ y : Nat, (x : Int) % 256 = (y : Int) := Int.eq_ofNat_of_zero_le (Int.emod_nonneg _ (by omega))
    have ly : (x : Int) % 256 < 256 := Int.emod_lt_of_pos _ (by omega)
    rw [ey] at ly
    (dsimp only)
    rw [ey]
    refine ⟨_, hl2, lt_line (by simp only [List.length_map]; omega), _, Sub.refl _, L ++ [y], dx.put rp rq, by rw [mdel_put]; exact hb.trans bx.mdel2, by rw [mup_same]; simp, by simp [hlen], fun z hz => ?_⟩
    rcases List.mem_append.mp hz with h3 | h3
    · exact hbs z h3
    · rw [List.mem_singleton.mp h3]; omega
  rintro M6 ⟨S, d6, b6, l6, Sl, Sb⟩
  rw [rangeA_len, Int.toNat_natCast] at Sl
  refine fz_del l6 ?_
  decreasing_tactic
  exact retEnd (k S _ (d6.del rp rq) b6 ⟨Sl, Sb⟩)
theorem ok_law_block (T : Tx K mg base) : FnA P w K mg base 2 T.f_law_block T.d_law_block [("_law_box" : Str), ("_law_size" : Str)] sp_law_block :=
  fnA T.F_law_block sc_law_block len_law_block (fun cdv A outer s H E hr => by
    have hu1 := hu_of hr
    have hu64 := hr.units
    exact (ass_one (as_ret (ae_callTy call_tuple_of abc_tup (aa_cons (ae_fz (ae_lc (own := [(("_law_k" : Str), 2)]) (tg := (.nm 2)) (by decide) rfl sc_law_block.nd (ai_range1 T.n_range (aa_cons (av 1) aa_nil)) (blkOk_by (own := [(("_law_k" : Str), 2)]) (N := N_law_block) (sc := defScope s_law_block) (by decide +kernel)) (fun _ _ _ _ _ => (pgt_name 2 sc_law_block.nd)) (fun _ _ _ _ _ => ats_nil) (fun _ _ _ _ _ => (ae_mod (ae_call (ok_law_next T) (hr.mono (by decide)) T.m_law_next T.F_law_next.kp T.b_law_next (aa_cons (av 0) aa_nil)) ae_int)))) aa_nil) T.n_tuple boot_tuple)))) spec_law_block
def wordX (c : Str) (f : Option Int) : Option Str := if c = ("Lost" : Str) then (match f with | some r => if r.natAbs < 2 ^ 64 then some (("Lost " : Str) ++ strI r) else none | none => none) else
  if c ∈ (["NoPlace", "Halfway", "Gone", "There", "NoSpare", "Growing", "NotGrowing", "TooFew", "NoStore"] : List Str) then some c else none
structure RefK (Q Q1 : DK) (E1 : WXA) : Prop where
  q : ∀ d M', Q (.str ("" : Str)) M' → Q1 d M'
  e : ∀ c f w M', c ∈ xcs → wordX c f = some w → Q (.str w) M' → E1 c f M'
def lsp_law_refused : LSp := fun lam M Q => ∀ (Q1 : DK) (E1 : WXA), RefK Q Q1 E1 → lam M Q1 E1
def tk_law_refused_1 (lf lc : Addr) (lq : Str) (lam : Ms → DK → WXA → Prop) : RS := (aRet (aC (.str ("" : Str))))
def t_law_refused (lf lc : Addr) (lq : Str) (lam : Ms → DK → WXA → Prop) : RS := aSeq (aTryAs (sxExpr (axAct lf lc lq lam)) [(("Gone" : Str), true), (("NoPlace" : Str), true), (("NoSpare" : Str), true), (("There" : Str), true)] 1 (aSeq (aAsg (aLst (aCons (aC (.str ("NoPlace" : Str))) (aCons (aC (.str ("Halfway" : Str))) (aCons (aC (.str ("Gone" : Str))) (aCons (aC (.str ("There" : Str))) (aCons (aC (.str ("NoSpare" : Str))) (aCons (aC (.str ("Growing" : Str))) (aCons (aC (.str ("NotGrowing" : Str))) (aCons (aC (.str ("TooFew" : Str))) (aCons (aC (.str ("NoStore" : Str))) aNil)))))))))) (agName 2))
    (aSeq (aAsg (aLst (aCons (aIsX (aVar 1) [(("Gone" : Str), false), (("NoPlace" : Str), true), (("NoSpare" : Str), false), (("There" : Str), false)]) (aCons (aIsX (aVar 1) [(("Gone" : Str), false), (("NoPlace" : Str), false), (("NoSpare" : Str), false), (("There" : Str), false)]) (aCons (aIsX (aVar 1) [(("Gone" : Str), true), (("NoPlace" : Str), false), (("NoSpare" : Str), false), (("There" : Str), false)]) (aCons (aIsX (aVar 1) [(("Gone" : Str), false), (("NoPlace" : Str), false), (("NoSpare" : Str), false), (("There" : Str), true)]) aNil))))) (agName 3))
    (aSeq (aAsg (aOp aAdd (aVar 3) (aLst (aCons (aIsX (aVar 1) [(("Gone" : Str), false), (("NoPlace" : Str), false), (("NoSpare" : Str), true), (("There" : Str), false)]) (aCons (aIsX (aVar 1) [(("Gone" : Str), false), (("NoPlace" : Str), false), (("NoSpare" : Str), false), (("There" : Str), false)]) (aCons (aIsX (aVar 1) [(("Gone" : Str), false), (("NoPlace" : Str), false), (("NoSpare" : Str), false), (("There" : Str), false)]) aNil))))) (agName 3))
    (aSeq (aAsg (aOp aAdd (aVar 3) (aLst (aCons (aIsX (aVar 1) [(("Gone" : Str), false), (("NoPlace" : Str), false), (("NoSpare" : Str), false), (("There" : Str), false)]) (aCons (aIsX (aVar 1) [(("Gone" : Str), false), (("NoPlace" : Str), false), (("NoSpare" : Str), false), (("There" : Str), false)]) aNil)))) (agName 3))
    (aSeq (aIfS (aTru (aIsX (aVar 1) [(("Gone" : Str), false), (("NoPlace" : Str), false), (("NoSpare" : Str), false), (("There" : Str), false)])) (aSeq (aAsg (aOp aAdd (aVar 2) (aLst (aCons (aOp aAdd (aC (.str ("Lost " : Str))) (aFn acStr (aCons (aRow (aVar 1) []) aNil))) aNil))) (agName 2))
    (aDrop (aMth "list" amApp (aVar 3) (aCons (aC (.bl true)) aNil)))) aNext)
    (aSeq (aIfS (aOr (aTru (aIsX (aVar 1) [(("Gone" : Str), false), (("NoPlace" : Str), false), (("NoSpare" : Str), false), (("There" : Str), false)])) (aOr (aNot (aTru (aIsX (aVar 1) [(("Gone" : Str), true), (("NoPlace" : Str), true), (("NoSpare" : Str), true), (("There" : Str), true)]))) (aB (aOp aNe (aCntB (aVar 3) true) (aC (.int 1)))))) (aRet (aC (.str ("other" : Str)))) aNext)
    (aRet (aOp aIx (aVar 2) (aIdxB (aVar 3) true))))))))) (fun _ _ _ => False)) (tk_law_refused_1 lf lc lq lam)
theorem spec_law_refused : ∀ (lq : Str) (lf lc : Addr) (lam : Ms → DK → WXA → Prop) (M M1 : Ms) (Q : DK), lsp_law_refused lam M Q → HC.Sub M M1 → M1 lc = some (.cod lq) → t_law_refused lf lc lq lam (retD Q) (startA 4 [.ref lf]) M1 := by
  intro lq lf lc lam M M1 Q h sb hc
  decreasing_tactic
  refine ⟨rfl, hc, M, sb, h _ _ ⟨?_, ?_⟩⟩
  · intro d M' k
    decreasing_tactic
    exact retEnd k
  · intro c f w M' hx hw k
    unfold xcs at hx
    simp only [List.mem_cons, List.not_mem_nil, or_false] at hx
    unfold wordX at hw
    repeat (any_goals (rcases hx with rfl | hx))
    all_goals first | subst hx | skip
    all_goals try (rw [if_neg (by decide +kernel), if_pos (by decide +kernel)] at hw; cases hw)
    all_goals (
      decreasing_tactic
      intro p1 h1
      decreasing_tactic
      intro p2 h2
      decreasing_tactic
      intro p3 h3
      decreasing_tactic
      refine ⟨_, _, look_new mup_same h3, mup_same, le_line (by simp), fun p4 h4 => ?_⟩
      decreasing_tactic
      intro p5 h5
      decreasing_tactic
      refine ⟨_, _, look_new mup_same h5, mup_same, le_line (by simp), fun p6 h6 => ?_⟩
      decreasing_tactic
      refine bools_of (itemsA_l mup_same) rfl ?_
      decreasing_tactic
      refine onIf_ndecF (congrArg Dv.int (by rfl)) ?_
      decreasing_tactic
      refine bools_of (itemsA_l mup_same) rfl ⟨by decide, ?_⟩
      decreasing_tactic
      rw [look_new (look_new (look_new (look_new (look_new mup_same h2) h3) h4) h5) h6]
      decreasing_tactic
      exact retSub ((((((HC.Sub.new h1).trans (HC.Sub.new h2)).trans (HC.Sub.new h3)).trans (HC.Sub.new h4)).trans (HC.Sub.new h5)).trans (HC.Sub.new h6)) k)
theorem lg_law_refused (T : Tx K mg base) {A : Around} {st : List Env} {q : Str} {cz : Value} : LGivesC P w K mg base A st [("_law_told_by" : Str), ("e" : Str), ("_law_words" : Str), ("_law_fits" : Str)] ("_law_refused" : Str) (defScope s_law_refused) T.f_law_refused cz (defBody s_law_refused) ("_law_told_by" : Str) q (TTL K lsp_law_refused) :=
  lgives (t := t_law_refused) (fun lf lc lam s H hr hact => by
    have hu1 := hu_of hr
    have hu64 := hr.units
    exact (ass_cons (as_tryAs 1 ⟨rfl, by decide, .inl T.ga_DiskError⟩ takesFW (xm_cons ⟨_, T.na_Gone, T.e_Gone_DiskError⟩ (xm_cons ⟨_, T.na_NoPlace, T.e_NoPlace_DiskError⟩ (xm_cons ⟨_, T.na_NoSpare, T.e_NoSpare_DiskError⟩ (xm_cons ⟨_, T.na_There, T.e_There_DiskError⟩ xm_nil)))) sc_law_refused.nd (fun Wk pn xe tk2 => (sxs_one (sx_expr (hact Wk pn xe _ _ tk2)))) (fun a pn => (ass_cons (as_set 2 sc_law_refused.nd (ae_lst (aa_cons ae_str (aa_cons ae_str (aa_cons ae_str (aa_cons ae_str (aa_cons ae_str (aa_cons ae_str (aa_cons ae_str (aa_cons ae_str (aa_cons ae_str aa_nil)))))))))))
    (ass_cons (as_set 3 sc_law_refused.nd (ae_lst (aa_cons (ae_isX T.n_isinstance (av 1) (pe_glob (v := .ref T.ca_NoPlace) rfl T.ga_NoPlace rfl) (.own _) (xi_cons ⟨_, T.na_Gone, T.k_Gone_NoPlace, T.xk_Gone⟩ (xi_cons ⟨_, T.na_NoPlace, T.k_NoPlace_NoPlace, T.xk_NoPlace⟩ (xi_cons ⟨_, T.na_NoSpare, T.k_NoSpare_NoPlace, T.xk_NoSpare⟩ (xi_cons ⟨_, T.na_There, T.k_There_NoPlace, T.xk_There⟩ xi_nil))))) (aa_cons (ae_isX T.n_isinstance (av 1) (pe_glob (v := .ref T.ca_Halfway) rfl T.ga_Halfway rfl) (.own _) (xi_cons ⟨_, T.na_Gone, T.k_Gone_Halfway, T.xk_Gone⟩ (xi_cons ⟨_, T.na_NoPlace, T.k_NoPlace_Halfway, T.xk_NoPlace⟩ (xi_cons ⟨_, T.na_NoSpare, T.k_NoSpare_Halfway, T.xk_NoSpare⟩ (xi_cons ⟨_, T.na_There, T.k_There_Halfway, T.xk_There⟩ xi_nil))))) (aa_cons (ae_isX T.n_isinstance (av 1) (pe_glob (v := .ref T.ca_Gone) rfl T.ga_Gone rfl) (.own _) (xi_cons ⟨_, T.na_Gone, T.k_Gone_Gone, T.xk_Gone⟩ (xi_cons ⟨_, T.na_NoPlace, T.k_NoPlace_Gone, T.xk_NoPlace⟩ (xi_cons ⟨_, T.na_NoSpare, T.k_NoSpare_Gone, T.xk_NoSpare⟩ (xi_cons ⟨_, T.na_There, T.k_There_Gone, T.xk_There⟩ xi_nil))))) (aa_cons (ae_isX T.n_isinstance (av 1) (pe_glob (v := .ref T.ca_There) rfl T.ga_There rfl) (.own _) (xi_cons ⟨_, T.na_Gone, T.k_Gone_There, T.xk_Gone⟩ (xi_cons ⟨_, T.na_NoPlace, T.k_NoPlace_There, T.xk_NoPlace⟩ (xi_cons ⟨_, T.na_NoSpare, T.k_NoSpare_There, T.xk_NoSpare⟩ (xi_cons ⟨_, T.na_There, T.k_There_There, T.xk_There⟩ xi_nil))))) aa_nil))))))
    (ass_cons (as_set 3 sc_law_refused.nd (ae_add (av 3) (ae_lst (aa_cons (ae_isX T.n_isinstance (av 1) (pe_glob (v := .ref T.ca_NoSpare) rfl T.ga_NoSpare rfl) (.own _) (xi_cons ⟨_, T.na_Gone, T.k_Gone_NoSpare, T.xk_Gone⟩ (xi_cons ⟨_, T.na_NoPlace, T.k_NoPlace_NoSpare, T.xk_NoPlace⟩ (xi_cons ⟨_, T.na_NoSpare, T.k_NoSpare_NoSpare, T.xk_NoSpare⟩ (xi_cons ⟨_, T.na_There, T.k_There_NoSpare, T.xk_There⟩ xi_nil))))) (aa_cons (ae_isX T.n_isinstance (av 1) (pe_glob (v := .ref T.ca_Growing) rfl T.ga_Growing rfl) (.own _) (xi_cons ⟨_, T.na_Gone, T.k_Gone_Growing, T.xk_Gone⟩ (xi_cons ⟨_, T.na_NoPlace, T.k_NoPlace_Growing, T.xk_NoPlace⟩ (xi_cons ⟨_, T.na_NoSpare, T.k_NoSpare_Growing, T.xk_NoSpare⟩ (xi_cons ⟨_, T.na_There, T.k_There_Growing, T.xk_There⟩ xi_nil))))) (aa_cons (ae_isX T.n_isinstance (av 1) (pe_glob (v := .ref T.ca_NotGrowing) rfl T.ga_NotGrowing rfl) (.own _) (xi_cons ⟨_, T.na_Gone, T.k_Gone_NotGrowing, T.xk_Gone⟩ (xi_cons ⟨_, T.na_NoPlace, T.k_NoPlace_NotGrowing, T.xk_NoPlace⟩ (xi_cons ⟨_, T.na_NoSpare, T.k_NoSpare_NotGrowing, T.xk_NoSpare⟩ (xi_cons ⟨_, T.na_There, T.k_There_NotGrowing, T.xk_There⟩ xi_nil))))) aa_nil))))))
    (ass_cons (as_set 3 sc_law_refused.nd (ae_add (av 3) (ae_lst (aa_cons (ae_isX T.n_isinstance (av 1) (pe_glob (v := .ref T.ca_TooFew) rfl T.ga_TooFew rfl) (.own _) (xi_cons ⟨_, T.na_Gone, T.k_Gone_TooFew, T.xk_Gone⟩ (xi_cons ⟨_, T.na_NoPlace, T.k_NoPlace_TooFew, T.xk_NoPlace⟩ (xi_cons ⟨_, T.na_NoSpare, T.k_NoSpare_TooFew, T.xk_NoSpare⟩ (xi_cons ⟨_, T.na_There, T.k_There_TooFew, T.xk_There⟩ xi_nil))))) (aa_cons (ae_isX T.n_isinstance (av 1) (pe_glob (v := .ref T.ca_NoStore) rfl T.ga_NoStore rfl) (.own _) (xi_cons ⟨_, T.na_Gone, T.k_Gone_NoStore, T.xk_Gone⟩ (xi_cons ⟨_, T.na_NoPlace, T.k_NoPlace_NoStore, T.xk_NoPlace⟩ (xi_cons ⟨_, T.na_NoSpare, T.k_NoSpare_NoStore, T.xk_NoSpare⟩ (xi_cons ⟨_, T.na_There, T.k_There_NoStore, T.xk_There⟩ xi_nil))))) aa_nil)))))
    (ass_cons (as_if (at_tru (ae_isX T.n_isinstance (av 1) (pe_glob (v := .ref T.ca_Lost) rfl T.ga_Lost rfl) (.own _) (xi_cons ⟨_, T.na_Gone, T.k_Gone_Lost, T.xk_Gone⟩ (xi_cons ⟨_, T.na_NoPlace, T.k_NoPlace_Lost, T.xk_NoPlace⟩ (xi_cons ⟨_, T.na_NoSpare, T.k_NoSpare_Lost, T.xk_NoSpare⟩ (xi_cons ⟨_, T.na_There, T.k_There_Lost, T.xk_There⟩ xi_nil)))))) (ass_cons (as_set 2 sc_law_refused.nd (ae_add (av 2) (ae_lst (aa_cons (ae_add ae_str (ae_callTy call_str_int abc_str (aa_cons (ae_row xf_nil (av 1)) aa_nil) T.n_str boot_str)) aa_nil))))
    (ass_one (as_expr (ae_append (av 3) (aa_cons ae_bl aa_nil))))) ass_nil)
    (ass_cons (as_if (AW.pt (aw_or (at_tru (ae_isXT T.n_isinstance (av 1) (pa_cons (pe_glob (v := .ref T.ca_Untold) rfl T.ga_Untold rfl) (pa_cons (pe_glob (v := .ref T.ca_NoText) rfl T.ga_NoText rfl) pa_nil)) (fun _ _ _ => rfl) (.cons (.own _) (.cons (.own _) .nil)) (le_line (show 2 ≤ 1000000 by decide)) (xit_cons ⟨_, T.na_Gone, (kitAny_cons T.k_Gone_Untold (fun _ => (kitAny_cons T.k_Gone_NoText (fun _ => rfl) (fun z => by cases z))) (fun z => by cases z)), T.xk_Gone⟩ (xit_cons ⟨_, T.na_NoPlace, (kitAny_cons T.k_NoPlace_Untold (fun _ => (kitAny_cons T.k_NoPlace_NoText (fun _ => rfl) (fun z => by cases z))) (fun z => by cases z)), T.xk_NoPlace⟩ (xit_cons ⟨_, T.na_NoSpare, (kitAny_cons T.k_NoSpare_Untold (fun _ => (kitAny_cons T.k_NoSpare_NoText (fun _ => rfl) (fun z => by cases z))) (fun z => by cases z)), T.xk_NoSpare⟩ (xit_cons ⟨_, T.na_There, (kitAny_cons T.k_There_Untold (fun _ => (kitAny_cons T.k_There_NoText (fun _ => rfl) (fun z => by cases z))) (fun z => by cases z)), T.xk_There⟩ xit_nil)))))) (aw_or (at_not (at_tru (ae_isX T.n_isinstance (av 1) (pe_bltn (v := .ty "ValueError") rfl T.n_ValueError boot_ValueError rfl) (.ty _) (xi_cons ⟨_, T.na_Gone, T.k_Gone_ValueError, T.xk_Gone⟩ (xi_cons ⟨_, T.na_NoPlace, T.k_NoPlace_ValueError, T.xk_NoPlace⟩ (xi_cons ⟨_, T.na_NoSpare, T.k_NoSpare_ValueError, T.xk_NoSpare⟩ (xi_cons ⟨_, T.na_There, T.k_There_ValueError, T.xk_There⟩ xi_nil))))))) (aw_or1 (at_ne hu64 (ae_countB hu64 (av 3)) ae_int))))) (ass_one (as_ret ae_str)) ass_nil)
    (ass_one (as_ret (ae_ix hu1 (av 2) (ae_indexB hu64 (av 3)))))))))))))
    (ass_one (as_ret ae_str)))) spec_law_refused
def sp_look_disk : ASp := fun ds M Q => ∃ s : Store, ∃ d : Int, ds = [s.d, .int d] ∧ (0 ≤ d ∧ d < (s.disks.length : Int)) ∧ Q .non M
def sx_look_disk : XSp := fun ds M Q E => ∃ s : Store, ∃ d : Int, ds = [s.d, .int d] ∧ ((¬ (0 ≤ d ∧ d < (s.disks.length : Int)) ∧ E "NoPlace" none M) ∨ ((0 ≤ d ∧ d < (s.disks.length : Int)) ∧ Q .non M))
def t_look_disk (W : WXA) : RS := (aIfS (aNot (aB (aChain aLe aLt (aC (.int 0)) (aVar 1) (aFn acLen (aCons (aOp aIx (aVar 0) (aC (.int 1))) aNil))))) (aRaise W ("NoPlace" : Str)) aNext)
theorem nox_look_disk : ∀ ds M Q, sp_look_disk ds M Q → sx_look_disk ds M Q fun _ _ _ => False := by
  rintro ds M Q ⟨s, d, rfl, h, k⟩
  exact ⟨s, d, rfl, .inr ⟨h, k⟩⟩
theorem len_look_disk : ∀ ds M Q E, sx_look_disk ds M Q E → ds.length = 2 := by
  rintro ds M Q E ⟨s, d, rfl, _⟩
  rfl
theorem spec_look_disk : ∀ ds M Q E, sx_look_disk ds M Q E → t_look_disk (fun c f M => ∃ M', HC.Sub M' M ∧ E c f M') (retD Q) (startA 2 ds) M := by
  rintro ds M Q E ⟨s, d, rfl, ⟨h, k⟩ | ⟨h, k⟩⟩
  have i0 : atI [s.head.d, .tup (s.disks.map kD), .tup (s.journal.map nD)] 0 = some s.head.d := rfl
  have i1 : atI [s.head.d, .tup (s.disks.map kD), .tup (s.journal.map nD)] 1 = some (.tup (s.disks.map kD)) := rfl
  have a1 : atI [dn s.head.par, dn s.head.size, dn s.head.rows, dn s.head.width, dn s.head.moved, dn s.head.spares] 1 = some (dn s.head.size) := rfl
  have a2 : atI [dn s.head.par, dn s.head.size, dn s.head.rows, dn s.head.width, dn s.head.moved, dn s.head.spares] 2 = some (dn s.head.rows) := rfl
  have a5 : atI [dn s.head.par, dn s.head.size, dn s.head.rows, dn s.head.width, dn s.head.moved, dn s.head.spares] 5 = some (dn s.head.spares) := rfl
  have lnD := d_disks s
  · by_cases h0 : d < 0
    · decreasing_tactic
      exact ⟨_, HC.Sub.refl _, k⟩
    · decreasing_tactic
      ((repeat ((conv => whnf); simp only [lenA_r, itemsA_r, lstA_r, lstC_s, Option.map_some, atI_0, ixN_0, mup_same, mup_mup, true_and, and_true, List.map_cons, List.map_nil, List.length_cons, List.length_map, List.length_nil, List.set_cons_zero, List.set_cons_succ, List.cons_append, List.nil_append, List.getElem?_cons_zero, List.getElem?_cons_succ, i1, lnD])); (conv => whnf))
      exact ⟨_, HC.Sub.refl _, k⟩
  · decreasing_tactic
    rw [dec_T (show d < ((s.disks.map kD).length : Int) by rw [List.length_map]; exact h.2)]
    exact retEnd k
theorem okX_look_disk (T : Tx K mg base) : FnX P w K mg base 1 T.f_look_disk T.d_look_disk [("store" : Str), ("disk" : Str)] sx_look_disk :=
  fnX (x := ("look_disk" : Str)) T.F_look_disk sc_look_disk len_look_disk (fun cdv A outer s H E W hr tk hpx => by
    have hu1 := hu_of hr
    have hu64 := hr.units
    exact (ass_one (as_if (at_not (at_chain2 op_le op_lt ab_B0 ab_B0 ae_int (av 1) (ae_callB call_len abc_len (aa_cons (ae_ix hu1 (av 0) ae_int) aa_nil) T.n_len boot_len))) (ass_one (as_raise rfl tk T.xc_NoPlace)) ass_nil))) spec_look_disk
theorem ok_look_disk (T : Tx K mg base) : FnA P w K mg base 1 T.f_look_disk T.d_look_disk [("store" : Str), ("disk" : Str)] sp_look_disk := FnX.norm (okX_look_disk T) nox_look_disk
def sp_look_place : ASp := fun ds M Q => ∃ s : Store, ∃ d r : Int, ds = [s.d, .int d, .int r] ∧ (0 ≤ d ∧ d < (s.disks.length : Int)) ∧ (0 ≤ r ∧ r < (s.head.rows : Int)) ∧ Q .non M
def sx_look_place : XSp := fun ds M Q E => ∃ s : Store, ∃ d r : Int, ds = [s.d, .int d, .int r] ∧ ((¬ ((0 ≤ d ∧ d < (s.disks.length : Int)) ∧ (0 ≤ r ∧ r < (s.head.rows : Int))) ∧ E "NoPlace" none M) ∨ ((0 ≤ d ∧ d < (s.disks.length : Int)) ∧ (0 ≤ r ∧ r < (s.head.rows : Int)) ∧ Q .non M))
def tk_look_place_1 (W : WXA) : RS := (aIfS (aNot (aB (aChain aLe aLt (aC (.int 0)) (aVar 2) (aOp aIx (aOp aIx (aVar 0) (aC (.int 0))) (aC (.int 2)))))) (aRaise W ("NoPlace" : Str)) aNext)
def t_look_place (W : WXA) : RS := aSeq (aDrop (aCallX sx_look_disk (aCons (aVar 0) (aCons (aVar 1) aNil)) W)) (tk_look_place_1 W)
theorem nox_look_place : ∀ ds M Q, sp_look_place ds M Q → sx_look_place ds M Q fun _ _ _ => False := by
  rintro ds M Q ⟨s, d, r, rfl, h1, h2, k⟩
  exact ⟨s, d, r, rfl, .inr ⟨h1, h2, k⟩⟩
theorem len_look_place : ∀ ds M Q E, sx_look_place ds M Q E → ds.length = 3 := by
  rintro ds M Q E ⟨s, d, r, rfl, _⟩
  rfl
theorem spec_look_place : ∀ ds M Q E, sx_look_place ds M Q E → t_look_place (fun c f M => ∃ M', HC.Sub M' M ∧ E c f M') (retD Q) (startA 3 ds) M := by
  rintro ds M Q E ⟨s, d, r, rfl, h⟩
  have i0 : atI [s.head.d, .tup (s.disks.map kD), .tup (s.journal.map nD)] 0 = some s.head.d := rfl
  have i1 : atI [s.head.d, .tup (s.disks.map kD), .tup (s.journal.map nD)] 1 = some (.tup (s.disks.map kD)) := rfl
  have a1 : atI [dn s.head.par, dn s.head.size, dn s.head.rows, dn s.head.width, dn s.head.moved, dn s.head.spares] 1 = some (dn s.head.size) := rfl
  have a2 : atI [dn s.head.par, dn s.head.size, dn s.head.rows, dn s.head.width, dn s.head.moved, dn s.head.spares] 2 = some (dn s.head.rows) := rfl
  have a5 : atI [dn s.head.par, dn s.head.size, dn s.head.rows, dn s.head.width, dn s.head.moved, dn s.head.spares] 5 = some (dn s.head.spares) := rfl
  have lnD := d_disks s
  by_cases hd : (0 ≤ d ∧ d < (s.disks.length : Int))
  · decreasing_tactic
    refine ⟨s, d, rfl, .inr ⟨hd, ?_⟩⟩
    rcases h with ⟨h, k⟩ | ⟨_, h, k⟩
    · have h : ¬ (0 ≤ r ∧ r < (s.head.rows : Int)) := fun z => h ⟨hd, z⟩
      by_cases h0 : r < 0
      · decreasing_tactic
        ((repeat ((conv => whnf); simp only [lenA_r, itemsA_r, lstA_r, lstC_s, Option.map_some, atI_0, ixN_0, mup_same, mup_mup, true_and, and_true, List.map_cons, List.map_nil, List.length_cons, List.length_map, List.length_nil, List.set_cons_zero, List.set_cons_succ, List.cons_append, List.nil_append, List.getElem?_cons_zero, List.getElem?_cons_succ, i0, a2])); (conv => whnf))
        exact ⟨_, HC.Sub.refl _, k⟩
      · decreasing_tactic
        ((repeat ((conv => whnf); simp only [lenA_r, itemsA_r, lstA_r, lstC_s, Option.map_some, atI_0, ixN_0, mup_same, mup_mup, true_and, and_true, List.map_cons, List.map_nil, List.length_cons, List.length_map, List.length_nil, List.set_cons_zero, List.set_cons_succ, List.cons_append, List.nil_append, List.getElem?_cons_zero, List.getElem?_cons_succ, i0, a2])); (conv => whnf))
        exact ⟨_, HC.Sub.refl _, k⟩
    · decreasing_tactic
      ((repeat ((conv => whnf); simp only [lenA_r, itemsA_r, lstA_r, lstC_s, Option.map_some, atI_0, ixN_0, mup_same, mup_mup, true_and, and_true, List.map_cons, List.map_nil, List.length_cons, List.length_map, List.length_nil, List.set_cons_zero, List.set_cons_succ, List.cons_append, List.nil_append, List.getElem?_cons_zero, List.getElem?_cons_succ, i0, a2])); (conv => whnf))
      exact retEnd k
  · rcases h with ⟨h, k⟩ | ⟨h, _⟩
    · decreasing_tactic
      exact ⟨s, d, rfl, .inl ⟨hd, _, HC.Sub.refl _, k⟩⟩
    · exact absurd h hd
theorem okX_look_place (T : Tx K mg base) : FnX P w K mg base 2 T.f_look_place T.d_look_place [("store" : Str), ("disk" : Str), ("row" : Str)] sx_look_place :=
  fnX (x := ("look_place" : Str)) T.F_look_place sc_look_place len_look_place (fun cdv A outer s H E W hr tk hpx => by
    have hu1 := hu_of hr
    have hu64 := hr.units
    exact (ass_cons (as_expr (ae_callX tk (okX_look_disk T) (hr.mono (by decide)) T.m_look_disk T.F_look_disk.kp T.b_look_disk (aa_cons (av 0) (aa_cons (av 1) aa_nil))))
    (ass_one (as_if (at_not (at_chain2 op_le op_lt ab_B0 ab_B0 ae_int (av 2) (ae_ix hu1 (ae_ix hu1 (av 0) ae_int) ae_int))) (ass_one (as_raise rfl tk T.xc_NoPlace)) ass_nil)))) spec_look_place
theorem ok_look_place (T : Tx K mg base) : FnA P w K mg base 2 T.f_look_place T.d_look_place [("store" : Str), ("disk" : Str), ("row" : Str)] sp_look_place := FnX.norm (okX_look_place T) nox_look_place
def sp_look_there : ASp := fun ds M Q => ∃ s : Store, ∃ d : Nat, ds = [s.d, dn d] ∧ d < s.disks.length ∧ s.disks.getD d none ≠ none ∧ Q .non M
def sx_look_there : XSp := fun ds M Q E => ∃ s : Store, ∃ d : Nat, ds = [s.d, dn d] ∧ d < s.disks.length ∧ ((s.disks.getD d none = none ∧ E "Gone" none M) ∨ (s.disks.getD d none ≠ none ∧ Q .non M))
def t_look_there (W : WXA) : RS := (aIfS (aB (aOp aIs (aOp aIx (aOp aIx (aVar 0) (aC (.int 1))) (aVar 1)) (aC .non))) (aRaise W ("Gone" : Str)) aNext)
theorem nox_look_there : ∀ ds M Q, sp_look_there ds M Q → sx_look_there ds M Q fun _ _ _ => False := by
  rintro ds M Q ⟨s, d, rfl, h1, h2, k⟩
  exact ⟨s, d, rfl, h1, .inr ⟨h2, k⟩⟩
theorem len_look_there : ∀ ds M Q E, sx_look_there ds M Q E → ds.length = 2 := by
  rintro ds M Q E ⟨s, d, rfl, _⟩
  rfl
theorem spec_look_there : ∀ ds M Q E, sx_look_there ds M Q E → t_look_there (fun c f M => ∃ M', HC.Sub M' M ∧ E c f M') (retD Q) (startA 2 ds) M := by
  rintro ds M Q E ⟨s, d, rfl, hd, h⟩
  have i0 : atI [s.head.d, .tup (s.disks.map kD), .tup (s.journal.map nD)] 0 = some s.head.d := rfl
  have i1 : atI [s.head.d, .tup (s.disks.map kD), .tup (s.journal.map nD)] 1 = some (.tup (s.disks.map kD)) := rfl
  have a1 : atI [dn s.head.par, dn s.head.size, dn s.head.rows, dn s.head.width, dn s.head.moved, dn s.head.spares] 1 = some (dn s.head.size) := rfl
  have a2 : atI [dn s.head.par, dn s.head.size, dn s.head.rows, dn s.head.width, dn s.head.moved, dn s.head.spares] 2 = some (dn s.head.rows) := rfl
  have a5 : atI [dn s.head.par, dn s.head.size, dn s.head.rows, dn s.head.width, dn s.head.moved, dn s.head.spares] 5 = some (dn s.head.spares) := rfl
  have lnD := d_disks s
  have at1 := store_at hd
  rcases h with ⟨h, k⟩ | ⟨h, k⟩
  · rw [h] at at1
    have at2 : atI (s.disks.map kD) (d : Int) = some .non := at1
    decreasing_tactic
    ((repeat ((conv => whnf); simp only [lenA_r, itemsA_r, lstA_r, lstC_s, Option.map_some, atI_0, ixN_0, mup_same, mup_mup, true_and, and_true, List.map_cons, List.map_nil, List.length_cons, List.length_map, List.length_nil, List.set_cons_zero, List.set_cons_succ, List.cons_append, List.nil_append, List.getElem?_cons_zero, List.getElem?_cons_succ, i1, at2])); (conv => whnf))
    exact ⟨_, HC.Sub.refl _, k⟩
  · obtain ⟨bs, hb⟩ := Option.ne_none_iff_exists'.mp h
    rw [hb] at at1
    have at2 : atI (s.disks.map kD) (d : Int) = some (.tup (bs.map oD)) := at1
    decreasing_tactic
    ((repeat ((conv => whnf); simp only [lenA_r, itemsA_r, lstA_r, lstC_s, Option.map_some, atI_0, ixN_0, mup_same, mup_mup, true_and, and_true, List.map_cons, List.map_nil, List.length_cons, List.length_map, List.length_nil, List.set_cons_zero, List.set_cons_succ, List.cons_append, List.nil_append, List.getElem?_cons_zero, List.getElem?_cons_succ, i1, at2])); (conv => whnf))
    exact retEnd k
theorem okX_look_there (T : Tx K mg base) : FnX P w K mg base 1 T.f_look_there T.d_look_there [("store" : Str), ("disk" : Str)] sx_look_there :=
  fnX (x := ("look_there" : Str)) T.F_look_there sc_look_there len_look_there (fun cdv A outer s H E W hr tk hpx => by
    have hu1 := hu_of hr
    have hu64 := hr.units
    exact (ass_one (as_if (at_is (ae_ix hu1 (ae_ix hu1 (av 0) ae_int) (av 1)) ae_non) (ass_one (as_raise rfl tk T.xc_Gone)) ass_nil))) spec_look_there
theorem ok_look_there (T : Tx K mg base) : FnA P w K mg base 1 T.f_look_there T.d_look_there [("store" : Str), ("disk" : Str)] sp_look_there := FnX.norm (okX_look_there T) nox_look_there
def sp_bad_block : ASp := fun ds M Q => ∃ s : Store, ∃ d r : Nat, ds = [s.d, dn d, dn r] ∧ d < s.disks.length ∧ r < s.head.rows ∧ s.disks.getD d none ≠ none ∧ Q (.tup [cD (.bad d r)]) M
def sx_bad_block : XSp := fun ds M Q E => ∃ s : Store, ∃ d r : Int, ds = [s.d, .int d, .int r] ∧ ((¬ ((0 ≤ d ∧ d < (s.disks.length : Int)) ∧ (0 ≤ r ∧ r < (s.head.rows : Int))) ∧ E "NoPlace" none M) ∨ ∃ n m : Nat, d = (n : Int) ∧ r = (m : Int) ∧ n < s.disks.length ∧ m < s.head.rows ∧ ((s.disks.getD n none = none ∧ E "Gone" none M) ∨ (s.disks.getD n none ≠ none ∧ Q (.tup [cD (.bad n m)]) M)))
def tk_bad_block_2 (W : WXA) : RS := (aRet (aTup (aCons (aTup (aCons (aC (.str ("bad" : Str))) (aCons (aVar 1) (aCons (aVar 2) aNil)))) aNil)))
def tk_bad_block_1 (W : WXA) : RS := aSeq (aDrop (aCallX sx_look_there (aCons (aVar 0) (aCons (aVar 1) aNil)) W)) (tk_bad_block_2 W)
def t_bad_block (W : WXA) : RS := aSeq (aDrop (aCallX sx_look_place (aCons (aVar 0) (aCons (aVar 1) (aCons (aVar 2) aNil))) W)) (tk_bad_block_1 W)
theorem nox_bad_block : ∀ ds M Q, sp_bad_block ds M Q → sx_bad_block ds M Q fun _ _ _ => False := by
  rintro ds M Q ⟨s, d, r, rfl, h1, h2, h3, k⟩
  exact ⟨s, d, r, rfl, .inr ⟨d, r, rfl, rfl, h1, h2, .inr ⟨h3, k⟩⟩⟩
theorem len_bad_block : ∀ ds M Q E, sx_bad_block ds M Q E → ds.length = 3 := by
  rintro ds M Q E ⟨s, d, r, rfl, _⟩
  rfl
theorem spec_bad_block : ∀ ds M Q E, sx_bad_block ds M Q E → t_bad_block (fun c f M => ∃ M', HC.Sub M' M ∧ E c f M') (retD Q) (startA 3 ds) M := by
  rintro ds M Q E ⟨s, d, r, rfl, ⟨h, k⟩ | ⟨n, m, rfl, rfl, hn, hm, h⟩⟩
  · decreasing_tactic
    exact ⟨s, d, r, rfl, .inl ⟨h, _, HC.Sub.refl _, k⟩⟩
  · decreasing_tactic
    refine ⟨s, (n : Int), (m : Int), rfl, .inr ⟨⟨by omega, by omega⟩, ⟨by omega, by omega⟩, ?_⟩⟩
    decreasing_tactic
    refine ⟨s, n, rfl, hn, ?_⟩
    rcases h with ⟨h, k⟩ | ⟨h, k⟩
    · exact .inl ⟨h, _, HC.Sub.refl _, k⟩
    · refine .inr ⟨h, ?_⟩
      decreasing_tactic
      exact retEnd k
theorem okX_bad_block (T : Tx K mg base) : FnX P w K mg base 3 T.f_bad_block T.d_bad_block [("store" : Str), ("disk" : Str), ("row" : Str)] sx_bad_block :=
  fnX (x := ("bad_block" : Str)) T.F_bad_block sc_bad_block len_bad_block (fun cdv A outer s H E W hr tk hpx => by
    have hu1 := hu_of hr
    have hu64 := hr.units
    exact (ass_cons (as_expr (ae_callX tk (okX_look_place T) (hr.mono (by decide)) T.m_look_place T.F_look_place.kp T.b_look_place (aa_cons (av 0) (aa_cons (av 1) (aa_cons (av 2) aa_nil)))))
    (ass_cons (as_expr (ae_callX tk (okX_look_there T) (hr.mono (by decide)) T.m_look_there T.F_look_there.kp T.b_look_there (aa_cons (av 0) (aa_cons (av 1) aa_nil))))
    (ass_one (as_ret (ae_tup (aa_cons (ae_tup (aa_cons ae_str (aa_cons (av 1) (aa_cons (av 2) aa_nil)))) aa_nil))))))) spec_bad_block
theorem ok_bad_block (T : Tx K mg base) : FnA P w K mg base 3 T.f_bad_block T.d_bad_block [("store" : Str), ("disk" : Str), ("row" : Str)] sp_bad_block := FnX.norm (okX_bad_block T) nox_bad_block
def sp_lose_disk : ASp := fun ds M Q => ∃ s : Store, ∃ d : Nat, ds = [s.d, dn d] ∧ d < s.disks.length ∧ s.disks.getD d none ≠ none ∧ Q (.tup [cD (.lose d)]) M
def sx_lose_disk : XSp := fun ds M Q E => ∃ s : Store, ∃ d : Int, ds = [s.d, .int d] ∧ ((¬ (0 ≤ d ∧ d < (s.disks.length : Int)) ∧ E "NoPlace" none M) ∨ ∃ n : Nat, d = (n : Int) ∧ n < s.disks.length ∧ ((s.disks.getD n none = none ∧ E "Gone" none M) ∨ (s.disks.getD n none ≠ none ∧ Q (.tup [cD (.lose n)]) M)))
def tk_lose_disk_2 (W : WXA) : RS := (aRet (aTup (aCons (aTup (aCons (aC (.str ("lose" : Str))) (aCons (aVar 1) aNil))) aNil)))
def tk_lose_disk_1 (W : WXA) : RS := aSeq (aDrop (aCallX sx_look_there (aCons (aVar 0) (aCons (aVar 1) aNil)) W)) (tk_lose_disk_2 W)
def t_lose_disk (W : WXA) : RS := aSeq (aDrop (aCallX sx_look_disk (aCons (aVar 0) (aCons (aVar 1) aNil)) W)) (tk_lose_disk_1 W)
theorem nox_lose_disk : ∀ ds M Q, sp_lose_disk ds M Q → sx_lose_disk ds M Q fun _ _ _ => False := by
  rintro ds M Q ⟨s, d, rfl, h1, h2, k⟩
  exact ⟨s, d, rfl, .inr ⟨d, rfl, h1, .inr ⟨h2, k⟩⟩⟩
theorem len_lose_disk : ∀ ds M Q E, sx_lose_disk ds M Q E → ds.length = 2 := by
  rintro ds M Q E ⟨s, d, rfl, _⟩
  rfl
theorem spec_lose_disk : ∀ ds M Q E, sx_lose_disk ds M Q E → t_lose_disk (fun c f M => ∃ M', HC.Sub M' M ∧ E c f M') (retD Q) (startA 2 ds) M := by
  rintro ds M Q E ⟨s, d, rfl, ⟨h, k⟩ | ⟨n, rfl, hn, h⟩⟩
  · decreasing_tactic
    exact ⟨s, d, rfl, .inl ⟨h, _, HC.Sub.refl _, k⟩⟩
  · decreasing_tactic
    refine ⟨s, (n : Int), rfl, .inr ⟨⟨by omega, by omega⟩, ?_⟩⟩
    decreasing_tactic
    refine ⟨s, n, rfl, hn, ?_⟩
    rcases h with ⟨h, k⟩ | ⟨h, k⟩
    · exact .inl ⟨h, _, HC.Sub.refl _, k⟩
    · refine .inr ⟨h, ?_⟩
      decreasing_tactic
      exact retEnd k
theorem okX_lose_disk (T : Tx K mg base) : FnX P w K mg base 2 T.f_lose_disk T.d_lose_disk [("store" : Str), ("disk" : Str)] sx_lose_disk :=
  fnX (x := ("lose_disk" : Str)) T.F_lose_disk sc_lose_disk len_lose_disk (fun cdv A outer s H E W hr tk hpx => by
    have hu1 := hu_of hr
    have hu64 := hr.units
    exact (ass_cons (as_expr (ae_callX tk (okX_look_disk T) (hr.mono (by decide)) T.m_look_disk T.F_look_disk.kp T.b_look_disk (aa_cons (av 0) (aa_cons (av 1) aa_nil))))
    (ass_cons (as_expr (ae_callX tk (okX_look_there T) (hr.mono (by decide)) T.m_look_there T.F_look_there.kp T.b_look_there (aa_cons (av 0) (aa_cons (av 1) aa_nil))))
    (ass_one (as_ret (ae_tup (aa_cons (ae_tup (aa_cons ae_str (aa_cons (av 1) aa_nil))) aa_nil))))))) spec_lose_disk
theorem ok_lose_disk (T : Tx K mg base) : FnA P w K mg base 2 T.f_lose_disk T.d_lose_disk [("store" : Str), ("disk" : Str)] sp_lose_disk := FnX.norm (okX_lose_disk T) nox_lose_disk
def sp_put_spare : ASp := fun ds M Q => ∃ s : Store, ∃ d : Nat, ds = [s.d, dn d] ∧ d < s.disks.length ∧ s.disks.getD d none = none ∧ 1 ≤ s.head.spares ∧ Q (.tup [cD (.spare d)]) M
def sx_put_spare : XSp := fun ds M Q E => ∃ s : Store, ∃ d : Int, ds = [s.d, .int d] ∧ ((¬ (0 ≤ d ∧ d < (s.disks.length : Int)) ∧ E "NoPlace" none M) ∨ ∃ n : Nat, d = (n : Int) ∧ n < s.disks.length ∧ ((s.disks.getD n none ≠ none ∧ E "There" none M) ∨ (s.disks.getD n none = none ∧ s.head.spares = 0 ∧ E "NoSpare" none M) ∨ (s.disks.getD n none = none ∧ 1 ≤ s.head.spares ∧ Q (.tup [cD (.spare n)]) M)))
def tk_put_spare_3 (W : WXA) : RS := (aRet (aTup (aCons (aTup (aCons (aC (.str ("spare" : Str))) (aCons (aVar 1) aNil))) aNil)))
def tk_put_spare_2 (W : WXA) : RS := aSeq (aIfS (aB (aOp aEq (aOp aIx (aOp aIx (aVar 0) (aC (.int 0))) (aC (.int 5))) (aC (.int 0)))) (aRaise W ("NoSpare" : Str)) aNext) (tk_put_spare_3 W)
def tk_put_spare_1 (W : WXA) : RS := aSeq (aIfS (aB (aOp aIsNot (aOp aIx (aOp aIx (aVar 0) (aC (.int 1))) (aVar 1)) (aC .non))) (aRaise W ("There" : Str)) aNext) (tk_put_spare_2 W)
def t_put_spare (W : WXA) : RS := aSeq (aDrop (aCallX sx_look_disk (aCons (aVar 0) (aCons (aVar 1) aNil)) W)) (tk_put_spare_1 W)
theorem nox_put_spare : ∀ ds M Q, sp_put_spare ds M Q → sx_put_spare ds M Q fun _ _ _ => False := by
  rintro ds M Q ⟨s, d, rfl, h1, h2, h3, k⟩
  exact ⟨s, d, rfl, .inr ⟨d, rfl, h1, .inr (.inr ⟨h2, h3, k⟩)⟩⟩
theorem len_put_spare : ∀ ds M Q E, sx_put_spare ds M Q E → ds.length = 2 := by
  rintro ds M Q E ⟨s, d, rfl, _⟩
  rfl
theorem spec_put_spare : ∀ ds M Q E, sx_put_spare ds M Q E → t_put_spare (fun c f M => ∃ M', HC.Sub M' M ∧ E c f M') (retD Q) (startA 2 ds) M := by
  rintro ds M Q E ⟨s, d, rfl, ⟨h, k⟩ | ⟨n, rfl, hn, h⟩⟩
  · decreasing_tactic
    exact ⟨s, d, rfl, .inl ⟨h, _, HC.Sub.refl _, k⟩⟩
  · decreasing_tactic
    refine ⟨s, (n : Int), rfl, .inr ⟨⟨by omega, by omega⟩, ?_⟩⟩
    have i0 : atI [s.head.d, .tup (s.disks.map kD), .tup (s.journal.map nD)] 0 = some s.head.d := rfl
    have i1 : atI [s.head.d, .tup (s.disks.map kD), .tup (s.journal.map nD)] 1 = some (.tup (s.disks.map kD)) := rfl
    have a1 : atI [dn s.head.par, dn s.head.size, dn s.head.rows, dn s.head.width, dn s.head.moved, dn s.head.spares] 1 = some (dn s.head.size) := rfl
    have a2 : atI [dn s.head.par, dn s.head.size, dn s.head.rows, dn s.head.width, dn s.head.moved, dn s.head.spares] 2 = some (dn s.head.rows) := rfl
    have a5 : atI [dn s.head.par, dn s.head.size, dn s.head.rows, dn s.head.width, dn s.head.moved, dn s.head.spares] 5 = some (dn s.head.spares) := rfl
    have lnD := d_disks s
    have at1 := store_at hn
    rcases h with ⟨h, k⟩ | ⟨h, h2, k⟩ | ⟨h, h2, k⟩
    · obtain ⟨bs, hb⟩ := Option.ne_none_iff_exists'.mp h
      rw [hb] at at1
      have at2 : atI (s.disks.map kD) (n : Int) = some (.tup (bs.map oD)) := at1
      decreasing_tactic
      ((repeat ((conv => whnf); simp only [lenA_r, itemsA_r, lstA_r, lstC_s, Option.map_some, atI_0, ixN_0, mup_same, mup_mup, true_and, and_true, List.map_cons, List.map_nil, List.length_cons, List.length_map, List.length_nil, List.set_cons_zero, List.set_cons_succ, List.cons_append, List.nil_append, List.getElem?_cons_zero, List.getElem?_cons_succ, i1, at2])); (conv => whnf))
      exact ⟨_, HC.Sub.refl _, k⟩
    · rw [h] at at1
      have at2 : atI (s.disks.map kD) (n : Int) = some .non := at1
      decreasing_tactic
      ((repeat ((conv => whnf); simp only [lenA_r, itemsA_r, lstA_r, lstC_s, Option.map_some, atI_0, ixN_0, mup_same, mup_mup, true_and, and_true, List.map_cons, List.map_nil, List.length_cons, List.length_map, List.length_nil, List.set_cons_zero, List.set_cons_succ, List.cons_append, List.nil_append, List.getElem?_cons_zero, List.getElem?_cons_succ, i1, at2])); (conv => whnf))
      ((repeat ((conv => whnf); simp only [lenA_r, itemsA_r, lstA_r, lstC_s, Option.map_some, atI_0, ixN_0, mup_same, mup_mup, true_and, and_true, List.map_cons, List.map_nil, List.length_cons, List.length_map, List.length_nil, List.set_cons_zero, List.set_cons_succ, List.cons_append, List.nil_append, List.getElem?_cons_zero, List.getElem?_cons_succ, i0, a5])); (conv => whnf))
      refine ⟨trivial, trivial, ?_⟩
      refine onIf_decT (congrArg Dv.int (by omega)) ?_
      exact ⟨_, HC.Sub.refl _, k⟩
    · rw [h] at at1
      have at2 : atI (s.disks.map kD) (n : Int) = some .non := at1
      decreasing_tactic
      ((repeat ((conv => whnf); simp only [lenA_r, itemsA_r, lstA_r, lstC_s, Option.map_some, atI_0, ixN_0, mup_same, mup_mup, true_and, and_true, List.map_cons, List.map_nil, List.length_cons, List.length_map, List.length_nil, List.set_cons_zero, List.set_cons_succ, List.cons_append, List.nil_append, List.getElem?_cons_zero, List.getElem?_cons_succ, i1, at2])); (conv => whnf))
      ((repeat ((conv => whnf); simp only [lenA_r, itemsA_r, lstA_r, lstC_s, Option.map_some, atI_0, ixN_0, mup_same, mup_mup, true_and, and_true, List.map_cons, List.map_nil, List.length_cons, List.length_map, List.length_nil, List.set_cons_zero, List.set_cons_succ, List.cons_append, List.nil_append, List.getElem?_cons_zero, List.getElem?_cons_succ, i0, a5])); (conv => whnf))
      refine ⟨trivial, trivial, ?_⟩
      refine onIf_decF (fun e => absurd (Dv.int.inj e) (by omega)) ?_
      decreasing_tactic
      exact retEnd k
theorem okX_put_spare (T : Tx K mg base) : FnX P w K mg base 2 T.f_put_spare T.d_put_spare [("store" : Str), ("disk" : Str)] sx_put_spare :=
  fnX (x := ("put_spare" : Str)) T.F_put_spare sc_put_spare len_put_spare (fun cdv A outer s H E W hr tk hpx => by
    have hu1 := hu_of hr
    have hu64 := hr.units
    exact (ass_cons (as_expr (ae_callX tk (okX_look_disk T) (hr.mono (by decide)) T.m_look_disk T.F_look_disk.kp T.b_look_disk (aa_cons (av 0) (aa_cons (av 1) aa_nil))))
    (ass_cons (as_if (at_isnot (ae_ix hu1 (ae_ix hu1 (av 0) ae_int) (av 1)) ae_non) (ass_one (as_raise rfl tk T.xc_There)) ass_nil)
    (ass_cons (as_if (at_eq hu64 (ae_ix hu1 (ae_ix hu1 (av 0) ae_int) ae_int) ae_int) (ass_one (as_raise rfl tk T.xc_NoSpare)) ass_nil)
    (ass_one (as_ret (ae_tup (aa_cons (ae_tup (aa_cons ae_str (aa_cons (av 1) aa_nil))) aa_nil)))))))) spec_put_spare
theorem ok_put_spare (T : Tx K mg base) : FnA P w K mg base 2 T.f_put_spare T.d_put_spare [("store" : Str), ("disk" : Str)] sp_put_spare := FnX.norm (okX_put_spare T) nox_put_spare
def fullB (s : Store) (b : List Int) : Bool := decide (b.length = s.head.size) && b.all fun x => decide (0 ≤ x) && decide (x ≤ 255)
def sp_is_full_block : ASp := fun ds M Q => ∃ s : Store, ∃ b : List Int, ds = [s.d, .tup (b.map Dv.int)] ∧ b.length ≤ 1000 ∧ Q (.bl (fullB s b)) M
def t_is_full_block : RS := (aRet (aAndV (aOp aEq (aFn acLen (aCons (aVar 1) aNil)) (aOp aIx (aOp aIx (aVar 0) (aC (.int 0))) (aC (.int 1)))) (aFn acAll (aCons (aFz (aLc (aiSeq (aVar 1)) (.nm 2) [2] aYes (aChain aLe aLe (aC (.int 0)) (aVar 2) (aC (.int 255))))) aNil))))
theorem len_is_full_block : ∀ ds M Q, sp_is_full_block ds M Q → ds.length = 2 := by
  rintro ds M Q ⟨s, b, rfl, _⟩
  rfl
theorem spec_is_full_block : ∀ ds M Q, sp_is_full_block ds M Q → t_is_full_block (retD Q) (startA 3 ds) M := by
  rintro ds M Q ⟨s, b, rfl, hl, k⟩
  have i0 : atI [s.head.d, .tup (s.disks.map kD), .tup (s.journal.map nD)] 0 = some s.head.d := rfl
  have i1 : atI [s.head.d, .tup (s.disks.map kD), .tup (s.journal.map nD)] 1 = some (.tup (s.disks.map kD)) := rfl
  have a1 : atI [dn s.head.par, dn s.head.size, dn s.head.rows, dn s.head.width, dn s.head.moved, dn s.head.spares] 1 = some (dn s.head.size) := rfl
  have a2 : atI [dn s.head.par, dn s.head.size, dn s.head.rows, dn s.head.width, dn s.head.moved, dn s.head.spares] 2 = some (dn s.head.rows) := rfl
  have a5 : atI [dn s.head.par, dn s.head.size, dn s.head.rows, dn s.head.width, dn s.head.moved, dn s.head.spares] 5 = some (dn s.head.spares) := rfl
  have lnD := d_disks s
  have lb : (b.map Dv.int).length = b.length := List.length_map _
  by_cases h : b.length = s.head.size
  · decreasing_tactic
    ((repeat ((conv => whnf); simp only [lenA_r, itemsA_r, lstA_r, lstC_s, Option.map_some, atI_0, ixN_0, mup_same, mup_mup, true_and, and_true, List.map_cons, List.map_nil, List.length_cons, List.length_map, List.length_nil, List.set_cons_zero, List.set_cons_succ, List.cons_append, List.nil_append, List.getElem?_cons_zero, List.getElem?_cons_succ, i0, a1])); (conv => whnf))
    refine lcF (fun i => .bl (decide (0 ≤ b.getD i 0) && decide (b.getD i 0 ≤ 255))) (fun _ => rfl) (le_line (by omega)) (fun i d hd M' N hs q => ?_) ?_
    · rw [List.getElem?_map] at hd
      obtain ⟨x, hx, rfl⟩ := Option.map_eq_some_iff.mp hd
      have ex : b.getD i 0 = x := by rw [List.getD_eq_getElem?_getD, hx]; rfl
      rw [ex] at q
      refine ⟨_, rfl, ?_⟩
      by_cases x0 : 0 ≤ x
      · rw [decide_eq_true x0] at q
        decreasing_tactic
        exact q
      · rw [decide_eq_false x0] at q
        decreasing_tactic
        exact q
    · have e : ((List.range (b.map Dv.int).length).all fun i => decide (0 ≤ b.getD i 0) && decide (b.getD i 0 ≤ 255)) = fullB s b := by
        unfold fullB
        rw [decide_eq_true h, Bool.true_and, lb]
        conv => rhs; rw [show b = (List.range b.length).map fun i => b.getD i 0 from by
          refine List.ext_getElem (by simp) fun i h1 h2 => ?_
          simp [List.getD, h1]]
        rw [List.all_map]
        rfl
      ((conv => whnf); refine ⟨_, acAll_eq, ?_⟩; rw [all_map_id])
      rw [e]
      exact retEnd k
  · unfold fullB at k
    rw [decide_eq_false h] at k
    decreasing_tactic
    ((repeat ((conv => whnf); simp only [lenA_r, itemsA_r, lstA_r, lstC_s, Option.map_some, atI_0, ixN_0, mup_same, mup_mup, true_and, and_true, List.map_cons, List.map_nil, List.length_cons, List.length_map, List.length_nil, List.set_cons_zero, List.set_cons_succ, List.cons_append, List.nil_append, List.getElem?_cons_zero, List.getElem?_cons_succ, i0, a1])); (conv => whnf))
    exact retEnd k
theorem ok_is_full_block (T : Tx K mg base) : FnA P w K mg base 1 T.f_is_full_block T.d_is_full_block [("store" : Str), ("block" : Str)] sp_is_full_block :=
  fnA T.F_is_full_block sc_is_full_block len_is_full_block (fun cdv A outer s H E hr => by
    have hu1 := hu_of hr
    have hu64 := hr.units
    exact (ass_one (as_ret (ae_and (ae_eq hu64 (ae_callB call_len abc_len (aa_cons (av 1) aa_nil) T.n_len boot_len) (ae_ix hu1 (ae_ix hu1 (av 0) ae_int) ae_int)) (ae_and1 (ae_callB (cr_all rfl) abc_all (aa_cons (ae_fz (ae_lc (own := [(("byte" : Str), 2)]) (tg := (.nm 2)) (by decide) rfl sc_is_full_block.nd (ai_seq (av 1)) (blkOk_by (own := [(("byte" : Str), 2)]) (N := N_is_full_block) (sc := defScope s_is_full_block) (by decide +kernel)) (fun _ _ _ _ _ => (pgt_name 2 sc_is_full_block.nd)) (fun _ _ _ _ _ => ats_nil) (fun _ _ _ _ _ => (ae_chain2 op_le op_le ab_B0 ab_B0 ae_int (av 2) ae_int)))) aa_nil) T.n_all boot_all)))))) spec_is_full_block
def sp_spoil_block : ASp := fun ds M Q => ∃ s : Store, ∃ d r : Nat, ∃ b : List Nat, ds = [s.d, dn d, dn r, bD b] ∧ d < s.disks.length ∧ r < s.head.rows ∧ s.disks.getD d none ≠ none ∧ b.length ≤ 1000 ∧ fullB s (b.map fun x : Nat => (x : Int)) = true ∧ Q (.tup [cD (.spoil d r b)]) M
def sx_spoil_block : XSp := fun ds M Q E => ∃ s : Store, ∃ d r : Int, ∃ b : List Int, ds = [s.d, .int d, .int r, .tup (b.map Dv.int)] ∧ b.length ≤ 1000 ∧ ((¬ ((0 ≤ d ∧ d < (s.disks.length : Int)) ∧ (0 ≤ r ∧ r < (s.head.rows : Int))) ∧ E "NoPlace" none M) ∨ ∃ n m : Nat, d = (n : Int) ∧ r = (m : Int) ∧ n < s.disks.length ∧ m < s.head.rows ∧
  ((fullB s b = false ∧ E "NoPlace" none M) ∨ (fullB s b = true ∧ s.disks.getD n none = none ∧ E "Gone" none M) ∨ (fullB s b = true ∧ s.disks.getD n none ≠ none ∧ Q (.tup [.tup [.str ("spoil" : Str), dn n, dn m, .tup (b.map Dv.int)]]) M)))
def tk_spoil_block_3 (W : WXA) : RS := (aRet (aTup (aCons (aTup (aCons (aC (.str ("spoil" : Str))) (aCons (aVar 1) (aCons (aVar 2) (aCons (aVar 3) aNil))))) aNil)))
def tk_spoil_block_2 (W : WXA) : RS := aSeq (aDrop (aCallX sx_look_there (aCons (aVar 0) (aCons (aVar 1) aNil)) W)) (tk_spoil_block_3 W)
def tk_spoil_block_1 (W : WXA) : RS := aSeq (aIfS (aNot (aTru (aCall sp_is_full_block (aCons (aVar 0) (aCons (aVar 3) aNil))))) (aRaise W ("NoPlace" : Str)) aNext) (tk_spoil_block_2 W)
def t_spoil_block (W : WXA) : RS := aSeq (aDrop (aCallX sx_look_place (aCons (aVar 0) (aCons (aVar 1) (aCons (aVar 2) aNil))) W)) (tk_spoil_block_1 W)
theorem nox_spoil_block : ∀ ds M Q, sp_spoil_block ds M Q → sx_spoil_block ds M Q fun _ _ _ => False := by
  rintro ds M Q ⟨s, d, r, b, rfl, h1, h2, h3, hl, h4, k⟩
  refine ⟨s, d, r, b.map fun x : Nat => (x : Int), by rw [List.map_map]; rfl, by rw [List.length_map]; exact hl, .inr ⟨d, r, rfl, rfl, h1, h2, .inr (.inr ⟨h4, h3, ?_⟩)⟩⟩
  rw [List.map_map]
  exact k
theorem len_spoil_block : ∀ ds M Q E, sx_spoil_block ds M Q E → ds.length = 4 := by
  rintro ds M Q E ⟨s, d, r, b, rfl, _⟩
  rfl
theorem spec_spoil_block : ∀ ds M Q E, sx_spoil_block ds M Q E → t_spoil_block (fun c f M => ∃ M', HC.Sub M' M ∧ E c f M') (retD Q) (startA 4 ds) M := by
  rintro ds M Q E ⟨s, d, r, b, rfl, hl, ⟨h, k⟩ | ⟨n, m, rfl, rfl, hn, hm, h⟩⟩
  · decreasing_tactic
    exact ⟨s, d, r, rfl, .inl ⟨h, _, HC.Sub.refl _, k⟩⟩
  · decreasing_tactic
    refine ⟨s, (n : Int), (m : Int), rfl, .inr ⟨⟨by omega, by omega⟩, ⟨by omega, by omega⟩, ?_⟩⟩
    decreasing_tactic
    refine ⟨s, b, rfl, hl, ?_⟩
    rcases h with ⟨h, k⟩ | ⟨h, h2, k⟩ | ⟨h, h2, k⟩
    · rw [h]
      decreasing_tactic
      exact ⟨_, HC.Sub.refl _, k⟩
    · rw [h]
      decreasing_tactic
      exact ⟨s, n, rfl, hn, .inl ⟨h2, _, HC.Sub.refl _, k⟩⟩
    · rw [h]
      decreasing_tactic
      refine ⟨s, n, rfl, hn, .inr ⟨h2, ?_⟩⟩
      decreasing_tactic
      exact retEnd k
theorem okX_spoil_block (T : Tx K mg base) : FnX P w K mg base 3 T.f_spoil_block T.d_spoil_block [("store" : Str), ("disk" : Str), ("row" : Str), ("told" : Str)] sx_spoil_block :=
  fnX (x := ("spoil_block" : Str)) T.F_spoil_block sc_spoil_block len_spoil_block (fun cdv A outer s H E W hr tk hpx => by
    have hu1 := hu_of hr
    have hu64 := hr.units
    exact (ass_cons (as_expr (ae_callX tk (okX_look_place T) (hr.mono (by decide)) T.m_look_place T.F_look_place.kp T.b_look_place (aa_cons (av 0) (aa_cons (av 1) (aa_cons (av 2) aa_nil)))))
    (ass_cons (as_if (at_not (at_tru (ae_call (ok_is_full_block T) (hr.mono (by decide)) T.m_is_full_block T.F_is_full_block.kp T.b_is_full_block (aa_cons (av 0) (aa_cons (av 3) aa_nil))))) (ass_one (as_raise rfl tk T.xc_NoPlace)) ass_nil)
    (ass_cons (as_expr (ae_callX tk (okX_look_there T) (hr.mono (by decide)) T.m_look_there T.F_look_there.kp T.b_look_there (aa_cons (av 0) (aa_cons (av 1) aa_nil))))
    (ass_one (as_ret (ae_tup (aa_cons (ae_tup (aa_cons ae_str (aa_cons (av 1) (aa_cons (av 2) (aa_cons (av 3) aa_nil))))) aa_nil)))))))) spec_spoil_block
theorem ok_spoil_block (T : Tx K mg base) : FnA P w K mg base 3 T.f_spoil_block T.d_spoil_block [("store" : Str), ("disk" : Str), ("row" : Str), ("told" : Str)] sp_spoil_block := FnX.norm (okX_spoil_block T) nox_spoil_block
def sp_law_disk_right : ASp := fun ds M Q => ∃ s : Store, ∃ d row : Nat, ∃ b : Blk, ds = [s.d, dn d, dn row, bD b] ∧ d < s.disks.length ∧ row < s.head.rows ∧ s.head.rows ≤ 1000 ∧ s.head.size ≤ 900 ∧ 1 ≤ s.head.size ∧ BlkOk' b s.head.size ∧ (∃ P, M P = some (.tab ("_law_disk_right" : Str))) ∧ ∀ M', HC.Sub M M' → Q (.bl true) M'
def tk_law_disk_right_9 : RS := (aRet (aOp aEq (aLam ("_law_disk_right" : Str) lsp_law_refused (axCall sx_put_spare (aCons (aVar 0) (aCons (aVar 1) aNil)))) (aVar 5)))
def tk_law_disk_right_8 : RS := aSeq (aAsg (aIf (aTru (aVar 4)) (aC (.str ("There" : Str))) (aOp aIx (aFz (aLst (aCons (aC (.str ("" : Str))) (aCons (aC (.str ("NoSpare" : Str))) aNil)))) (aFn acInt (aCons (aOp aEq (aOp aIx (aOp aIx (aVar 0) (aC (.int 0))) (aC (.int 5))) (aC (.int 0))) aNil)))) (agName 5)) (tk_law_disk_right_9)
def tk_law_disk_right_7 : RS := aSeq (aFor (aiSeq (aFz (aLst (aCons (aFz (aSl (aVar 3) (aoS (aC (.int 1))) aoN)) (aCons (aOp aAdd (aVar 3) (aTup (aCons (aC (.int 0)) aNil))) (aCons (aFz (aOp aAdd (aSl (aVar 3) aoN (aoS (aUn aNeg (aC (.int 1))))) (aTup (aCons (aC (.int 256)) aNil)))) (aCons (aFz (aOp aAdd (aTup (aCons (aUn aNeg (aC (.int 1))) aNil)) (aSl (aVar 3) (aoS (aC (.int 1))) aoN))) (aCons (aTup aNil) aNil)))))))) (agName 8) (aIfS (aB (aOp aNe (aLam ("_law_disk_right" : Str) lsp_law_refused (axCall sx_spoil_block (aCons (aVar 0) (aCons (aVar 1) (aCons (aVar 2) (aCons (aVar 8) aNil)))))) (aC (.str ("NoPlace" : Str))))) (aRet (aC (.bl false))) aNext)) (tk_law_disk_right_8)
def tk_law_disk_right_6 : RS := aSeq (aFor (aiSeq (aFz (aLst (aCons (aUn aNeg (aC (.int 1))) (aCons (aOp aIx (aOp aIx (aVar 0) (aC (.int 0))) (aC (.int 2))) (aCons (aOp aAdd (aOp aIx (aOp aIx (aVar 0) (aC (.int 0))) (aC (.int 2))) (aVar 2)) (aCons (aOp aPow (aC (.int 10)) (aC (.int 11))) aNil))))))) (agName 7) (aSeq (aAsg (aLst (aCons (aLam ("_law_disk_right" : Str) lsp_law_refused (axCall sx_bad_block (aCons (aVar 0) (aCons (aVar 1) (aCons (aVar 7) aNil))))) aNil)) (agName 6))
    (aSeq (aDrop (aMth "list" amApp (aVar 6) (aCons (aLam ("_law_disk_right" : Str) lsp_law_refused (axCall sx_spoil_block (aCons (aVar 0) (aCons (aVar 1) (aCons (aVar 7) (aCons (aVar 3) aNil)))))) aNil)))
    (aIfS (aB (aOp aNe (aVar 6) (aFz (aOp aMul (aLst (aCons (aC (.str ("NoPlace" : Str))) aNil)) (aC (.int 2)))))) (aRet (aC (.bl false))) aNext)))) (tk_law_disk_right_7)
def tk_law_disk_right_5 : RS := aSeq (aIfS (aB (aOp aNe (aVar 6) (aFz (aOp aMul (aLst (aCons (aVar 5) aNil)) (aC (.int 3)))))) (aRet (aC (.bl false))) aNext) (tk_law_disk_right_6)
def tk_law_disk_right_4 : RS := aSeq (aDrop (aMth "list" amApp (aVar 6) (aCons (aLam ("_law_disk_right" : Str) lsp_law_refused (axCall sx_spoil_block (aCons (aVar 0) (aCons (aVar 1) (aCons (aVar 2) (aCons (aVar 3) aNil)))))) aNil))) (tk_law_disk_right_5)
def tk_law_disk_right_3 : RS := aSeq (aDrop (aMth "list" amApp (aVar 6) (aCons (aLam ("_law_disk_right" : Str) lsp_law_refused (axCall sx_bad_block (aCons (aVar 0) (aCons (aVar 1) (aCons (aVar 2) aNil))))) aNil))) (tk_law_disk_right_4)
def tk_law_disk_right_2 : RS := aSeq (aAsg (aLst (aCons (aLam ("_law_disk_right" : Str) lsp_law_refused (axCall sx_lose_disk (aCons (aVar 0) (aCons (aVar 1) aNil)))) aNil)) (agName 6)) (tk_law_disk_right_3)
def tk_law_disk_right_1 : RS := aSeq (aAsg (aIf (aTru (aVar 4)) (aC (.str ("" : Str))) (aC (.str ("Gone" : Str)))) (agName 5)) (tk_law_disk_right_2)
def t_law_disk_right : RS := aSeq (aAsg (aOp aIsNot (aOp aIx (aOp aIx (aVar 0) (aC (.int 1))) (aVar 1)) (aC .non)) (agName 4)) (tk_law_disk_right_1)
theorem len_law_disk_right : ∀ ds M Q, sp_law_disk_right ds M Q → ds.length = 4 := by
  rintro ds M Q ⟨s, d, row, b, rfl, _⟩
  rfl
theorem two_ways {Qc Q1 : DK} {E1 : WXA} {M : Ms} {X : Dv} {wd : Str} {A : Prop} (h : (wd = ("Gone" : Str) ∧ A) ∨ (wd = ("" : Str) ∧ ¬ A)) (hR : RefK Qc Q1 E1)
    (k : Qc (.str wd) M) : (A ∧ E1 ("Gone" : Str) none M) ∨ (¬ A ∧ Q1 X M) := by
  rcases h with ⟨rfl, h⟩ | ⟨rfl, h⟩
  · exact .inl ⟨h, hR.e _ _ _ _ (by unfold xcs; simp) rfl k⟩
  · exact .inr ⟨h, hR.q _ _ k⟩
theorem three_ways {Qc Q1 : DK} {E1 : WXA} {M : Ms} {X : Dv} {wd : Str} {A F : Prop} (hF : F) (h : (wd = ("Gone" : Str) ∧ A) ∨ (wd = ("" : Str) ∧ ¬ A)) (hR : RefK Qc Q1 E1)
    (k : Qc (.str wd) M) {G : Prop} : (G ∧ E1 ("NoPlace" : Str) none M) ∨ (F ∧ A ∧ E1 ("Gone" : Str) none M) ∨ (F ∧ ¬ A ∧ Q1 X M) := by
  rcases two_ways (X := X) h hR k with z | z
  · exact .inr (.inl ⟨hF, z⟩)
  · exact .inr (.inr ⟨hF, z⟩)
theorem full_ok {s : Store} {b : Blk} (h : BlkOk' b s.head.size) : fullB s (b.map fun x : Nat => (x : Int)) = true := by
  unfold fullB
  rw [List.length_map, decide_eq_true h.1, Bool.true_and, List.all_map]
  refine List.all_eq_true.mpr fun x hx => ?_
  have := h.2 x hx
  show (decide (0 ≤ (x : Int)) && decide ((x : Int) ≤ 255)) = true
  rw [decide_eq_true (by omega), decide_eq_true (by omega)]
  rfl
theorem bD_ints (b : Blk) : bD b = .tup ((b.map fun x : Nat => (x : Int)).map Dv.int) := by
  rw [List.map_map]
  rfl
theorem spec_law_disk_right : ∀ ds M Q, sp_law_disk_right ds M Q → t_law_disk_right (retD Q) (startA 9 ds) M := by
  rintro ds M Q ⟨s, d, row, b, rfl, hd, hr, r1, z2, z1, hb, ⟨P, hP⟩, k⟩
  have i0 : atI [s.head.d, .tup (s.disks.map kD), .tup (s.journal.map nD)] 0 = some s.head.d := rfl
  have i1 : atI [s.head.d, .tup (s.disks.map kD), .tup (s.journal.map nD)] 1 = some (.tup (s.disks.map kD)) := rfl
  have a2 : atI [dn s.head.par, dn s.head.size, dn s.head.rows, dn s.head.width, dn s.head.moved, dn s.head.spares] 2 = some (dn s.head.rows) := rfl
  have a5 : atI [dn s.head.par, dn s.head.size, dn s.head.rows, dn s.head.width, dn s.head.moved, dn s.head.spares] 5 = some (dn s.head.spares) := rfl
  have at1 := store_at hd
  have main : ∀ (tb : Bool) (wd : Str), ((wd = ("Gone" : Str) ∧ s.disks.getD d none = none) ∨ (wd = ("" : Str) ∧ ¬ s.disks.getD d none = none)) → tb = (s.disks.getD d none).isSome →
      tk_law_disk_right_2 (retD Q) [some s.d, some (dn d), some (dn row), some (bD b), some (.bl tb), some (.str wd), none, none, none] M := by
    intro tb wd hw htb
    decreasing_tactic
    refine ⟨⟨P, hP⟩, fun Q1 E1 hR => ?_⟩
    decreasing_tactic
    refine ⟨s, d, rfl, .inr ⟨d, rfl, hd, two_ways hw hR ?_⟩⟩
    decreasing_tactic
    intro p1 h1
    have hP1 := look_new (x := .lst [.str wd]) hP h1
    decreasing_tactic
    refine ⟨⟨P, hP1⟩, fun Q1 E1 hR => ?_⟩
    decreasing_tactic
    refine ⟨s, d, row, rfl, .inr ⟨d, row, rfl, rfl, hd, hr, two_ways hw hR ?_⟩⟩
    decreasing_tactic
    rw [mup_mup]
    have hP2 := look_new (x := .lst ([.str wd] ++ [.str wd])) hP h1
    refine ⟨⟨P, hP2⟩, fun Q1 E1 hR => ?_⟩
    decreasing_tactic
    refine ⟨s, d, row, b.map fun x : Nat => (x : Int), by rw [← bD_ints], by rw [List.length_map, hb.1]; omega, .inr ⟨d, row, rfl, rfl, hd, hr, three_ways (full_ok hb) hw hR ?_⟩⟩
    decreasing_tactic
    rw [mup_mup]
    intro p2 h2
    have hP3 := look_new (x := .lst ([.str wd] ++ [.str wd] ++ [.str wd])) hP h1
    have hP4 := look_new (x := .lst [.str wd]) hP3 h2
    decreasing_tactic
    refine ⟨_, mup_same, by decide, by decide, le_line (by simp), fun q hq => fz_new hq ?_⟩
    have lw : PyData.canLay0 (.str wd) = true := by rcases hw with ⟨rfl, _⟩ | ⟨rfl, _⟩ <;> decide +kernel
    have plw : Pl 9 (.rol [.str wd, .str wd, .str wd]) := fun x hx => by
      simp only [List.mem_cons, List.not_mem_nil, or_false, or_self] at hx
      rw [hx]
      exact lw
    decreasing_tactic
    refine ⟨_, look_new mup_same h2, plw, plw, ?_⟩
    decreasing_tactic
    rw [dec_T (show [Dv.str wd] ++ [Dv.str wd] ++ [Dv.str wd] = (List.replicate (Int.toNat 3) [Dv.str wd]).flatten from rfl)]
    have sb := (HC.Sub.new (c := .lst ([.str wd] ++ [.str wd] ++ [.str wd])) h1).trans (HC.Sub.new (c := .lst [.str wd]) h2)
    clear hP1 hP2 hP3
    generalize mup (mup M p1 (.lst ([.str wd] ++ [.str wd] ++ [.str wd]))) p2 (.lst [.str wd]) = M5 at hP4 sb ⊢
    decreasing_tactic
    ((repeat ((conv => whnf); simp only [lenA_r, itemsA_r, lstA_r, lstC_s, Option.map_some, atI_0, ixN_0, mup_same, mup_mup, true_and, and_true, List.map_cons, List.map_nil, List.length_cons, List.length_map, List.length_nil, List.set_cons_zero, List.set_cons_succ, List.cons_append, List.nil_append, List.getElem?_cons_zero, List.getElem?_cons_succ, i0, a2])); (conv => whnf))
    have lN : PyData.canLay0 (.str ("NoPlace" : Str)) = true := by decide +kernel
    have memN : ("NoPlace" : Str) ∈ xcs := by unfold xcs; simp
    have far : ∀ (i : Nat) (x : Dv), [Dv.int (-1), dn s.head.rows, Dv.int ((s.head.rows : Int) + (row : Int)), Dv.int (10 ^ Int.toNat 11)][i]? = some x → ∃ z : Int, x = .int z ∧ (z < 0 ∨ (s.head.rows : Int) ≤ z) := by
      intro i x hx
      have := List.mem_of_getElem? hx
      simp only [List.mem_cons, List.not_mem_nil, or_false] at this
      rcases this with rfl | rfl | rfl | rfl
      · exact ⟨_, rfl, .inl (by decide)⟩
      · exact ⟨_, rfl, .inr (Int.le_refl _)⟩
      · exact ⟨_, rfl, .inr (by omega)⟩
      · exact ⟨_, rfl, .inr (by have : (10 : Int) ^ Int.toNat 11 = 100000000000 := by decide
                                omega)⟩
    refine forW_inv (fun i ρ M' => ∃ x6 x7 x8, ρ = [some s.d, some (dn d), some (dn row), some (bD b), some (.bl tb), some (.str wd), x6, x7, x8] ∧ M' P = some (.tab ("_law_disk_right" : Str)) ∧ HC.Sub M M') ⟨some (.ref p1), none, none, rfl, hP4, sb⟩ (fun _ _ _ _ _ => rfl) ?_ ?_
    · rintro i x ρ M6 hi ⟨x6, x7, x8, rfl, q1, s1⟩
      obtain ⟨z, rfl, hz⟩ := far i x hi
      clear far hP4 sb h1 h2
      decreasing_tactic
      refine ⟨⟨P, q1⟩, fun Q1 E1 hR => ?_⟩
      decreasing_tactic
      refine ⟨s, d, z, rfl, .inl ⟨fun q => by omega, hR.e _ _ _ _ memN rfl ?_⟩⟩
      decreasing_tactic
      intro p3 h3
      have q2 := look_new (x := .lst [.str ("NoPlace" : Str)]) q1 h3
      decreasing_tactic
      refine ⟨⟨P, q2⟩, fun Q1 E1 hR => ?_⟩
      decreasing_tactic
      refine ⟨s, d, z, b.map fun x : Nat => (x : Int), by rw [← bD_ints], by rw [List.length_map, hb.1]; omega, .inl ⟨fun q => by omega, hR.e _ _ _ _ memN rfl ?_⟩⟩
      decreasing_tactic
      rw [mup_mup]
      intro p4 h4
      have q3 := look_new (x := .lst ([.str ("NoPlace" : Str)] ++ [.str ("NoPlace" : Str)])) q1 h3
      have q4 := look_new (x := .lst [.str ("NoPlace" : Str)]) q3 h4
      decreasing_tactic
      refine ⟨_, mup_same, by decide, by decide, le_line (by simp), fun q hq => fz_new hq ?_⟩
      have plw : Pl 9 (.rol [.str ("NoPlace" : Str), .str ("NoPlace" : Str)]) := fun x hx => by
        simp only [List.mem_cons, List.not_mem_nil, or_false, or_self] at hx
        rw [hx]
        exact lN
      decreasing_tactic
      refine ⟨_, look_new mup_same h4, plw, plw, ?_⟩
      decreasing_tactic
      rw [dec_T (show [Dv.str ("NoPlace" : Str)] ++ [Dv.str ("NoPlace" : Str)] = (List.replicate (Int.toNat 2) [Dv.str ("NoPlace" : Str)]).flatten from rfl)]
      have s2 := (s1.trans (HC.Sub.new (c := .lst ([.str ("NoPlace" : Str)] ++ [.str ("NoPlace" : Str)])) h3)).trans (HC.Sub.new (c := .lst [.str ("NoPlace" : Str)]) h4)
      clear q2 q3
      generalize mup (mup M6 p3 (.lst ([.str ("NoPlace" : Str)] ++ [.str ("NoPlace" : Str)]))) p4 (.lst [.str ("NoPlace" : Str)]) = M7 at q4 s2 ⊢
      decreasing_tactic
      exact wk_of ⟨_, _, _, rfl, q4, s2⟩
    · rintro ρ M6 ⟨x6, x7, x8, rfl, q1, s1⟩
      clear hP4 sb h1 h2 far
      have lb : (b.map fun n => dn n).length = s.head.size := by rw [List.length_map]; exact hb.1
      have c1 : cutA (b.map fun n => dn n) (some 1) none = ((b.drop 1).map fun x : Nat => (x : Int)).map Dv.int := by
        show cutA (b.map fun n => dn n) (some ((1 : Nat) : Int)) none = _
        rw [c_from _ 1 (by omega), List.map_map, ← List.map_drop]
        rfl
      have c2 : cutA (b.map fun n => dn n) none (some (-1)) = ((b.take (s.head.size - 1)).map fun x : Nat => (x : Int)).map Dv.int := by
        rw [cut_last, lb, List.map_map, ← List.map_take]
        rfl
      have l1 : (cutA (b.map fun n => dn n) (some 1) none).length ≤ 900 := by
        show (cutA (b.map fun n => dn n) (some ((1 : Nat) : Int)) none).length ≤ 900
        rw [c_from _ 1 (by omega), List.length_drop]; omega
      have l2 : (cutA (b.map fun n => dn n) none (some (-1))).length ≤ 900 := by rw [cut_last, List.length_take]; omega
      decreasing_tactic
      have bad : ∀ (i : Nat) (x : Dv), [Dv.tup (cutA (b.map fun n => dn n) (some 1) none), Dv.tup ((b.map fun n => dn n) ++ [Dv.int 0]), Dv.tup (cutA (b.map fun n => dn n) none (some (-1)) ++ [Dv.int 256]), Dv.tup ([Dv.int (-1)] ++ cutA (b.map fun n => dn n) (some 1) none), Dv.tup []][i]? = some x → ∃ ys : List Int, x = .tup (ys.map Dv.int) ∧ ys.length ≤ 1000 ∧ fullB s ys = false := by
        intro i x hx
        have := List.mem_of_getElem? hx
        simp only [List.mem_cons, List.not_mem_nil, or_false] at this
        have hlen := hb.1
        rcases this with rfl | rfl | rfl | rfl | rfl
        · refine ⟨_, by rw [c1], by rw [List.length_map, List.length_drop]; omega, ?_⟩
          unfold fullB
          rw [decide_eq_false (by rw [List.length_map, List.length_drop]; omega), Bool.false_and]
        · refine ⟨(b.map fun x : Nat => (x : Int)) ++ [0], by rw [List.map_append, List.map_map]; rfl, by rw [List.length_append, List.length_map]; simp; omega, ?_⟩
          unfold fullB
          rw [decide_eq_false (by rw [List.length_append, List.length_map]; simp; omega), Bool.false_and]
        · refine ⟨((b.take (s.head.size - 1)).map fun x : Nat => (x : Int)) ++ [256], by rw [c2, List.map_append]; rfl, by rw [List.length_append, List.length_map, List.length_take]; simp; omega, ?_⟩
          unfold fullB
          rw [List.all_append]
          simp
        · refine ⟨-1 :: ((b.drop 1).map fun x : Nat => (x : Int)), by rw [c1]; rfl, by rw [List.length_cons, List.length_map, List.length_drop]; omega, ?_⟩
          unfold fullB
          simp
        · refine ⟨[], rfl, by simp, ?_⟩
          unfold fullB
          rw [decide_eq_false (by simp; omega), Bool.false_and]
      refine forW_inv (fun i ρ M' => ∃ x8, ρ = [some s.d, some (dn d), some (dn row), some (bD b), some (.bl tb), some (.str wd), x6, x7, x8] ∧ M' P = some (.tab ("_law_disk_right" : Str)) ∧ HC.Sub M M') ⟨x8, rfl, q1, s1⟩ (fun _ _ _ _ _ => rfl) ?_ ?_
      · rintro i x ρ M7 hi ⟨x8, rfl, q1, s1⟩
        obtain ⟨ys, rfl, ly, hf⟩ := bad i x hi
        clear bad c1 c2 l1 l2
        decreasing_tactic
        refine ⟨⟨P, q1⟩, fun Q1 E1 hR => ?_⟩
        decreasing_tactic
        refine ⟨s, d, row, ys, rfl, ly, .inr ⟨d, row, rfl, rfl, hd, hr, .inl ⟨hf, hR.e _ _ _ _ memN rfl ?_⟩⟩⟩
        decreasing_tactic
        exact wk_of ⟨_, rfl, q1, s1⟩
      · rintro ρ M7 ⟨x8, rfl, q1, s1⟩
        clear bad c1 c2 l1 l2
        rcases hw with ⟨rfl, hn⟩ | ⟨rfl, hn⟩
        · have e : tb = false := by rw [htb, hn]; rfl
          subst e
          decreasing_tactic
          ((repeat ((conv => whnf); simp only [lenA_r, itemsA_r, lstA_r, lstC_s, Option.map_some, atI_0, ixN_0, mup_same, mup_mup, true_and, and_true, List.map_cons, List.map_nil, List.length_cons, List.length_map, List.length_nil, List.set_cons_zero, List.set_cons_succ, List.cons_append, List.nil_append, List.getElem?_cons_zero, List.getElem?_cons_succ, i0, a5])); (conv => whnf))
          by_cases h0 : s.head.spares = 0
          · rw [dec_T (show dn s.head.spares = Dv.int 0 from congrArg Dv.int (by omega))]
            decreasing_tactic
            refine ⟨⟨P, q1⟩, fun Q1 E1 hR => ?_⟩
            decreasing_tactic
            refine ⟨s, d, rfl, .inr ⟨d, rfl, hd, .inr (.inl ⟨hn, h0, hR.e _ _ _ _ (by unfold xcs; simp) rfl ?_⟩)⟩⟩
            decreasing_tactic
            refine ⟨pl_str (by decide +kernel), pl_str (by decide +kernel), ?_⟩
            (dsimp only)
            rw [dec_T rfl]
            exact retSub (HC.Sub.refl _) (k _ s1)
          · rw [dec_F (show ¬ dn s.head.spares = Dv.int 0 from fun z => h0 (by have := Dv.int.inj z; omega))]
            decreasing_tactic
            refine ⟨⟨P, q1⟩, fun Q1 E1 hR => ?_⟩
            decreasing_tactic
            refine ⟨s, d, rfl, .inr ⟨d, rfl, hd, .inr (.inr ⟨hn, by omega, hR.q _ _ ?_⟩)⟩⟩
            decreasing_tactic
            refine ⟨pl_str (by decide +kernel), pl_str (by decide +kernel), ?_⟩
            (dsimp only)
            rw [dec_T rfl]
            exact retSub (HC.Sub.refl _) (k _ s1)
        · have e : tb = true := by
            rw [htb]
            cases q : s.disks.getD d none with
            | none => exact absurd q hn
            | some _ => rfl
          subst e
          decreasing_tactic
          refine ⟨⟨P, q1⟩, fun Q1 E1 hR => ?_⟩
          decreasing_tactic
          refine ⟨s, d, rfl, .inr ⟨d, rfl, hd, .inl ⟨hn, hR.e _ _ _ _ (by unfold xcs; simp) rfl ?_⟩⟩⟩
          decreasing_tactic
          refine ⟨pl_str (by decide +kernel), pl_str (by decide +kernel), ?_⟩
          (dsimp only)
          rw [dec_T rfl]
          exact retSub (HC.Sub.refl _) (k _ s1)
  cases eb : s.disks.getD d none with
  | none =>
    rw [eb] at at1
    have at2 : atI (s.disks.map kD) (d : Int) = some .non := at1
    decreasing_tactic
    ((repeat ((conv => whnf); simp only [lenA_r, itemsA_r, lstA_r, lstC_s, Option.map_some, atI_0, ixN_0, mup_same, mup_mup, true_and, and_true, List.map_cons, List.map_nil, List.length_cons, List.length_map, List.length_nil, List.set_cons_zero, List.set_cons_succ, List.cons_append, List.nil_append, List.getElem?_cons_zero, List.getElem?_cons_succ, i1, at2])); (conv => whnf))
    exact main false ("Gone" : Str) (.inl ⟨rfl, eb⟩) (by rw [eb]; rfl)
  | some bs =>
    rw [eb] at at1
    have at2 : atI (s.disks.map kD) (d : Int) = some (.tup (bs.map oD)) := at1
    decreasing_tactic
    ((repeat ((conv => whnf); simp only [lenA_r, itemsA_r, lstA_r, lstC_s, Option.map_some, atI_0, ixN_0, mup_same, mup_mup, true_and, and_true, List.map_cons, List.map_nil, List.length_cons, List.length_map, List.length_nil, List.set_cons_zero, List.set_cons_succ, List.cons_append, List.nil_append, List.getElem?_cons_zero, List.getElem?_cons_succ, i1, at2])); (conv => whnf))
    exact main true ("" : Str) (.inr ⟨rfl, by rw [eb]; exact fun z => by cases z⟩) (by rw [eb]; rfl)
theorem ok_law_disk_right (T : Tx K mg base) : FnA P w K mg base 6 T.f_law_disk_right T.d_law_disk_right [("_law_store_here" : Str), ("_law_disk" : Str), ("_law_row" : Str), ("_law_block_here" : Str)] sp_law_disk_right :=
  fnAL T.fe_law_disk_right T.F_law_disk_right sc_law_disk_right len_law_disk_right (fun cdv A outer s H E hcode hr => by
    have hu1 := hu_of hr
    have hu64 := hr.units
    exact (ass_cons (as_set 4 sc_law_disk_right.nd (ae_isnot (ae_ix hu1 (ae_ix hu1 (av 0) ae_int) (av 1)) ae_non))
    (ass_cons (as_set 5 sc_law_disk_right.nd (ae_if (at_tru (av 4)) ae_str ae_str))
    (ass_cons (as_set 6 sc_law_disk_right.nd (ae_lst (aa_cons (ae_lam (x := ("_law_disk_right" : Str)) (k := 2) T.F_law_refused T.m_law_refused T.b_law_refused sc_law_refused (fun cz => lg_law_refused T) T.tl_law_disk_right hcode hr (by decide) (show LamX.LamS (defScope s_law_disk_right) _ from LamX.lamS_by (by decide +kernel)) (fun E A outer s H f c hr tk => by
      have hu1 := hu_of hr
      have hu64 := hr.units
      exact (ax_call (takesN tk) (okX_lose_disk T) (hr.mono (by decide)) T.m_lose_disk T.F_lose_disk.kp T.b_lose_disk (aa_cons (av 0) (aa_cons (av 1) aa_nil))))) aa_nil)))
    (ass_cons (as_expr (ae_append (av 6) (aa_cons (ae_lam (x := ("_law_disk_right" : Str)) (k := 3) T.F_law_refused T.m_law_refused T.b_law_refused sc_law_refused (fun cz => lg_law_refused T) T.tl_law_disk_right hcode hr (by decide) (show LamX.LamS (defScope s_law_disk_right) _ from LamX.lamS_by (by decide +kernel)) (fun E A outer s H f c hr tk => by
      have hu1 := hu_of hr
      have hu64 := hr.units
      exact (ax_call (takesN tk) (okX_bad_block T) (hr.mono (by decide)) T.m_bad_block T.F_bad_block.kp T.b_bad_block (aa_cons (av 0) (aa_cons (av 1) (aa_cons (av 2) aa_nil)))))) aa_nil)))
    (ass_cons (as_expr (ae_append (av 6) (aa_cons (ae_lam (x := ("_law_disk_right" : Str)) (k := 3) T.F_law_refused T.m_law_refused T.b_law_refused sc_law_refused (fun cz => lg_law_refused T) T.tl_law_disk_right hcode hr (by decide) (show LamX.LamS (defScope s_law_disk_right) _ from LamX.lamS_by (by decide +kernel)) (fun E A outer s H f c hr tk => by
      have hu1 := hu_of hr
      have hu64 := hr.units
      exact (ax_call (takesN tk) (okX_spoil_block T) (hr.mono (by decide)) T.m_spoil_block T.F_spoil_block.kp T.b_spoil_block (aa_cons (av 0) (aa_cons (av 1) (aa_cons (av 2) (aa_cons (av 3) aa_nil))))))) aa_nil)))
    (ass_cons (as_if (at_ne hu64 (av 6) (ae_fz (ae_mul (ae_lst (aa_cons (av 5) aa_nil)) ae_int))) (ass_one (as_ret ae_bl)) ass_nil)
    (ass_cons (as_for PassesOwn.never rfl (ai_seq (ae_fz (ae_lst (aa_cons (ae_neg ae_int) (aa_cons (ae_ix hu1 (ae_ix hu1 (av 0) ae_int) ae_int) (aa_cons (ae_add (ae_ix hu1 (ae_ix hu1 (av 0) ae_int) ae_int) (av 2)) (aa_cons (ae_pow ae_int ae_int) aa_nil))))))) (ag_name 7 sc_law_disk_right.nd) (ass_cons (as_set 6 sc_law_disk_right.nd (ae_lst (aa_cons (ae_lam (x := ("_law_disk_right" : Str)) (k := 3) T.F_law_refused T.m_law_refused T.b_law_refused sc_law_refused (fun cz => lg_law_refused T) T.tl_law_disk_right hcode hr (by decide) (show LamX.LamS (defScope s_law_disk_right) _ from LamX.lamS_by (by decide +kernel)) (fun E A outer s H f c hr tk => by
      have hu1 := hu_of hr
      have hu64 := hr.units
      exact (ax_call (takesN tk) (okX_bad_block T) (hr.mono (by decide)) T.m_bad_block T.F_bad_block.kp T.b_bad_block (aa_cons (av 0) (aa_cons (av 1) (aa_cons (av 7) aa_nil)))))) aa_nil)))
    (ass_cons (as_expr (ae_append (av 6) (aa_cons (ae_lam (x := ("_law_disk_right" : Str)) (k := 3) T.F_law_refused T.m_law_refused T.b_law_refused sc_law_refused (fun cz => lg_law_refused T) T.tl_law_disk_right hcode hr (by decide) (show LamX.LamS (defScope s_law_disk_right) _ from LamX.lamS_by (by decide +kernel)) (fun E A outer s H f c hr tk => by
      have hu1 := hu_of hr
      have hu64 := hr.units
      exact (ax_call (takesN tk) (okX_spoil_block T) (hr.mono (by decide)) T.m_spoil_block T.F_spoil_block.kp T.b_spoil_block (aa_cons (av 0) (aa_cons (av 1) (aa_cons (av 7) (aa_cons (av 3) aa_nil))))))) aa_nil)))
    (ass_one (as_if (at_ne hu64 (av 6) (ae_fz (ae_mul (ae_lst (aa_cons ae_str aa_nil)) ae_int))) (ass_one (as_ret ae_bl)) ass_nil)))))
    (ass_cons (as_for PassesOwn.never rfl (ai_seq (ae_fz (ae_lst (aa_cons (ae_fz (ae_slice (av 3) (ao_some ae_int) ao_none)) (aa_cons (ae_add (av 3) (ae_tup (aa_cons ae_int aa_nil))) (aa_cons (ae_fz (ae_add (ae_slice (av 3) ao_none (ao_some (ae_neg ae_int))) (ae_tup (aa_cons ae_int aa_nil)))) (aa_cons (ae_fz (ae_add (ae_tup (aa_cons (ae_neg ae_int) aa_nil)) (ae_slice (av 3) (ao_some ae_int) ao_none))) (aa_cons (ae_tup aa_nil) aa_nil)))))))) (ag_name 8 sc_law_disk_right.nd) (ass_one (as_if (at_ne hu64 (ae_lam (x := ("_law_disk_right" : Str)) (k := 3) T.F_law_refused T.m_law_refused T.b_law_refused sc_law_refused (fun cz => lg_law_refused T) T.tl_law_disk_right hcode hr (by decide) (show LamX.LamS (defScope s_law_disk_right) _ from LamX.lamS_by (by decide +kernel)) (fun E A outer s H f c hr tk => by
      have hu1 := hu_of hr
      have hu64 := hr.units
      exact (ax_call (takesN tk) (okX_spoil_block T) (hr.mono (by decide)) T.m_spoil_block T.F_spoil_block.kp T.b_spoil_block (aa_cons (av 0) (aa_cons (av 1) (aa_cons (av 2) (aa_cons (av 8) aa_nil))))))) ae_str) (ass_one (as_ret ae_bl)) ass_nil)))
    (ass_cons (as_set 5 sc_law_disk_right.nd (ae_if (at_tru (av 4)) ae_str (ae_ix hu1 (ae_fz (ae_lst (aa_cons ae_str (aa_cons ae_str aa_nil)))) (ae_callTy call_int1 abc_int (aa_cons (ae_eq hu64 (ae_ix hu1 (ae_ix hu1 (av 0) ae_int) ae_int) ae_int) aa_nil) T.n_int boot_int))))
    (ass_one (as_ret (ae_eq hu64 (ae_lam (x := ("_law_disk_right" : Str)) (k := 2) T.F_law_refused T.m_law_refused T.b_law_refused sc_law_refused (fun cz => lg_law_refused T) T.tl_law_disk_right hcode hr (by decide) (show LamX.LamS (defScope s_law_disk_right) _ from LamX.lamS_by (by decide +kernel)) (fun E A outer s H f c hr tk => by
      have hu1 := hu_of hr
      have hu64 := hr.units
      exact (ax_call (takesN tk) (okX_put_spare T) (hr.mono (by decide)) T.m_put_spare T.F_put_spare.kp T.b_put_spare (aa_cons (av 0) (aa_cons (av 1) aa_nil))))) (av 5)))))))))))))) spec_law_disk_right
def sp_law_mixed : ASp := fun ds M Q => ∃ c : Int, ∃ many : Nat, ds = [.int c, dn many] ∧ many ≤ 1000 ∧
  ∀ (L : List Nat) r M', L.length = many → (∀ x ∈ L, x < 400000000) → Sub M (mdel M' r) → M r = none → M' r = some (.lst (L.map fun n => dn n)) → Q (.ref r) M'
def tk_law_mixed_3 : RS := (aRet (aVar 3))
def tk_law_mixed_2 : RS := aSeq (aFor (aiR1 (aCons (aVar 1) aNil)) (agName 4) (aSeq (aAsg (aOp aMod (aOp aAdd (aOp aAdd (aOp aMul (aVar 2) (aC (.int 48271))) (aOp aMul (aOp aMul (aC (.int 7)) (aVar 4)) (aVar 4))) (aC (.int 11))) (aC (.int 2147483629))) (agName 2))
    (aDrop (aMth "list" amApp (aVar 3) (aCons (aOp aDiv (aOp aMod (aOp aAdd (aOp aAdd (aOp aMul (aVar 2) (aVar 2)) (aOp aMul (aC (.int 3)) (aVar 2))) (aVar 4)) (aC (.int 2147483587))) (aC (.int 7))) aNil))))) (tk_law_mixed_3)
def tk_law_mixed_1 : RS := aSeq (aAsg (aLst aNil) (agName 3)) (tk_law_mixed_2)
def t_law_mixed : RS := aSeq (aAsg (aOp aMod (aVar 0) (aC (.int 2147483647))) (agName 2)) (tk_law_mixed_1)
theorem len_law_mixed : ∀ ds M Q, sp_law_mixed ds M Q → ds.length = 2 := by
  rintro ds M Q ⟨c, many, rfl, _⟩
  rfl
theorem spec_law_mixed : ∀ ds M Q, sp_law_mixed ds M Q → t_law_mixed (retD Q) (startA 5 ds) M := by
  rintro ds M Q ⟨c, many, rfl, hm, k⟩
  decreasing_tactic
  intro r hr
  decreasing_tactic
  obtain ⟨a0, ha0⟩ : ∃ a : Nat, c % 2147483647 = (a : Int) := Int.eq_ofNat_of_zero_le (Int.emod_nonneg _ (by omega))
  have l0 : c % 2147483647 < 2147483647 := Int.emod_lt_of_pos _ (by omega)
  rw [ha0] at l0
  (dsimp only)
  rw [ha0]
  refine forW_inv (fun i ρ M' => ∃ x4, ∃ a : Nat, ∃ L : List Nat, ρ = [some (.int c), some (dn many), some (dn a), some (.ref r), x4] ∧ a < 2147483647 ∧ Sub M (mdel M' r) ∧ M' r = some (.lst (L.map fun n => dn n)) ∧ L.length = i ∧ ∀ x ∈ L, x < 400000000) ⟨none, a0, [], rfl, by omega, grow_new hr, mup_same, rfl, fun x hx => by simp at hx⟩ (fun _ _ _ _ _ => trivial) ?_ ?_
  · rintro i d ρ M' hi ⟨x4, a, L, rfl, al, hs, hl, Ll, Lb⟩
    obtain ⟨hi, rfl⟩ := rangeA_get hi
    obtain ⟨a1, e1⟩ : ∃ a1 : Nat, ((a : Int) * 48271 + 7 * (0 + (i : Int)) * (0 + (i : Int)) + 11) % 2147483629 = (a1 : Int) := Int.eq_ofNat_of_zero_le (Int.emod_nonneg _ (by omega))
    have l1 : ((a : Int) * 48271 + 7 * (0 + (i : Int)) * (0 + (i : Int)) + 11) % 2147483629 < 2147483629 := Int.emod_lt_of_pos _ (by omega)
    obtain ⟨v, ev⟩ : ∃ v : Nat, ((a1 : Int) * (a1 : Int) + 3 * (a1 : Int) + (0 + (i : Int))) % 2147483587 = (v : Int) := Int.eq_ofNat_of_zero_le (Int.emod_nonneg _ (by omega))
    have lv : ((a1 : Int) * (a1 : Int) + 3 * (a1 : Int) + (0 + (i : Int))) % 2147483587 < 2147483587 := Int.emod_lt_of_pos _ (by omega)
    rw [e1] at l1
    rw [ev] at lv
    decreasing_tactic
    refine wk_of ⟨some (.int (0 + (i : Int))), a1, L ++ [v / 7], ?_, by omega, grow_put hs, ?_, by simp [Ll], fun x hx => ?_⟩
    · simp only [List.set_cons_zero, List.set_cons_succ]
      rw [e1]
    · rw [mup_same]
      (dsimp only)
      rw [e1, ev, List.map_append]
      rfl
    · rcases List.mem_append.mp hx with h | h
      · exact Lb x h
      · rw [List.mem_singleton.mp h]; omega
  · rintro ρ M' ⟨x4, a, L, rfl, al, hs, hl, Ll, Lb⟩
    rw [rangeA_len, Int.toNat_natCast] at Ll
    exact retEnd (k L r _ Ll Lb hs hr hl)
theorem ok_law_mixed (T : Tx K mg base) : FnA P w K mg base 1 T.f_law_mixed T.d_law_mixed [("_law_cell" : Str), ("_law_many_here" : Str)] sp_law_mixed :=
  fnA T.F_law_mixed sc_law_mixed len_law_mixed (fun cdv A outer s H E hr => by
    have hu1 := hu_of hr
    have hu64 := hr.units
    exact (ass_cons (as_set 2 sc_law_mixed.nd (ae_mod (av 0) ae_int))
    (ass_cons (as_set 3 sc_law_mixed.nd (ae_lst aa_nil))
    (ass_cons (as_for PassesOwn.never rfl (ai_range1 T.n_range (aa_cons (av 1) aa_nil)) (ag_name 4 sc_law_mixed.nd) (ass_cons (as_set 2 sc_law_mixed.nd (ae_mod (ae_add (ae_add (ae_mul (av 2) ae_int) (ae_mul (ae_mul ae_int (av 4)) (av 4))) ae_int) ae_int))
    (ass_one (as_expr (ae_append (av 3) (aa_cons (ae_div (ae_mod (ae_add (ae_add (ae_mul (av 2) (av 2)) (ae_mul ae_int (av 2))) (av 4)) ae_int) ae_int) aa_nil))))))
    (ass_one (as_ret (av 3))))))) spec_law_mixed
def sp_law_numbers : ASp := fun ds M Q => ∃ cs : List Int, ∃ many : Nat, ds = [.rol (cs.map Dv.int), dn many] ∧ cs.length ≤ 63 ∧ many ≤ 1000 ∧
  ∀ (L : List Nat) M', L.length = many → (∀ x ∈ L, x < 400000000) → Sub M M' → Q (.rol (L.map fun n => dn n)) M'
theorem cut_toN (xs : List Dv) (k : Nat) (h : k ≤ xs.length) : cutA xs none (some (k : Int)) = xs.take k := by
  unfold cutA
  have e : HT.sIx xs.length xs.length (some (k : Int)) = k := by
    show (if (k : Int) < 0 then ((k : Int) + (xs.length : Int)).toNat else min (k : Int).toNat xs.length) = _
    rw [if_neg (by omega)]
    omega
  rw [e]
  show (xs.drop 0).take (k - 0) = _
  rfl
def tk_law_numbers_3 : RS := (aRet (aFz (aOp aAddF (aVar 2) (aCall sp_law_mixed (aCons (aOp aAdd (aFn acSum (aCons (aFz (aSl (aVar 0) aoN (aoS (aC (.int 63))))) aNil)) (aFn acLen (aCons (aVar 0) aNil))) (aCons (aOp aSub (aVar 1) (aFn acLen (aCons (aVar 2) aNil))) aNil))))))
def tk_law_numbers_2 : RS := aSeq (aAsg (aSl (aVar 2) aoN (aoS (aVar 1))) (agName 2)) (tk_law_numbers_3)
def tk_law_numbers_1 : RS := aSeq (aFor (aiSeq (aFz (aSl (aVar 0) aoN (aoS (aC (.int 63)))))) (agName 3) (aSeq (aIfS (aB (aOp aLt (aVar 3) (aOp aPow (aC (.int 10)) (aC (.int 18))))) (aSeq (aDrop (aMth "list" amExt (aVar 2) (aCons (aCall sp_law_mixed (aCons (aVar 3) (aCons (aC (.int 8)) aNil))) aNil)))
    aCnt) aNext)
    (aSeq (aAsg (aVar 3) (agName 4))
    (aFor (aiR1 (aCons (aC (.int 80)) aNil)) (agName 5) (aIfS (aB (aOp aGt (aVar 4) (aC (.int 0)))) (aSeq (aDrop (aMth "list" amApp (aVar 2) (aCons (aOp aMod (aVar 4) (aC (.int 10007))) aNil)))
    (aAsg (aOp aDiv (aVar 4) (aC (.int 10007))) (agName 4))) aNext))))) (tk_law_numbers_2)
def t_law_numbers : RS := aSeq (aAsg (aLst aNil) (agName 2)) (tk_law_numbers_1)
theorem len_law_numbers : ∀ ds M Q, sp_law_numbers ds M Q → ds.length = 2 := by
  rintro ds M Q ⟨c, many, rfl, _⟩
  rfl
theorem spec_law_numbers : ∀ ds M Q, sp_law_numbers ds M Q → t_law_numbers (retD Q) (startA 6 ds) M := by
  rintro ds M Q ⟨cs, many, rfl, cl, hm, k⟩
  decreasing_tactic
  intro r hr
  decreasing_tactic
  have ec : cutA (cs.map Dv.int) none (some 63) = cs.map Dv.int := by
    unfold cutA
    have e : HT.sIx (cs.map Dv.int).length (cs.map Dv.int).length (some 63) = cs.length := by
      show (if (63 : Int) < 0 then ((63 : Int) + ((cs.map Dv.int).length : Int)).toNat else min (63 : Int).toNat (cs.map Dv.int).length) = _
      rw [if_neg (by omega), List.length_map]
      omega
    rw [e]
    show ((cs.map Dv.int).drop 0).take (cs.length - 0) = _
    rw [List.drop_zero, List.take_of_length_le (by simp)]
  rw [ec]
  refine forW_inv (fun i ρ M' => ∃ x3 x4 x5, ∃ L : List Nat, ρ = [some (.rol (cs.map Dv.int)), some (dn many), some (.ref r), x3, x4, x5] ∧ Sub M (mdel M' r) ∧ M' r = some (.lst (L.map fun n => dn n)) ∧ L.length ≤ 80 * i ∧ ∀ x ∈ L, x < 400000000) ⟨none, none, none, [], rfl, grow_new hr, mup_same, by simp, fun x hx => by simp at hx⟩ (fun _ _ _ _ _ => rfl) ?_ ?_
  · rintro i d ρ M' hi ⟨x3, x4, x5, L, rfl, hs, hl, Ll, Lb⟩
    have hil := (List.getElem?_eq_some_iff.mp hi).1
    rw [List.length_map] at hil
    rw [List.getElem?_map] at hi
    obtain ⟨c, hc, rfl⟩ := Option.map_eq_some_iff.mp hi
    decreasing_tactic
    refine onIf_dec (fun _ => ?_) (fun _ => ?_)
    · decreasing_tactic
      refine ⟨c, 8, rfl, by omega, fun L2 r2 M2 l2 b2 s2 n2 e2 => ?_⟩
      have hl2 := grow_at s2 hl
      ((repeat ((conv => whnf); simp only [lenA_r, itemsA_r, lstA_r, lstC_s, Option.map_some, atI_0, ixN_0, mup_same, mup_mup, true_and, and_true, List.map_cons, List.map_nil, List.length_cons, List.length_map, List.length_nil, List.set_cons_zero, List.set_cons_succ, List.cons_append, List.nil_append, List.getElem?_cons_zero, List.getElem?_cons_succ, hl2, e2])); (conv => whnf))
      refine ⟨le_line (by omega), ?_⟩
      (conv => whnf)
      refine wk_of ⟨some (.int c), _, _, L ++ L2, rfl, ?_, by rw [mup_same, List.map_append], by rw [List.length_append]; omega, fun x hx => ?_⟩
      · rw [mdel_put]
        exact mdel_of ((grow_sub hs).trans (grow_sub s2)) hr
      · rcases List.mem_append.mp hx with h | h
        · exact Lb x h
        · exact b2 x h
    · decreasing_tactic
      refine forW_inv (fun j ρ M' => ∃ x5, ∃ left : Int, ∃ L : List Nat, ρ = [some (.rol (cs.map Dv.int)), some (dn many), some (.ref r), some (.int c), some (.int left), x5] ∧ Sub M (mdel M' r) ∧ M' r = some (.lst (L.map fun n => dn n)) ∧ L.length ≤ 80 * i + j ∧ ∀ x ∈ L, x < 400000000) ⟨_, c, L, rfl, hs, hl, by omega, Lb⟩ (fun _ _ _ _ _ => trivial) ?_ ?_
      · rintro j d ρ M2 hj ⟨x5, left, L, rfl, hs, hl, Ll, Lb⟩
        obtain ⟨hj2, rfl⟩ := rangeA_get hj
        have hj80 : j < 80 := hj2
        decreasing_tactic
        refine onIf_dec (fun hl0 => ?_) (fun _ => ?_)
        · obtain ⟨v, ev⟩ : ∃ v : Nat, left % 10007 = (v : Int) := Int.eq_ofNat_of_zero_le (Int.emod_nonneg _ (by omega))
          have lv : left % 10007 < 10007 := Int.emod_lt_of_pos _ (by omega)
          rw [ev] at lv
          decreasing_tactic
          refine wk_of ⟨some (.int (0 + (j : Int))), left / 10007, L ++ [v], rfl, grow_put hs, ?_, by rw [List.length_append]; simp; omega, fun x hx => ?_⟩
          · rw [mup_same]
            (dsimp only)
            rw [ev, List.map_append]
            rfl
          · rcases List.mem_append.mp hx with h | h
            · exact Lb x h
            · rw [List.mem_singleton.mp h]; omega
        · exact wk_of ⟨some (.int (0 + (j : Int))), left, L, rfl, hs, hl, by omega, Lb⟩
      · rintro ρ M2 ⟨x5, left, L, rfl, hs, hl, Ll, Lb⟩
        rw [rangeA_len] at Ll
        have Ll : L.length ≤ 80 * i + 80 := Ll
        exact wk_of ⟨_, _, _, L, rfl, hs, hl, by omega, Lb⟩
  · rintro ρ M' ⟨x3, x4, x5, L, rfl, hs, hl, Ll, Lb⟩
    rw [List.length_map] at Ll
    have cm : cutA (L.map fun n => dn n) none (some (many : Int)) = (L.take many).map fun n => dn n := by
      rw [List.map_take]
      by_cases h : many ≤ L.length
      · exact cut_toN _ _ (by simp; omega)
      · unfold cutA
        have e : HT.sIx (L.map fun n => dn n).length (L.map fun n => dn n).length (some (many : Int)) = L.length := by
          show (if (many : Int) < 0 then ((many : Int) + ((L.map fun n => dn n).length : Int)).toNat else min (many : Int).toNat (L.map fun n => dn n).length) = _
          rw [if_neg (by omega), List.length_map]
          omega
        rw [e]
        show ((L.map fun n => dn n).drop 0).take (L.length - 0) = _
        rw [List.drop_zero, List.take_of_length_le (by simp), List.take_of_length_le (by simp; omega)]
    ((repeat ((conv => whnf); simp only [lenA_r, itemsA_r, lstA_r, lstC_s, Option.map_some, atI_0, ixN_0, mup_same, mup_mup, true_and, and_true, List.map_cons, List.map_nil, List.length_cons, List.length_map, List.length_nil, List.set_cons_zero, List.set_cons_succ, List.cons_append, List.nil_append, List.getElem?_cons_zero, List.getElem?_cons_succ, hl])); (conv => whnf))
    rw [cm]
    intro r2 hr2
    have Tl : ((L.take many).map fun n => dn n).length = min many L.length := by simp
    have Tb : ∀ x ∈ L.take many, x < 400000000 := fun x hx => Lb x (List.mem_of_mem_take hx)
    generalize L.take many = T at Tl Tb
    have e1 : (cs.map Dv.int).length = cs.length := by simp
    decreasing_tactic
    rw [ec]
    refine ⟨cs, rfl, ?_⟩
    have Tl2 : T.length = min many L.length := by rw [← Tl, List.length_map]
    have t2 : mup M' r2 (.lst (T.map fun n => dn n)) r2 = some (.lst (T.map fun n => dn n)) := mup_same
    have s1 : Sub M (mup M' r2 (.lst (T.map fun n => dn n))) := (grow_sub hs).trans (Sub.new hr2)
    generalize mup M' r2 (.lst (T.map fun n => dn n)) = M2 at t2 s1 ⊢
    decreasing_tactic
    ((repeat ((conv => whnf); simp only [lenA_r, itemsA_r, lstA_r, lstC_s, Option.map_some, atI_0, ixN_0, mup_same, mup_mup, true_and, and_true, List.map_cons, List.map_nil, List.length_cons, List.length_map, List.length_nil, List.set_cons_zero, List.set_cons_succ, List.cons_append, List.nil_append, List.getElem?_cons_zero, List.getElem?_cons_succ, t2])); (conv => whnf))
    refine ⟨_, many - T.length, by rw [show (many : Int) - (T.length : Int) = ((many - T.length : Nat) : Int) by omega], by omega, fun L2 r3 M3 l3 b3 s3 n3 e3 => ?_⟩
    have t3 := grow_at s3 t2
    (conv => whnf)
    refine ⟨_, _, t3, e3, le_line (by simp; omega), fun r4 hr4 => fz_new hr4 ?_⟩
    rw [← List.map_append]
    exact retEnd (k (T ++ L2) _ (by rw [List.length_append]; omega) (fun x hx => by
      rcases List.mem_append.mp hx with h | h
      · exact Tb x h
      · exact b3 x h) (s1.trans (grow_sub s3)))
theorem ok_law_numbers (T : Tx K mg base) : FnA P w K mg base 2 T.f_law_numbers T.d_law_numbers [("_law_script" : Str), ("_law_many_here" : Str)] sp_law_numbers :=
  fnA T.F_law_numbers sc_law_numbers len_law_numbers (fun cdv A outer s H E hr => by
    have hu1 := hu_of hr
    have hu64 := hr.units
    exact (ass_cons (as_set 2 sc_law_numbers.nd (ae_lst aa_nil))
    (ass_cons (as_for PassesOwn.never rfl (ai_seq (ae_fz (ae_slice (av 0) ao_none (ao_some ae_int)))) (ag_name 3 sc_law_numbers.nd) (ass_cons (as_if (at_lt (av 3) (ae_pow ae_int ae_int)) (ass_cons (as_expr (ae_extend (av 2) (aa_cons (ae_call (ok_law_mixed T) (hr.mono (by decide)) T.m_law_mixed T.F_law_mixed.kp T.b_law_mixed (aa_cons (av 3) (aa_cons ae_int aa_nil))) aa_nil)))
    (ass_one as_cnt)) ass_nil)
    (ass_cons (as_set 4 sc_law_numbers.nd (av 3))
    (ass_one (as_for PassesOwn.never rfl (ai_range1 T.n_range (aa_cons ae_int aa_nil)) (ag_name 5 sc_law_numbers.nd) (ass_one (as_if (at_gt (av 4) ae_int) (ass_cons (as_expr (ae_append (av 2) (aa_cons (ae_mod (av 4) ae_int) aa_nil)))
    (ass_one (as_set 4 sc_law_numbers.nd (ae_div (av 4) ae_int)))) ass_nil)))))))
    (ass_cons (as_set 2 sc_law_numbers.nd (ae_slice (av 2) ao_none (ao_some (av 1))))
    (ass_one (as_ret (ae_fz (ae_addF (av 2) (ae_call (ok_law_mixed T) (hr.mono (by decide)) T.m_law_mixed T.F_law_mixed.kp T.b_law_mixed (aa_cons (ae_add (ae_callB (cr_sum rfl) abc_sum (aa_cons (ae_fz (ae_slice (av 0) ao_none (ao_some ae_int))) aa_nil) T.n_sum boot_sum) (ae_callB call_len abc_len (aa_cons (av 0) aa_nil) T.n_len boot_len)) (aa_cons (ae_sub (av 1) (ae_callB call_len abc_len (aa_cons (av 2) aa_nil) T.n_len boot_len)) aa_nil))))))))))) spec_law_numbers
def sp_law_head : ASp := fun ds M Q => ∃ w, ∃ h : Head, ∃ g : Nat, ds = [.ref w] ∧ M w = some (wD h g) ∧ Q h.d M
def tk_law_head_1 : RS := (aRet (aFn acTup (aCons (aFz (aLc (aiSeq (aVar 1)) (.nm 2) [2] aYes (aOp aIx (aVar 0) (aVar 2)))) aNil)))
def t_law_head : RS := aSeq (aAsg (aFz (aLst (aCons (aC (.str ("parities" : Str))) (aCons (aC (.str ("size" : Str))) (aCons (aC (.str ("rows" : Str))) (aCons (aC (.str ("width" : Str))) (aCons (aC (.str ("moved" : Str))) (aCons (aC (.str ("spares" : Str))) aNil)))))))) (agName 1)) (tk_law_head_1)
theorem len_law_head : ∀ ds M Q, sp_law_head ds M Q → ds.length = 1 := by
  rintro ds M Q ⟨w, h, g, rfl, _⟩
  rfl
theorem spec_law_head : ∀ ds M Q, sp_law_head ds M Q → t_law_head (retD Q) (startA 3 ds) M := by
  rintro ds M Q ⟨w, h, g, rfl, hw, k⟩
  unfold wD at hw
  decreasing_tactic
  refine lcFk (fun i => [dn h.par, dn h.size, dn h.rows, dn h.width, dn h.moved, dn h.spares].getD i .non) (fun _ _ => rfl) (le_line (by decide)) (fun i d hi M' N hs q => ?_) ?_
  · have hw2 := hs _ _ hw
    have hil := (List.getElem?_eq_some_iff.mp hi).1
    match i, hil with
    | 0, _ | 1, _ | 2, _ | 3, _ | 4, _ | 5, _ =>
      cases hi
      refine ⟨_, rfl, ?_⟩
      ((repeat ((conv => whnf); simp only [lenA_r, itemsA_r, lstA_r, lstC_s, Option.map_some, atI_0, ixN_0, mup_same, mup_mup, true_and, and_true, List.map_cons, List.map_nil, List.length_cons, List.length_map, List.length_nil, List.set_cons_zero, List.set_cons_succ, List.cons_append, List.nil_append, List.getElem?_cons_zero, List.getElem?_cons_succ, hw2])); (conv => whnf))
      exact q
  · decreasing_tactic
    exact retEnd k
theorem ok_law_head (T : Tx K mg base) : FnA P w K mg base 1 T.f_law_head T.d_law_head [("_law_world_here" : Str)] sp_law_head :=
  fnA T.F_law_head sc_law_head len_law_head (fun cdv A outer s H E hr => by
    have hu1 := hu_of hr
    have hu64 := hr.units
    exact (ass_cons (as_set 1 sc_law_head.nd (ae_fz (ae_lst (aa_cons ae_str (aa_cons ae_str (aa_cons ae_str (aa_cons ae_str (aa_cons ae_str (aa_cons ae_str aa_nil)))))))))
    (ass_one (as_ret (ae_callTy call_tuple_of abc_tup (aa_cons (ae_fz (ae_lc (own := [(("_law_word" : Str), 2)]) (tg := (.nm 2)) (by decide) rfl sc_law_head.nd (ai_seq (av 1)) (blkOk_by (own := [(("_law_word" : Str), 2)]) (N := N_law_head) (sc := defScope s_law_head) (by decide +kernel)) (fun _ _ _ _ _ => (pgt_name 2 sc_law_head.nd)) (fun _ _ _ _ _ => ats_nil) (fun _ _ _ _ _ => (ae_ix hu1 (av 0) (av 2))))) aa_nil) T.n_tuple boot_tuple))))) spec_law_head
def sp_law_wide : ASp := fun ds M Q => ∃ w, ∃ h : Head, ∃ g row : Nat, ds = [.ref w, dn row] ∧ M w = some (wD h g) ∧ Q (dn (wideH h row)) M
def t_law_wide : RS := (aRet (aOp aAdd (aOp aIx (aVar 0) (aC (.str ("width" : Str)))) (aFn acInt (aCons (aOp aLt (aVar 1) (aOp aIx (aVar 0) (aC (.str ("moved" : Str))))) aNil))))
theorem len_law_wide : ∀ ds M Q, sp_law_wide ds M Q → ds.length = 2 := by
  rintro ds M Q ⟨w, h, g, row, rfl, _⟩
  rfl
theorem spec_law_wide : ∀ ds M Q, sp_law_wide ds M Q → t_law_wide (retD Q) (startA 2 ds) M := by
  rintro ds M Q ⟨w, h, g, row, rfl, hw, k⟩
  unfold wD at hw
  ((repeat ((conv => whnf); simp only [lenA_r, itemsA_r, lstA_r, lstC_s, Option.map_some, atI_0, ixN_0, mup_same, mup_mup, true_and, and_true, List.map_cons, List.map_nil, List.length_cons, List.length_map, List.length_nil, List.set_cons_zero, List.set_cons_succ, List.cons_append, List.nil_append, List.getElem?_cons_zero, List.getElem?_cons_succ, hw])); (conv => whnf))
  have e : Dv.int ((h.width : Int) + if decide ((row : Int) < (h.moved : Int)) = true then 1 else 0) = dn (wideH h row) := by
    unfold wideH
    by_cases q : row < h.moved
    · rw [if_pos q, if_pos (decide_eq_true (by omega))]; rfl
    · rw [if_neg q, if_neg (by simp; omega)]; rfl
  rw [e]
  exact retEnd k
theorem ok_law_wide (T : Tx K mg base) : FnA P w K mg base 1 T.f_law_wide T.d_law_wide [("_law_world_here" : Str), ("_law_row" : Str)] sp_law_wide :=
  fnA T.F_law_wide sc_law_wide len_law_wide (fun cdv A outer s H E hr => by
    have hu1 := hu_of hr
    have hu64 := hr.units
    exact (ass_one (as_ret (ae_add (ae_ix hu1 (av 0) ae_str) (ae_callTy call_int1 abc_int (aa_cons (ae_lt (av 1) (ae_ix hu1 (av 0) ae_str)) aa_nil) T.n_int boot_int))))) spec_law_wide
def sp_law_store : ASp := fun ds M Q => ∃ w l b, ∃ h : Head, ∃ g : Nat, ∃ fs : List (List Blk), ∃ kl kb, ds = [.ref w, fullD fs, .tup [.ref l, .ref b]] ∧ M w = some (wD h g) ∧ GoneM M l b kl kb ∧ WOk h g ∧ FullOk h fs ∧
  ∀ M', Sub M M' → Q (storeW h g fs kl kb).d M'
def tk_law_store_3 : RS := (aRet (aTup (aCons (aCall sp_law_head (aCons (aVar 0) aNil)) (aCons (aFn acTup (aCons (aFz (aVar 5)) aNil)) (aCons (aTup aNil) aNil)))))
def tk_law_store_2 : RS := aSeq (aFor (aiR1 (aCons (aOp aAdd (aOp aIx (aVar 0) (aC (.str ("width" : Str)))) (aOp aIx (aVar 0) (aC (.str ("grow" : Str))))) aNil)) (agName 6) (aSeq (aAsg (aLst aNil) (agName 7))
    (aSeq (aFor (aiR1 (aCons (aOp aIx (aVar 0) (aC (.str ("rows" : Str)))) aNil)) (agName 8) (aSeq (aAsg (aCall sp_law_wide (aCons (aVar 0) (aCons (aVar 8) aNil))) (agName 9))
    (aSeq (aAsg (aIf (aAnd (aB (aOp aLt (aVar 6) (aVar 9))) (aB (aInT true (aCons (aVar 6) (aCons (aVar 8) aNil)) 4))) (aOp aIx (aOp aIx (aVar 1) (aVar 8)) (aOp aMod (aOp aSub (aVar 6) (aVar 8)) (aVar 9))) (aC .non)) (agName 10))
    (aDrop (aMth "list" amApp (aVar 7) (aCons (aVar 10) aNil))))))
    (aDrop (aMth "list" amApp (aVar 5) (aCons (aIf (aB (aOp aInK (aVar 6) (aVar 3))) (aC .non) (aFn acTup (aCons (aVar 7) aNil))) aNil)))))) (tk_law_store_3)
def tk_law_store_1 : RS := aSeq (aAsg (aLst aNil) (agName 5)) (tk_law_store_2)
def t_law_store : RS := aSeq (aAsg (aVar 2) (agTup 2 (agCons (agName 3) (agCons (agName 4) agNil)))) (tk_law_store_1)
theorem len_law_store : ∀ ds M Q, sp_law_store ds M Q → ds.length = 3 := by
  rintro ds M Q ⟨w, l, b, h, g, fs, kl, kb, rfl, _⟩
  rfl
theorem spec_law_store : ∀ ds M Q, sp_law_store ds M Q → t_law_store (retD Q) (startA 11 ds) M := by
  rintro ds M Q ⟨w, l, b, h, g, fs, kl, kb, rfl, hw0, ⟨hl, hb⟩, wok, fo, k⟩
  have many := wok.many
  have p1 := wok.ok.par1
  have p2 := wok.ok.par2
  have r2 := wok.ok.rows2
  have hw := hw0
  unfold wD at hw
  decreasing_tactic
  intro r hr
  have wr := ne_of_new hw hr
  have s0 : Sub M (mup M r (.lst [])) := Sub.new hr
  have l0 : mup M r (.lst []) r = some (.lst []) := mup_same
  generalize mup M r (.lst []) = M1 at s0 l0 ⊢
  have w1 := s0 _ _ hw
  ((repeat ((conv => whnf); simp only [lenA_r, itemsA_r, lstA_r, lstC_s, Option.map_some, atI_0, ixN_0, mup_same, mup_mup, true_and, and_true, List.map_cons, List.map_nil, List.length_cons, List.length_map, List.length_nil, List.set_cons_zero, List.set_cons_succ, List.cons_append, List.nil_append, List.getElem?_cons_zero, List.getElem?_cons_succ, w1])); (conv => whnf))
  decreasing_tactic
  refine forW_inv (fun i ρ M' => ∃ x6 x7 x8 x9 x10, ρ = [some (.ref w), some (fullD fs), some (.tup [.ref l, .ref b]), some (.ref l), some (.ref b), some (.ref r), x6, x7, x8, x9, x10] ∧ Sub M M' ∧ M' r = some (.lst (((List.range i).map fun i => if lostB kl i then none else some ((List.range h.rows).map fun row => cellW h fs kb i row)).map kD))) ⟨none, none, none, none, none, rfl, s0, l0⟩ (fun _ _ _ _ _ => trivial) ?_ ?_
  · rintro i d ρ M' hi ⟨x6, x7, x8, x9, x10, rfl, sM, hr1⟩
    obtain ⟨hi2, rfl⟩ := rangeA_get hi
    have hi3 : i < h.width + g := by omega
    rw [Int.zero_add]
    decreasing_tactic
    intro u hu
    have ur : r ≠ u := ne_of_new hr1 hu
    have hw2 := sM _ _ hw
    have s1 : Sub M (mup M' u (.lst [])) := sM.trans (Sub.new hu)
    have r1 := look_new (x := .lst []) hr1 hu
    have u1 : mup M' u (.lst []) u = some (.lst []) := mup_same
    have uM := Sub.free sM hu
    generalize mup M' u (.lst []) = M2 at s1 r1 u1 ⊢
    have w2 := s1 _ _ hw
    ((repeat ((conv => whnf); simp only [lenA_r, itemsA_r, lstA_r, lstC_s, Option.map_some, atI_0, ixN_0, mup_same, mup_mup, true_and, and_true, List.map_cons, List.map_nil, List.length_cons, List.length_map, List.length_nil, List.set_cons_zero, List.set_cons_succ, List.cons_append, List.nil_append, List.getElem?_cons_zero, List.getElem?_cons_succ, w2])); (conv => whnf))
    decreasing_tactic
    refine forW_inv (fun j ρ M3 => ∃ x8 x9 x10, ρ = [some (.ref w), some (fullD fs), some (.tup [.ref l, .ref b]), some (.ref l), some (.ref b), some (.ref r), some (.int (i : Int)), some (.ref u), x8, x9, x10] ∧ Sub M M3 ∧ M3 r = some (.lst (((List.range i).map fun i => if lostB kl i then none else some ((List.range h.rows).map fun row => cellW h fs kb i row)).map kD)) ∧ M3 u = some (.lst (((List.range j).map fun row => cellW h fs kb i row).map oD))) ⟨_, _, _, rfl, s1, r1, u1⟩ (fun _ _ _ _ _ => trivial) ?_ ?_
    · rintro j d ρ M3 hj ⟨x8, x9, x10, rfl, sM3, hr3, hu3⟩
      obtain ⟨hj2, rfl⟩ := rangeA_get hj
      have hj3 : j < h.rows := by omega
      have wpos := wok.wide_pos j
      have hb3 := sM3 _ _ hb
      rw [Int.zero_add]
      have fin : ∀ x9 o, o = cellW h fs kb i j → wk (fun ρ M3 => ∃ x8 x9 x10, ρ = [some (.ref w), some (fullD fs), some (.tup [.ref l, .ref b]), some (.ref l), some (.ref b), some (.ref r), some (.int (i : Int)), some (.ref u), x8, x9, x10] ∧ Sub M M3 ∧ M3 r = some (.lst (((List.range i).map fun i => if lostB kl i then none else some ((List.range h.rows).map fun row => cellW h fs kb i row)).map kD)) ∧ M3 u = some (.lst (((List.range (j + 1)).map fun row => cellW h fs kb i row).map oD)))
          [some (.ref w), some (fullD fs), some (.tup [.ref l, .ref b]), some (.ref l), some (.ref b), some (.ref r), some (.int (i : Int)), some (.ref u), some (.int (j : Int)), x9, some (oD o)] (mup M3 u (.lst (((List.range j).map fun row => cellW h fs kb i row).map oD ++ [oD o]))) := fun x9 o ho => by
        refine wk_of ⟨_, _, _, rfl, (fun a c e => by rw [mup_ne (ne_of_new e uM)]; exact sM3 _ _ e), by rw [mup_ne ur]; exact hr3, ?_⟩
        rw [mup_same, List.range_succ, List.map_append, List.map_append, ho]
        rfl
      by_cases q1 : i < wideH h j
      · decreasing_tactic
        refine ⟨w, h, g, j, rfl, sM3 _ _ hw0, ?_⟩
        decreasing_tactic
        ((repeat ((conv => whnf); simp only [lenA_r, itemsA_r, lstA_r, lstC_s, Option.map_some, atI_0, ixN_0, mup_same, mup_mup, true_and, and_true, List.map_cons, List.map_nil, List.length_cons, List.length_map, List.length_nil, List.set_cons_zero, List.set_cons_succ, List.cons_append, List.nil_append, List.getElem?_cons_zero, List.getElem?_cons_succ, hb3])); (conv => whnf))
        by_cases q2 : badB kb i j = true
        · have e2 : (getK kb [.inl (i : Int), .inl (j : Int)]).isSome = true := q2
          rw [e2]
          decreasing_tactic
          ((repeat ((conv => whnf); simp only [lenA_r, itemsA_r, lstA_r, lstC_s, Option.map_some, atI_0, ixN_0, mup_same, mup_mup, true_and, and_true, List.map_cons, List.map_nil, List.length_cons, List.length_map, List.length_nil, List.set_cons_zero, List.set_cons_succ, List.cons_append, List.nil_append, List.getElem?_cons_zero, List.getElem?_cons_succ, hu3])); (conv => whnf))
          exact fin _ none (by unfold cellW; rw [if_neg (fun h => by rw [q2] at h; cases h.2)])
        · have q2 : badB kb i j = false := by simpa using q2
          have e2 : (getK kb [.inl (i : Int), .inl (j : Int)]).isSome = false := q2
          rw [e2]
          have fl : (fs.getD j []).length = wideH h j := fo.width p1 p2 hj3
          have a1 : atI (fs.map fun r => Dv.rol (r.map bD)) (j : Int) = some (.rol ((fs.getD j []).map bD)) := HC.atI_nat (by rw [List.getElem?_map, List.getElem?_eq_getElem (by rw [fo.len]; exact hj3), List.getD_eq_getElem?_getD, List.getElem?_eq_getElem (by rw [fo.len]; exact hj3)]; rfl)
          have pl := plU_lt (i := i) (row := j) (w := wideH h j) (by omega)
          obtain ⟨x, hx⟩ : ∃ x, (fs.getD j [])[plU i j (wideH h j)]? = some x := ⟨_, List.getElem?_eq_getElem (by rw [fl]; exact pl)⟩
          have ex : (fs.getD j []).getD (plU i j (wideH h j)) [] = x := by rw [List.getD_eq_getElem?_getD (l := fs.getD j []), hx]; rfl
          have a2 : atI ((fs.getD j []).map bD) ((plU i j (wideH h j) : Nat) : Int) = some (bD x) := HC.atI_nat (by rw [List.getElem?_map, hx]; rfl)
          unfold fullD
          decreasing_tactic
          ((repeat ((conv => whnf); simp only [lenA_r, itemsA_r, lstA_r, lstC_s, Option.map_some, atI_0, ixN_0, mup_same, mup_mup, true_and, and_true, List.map_cons, List.map_nil, List.length_cons, List.length_map, List.length_nil, List.set_cons_zero, List.set_cons_succ, List.cons_append, List.nil_append, List.getElem?_cons_zero, List.getElem?_cons_succ, a1])); (conv => whnf))
          refine ⟨by omega, ?_⟩
          try (dsimp only)
          rw [plU_eq (by omega)]
          ((repeat ((conv => whnf); simp only [lenA_r, itemsA_r, lstA_r, lstC_s, Option.map_some, atI_0, ixN_0, mup_same, mup_mup, true_and, and_true, List.map_cons, List.map_nil, List.length_cons, List.length_map, List.length_nil, List.set_cons_zero, List.set_cons_succ, List.cons_append, List.nil_append, List.getElem?_cons_zero, List.getElem?_cons_succ, a2])); (conv => whnf))
          decreasing_tactic
          ((repeat ((conv => whnf); simp only [lenA_r, itemsA_r, lstA_r, lstC_s, Option.map_some, atI_0, ixN_0, mup_same, mup_mup, true_and, and_true, List.map_cons, List.map_nil, List.length_cons, List.length_map, List.length_nil, List.set_cons_zero, List.set_cons_succ, List.cons_append, List.nil_append, List.getElem?_cons_zero, List.getElem?_cons_succ, hu3])); (conv => whnf))
          exact fin _ (some x) (by unfold cellW; rw [if_pos ⟨q1, q2⟩, ex])
      · decreasing_tactic
        refine ⟨w, h, g, j, rfl, sM3 _ _ hw0, ?_⟩
        decreasing_tactic
        ((repeat ((conv => whnf); simp only [lenA_r, itemsA_r, lstA_r, lstC_s, Option.map_some, atI_0, ixN_0, mup_same, mup_mup, true_and, and_true, List.map_cons, List.map_nil, List.length_cons, List.length_map, List.length_nil, List.set_cons_zero, List.set_cons_succ, List.cons_append, List.nil_append, List.getElem?_cons_zero, List.getElem?_cons_succ, hu3])); (conv => whnf))
        exact fin _ none (by unfold cellW; rw [if_neg (fun h => q1 h.1)])
    · rintro ρ M3 ⟨x8, x9, x10, rfl, sM3, hr3, hu3⟩
      rw [rangeA_len, Int.toNat_natCast] at hu3
      have hl3 := sM3 _ _ hl
      have rM := hr
      have fin : ∀ x8 x9 x10 o, o = (if lostB kl i then none else some ((List.range h.rows).map fun row => cellW h fs kb i row)) → wk (fun ρ M' => ∃ x6 x7 x8 x9 x10, ρ = [some (.ref w), some (fullD fs), some (.tup [.ref l, .ref b]), some (.ref l), some (.ref b), some (.ref r), x6, x7, x8, x9, x10] ∧ Sub M M' ∧ M' r = some (.lst (((List.range (i + 1)).map fun i => if lostB kl i then none else some ((List.range h.rows).map fun row => cellW h fs kb i row)).map kD)))
          [some (.ref w), some (fullD fs), some (.tup [.ref l, .ref b]), some (.ref l), some (.ref b), some (.ref r), some (.int (i : Int)), some (.ref u), x8, x9, x10] (mup M3 r (.lst (((List.range i).map fun i => if lostB kl i then none else some ((List.range h.rows).map fun row => cellW h fs kb i row)).map kD ++ [kD o]))) := fun x8 x9 x10 o ho => by
        refine wk_of ⟨_, _, _, _, _, rfl, (fun a c e => by rw [mup_ne (ne_of_new e rM)]; exact sM3 _ _ e), ?_⟩
        rw [mup_same, List.range_succ, List.map_append, List.map_append, ho]
        rfl
      decreasing_tactic
      ((repeat ((conv => whnf); simp only [lenA_r, itemsA_r, lstA_r, lstC_s, Option.map_some, atI_0, ixN_0, mup_same, mup_mup, true_and, and_true, List.map_cons, List.map_nil, List.length_cons, List.length_map, List.length_nil, List.set_cons_zero, List.set_cons_succ, List.cons_append, List.nil_append, List.getElem?_cons_zero, List.getElem?_cons_succ, hl3])); (conv => whnf))
      by_cases q : lostB kl i = true
      · have e2 : (getK kl (.inl (i : Int))).isSome = true := q
        rw [e2]
        decreasing_tactic
        ((repeat ((conv => whnf); simp only [lenA_r, itemsA_r, lstA_r, lstC_s, Option.map_some, atI_0, ixN_0, mup_same, mup_mup, true_and, and_true, List.map_cons, List.map_nil, List.length_cons, List.length_map, List.length_nil, List.set_cons_zero, List.set_cons_succ, List.cons_append, List.nil_append, List.getElem?_cons_zero, List.getElem?_cons_succ, hr3])); (conv => whnf))
        exact fin _ _ _ none (by rw [if_pos q])
      · have q' : lostB kl i = false := by simpa using q
        have e2 : (getK kl (.inl (i : Int))).isSome = false := q'
        rw [e2]
        decreasing_tactic
        ((repeat ((conv => whnf); simp only [lenA_r, itemsA_r, lstA_r, lstC_s, Option.map_some, atI_0, ixN_0, mup_same, mup_mup, true_and, and_true, List.map_cons, List.map_nil, List.length_cons, List.length_map, List.length_nil, List.set_cons_zero, List.set_cons_succ, List.cons_append, List.nil_append, List.getElem?_cons_zero, List.getElem?_cons_succ, hu3])); (conv => whnf))
        ((repeat ((conv => whnf); simp only [lenA_r, itemsA_r, lstA_r, lstC_s, Option.map_some, atI_0, ixN_0, mup_same, mup_mup, true_and, and_true, List.map_cons, List.map_nil, List.length_cons, List.length_map, List.length_nil, List.set_cons_zero, List.set_cons_succ, List.cons_append, List.nil_append, List.getElem?_cons_zero, List.getElem?_cons_succ, hr3])); (conv => whnf))
        exact fin _ _ _ (some _) (by rw [if_neg q])
  · rintro ρ M' ⟨x6, x7, x8, x9, x10, rfl, sM, hr1⟩
    rw [rangeA_len] at hr1
    decreasing_tactic
    refine ⟨w, h, g, rfl, sM _ _ hw0, ?_⟩
    decreasing_tactic
    refine ⟨mdel M' r, mdel_same, mdel_sub, ?_⟩
    decreasing_tactic
    exact retEnd (k _ (mdel_of sM hr))
theorem ok_law_store (T : Tx K mg base) : FnA P w K mg base 2 T.f_law_store T.d_law_store [("_law_world_here" : Str), ("_law_fulls_here" : Str), ("_law_gone_here" : Str)] sp_law_store :=
  fnA T.F_law_store sc_law_store len_law_store (fun cdv A outer s H E hr => by
    have hu1 := hu_of hr
    have hu64 := hr.units
    exact (ass_cons (as_asg (av 2) (ag_tup rfl (ags_cons (ag_name 3 sc_law_store.nd) (ags_cons (ag_name 4 sc_law_store.nd) ags_nil))))
    (ass_cons (as_set 5 sc_law_store.nd (ae_lst aa_nil))
    (ass_cons (as_for PassesOwn.never rfl (ai_range1 T.n_range (aa_cons (ae_add (ae_ix hu1 (av 0) ae_str) (ae_ix hu1 (av 0) ae_str)) aa_nil)) (ag_name 6 sc_law_store.nd) (ass_cons (as_set 7 sc_law_store.nd (ae_lst aa_nil))
    (ass_cons (as_for PassesOwn.never rfl (ai_range1 T.n_range (aa_cons (ae_ix hu1 (av 0) ae_str) aa_nil)) (ag_name 8 sc_law_store.nd) (ass_cons (as_set 9 sc_law_store.nd (ae_call (ok_law_wide T) (hr.mono (by decide)) T.m_law_wide T.F_law_wide.kp T.b_law_wide (aa_cons (av 0) (aa_cons (av 8) aa_nil))))
    (ass_cons (as_set 10 sc_law_store.nd (ae_if (AW.pt (aw_and (at_lt (av 6) (av 9)) (aw_and1 (at_notinT hu1 4 (aa_cons (av 6) (aa_cons (av 8) aa_nil)))))) (ae_ix hu1 (ae_ix hu1 (av 1) (av 8)) (ae_mod (ae_sub (av 6) (av 8)) (av 9))) ae_non))
    (ass_one (as_expr (ae_append (av 7) (aa_cons (av 10) aa_nil)))))))
    (ass_one (as_expr (ae_append (av 5) (aa_cons (ae_if (at_inK hu1 (av 6) (av 3)) ae_non (ae_callTy call_tuple_of abc_tup (aa_cons (av 7) aa_nil) T.n_tuple boot_tuple)) aa_nil)))))))
    (ass_one (as_ret (ae_tup (aa_cons (ae_call (ok_law_head T) (hr.mono (by decide)) T.m_law_head T.F_law_head.kp T.b_law_head (aa_cons (av 0) aa_nil)) (aa_cons (ae_callTy call_tuple_of abc_tup (aa_cons (ae_fz (av 5)) aa_nil) T.n_tuple boot_tuple) (aa_cons (ae_tup aa_nil) aa_nil)))))))))) spec_law_store
def sp_law_times : ASp := fun ds M Q => ∃ a b : Nat, ds = [dn a, dn b] ∧ a < 256 ∧ b < 256 ∧ Q (dn (GF.gt a b)) M
def tk_law_times_2 : RS := (aRet (aVar 2))
def tk_law_times_1 : RS := aSeq (aWhile (aB (aOp aGt (aVar 1) (aC (.int 0)))) (aSeq (aIfS (aB (aOp aEq (aOp aMod (aVar 1) (aC (.int 2))) (aC (.int 1)))) (aAsg (aOp aXor (aVar 2) (aVar 0)) (agName 2)) aNext)
    (aSeq (aAsg (aOp aMul (aC (.int 2)) (aVar 0)) (agName 0))
    (aSeq (aIfS (aB (aOp aGt (aVar 0) (aC (.int 255)))) (aAsg (aOp aXor (aVar 0) (aC (.int 285))) (agName 0)) aNext)
    (aAsg (aOp aDiv (aVar 1) (aC (.int 2))) (agName 1)))))) (tk_law_times_2)
def t_law_times : RS := aSeq (aAsg (aC (.int 0)) (agName 2)) (tk_law_times_1)
theorem len_law_times : ∀ ds M Q, sp_law_times ds M Q → ds.length = 2 := by
  rintro ds M Q ⟨a, b, rfl, _⟩
  rfl
theorem spec_law_times : ∀ ds M Q, sp_law_times ds M Q → t_law_times (retD Q) (startA 3 ds) M := by
  rintro ds M Q ⟨a0, b0, rfl, ha0, hb0, k⟩
  (conv => whnf)
  refine ⟨fun n ρ M' => ∃ a b p : Nat, b < 2 ^ n ∧ a < 256 ∧ p ^^^ GF.G n a b = GF.gt a0 b0 ∧ ρ = [some (dn a), some (dn b), some (dn p)] ∧ M' = M, ⟨8, a0, b0, 0, hb0, ha0, Nat.zero_xor _, rfl, rfl⟩, ?_⟩
  rintro n ρ M' ⟨a, b, p, hb, ha, hp, rfl, rfl⟩
  (conv => whnf)
  refine onIf_dec (fun hz => ?_) (fun hz => ?_)
  · cases n with
    | zero => exact absurd hb (by simp; omega)
    | succ n =>
    have hb2 : b / 2 < 2 ^ n := by rw [Nat.pow_succ] at hb; omega
    have hG : p ^^^ ((if b.testBit 0 then a else 0) ^^^ GF.G n (GF.xt a) (b / 2)) = GF.gt a0 b0 := hp
    rw [Nat.testBit_zero] at hG
    have half : (b : Int) / 2 = ((b / 2 : Nat) : Int) := by omega
    have dbl : 2 * (a : Int) = ((a * 2 : Nat) : Int) := by omega
    have ends : ∀ p' : Nat, p' ^^^ GF.G n (GF.xt a) (b / 2) = GF.gt a0 b0 → ∀ D : Ends', (∀ ρ M2, (∃ a b p : Nat, b < 2 ^ n ∧ a < 256 ∧ p ^^^ GF.G n a b = GF.gt a0 b0 ∧ ρ = [some (dn a), some (dn b), some (dn p)] ∧ M2 = M') → D.nx ρ M2) → (aSeq (aAsg (aOp aMul (aC (.int 2)) (aVar 0)) (agName 0))
    (aSeq (aIfS (aB (aOp aGt (aVar 0) (aC (.int 255)))) (aAsg (aOp aXor (aVar 0) (aC (.int 285))) (agName 0)) aNext)
    (aAsg (aOp aDiv (aVar 1) (aC (.int 2))) (agName 1)))) D [some (dn a), some (dn b), some (dn p')] M' := by
      intro p' hp' D hD
      (conv => whnf)
      refine ⟨CMul_l (by omega), ?_⟩
      (dsimp only)
      rw [dbl]
      (conv => whnf)
      refine onIf_dec (fun hg => ?_) (fun hg => ?_)
      · (conv => whnf)
        refine ⟨by omega, ?_⟩
        refine hD _ _ ⟨GF.xt a, b / 2, p', hb2, GF.xt_lt ha, hp', ?_, rfl⟩
        simp only [List.set_cons_zero, List.set_cons_succ]
        rw [xorI (x := ((a * 2 : Nat) : Int)) (y := 285) (a := a * 2) (b := 285) rfl rfl, half, ← xt_big ha (by omega)]
      · (conv => whnf)
        refine ⟨by omega, ?_⟩
        refine hD _ _ ⟨GF.xt a, b / 2, p', hb2, GF.xt_lt ha, hp', ?_, rfl⟩
        simp only [List.set_cons_zero, List.set_cons_succ]
        rw [half, xt_small (a := a) (by omega)]
    (conv => whnf)
    refine ⟨by omega, ?_⟩
    (conv => whnf)
    refine ⟨trivial, trivial, ?_⟩
    refine onIf_dec (fun ho => ?_) (fun ho => ?_)
    · have ho : (b : Int) % 2 = 1 := Dv.int.inj ho
      rw [if_pos (decide_eq_true (by omega)), ← Nat.xor_assoc] at hG
      (conv => whnf)
      (dsimp only)
      rw [xorI (x := (p : Int)) (y := (a : Int)) rfl rfl]
      exact ends (p ^^^ a) hG _ fun ρ M' h => wk_of ⟨n, by omega, h⟩
    · have ho : ¬ (b : Int) % 2 = 1 := fun h => ho (congrArg Dv.int h)
      rw [if_neg (by simp; omega), Nat.zero_xor] at hG
      exact ends p hG _ fun ρ M' h => wk_of ⟨n, by omega, h⟩
  · have : b = 0 := by omega
    subst this
    rw [GF.G_zero, Nat.xor_zero] at hp
    subst hp
    exact retEnd k
theorem ok_law_times (T : Tx K mg base) : FnA P w K mg base 1 T.f_law_times T.d_law_times [("_law_a" : Str), ("_law_b" : Str)] sp_law_times :=
  fnA T.F_law_times sc_law_times len_law_times (fun cdv A outer s H E hr => by
    have hu1 := hu_of hr
    have hu64 := hr.units
    exact (ass_cons (as_set 2 sc_law_times.nd ae_int)
    (ass_cons (as_while PassesOwn.never (at_gt (av 1) ae_int) (ass_cons (as_if (at_eq hu64 (ae_mod (av 1) ae_int) ae_int) (ass_one (as_set 2 sc_law_times.nd (ae_xor (av 2) (av 0)))) ass_nil)
    (ass_cons (as_set 0 sc_law_times.nd (ae_mul ae_int (av 0)))
    (ass_cons (as_if (at_gt (av 0) ae_int) (ass_one (as_set 0 sc_law_times.nd (ae_xor (av 0) ae_int))) ass_nil)
    (ass_one (as_set 1 sc_law_times.nd (ae_div (av 1) ae_int)))))))
    (ass_one (as_ret (av 2)))))) spec_law_times
def sp_law_parities : ASp := fun ds M Q => ∃ d, ∃ as : List Blk, ∃ par size : Nat, ds = [d, dn par, dn size] ∧ (d = .rol (as.map bD) ∨ ∃ a, d = .ref a ∧ M a = some (.lst (as.map bD))) ∧ WfR size as ∧ size ≤ 1000 ∧ as.length ≤ 200 ∧ 1 ≤ par ∧ par ≤ 2 ∧
  Q (.rol ((parB par size as).map bD)) M
theorem zip_xor (xs ys : Blk) : (List.range (min xs.length ys.length)).map (fun i => dn (xs.getD i 0 ^^^ ys.getD i 0)) = (xorB xs ys).map fun n => dn n := by
  refine List.ext_getElem (by simp [xorB]) fun i h1 h2 => ?_
  simp at h1
  have ha : i < List.length xs := by omega
  have hb : i < List.length ys := by omega
  simp [xorB, List.getD, ha, hb]
def tk_law_parities_4 : RS := (aRet (aFz (aSl (aFz (aLst (aCons (aFn acTup (aCons (aVar 3) aNil)) (aCons (aFn acTup (aCons (aVar 4) aNil)) aNil)))) aoN (aoS (aVar 1)))))
def tk_law_parities_3 : RS := aSeq (aFor (aiSeq (aVar 0)) (agName 6) (aSeq (aAsg (aFz (aLc (aiZipX (aCons (aVar 3) (aCons (aVar 6) aNil))) (.tp [(.nm 7), (.nm 8)]) [7, 8] aYes (aOp aXor (aVar 7) (aVar 8)))) (agName 3))
    (aSeq (aAsg (aFz (aLc (aiZipX (aCons (aVar 4) (aCons (aVar 6) aNil))) (.tp [(.nm 7), (.nm 8)]) [7, 8] aYes (aOp aXor (aVar 7) (aCall sp_law_times (aCons (aVar 5) (aCons (aVar 8) aNil)))))) (agName 4))
    (aAsg (aCall sp_law_times (aCons (aVar 5) (aCons (aC (.int 2)) aNil))) (agName 5))))) (tk_law_parities_4)
def tk_law_parities_2 : RS := aSeq (aAsg (aC (.int 1)) (agName 5)) (tk_law_parities_3)
def tk_law_parities_1 : RS := aSeq (aAsg (aFz (aOp aMul (aLst (aCons (aC (.int 0)) aNil)) (aVar 2))) (agName 4)) (tk_law_parities_2)
def t_law_parities : RS := aSeq (aAsg (aFz (aOp aMul (aLst (aCons (aC (.int 0)) aNil)) (aVar 2))) (agName 3)) (tk_law_parities_1)
theorem len_law_parities : ∀ ds M Q, sp_law_parities ds M Q → ds.length = 3 := by
  rintro ds M Q ⟨d, as, par, size, rfl, _⟩
  rfl
theorem spec_law_parities : ∀ ds M Q, sp_law_parities ds M Q → t_law_parities (retD Q) (startA 9 ds) M := by
  rintro ds M Q ⟨d, as, par, size, rfl, hd, wf, z2, al, p1, p2, k⟩
  have hitems : itemsA d M = some (as.map bD) := by
    rcases hd with rfl | ⟨a, rfl, ha⟩
    · rfl
    · exact itemsA_l ha
  have hit : ∀ M', Sub M M' → itemsA d M' = some (as.map bD) := fun M' s => by
    rcases hd with rfl | ⟨a, rfl, ha⟩
    · rfl
    · exact itemsA_l (s _ _ ha)
  have zero : (List.replicate ((size : Int)).toNat [Dv.int 0]).flatten = (zeroB size).map fun n => dn n := by
    rw [Int.toNat_natCast, List.flatten_replicate_singleton, zeroB, List.map_replicate]; rfl
  decreasing_tactic
  intro u hu
  decreasing_tactic
  refine ⟨_, mup_same, by omega, by omega, le_line (by simp; omega), fun v hv => fz_new hv ?_⟩
  rw [zero]
  decreasing_tactic
  intro u2 hu2
  decreasing_tactic
  refine ⟨_, mup_same, by omega, by omega, le_line (by simp; omega), fun v2 hv2 => fz_new hv2 ?_⟩
  rw [zero]
  have sM := (Sub.new (c := .lst [Dv.int 0]) hu).trans (Sub.new (c := .lst [Dv.int 0]) hu2)
  generalize mup (mup M u (.lst [Dv.int 0])) u2 (.lst [Dv.int 0]) = M0 at sM ⊢
  decreasing_tactic
  rw [hit M0 sM]
  (conv => whnf)
  refine forW_inv (fun i ρ M' => ∃ x6 x7 x8, ρ = [some d, some (dn par), some (dn size), some (.rol ((sumB size (as.take i)).map fun n => dn n)), some (.rol ((sumB size ((turnB as).take i)).map fun n => dn n)), some (dn (GF.pw i)), x6, x7, x8] ∧ Sub M M') ⟨none, none, none, rfl, sM⟩ (fun _ ρ M' _ ⟨_, _, _, _, s⟩ => hit M' s) ?_ ?_
  · rintro i dd ρ M' hi ⟨x6, x7, x8, rfl, sM'⟩
    have hil := (List.getElem?_eq_some_iff.mp hi).1
    rw [List.length_map] at hil
    rw [List.getElem?_map] at hi
    obtain ⟨c, hc, rfl⟩ := Option.map_eq_some_iff.mp hi
    have wc := wf c (List.mem_of_getElem? hc)
    have w1 : BlkOk' (sumB size (as.take i)) size := sumB_wf fun b hb => wf b (List.mem_of_mem_take hb)
    have w2 : BlkOk' (sumB size ((turnB as).take i)) size := sumB_wf fun b hb => turnB_wf wf b (List.mem_of_mem_take hb)
    have e1 : as.take (i + 1) = as.take i ++ [c] := by rw [List.take_add_one, hc]; rfl
    have ht : (turnB as)[i]? = some (mulB (GF.pw i) c) := by
      unfold turnB
      rw [List.getElem?_map, List.getElem?_range hil]
      show some (mulB (GF.pw i) (as.getD i [])) = _
      rw [List.getD_eq_getElem?_getD, hc]; rfl
    have e2 : (turnB as).take (i + 1) = (turnB as).take i ++ [mulB (GF.pw i) c] := by rw [List.take_add_one, ht]; rfl
    have s1 : sumB size (as.take i ++ [c]) = xorB (sumB size (as.take i)) c := sumB_snoc
    have s2 : sumB size ((turnB as).take i ++ [mulB (GF.pw i) c]) = xorB (sumB size ((turnB as).take i)) (mulB (GF.pw i) c) := sumB_snoc
    rw [← e1] at s1
    rw [← e2] at s2
    generalize sumB size (as.take i) = A at w1 s1 ⊢
    generalize sumB size ((turnB as).take i) = B at w2 s2 ⊢
    have z1 : (zipD (A.map fun n => dn n) (c.map fun n => dn n)).length = size := by simp [zipD_len, w1.1, wc.1]
    have z3 : (zipD (B.map fun n => dn n) (c.map fun n => dn n)).length = size := by simp [zipD_len, w2.1, wc.1]
    decreasing_tactic
    refine lcF (fun i => dn (A.getD i 0 ^^^ c.getD i 0)) (fun _ => ⟨rfl, rfl⟩) (by rw [z1]; exact le_line (by omega)) (fun i d hd M' N hs q => ?_) ?_
    · obtain ⟨x, y, hx, hy, rfl⟩ := zipD_get' hd
      rw [List.getElem?_map] at hx hy
      obtain ⟨a, ha, rfl⟩ := Option.map_eq_some_iff.mp hx
      obtain ⟨b, hb, rfl⟩ := Option.map_eq_some_iff.mp hy
      rw [List.getD_eq_getElem?_getD, List.getD_eq_getElem?_getD, ha, hb] at q
      refine ⟨_, rfl, ?_⟩
      show N (.int (Builtin.bitXor (a : Int) (b : Int))) M'
      rw [xorI (x := (a : Int)) (y := (b : Int)) rfl rfl]
      exact q
    have r1 := zip_xor A c
    rw [w1.1, wc.1, Nat.min_self] at r1
    rw [z1, r1, ← s1]
    decreasing_tactic
    refine lcF (fun j => dn (B.getD j 0 ^^^ (mulB (GF.pw i) c).getD j 0)) (fun _ => ⟨rfl, rfl⟩) (by rw [z3]; exact le_line (by omega)) (fun j d hd M' N hs q => ?_) ?_
    · obtain ⟨x, y, hx, hy, rfl⟩ := zipD_get' hd
      rw [List.getElem?_map] at hx hy
      obtain ⟨a, ha, rfl⟩ := Option.map_eq_some_iff.mp hx
      obtain ⟨b, hb, rfl⟩ := Option.map_eq_some_iff.mp hy
      have em : (mulB (GF.pw i) c)[j]? = some (GF.gt (GF.pw i) b) := by
        unfold mulB
        rw [List.getElem?_map, hb]; rfl
      rw [List.getD_eq_getElem?_getD, List.getD_eq_getElem?_getD, ha, em] at q
      refine ⟨_, rfl, ?_⟩
      decreasing_tactic
      refine ⟨GF.pw i, b, rfl, GF.gp_lt 2 i, wc.2 b (List.mem_of_getElem? hb), ?_⟩
      show N (.int (Builtin.bitXor (a : Int) ((GF.gt (GF.pw i) b : Nat) : Int))) M'
      rw [xorI (x := (a : Int)) (y := ((GF.gt (GF.pw i) b : Nat) : Int)) rfl rfl]
      exact q
    have r2 := zip_xor B (mulB (GF.pw i) c)
    rw [w2.1, (mulB_wf (GF.gp_lt 2 i) wc).1, Nat.min_self] at r2
    rw [z3, r2, ← s2]
    decreasing_tactic
    refine ⟨GF.pw i, 2, rfl, GF.gp_lt 2 i, by decide, ?_⟩
    have ep : GF.gt (GF.pw i) 2 = GF.pw (i + 1) := rfl
    rw [ep]
    exact wk_of ⟨_, _, _, rfl, sM'⟩
  · rintro ρ M' ⟨x6, x7, x8, rfl, sM'⟩
    rw [List.length_map, List.take_length, show as.length = (turnB as).length by rw [turnB_len], List.take_length]
    decreasing_tactic
    have ec : cutA [Dv.tup ((sumB size as).map fun n => dn n), Dv.tup ((sumB size (turnB as)).map fun n => dn n)] none (some (par : Int)) = (parB par size as).map bD := by
      have : par = 1 ∨ par = 2 := by omega
      rcases this with rfl | rfl <;> rfl
    rw [ec]
    exact ⟨M, sM', k⟩
theorem ok_law_parities (T : Tx K mg base) : FnA P w K mg base 2 T.f_law_parities T.d_law_parities [("_law_data" : Str), ("_law_parities_here" : Str), ("_law_size" : Str)] sp_law_parities :=
  fnA T.F_law_parities sc_law_parities len_law_parities (fun cdv A outer s H E hr => by
    have hu1 := hu_of hr
    have hu64 := hr.units
    exact (ass_cons (as_set 3 sc_law_parities.nd (ae_fz (ae_mul (ae_lst (aa_cons ae_int aa_nil)) (av 2))))
    (ass_cons (as_set 4 sc_law_parities.nd (ae_fz (ae_mul (ae_lst (aa_cons ae_int aa_nil)) (av 2))))
    (ass_cons (as_set 5 sc_law_parities.nd ae_int)
    (ass_cons (as_for PassesOwn.never rfl (ai_seq (av 0)) (ag_name 6 sc_law_parities.nd) (ass_cons (as_fzset rfl (as_setLc 3 (own := [(("_law_one" : Str), 7), (("_law_other" : Str), 8)]) (tg := (.tp [(.nm 7), (.nm 8)])) (by decide) rfl sc_law_parities.nd rfl rfl (sw_true rfl rfl rfl (by decide +kernel)) (ai_zipX T.n_zip (aa_cons (av 3) (aa_cons (av 6) aa_nil))) (blkOk_by (own := [(("_law_one" : Str), 7), (("_law_other" : Str), 8)]) (N := N_law_parities) (sc := defScope s_law_parities) (by decide +kernel)) (fun _ _ _ _ _ => (pgt_tup rfl (pgts_cons (pgt_name 7 sc_law_parities.nd) (pgts_cons (pgt_name 8 sc_law_parities.nd) pgts_nil)))) (fun _ _ _ _ _ => ats_nil) (fun _ _ _ _ _ => (ae_xor (av 7) (av 8)))))
    (ass_cons (as_fzset rfl (as_setLc 4 (own := [(("_law_one" : Str), 7), (("_law_other" : Str), 8)]) (tg := (.tp [(.nm 7), (.nm 8)])) (by decide) rfl sc_law_parities.nd rfl rfl (sw_true rfl rfl rfl (by decide +kernel)) (ai_zipX T.n_zip (aa_cons (av 4) (aa_cons (av 6) aa_nil))) (blkOk_by (own := [(("_law_one" : Str), 7), (("_law_other" : Str), 8)]) (N := N_law_parities) (sc := defScope s_law_parities) (by decide +kernel)) (fun _ _ _ _ _ => (pgt_tup rfl (pgts_cons (pgt_name 7 sc_law_parities.nd) (pgts_cons (pgt_name 8 sc_law_parities.nd) pgts_nil)))) (fun _ _ _ _ _ => ats_nil) (fun _ _ _ _ _ => (ae_xor (av 7) (ae_call (ok_law_times T) (hr.mono (by decide)) T.m_law_times T.F_law_times.kp T.b_law_times (aa_cons (av 5) (aa_cons (av 8) aa_nil)))))))
    (ass_one (as_set 5 sc_law_parities.nd (ae_call (ok_law_times T) (hr.mono (by decide)) T.m_law_times T.F_law_times.kp T.b_law_times (aa_cons (av 5) (aa_cons ae_int aa_nil))))))))
    (ass_one (as_ret (ae_fz (ae_slice (ae_fz (ae_lst (aa_cons (ae_callTy call_tuple_of abc_tup (aa_cons (av 3) aa_nil) T.n_tuple boot_tuple) (aa_cons (ae_callTy call_tuple_of abc_tup (aa_cons (av 4) aa_nil) T.n_tuple boot_tuple) aa_nil)))) ao_none (ao_some (av 1))))))))))) spec_law_parities
def sp_law_fulls : ASp := fun ds M Q => ∃ p q w, ∃ h : Head, ∃ g : Nat, ds = [.ref p, .ref w] ∧ DPot p q M ∧ M w = some (wD h g) ∧ w ≠ p ∧ w ≠ q ∧ WOk h g ∧
  ∀ (fs : List (List Blk)) M', DPot p q M' → But p q M M' → FullOk h fs → Q (fullD fs) M'
def tk_law_fulls_2 : RS := (aRet (aFz (aVar 2)))
def tk_law_fulls_1 : RS := aSeq (aFor (aiR1 (aCons (aOp aIx (aVar 1) (aC (.str ("rows" : Str)))) aNil)) (agName 3) (aSeq (aAsg (aLc (aiR1 (aCons (aOp aSub (aCall sp_law_wide (aCons (aVar 1) (aCons (aVar 3) aNil))) (aOp aIx (aVar 1) (aC (.str ("parities" : Str))))) aNil)) (.nm 5) [5] aYes (aCall sp_law_block (aCons (aVar 0) (aCons (aOp aIx (aVar 1) (aC (.str ("size" : Str)))) aNil)))) (agName 4))
    (aDrop (aMth "list" amApp (aVar 2) (aCons (aFz (aOp aAddF (aVar 4) (aCall sp_law_parities (aCons (aVar 4) (aCons (aOp aIx (aVar 1) (aC (.str ("parities" : Str)))) (aCons (aOp aIx (aVar 1) (aC (.str ("size" : Str)))) aNil)))))) aNil))))) (tk_law_fulls_2)
def t_law_fulls : RS := aSeq (aAsg (aLst aNil) (agName 2)) (tk_law_fulls_1)
theorem len_law_fulls : ∀ ds M Q, sp_law_fulls ds M Q → ds.length = 2 := by
  rintro ds M Q ⟨p, q, w, h, g, rfl, _⟩
  rfl
theorem spec_law_fulls : ∀ ds M Q, sp_law_fulls ds M Q → t_law_fulls (retD Q) (startA 6 ds) M := by
  rintro ds M Q ⟨p, q, w, h, g, rfl, hd, hw, wp, wq, wok, k⟩
  have many := wok.many
  have p1 := wok.ok.par1
  have p2 := wok.ok.par2
  have r2 := wok.ok.rows2
  have s2 := wok.ok.size2
  have hw0 := hw
  unfold wD at hw
  decreasing_tactic
  intro r hr
  have rp := hd.nep hr
  have rq := hd.neq hr
  have wr : w ≠ r := ne_of_new hw hr
  have d1 := hd.put (c := .lst []) rp rq
  have b1 := (But.refl p q M).put (c := .lst []) hr
  have l1 : mup M r (.lst []) r = some (.lst []) := mup_same
  generalize mup M r (.lst []) = M1 at d1 b1 l1 ⊢
  have w1 := b1.at wp wq hw
  ((repeat ((conv => whnf); simp only [lenA_r, itemsA_r, lstA_r, lstC_s, Option.map_some, atI_0, ixN_0, mup_same, mup_mup, true_and, and_true, List.map_cons, List.map_nil, List.length_cons, List.length_map, List.length_nil, List.set_cons_zero, List.set_cons_succ, List.cons_append, List.nil_append, List.getElem?_cons_zero, List.getElem?_cons_succ, w1])); (conv => whnf))
  decreasing_tactic
  refine forW_inv (fun i ρ M' => ∃ x3 x4 x5, ∃ fs : List (List Blk), ρ = [some (.ref p), some (.ref w), some (.ref r), x3, x4, x5] ∧ DPot p q M' ∧ But p q M M' ∧ M' r = some (.lst (fs.map fun r => .rol (r.map bD))) ∧ fs.length = i ∧ ∀ j, j < i → ∃ as : List Blk, fs.getD j [] = as ++ parB h.par h.size as ∧ as.length + h.par = wideH h j ∧ WfR h.size as) ⟨none, none, none, [], rfl, d1, b1, l1, rfl, fun j hj => absurd hj (by omega)⟩ (fun _ _ _ _ _ => trivial) ?_ ?_
  · rintro i d ρ M' hi ⟨x3, x4, x5, fs, rfl, hd, hb, hl, hlen, hf⟩
    obtain ⟨hi2, rfl⟩ := rangeA_get hi
    have hw2 := hb.at wp wq hw0
    have hw3 := hb.at wp wq hw
    have wl := wok.wide_le i
    have wpos := wok.wide_pos i
    decreasing_tactic
    refine ⟨w, h, g, i, by simp [dn], hw2, ?_⟩
    ((repeat ((conv => whnf); simp only [lenA_r, itemsA_r, lstA_r, lstC_s, Option.map_some, atI_0, ixN_0, mup_same, mup_mup, true_and, and_true, List.map_cons, List.map_nil, List.length_cons, List.length_map, List.length_nil, List.set_cons_zero, List.set_cons_succ, List.cons_append, List.nil_append, List.getElem?_cons_zero, List.getElem?_cons_succ, hw3])); (conv => whnf))
    refine ⟨⟨by omega, by omega⟩, fun D hD => ?_⟩
    have Dp := hd.nep hD
    have Dq := hd.neq hD
    have DM := but_free hb Dp Dq hD
    have Dr : r ≠ D := ne_of_new hl hD
    have ek : (wideH h i : Int) - (h.par : Int) = ((wideH h i - h.par : Nat) : Int) := by omega
    rw [ek]
    refine lcW_inv (fun j M2 => ∃ as : List Blk, DPot p q M2 ∧ But p q M M2 ∧ M2 r = some (.lst (fs.map fun r => .rol (r.map bD))) ∧ M2 D = some (.lst (as.map bD)) ∧ as.length = j ∧ WfR h.size as) ⟨[], hd.put Dp Dq, hb.put DM, look_new hl hD, mup_same, rfl, fun o ho => by simp at ho⟩ (fun _ _ _ _ => trivial) ?_ ?_
    · rintro j d M2 hj ⟨as, hd, hb, hl2, hD2, hlen2, has⟩
      obtain ⟨hj, rfl⟩ := rangeA_get hj
      have hw4 := hb.at wp wq hw
      refine ⟨_, rfl, ?_⟩
      ((repeat ((conv => whnf); simp only [lenA_r, itemsA_r, lstA_r, lstC_s, Option.map_some, atI_0, ixN_0, mup_same, mup_mup, true_and, and_true, List.map_cons, List.map_nil, List.length_cons, List.length_map, List.length_nil, List.set_cons_zero, List.set_cons_succ, List.cons_append, List.nil_append, List.getElem?_cons_zero, List.getElem?_cons_succ, hw4])); (conv => whnf))
      refine ⟨p, q, h.size, rfl, hd, by omega, fun blk Mb db bb okb => ?_⟩
      have hD3 := bb.at Dp Dq hD2
      have hl3 := bb.at rp rq hl2
      refine ⟨_, hD3, lt_line (by simp; omega), _, Sub.refl _, as ++ [blk], db.put Dp Dq, (hb.trans bb).put DM, by rw [mup_ne Dr]; exact hl3, ?_, by simp [hlen2], fun k2 hk2 => ?_⟩
      · rw [mup_same]; simp
      · rcases List.mem_append.mp hk2 with h3 | h3
        · exact has k2 h3
        · rw [List.mem_singleton.mp h3]; exact okb
    rintro M3 ⟨as, hd, hb, hl3, hD3, alen, has⟩
    rw [rangeA_len, Int.toNat_natCast] at alen
    have hw5 := hb.at wp wq hw
    decreasing_tactic
    ((repeat ((conv => whnf); simp only [lenA_r, itemsA_r, lstA_r, lstC_s, Option.map_some, atI_0, ixN_0, mup_same, mup_mup, true_and, and_true, List.map_cons, List.map_nil, List.length_cons, List.length_map, List.length_nil, List.set_cons_zero, List.set_cons_succ, List.cons_append, List.nil_append, List.getElem?_cons_zero, List.getElem?_cons_succ, hw5])); (conv => whnf))
    refine ⟨_, as, h.par, h.size, rfl, .inr ⟨D, rfl, hD3⟩, has, by omega, by omega, p1, p2, ?_⟩
    (conv => whnf)
    refine ⟨_, hD3, le_line (by simp only [List.length_map]; rw [parB_len p1 p2]; omega), fun u hu => fz_new hu ?_⟩
    ((repeat ((conv => whnf); simp only [lenA_r, itemsA_r, lstA_r, lstC_s, Option.map_some, atI_0, ixN_0, mup_same, mup_mup, true_and, and_true, List.map_cons, List.map_nil, List.length_cons, List.length_map, List.length_nil, List.set_cons_zero, List.set_cons_succ, List.cons_append, List.nil_append, List.getElem?_cons_zero, List.getElem?_cons_succ, hl3])); (conv => whnf))
    refine ⟨lt_line (by omega), ?_⟩
    rw [← List.map_append]
    refine wk_of ⟨_, _, _, fs ++ [as ++ parB h.par h.size as], rfl, hd.put rp rq, hb.put hr, by rw [mup_same]; simp, by rw [List.length_append, hlen]; rfl, fun j hj => ?_⟩
    by_cases e : j < i
    · have e2 : (fs ++ [as ++ parB h.par h.size as]).getD j [] = fs.getD j [] := by rw [List.getD_eq_getElem?_getD, List.getElem?_append_left (by omega), List.getD_eq_getElem?_getD]
      rw [e2]; exact hf j e
    · have e1 : j = i := by omega
      subst e1
      refine ⟨as, ?_, by omega, has⟩
      rw [List.getD_eq_getElem?_getD, List.getElem?_append_right (by omega), hlen, Nat.sub_self]; rfl
  · rintro ρ M' ⟨x3, x4, x5, fs, rfl, hd, hb, hl, hlen, hf⟩
    rw [rangeA_len, Int.toNat_natCast] at hlen hf
    refine fz_del hl ?_
    have e : Dv.rol (fs.map fun r => Dv.rol (r.map bD)) = fullD fs := rfl
    rw [e]
    exact retEnd (k fs _ (hd.del rp rq) (hb.del hr) ⟨hlen, fun j hj => hf j (by omega)⟩)
theorem ok_law_fulls (T : Tx K mg base) : FnA P w K mg base 3 T.f_law_fulls T.d_law_fulls [("_law_box" : Str), ("_law_world_here" : Str)] sp_law_fulls :=
  fnA T.F_law_fulls sc_law_fulls len_law_fulls (fun cdv A outer s H E hr => by
    have hu1 := hu_of hr
    have hu64 := hr.units
    exact (ass_cons (as_set 2 sc_law_fulls.nd (ae_lst aa_nil))
    (ass_cons (as_for PassesOwn.never rfl (ai_range1 T.n_range (aa_cons (ae_ix hu1 (av 1) ae_str) aa_nil)) (ag_name 3 sc_law_fulls.nd) (ass_cons (as_setLc 4 (own := [(("_law_k" : Str), 5)]) (tg := (.nm 5)) (by decide) rfl sc_law_fulls.nd rfl rfl (sw_true rfl rfl rfl (by decide +kernel)) (ai_range1 T.n_range (aa_cons (ae_sub (ae_call (ok_law_wide T) (hr.mono (by decide)) T.m_law_wide T.F_law_wide.kp T.b_law_wide (aa_cons (av 1) (aa_cons (av 3) aa_nil))) (ae_ix hu1 (av 1) ae_str)) aa_nil)) (blkOk_by (own := [(("_law_k" : Str), 5)]) (N := N_law_fulls) (sc := defScope s_law_fulls) (by decide +kernel)) (fun _ _ _ _ _ => (pgt_name 5 sc_law_fulls.nd)) (fun _ _ _ _ _ => ats_nil) (fun _ _ _ _ _ => (ae_call (ok_law_block T) (hr.mono (by decide)) T.m_law_block T.F_law_block.kp T.b_law_block (aa_cons (av 0) (aa_cons (ae_ix hu1 (av 1) ae_str) aa_nil)))))
    (ass_one (as_expr (ae_append (av 2) (aa_cons (ae_fz (ae_addF (av 4) (ae_call (ok_law_parities T) (hr.mono (by decide)) T.m_law_parities T.F_law_parities.kp T.b_law_parities (aa_cons (av 4) (aa_cons (ae_ix hu1 (av 1) ae_str) (aa_cons (ae_ix hu1 (av 1) ae_str) aa_nil)))))) aa_nil))))))
    (ass_one (as_ret (ae_fz (av 2))))))) spec_law_fulls
def sp_law_many : ASp := fun ds M Q => ∃ p q, ∃ a b : Int, ds = [.ref p, .int a, .int b] ∧ DPot p q M ∧ 0 ≤ a ∧ a < 1000000 ∧ 0 ≤ b ∧ b < 1000000 ∧
  ∀ (v : Nat) M', DPot p q M' → But p q M M' → (v : Int) ≤ max a b → Q (dn v) M'
def tk_law_many_1 : RS := (aRet (aOp aIx (aFz (aLst (aCons (aOp aMod (aOp aDiv (aVar 3) (aC (.int 8))) (aOp aAdd (aVar 1) (aC (.int 1)))) (aCons (aOp aMod (aOp aDiv (aVar 3) (aC (.int 8))) (aOp aAdd (aVar 2) (aC (.int 1)))) aNil)))) (aFn acInt (aCons (aOp aEq (aOp aMod (aVar 3) (aC (.int 8))) (aC (.int 5))) aNil))))
def t_law_many : RS := aSeq (aAsg (aCall sp_law_next (aCons (aVar 0) aNil)) (agName 3)) (tk_law_many_1)
theorem len_law_many : ∀ ds M Q, sp_law_many ds M Q → ds.length = 3 := by
  rintro ds M Q ⟨p, q, a, b, rfl, _⟩
  rfl
theorem spec_law_many : ∀ ds M Q, sp_law_many ds M Q → t_law_many (retD Q) (startA 4 ds) M := by
  rintro ds M Q ⟨p, q, a, b, rfl, hd, a0, a1, b0, b1, k⟩
  decreasing_tactic
  (refine ⟨_, _, rfl, by assumption, fun x Mx dx bx lx => ?_⟩; decreasing_tactic)
  obtain ⟨u, hu⟩ : ∃ u : Nat, (x : Int) / 8 % (a + 1) = (u : Int) := Int.eq_ofNat_of_zero_le (Int.emod_nonneg _ (by omega))
  obtain ⟨v, hv⟩ : ∃ v : Nat, (x : Int) / 8 % (b + 1) = (v : Int) := Int.eq_ofNat_of_zero_le (Int.emod_nonneg _ (by omega))
  have lu : (x : Int) / 8 % (a + 1) < a + 1 := Int.emod_lt_of_pos _ (by omega)
  have lv : (x : Int) / 8 % (b + 1) < b + 1 := Int.emod_lt_of_pos _ (by omega)
  rw [hu] at lu
  rw [hv] at lv
  (dsimp only)
  rw [hu, hv]
  by_cases h : Dv.int ((x : Int) % 8) = Dv.int 5
  · rw [dec_T h]
    have e : atI [Dv.int (u : Int), Dv.int (v : Int)] (if true = true then 1 else 0) = some (dn v) := rfl
    ((repeat ((conv => whnf); simp only [lenA_r, itemsA_r, lstA_r, lstC_s, Option.map_some, atI_0, ixN_0, mup_same, mup_mup, true_and, and_true, List.map_cons, List.map_nil, List.length_cons, List.length_map, List.length_nil, List.set_cons_zero, List.set_cons_succ, List.cons_append, List.nil_append, List.getElem?_cons_zero, List.getElem?_cons_succ, e])); (conv => whnf))
    exact retEnd (k v _ dx bx (by omega))
  · rw [dec_F h]
    have e : atI [Dv.int (u : Int), Dv.int (v : Int)] (if false = true then 1 else 0) = some (dn u) := rfl
    ((repeat ((conv => whnf); simp only [lenA_r, itemsA_r, lstA_r, lstC_s, Option.map_some, atI_0, ixN_0, mup_same, mup_mup, true_and, and_true, List.map_cons, List.map_nil, List.length_cons, List.length_map, List.length_nil, List.set_cons_zero, List.set_cons_succ, List.cons_append, List.nil_append, List.getElem?_cons_zero, List.getElem?_cons_succ, e])); (conv => whnf))
    exact retEnd (k u _ dx bx (by omega))
theorem ok_law_many (T : Tx K mg base) : FnA P w K mg base 2 T.f_law_many T.d_law_many [("_law_box" : Str), ("_law_few" : Str), ("_law_most" : Str)] sp_law_many :=
  fnA T.F_law_many sc_law_many len_law_many (fun cdv A outer s H E hr => by
    have hu1 := hu_of hr
    have hu64 := hr.units
    exact (ass_cons (as_set 3 sc_law_many.nd (ae_call (ok_law_next T) (hr.mono (by decide)) T.m_law_next T.F_law_next.kp T.b_law_next (aa_cons (av 0) aa_nil)))
    (ass_one (as_ret (ae_ix hu1 (ae_fz (ae_lst (aa_cons (ae_mod (ae_div (av 3) ae_int) (ae_add (av 1) ae_int)) (aa_cons (ae_mod (ae_div (av 3) ae_int) (ae_add (av 2) ae_int)) aa_nil)))) (ae_callTy call_int1 abc_int (aa_cons (ae_eq hu64 (ae_mod (av 3) ae_int) ae_int) aa_nil) T.n_int boot_int)))))) spec_law_many
def sp_law_gone : ASp := fun ds M Q => ∃ p q w, ∃ h : Head, ∃ g : Nat, ds = [.ref p, .ref w] ∧ DPot p q M ∧ M w = some (wD h g) ∧ w ≠ p ∧ w ≠ q ∧ WOk h g ∧
  ∀ l b kl kb M', DPot p q M' → But p q M (mdel (mdel M' l) b) → M l = none → M b = none → l ≠ p → l ≠ q → b ≠ p → b ≠ q → GoneM M' l b kl kb → Q (.tup [.ref l, .ref b]) M'
theorem put_len {κ : Type} [DecidableEq κ] (kvs : List (κ × Dv)) (k : κ) (v : Dv) : (putA kvs k v).length ≤ kvs.length + 1 := by
  unfold putA
  split <;> simp
def tk_law_gone_5 : RS := (aRet (aTup (aCons (aVar 3) (aCons (aVar 5) aNil))))
def tk_law_gone_4 : RS := aSeq (aFor (aiR1 (aCons (aCall sp_law_many (aCons (aVar 0) (aCons (aC (.int 2)) (aCons (aC (.int 20)) aNil)))) aNil)) (agName 4) (aAsg (aC (.bl true)) (agSubT (aVar 5) (aCons (aOp aMod (aCall sp_law_next (aCons (aVar 0) aNil)) (aVar 2)) (aCons (aOp aMod (aCall sp_law_next (aCons (aVar 0) aNil)) (aOp aIx (aVar 1) (aC (.str ("rows" : Str))))) aNil))))) (tk_law_gone_5)
def tk_law_gone_3 : RS := aSeq (aAsg aDnewT (agName 5)) (tk_law_gone_4)
def tk_law_gone_2 : RS := aSeq (aFor (aiR1 (aCons (aOp aIx (aFz (aLst (aCons (aC (.int 0)) (aCons (aC (.int 1)) (aCons (aC (.int 1)) (aCons (aC (.int 2)) (aCons (aC (.int 0)) (aCons (aC (.int 3)) aNil)))))))) (aOp aMod (aCall sp_law_next (aCons (aVar 0) aNil)) (aC (.int 6)))) aNil)) (agName 4) (aAsg (aC (.bl true)) (agSub (aVar 3) (aOp aMod (aCall sp_law_next (aCons (aVar 0) aNil)) (aVar 2)) asSet))) (tk_law_gone_3)
def tk_law_gone_1 : RS := aSeq (aAsg aDnew (agName 3)) (tk_law_gone_2)
def t_law_gone : RS := aSeq (aAsg (aOp aAdd (aOp aIx (aVar 1) (aC (.str ("width" : Str)))) (aOp aIx (aVar 1) (aC (.str ("grow" : Str))))) (agName 2)) (tk_law_gone_1)
theorem len_law_gone : ∀ ds M Q, sp_law_gone ds M Q → ds.length = 2 := by
  rintro ds M Q ⟨p, q, w, h, g, rfl, _⟩
  rfl
theorem spec_law_gone : ∀ ds M Q, sp_law_gone ds M Q → t_law_gone (retD Q) (startA 6 ds) M := by
  rintro ds M Q ⟨p, q, w, h, g, rfl, hd, hw, wp, wq, wok, k⟩
  have many := wok.many
  have w1 := wok.ok.width1
  have p1 := wok.ok.par1
  have r1 := wok.ok.rows1
  have r2 := wok.ok.rows2
  have hw0 := hw
  unfold wD at hw
  ((repeat ((conv => whnf); simp only [lenA_r, itemsA_r, lstA_r, lstC_s, Option.map_some, atI_0, ixN_0, mup_same, mup_mup, true_and, and_true, List.map_cons, List.map_nil, List.length_cons, List.length_map, List.length_nil, List.set_cons_zero, List.set_cons_succ, List.cons_append, List.nil_append, List.getElem?_cons_zero, List.getElem?_cons_succ, hw])); (conv => whnf))
  intro l hl
  have lp := hd.nep hl
  have lq := hd.neq hl
  have lw : w ≠ l := ne_of_new hw hl
  have d1 := hd.put (c := .dic []) lp lq
  have b1 := (But.refl p q M).put (c := .dic []) hl
  have l1 : mup M l (.dic []) l = some (.dic []) := mup_same
  generalize mup M l (.dic []) = M1 at d1 b1 l1 ⊢
  decreasing_tactic
  (refine ⟨_, _, rfl, by assumption, fun x Mx dx bx lx => ?_⟩; decreasing_tactic)
  obtain ⟨j, ej, j0, j3⟩ : ∃ j : Nat, atI [Dv.int 0, Dv.int 1, Dv.int 1, Dv.int 2, Dv.int 0, Dv.int 3] ((x : Int) % 6) = some (.int (j : Int)) ∧ 0 ≤ j ∧ j ≤ 3 := by
    have : (x : Int) % 6 = 0 ∨ (x : Int) % 6 = 1 ∨ (x : Int) % 6 = 2 ∨ (x : Int) % 6 = 3 ∨ (x : Int) % 6 = 4 ∨ (x : Int) % 6 = 5 := by omega
    rcases this with e | e | e | e | e | e <;> rw [e]
    · exact ⟨0, rfl, by decide, by decide⟩
    · exact ⟨1, rfl, by decide, by decide⟩
    · exact ⟨1, rfl, by decide, by decide⟩
    · exact ⟨2, rfl, by decide, by decide⟩
    · exact ⟨0, rfl, by decide, by decide⟩
    · exact ⟨3, rfl, by decide, by decide⟩
  ((repeat ((conv => whnf); simp only [lenA_r, itemsA_r, lstA_r, lstC_s, Option.map_some, atI_0, ixN_0, mup_same, mup_mup, true_and, and_true, List.map_cons, List.map_nil, List.length_cons, List.length_map, List.length_nil, List.set_cons_zero, List.set_cons_succ, List.cons_append, List.nil_append, List.getElem?_cons_zero, List.getElem?_cons_succ, ej])); (conv => whnf))
  decreasing_tactic
  have wx := bx.at wp wq (b1.at wp wq hw)
  refine forW_inv (fun i ρ M' => ∃ x4 x5, ∃ kl : List (Key × Dv), ρ = [some (.ref p), some (.ref w), some (.int ((h.width : Int) + (g : Int))), some (.ref l), x4, x5] ∧ DPot p q M' ∧ But p q M M' ∧ M' l = some (.dic kl) ∧ kl.length ≤ i) ⟨none, none, [], rfl, dx, b1.trans bx, bx.at lp lq l1, by simp⟩ (fun _ _ _ _ _ => trivial) ?_ ?_
  · rintro i d ρ M' hi ⟨x4, x5, kl, rfl, hd, hb, hl1, hlen⟩
    obtain ⟨hi2, rfl⟩ := rangeA_get hi
    have hi3 : i < 3 := by omega
    decreasing_tactic
    (refine ⟨_, _, rfl, by assumption, fun v Mv dv bv lv => ?_⟩; decreasing_tactic)
    have hl2 := bv.at lp lq hl1
    ((repeat ((conv => whnf); simp only [lenA_r, itemsA_r, lstA_r, lstC_s, Option.map_some, atI_0, ixN_0, mup_same, mup_mup, true_and, and_true, List.map_cons, List.map_nil, List.length_cons, List.length_map, List.length_nil, List.set_cons_zero, List.set_cons_succ, List.cons_append, List.nil_append, List.getElem?_cons_zero, List.getElem?_cons_succ, hl2])); (conv => whnf))
    refine ⟨lt_line (by omega), ?_⟩
    exact wk_of ⟨_, _, _, rfl, dv.put lp lq, (hb.trans bv).put hl, mup_same, Nat.le_trans (put_len _ _ _) (by omega)⟩
  · rintro ρ M' ⟨x4, x5, kl, rfl, hd, hb, hl1, hlen⟩
    rw [rangeA_len, Int.toNat_natCast] at hlen
    decreasing_tactic
    intro b hb0
    have bp := hd.nep hb0
    have bq := hd.neq hb0
    have bl : l ≠ b := ne_of_new hl1 hb0
    have bM := but_free hb bp bq hb0
    have d3 := hd.put (c := .dit []) bp bq
    have b3 := hb.put (c := .dit []) bM
    have l3 := look_new (x := .dit []) hl1 hb0
    have t3 : mup M' b (.dit []) b = some (.dit []) := mup_same
    generalize mup M' b (.dit []) = M3 at d3 b3 l3 t3 ⊢
    decreasing_tactic
    (refine ⟨_, _, _, _, rfl, by assumption, (by infer_instance), (by infer_instance), (by infer_instance), (by infer_instance), fun N MN dN bN lN => ?_⟩; decreasing_tactic)
    refine forW_inv (fun i ρ M' => ∃ x4, ∃ kb : List (List Key × Dv), ρ = [some (.ref p), some (.ref w), some (.int ((h.width : Int) + (g : Int))), some (.ref l), x4, some (.ref b)] ∧ DPot p q M' ∧ But p q M M' ∧ M' l = some (.dic kl) ∧ M' b = some (.dit kb) ∧ kb.length ≤ i) ⟨_, [], rfl, dN, b3.trans bN, bN.at lp lq l3, bN.at bp bq t3, by simp⟩ (fun _ _ _ _ _ => trivial) ?_ ?_
    · rintro i d ρ M5 hi ⟨x4, kb, rfl, hd, hb, hl1, hb1, hlen⟩
      obtain ⟨hi2, rfl⟩ := rangeA_get hi
      have hi3 : i < 21 := by omega
      decreasing_tactic
      (refine ⟨_, _, rfl, by assumption, fun v Mv dv bv lv => ?_⟩; decreasing_tactic)
      (refine ⟨_, _, rfl, by assumption, fun u Mu du bu lu => ?_⟩; decreasing_tactic)
      have hw5 := bu.at wp wq (bv.at wp wq (hb.at wp wq hw))
      have hl5 := bu.at lp lq (bv.at lp lq hl1)
      have hb5 := bu.at bp bq (bv.at bp bq hb1)
      ((repeat ((conv => whnf); simp only [lenA_r, itemsA_r, lstA_r, lstC_s, Option.map_some, atI_0, ixN_0, mup_same, mup_mup, true_and, and_true, List.map_cons, List.map_nil, List.length_cons, List.length_map, List.length_nil, List.set_cons_zero, List.set_cons_succ, List.cons_append, List.nil_append, List.getElem?_cons_zero, List.getElem?_cons_succ, hw5])); (conv => whnf))
      refine ⟨by omega, ?_⟩
      ((repeat ((conv => whnf); simp only [lenA_r, itemsA_r, lstA_r, lstC_s, Option.map_some, atI_0, ixN_0, mup_same, mup_mup, true_and, and_true, List.map_cons, List.map_nil, List.length_cons, List.length_map, List.length_nil, List.set_cons_zero, List.set_cons_succ, List.cons_append, List.nil_append, List.getElem?_cons_zero, List.getElem?_cons_succ, hb5])); (conv => whnf))
      refine ⟨by decide, ?_⟩
      (conv => whnf)
      refine ⟨lt_line (by omega), ?_⟩
      exact wk_of ⟨_, _, rfl, du.put bp bq, (hb.trans (bv.trans bu)).put bM, by rw [mup_ne bl]; exact hl5, mup_same, Nat.le_trans (put_len _ _ _) (by omega)⟩
    · rintro ρ M5 ⟨x4, kb, rfl, hd, hb, hl1, hb1, hlen⟩
      decreasing_tactic
      exact retEnd (k l b kl kb _ hd ((hb.del hl).del bM) hl bM lp lq bp bq ⟨hl1, hb1⟩)
theorem ok_law_gone (T : Tx K mg base) : FnA P w K mg base 3 T.f_law_gone T.d_law_gone [("_law_box" : Str), ("_law_world_here" : Str)] sp_law_gone :=
  fnA T.F_law_gone sc_law_gone len_law_gone (fun cdv A outer s H E hr => by
    have hu1 := hu_of hr
    have hu64 := hr.units
    exact (ass_cons (as_set 2 sc_law_gone.nd (ae_add (ae_ix hu1 (av 1) ae_str) (ae_ix hu1 (av 1) ae_str)))
    (ass_cons (as_set 3 sc_law_gone.nd ae_dnew)
    (ass_cons (as_for PassesOwn.never rfl (ai_range1 T.n_range (aa_cons (ae_ix hu1 (ae_fz (ae_lst (aa_cons ae_int (aa_cons ae_int (aa_cons ae_int (aa_cons ae_int (aa_cons ae_int (aa_cons ae_int aa_nil)))))))) (ae_mod (ae_call (ok_law_next T) (hr.mono (by decide)) T.m_law_next T.F_law_next.kp T.b_law_next (aa_cons (av 0) aa_nil)) ae_int)) aa_nil)) (ag_name 4 sc_law_gone.nd) (ass_one (as_asg ae_bl (ag_sub hu1 (av 3) (ae_mod (ae_call (ok_law_next T) (hr.mono (by decide)) T.m_law_next T.F_law_next.kp T.b_law_next (aa_cons (av 0) aa_nil)) (av 2))))))
    (ass_cons (as_set 5 sc_law_gone.nd ae_dnewT)
    (ass_cons (as_for PassesOwn.never rfl (ai_range1 T.n_range (aa_cons (ae_call (ok_law_many T) (hr.mono (by decide)) T.m_law_many T.F_law_many.kp T.b_law_many (aa_cons (av 0) (aa_cons ae_int (aa_cons ae_int aa_nil)))) aa_nil)) (ag_name 4 sc_law_gone.nd) (ass_one (as_asg ae_bl (ag_subT hu1 (av 5) (aa_cons (ae_mod (ae_call (ok_law_next T) (hr.mono (by decide)) T.m_law_next T.F_law_next.kp T.b_law_next (aa_cons (av 0) aa_nil)) (av 2)) (aa_cons (ae_mod (ae_call (ok_law_next T) (hr.mono (by decide)) T.m_law_next T.F_law_next.kp T.b_law_next (aa_cons (av 0) aa_nil)) (ae_ix hu1 (av 1) ae_str)) aa_nil))))))
    (ass_one (as_ret (ae_tup (aa_cons (av 3) (aa_cons (av 5) aa_nil))))))))))) spec_law_gone
def sp_law_world : ASp := fun ds M Q => ∃ p q, ds = [.ref p] ∧ DPot p q M ∧
  ∀ (w : Addr) (h : Head) (g : Nat) M', DPot p q M' → But p q M (mdel M' w) → M w = none → w ≠ p → w ≠ q → M' w = some (wD h g) → WOk h g → Q (.ref w) M'
def tk_law_world_7 : RS := (aRet (aVar 3))
def tk_law_world_6 : RS := aSeq (aAsg (aCall sp_law_many (aCons (aVar 0) (aCons (aC (.int 2)) (aCons (aC (.int 9)) aNil)))) (agSub (aVar 3) (aC (.str ("spares" : Str))) asSet)) (tk_law_world_7)
def tk_law_world_5 : RS := aSeq (aAsg (aOp aMul (aVar 1) (aOp aMod (aCall sp_law_next (aCons (aVar 0) aNil)) (aOp aIx (aVar 3) (aC (.str ("rows" : Str)))))) (agSub (aVar 3) (aC (.str ("moved" : Str))) asSet)) (tk_law_world_6)
def tk_law_world_4 : RS := aSeq (aAsg (aFn acMin2 (aCons (aOp aAdd (aC (.int 1)) (aCall sp_law_many (aCons (aVar 0) (aCons (aC (.int 4)) (aCons (aC (.int 23)) aNil))))) (aCons (aOp aDiv (aC (.int 480)) (aOp aMul (aOp aIx (aVar 3) (aC (.str ("size" : Str)))) (aOp aAdd (aOp aIx (aVar 3) (aC (.str ("width" : Str)))) (aVar 1)))) aNil))) (agSub (aVar 3) (aC (.str ("rows" : Str))) asSet)) (tk_law_world_5)
def tk_law_world_3 : RS := aSeq (aAsg (aOp aAdd (aOp aAdd (aVar 2) (aC (.int 1))) (aCall sp_law_many (aCons (aVar 0) (aCons (aC (.int 3)) (aCons (aOp aSub (aOp aSub (aC (.int 9)) (aVar 2)) (aVar 1)) aNil))))) (agSub (aVar 3) (aC (.str ("width" : Str))) asSet)) (tk_law_world_4)
def tk_law_world_2 : RS := aSeq (aAsg (aDisp (((aC (.str ("parities" : Str))), (aVar 2)) :: (((aC (.str ("size" : Str))), (aOp aAdd (aC (.int 1)) (aCall sp_law_many (aCons (aVar 0) (aCons (aC (.int 3)) (aCons (aC (.int 15)) aNil)))))) :: (((aC (.str ("grow" : Str))), (aVar 1)) :: [])))) (agName 3)) (tk_law_world_3)
def tk_law_world_1 : RS := aSeq (aAsg (aOp aAdd (aC (.int 1)) (aOp aMod (aCall sp_law_next (aCons (aVar 0) aNil)) (aC (.int 2)))) (agName 2)) (tk_law_world_2)
def t_law_world : RS := aSeq (aAsg (aFn acInt (aCons (aOp aEq (aOp aMod (aCall sp_law_next (aCons (aVar 0) aNil)) (aC (.int 3))) (aC (.int 0))) aNil)) (agName 1)) (tk_law_world_1)
theorem len_law_world : ∀ ds M Q, sp_law_world ds M Q → ds.length = 1 := by
  rintro ds M Q ⟨p, q, rfl, _⟩
  rfl
open Classical in
theorem spec_law_world : ∀ ds M Q, sp_law_world ds M Q → t_law_world (retD Q) (startA 4 ds) M := by
  rintro ds M Q ⟨p, q, rfl, hd, k⟩
  decreasing_tactic
  (refine ⟨_, _, rfl, by assumption, fun x Mx dx bx lx => ?_⟩; decreasing_tactic)
  obtain ⟨g, hg, g1⟩ : ∃ g : Nat, (if decide (Dv.int ((x : Int) % 3) = Dv.int 0) = true then (1 : Int) else 0) = (g : Int) ∧ g ≤ 1 := by
    split
    · exact ⟨1, rfl, by omega⟩
    · exact ⟨0, rfl, by omega⟩
  (dsimp only)
  rw [hg]
  (refine ⟨_, _, rfl, by assumption, fun z Mz dz bz lz => ?_⟩; decreasing_tactic)
  have bM := bx.trans bz
  obtain ⟨par, hp, p1, p2⟩ : ∃ par : Nat, (1 : Int) + (z : Int) % 2 = (par : Int) ∧ 1 ≤ par ∧ par ≤ 2 := ⟨1 + z % 2, by omega, by omega, by omega⟩
  (dsimp only)
  rw [hp]
  decreasing_tactic
  intro w hw
  have wp := dz.nep hw
  have wq := dz.neq hw
  have dw := dz.put (c := .dic []) wp wq
  have w0 : mup Mz w (.dic []) w = some (.dic []) := mup_same
  have bw := ((But.refl p q Mz).put (c := .dic []) hw)
  generalize mup Mz w (.dic []) = Mw at dw w0 bw ⊢
  decreasing_tactic
  (refine ⟨_, _, _, _, rfl, by assumption, (by infer_instance), (by infer_instance), (by infer_instance), (by infer_instance), fun s Ms ds bs ls => ?_⟩; decreasing_tactic)
  refine ⟨bs.at wp wq w0, ?_⟩
  refine ⟨show 3 ≤ 15 by decide, ?_⟩
  change tk_law_world_3 (retD Q) [some (.ref p), some (.int (g : Int)), some (.int (par : Int)), some (.ref w)] (mup Ms w (.dic [(kS "parities", .int (par : Int)), (kS "size", .int (1 + (s : Int))), (kS "grow", .int (g : Int))]))
  have d1 := ds.put (c := .dic [(kS "parities", .int (par : Int)), (kS "size", .int (1 + (s : Int))), (kS "grow", .int (g : Int))]) wp wq
  have w1 : mup Ms w (.dic [(kS "parities", .int (par : Int)), (kS "size", .int (1 + (s : Int))), (kS "grow", .int (g : Int))]) w = _ := mup_same
  have wM := but_free bM wp wq hw
  have b1 : But p q M (mdel (mup Ms w (.dic [(kS "parities", .int (par : Int)), (kS "size", .int (1 + (s : Int))), (kS "grow", .int (g : Int))])) w) := by
    rw [mdel_put]
    exact (bM.trans (bw.trans bs)).del wM
  generalize mup Ms w (.dic [(kS "parities", .int (par : Int)), (kS "size", .int (1 + (s : Int))), (kS "grow", .int (g : Int))]) = M1 at d1 w1 b1 ⊢
  decreasing_tactic
  (refine ⟨_, _, _, _, rfl, by assumption, (by infer_instance), (by infer_instance), (by infer_instance), (by infer_instance), fun t Mt dt bt lt => ?_⟩; decreasing_tactic)
  ((repeat ((conv => whnf); simp only [lenA_r, itemsA_r, lstA_r, lstC_s, Option.map_some, atI_0, ixN_0, mup_same, mup_mup, true_and, and_true, List.map_cons, List.map_nil, List.length_cons, List.length_map, List.length_nil, List.set_cons_zero, List.set_cons_succ, List.cons_append, List.nil_append, List.getElem?_cons_zero, List.getElem?_cons_succ, bt.at wp wq w1])); (conv => whnf))
  refine ⟨by decide, ?_⟩
  obtain ⟨wd, hwd⟩ : ∃ wd : Nat, (par : Int) + 1 + (t : Int) = (wd : Int) := ⟨par + 1 + t, by omega⟩
  have wd1 : par + 1 ≤ wd := by omega
  have wd2 : wd + g ≤ 10 := by omega
  rw [hwd]
  change tk_law_world_4 (retD Q) [some (.ref p), some (.int (g : Int)), some (.int (par : Int)), some (.ref w)] (mup Mt w (.dic [(kS "parities", .int (par : Int)), (kS "size", .int (1 + (s : Int))), (kS "grow", .int (g : Int)), (kS "width", .int (wd : Int))]))
  have d2 := dt.put (c := .dic [(kS "parities", .int (par : Int)), (kS "size", .int (1 + (s : Int))), (kS "grow", .int (g : Int)), (kS "width", .int (wd : Int))]) wp wq
  have w2 : mup Mt w (.dic [(kS "parities", .int (par : Int)), (kS "size", .int (1 + (s : Int))), (kS "grow", .int (g : Int)), (kS "width", .int (wd : Int))]) w = _ := mup_same
  have b2 : But p q M (mdel (mup Mt w (.dic [(kS "parities", .int (par : Int)), (kS "size", .int (1 + (s : Int))), (kS "grow", .int (g : Int)), (kS "width", .int (wd : Int))])) w) := by
    rw [mdel_put]
    exact b1.trans bt.mdel2
  generalize mup Mt w (.dic [(kS "parities", .int (par : Int)), (kS "size", .int (1 + (s : Int))), (kS "grow", .int (g : Int)), (kS "width", .int (wd : Int))]) = M2 at d2 w2 b2 ⊢
  decreasing_tactic
  (refine ⟨_, _, _, _, rfl, by assumption, (by infer_instance), (by infer_instance), (by infer_instance), (by infer_instance), fun r Mr dr br lr => ?_⟩; decreasing_tactic)
  have w3 := br.at wp wq w2
  have pos : 1 ≤ (1 + (s : Int)) * ((wd : Int) + (g : Int)) := by
    have := Int.mul_le_mul (show (1 : Int) ≤ 1 + (s : Int) by omega) (show (1 : Int) ≤ (wd : Int) + (g : Int) by omega) (by omega) (by omega)
    simpa using this
  have up : (1 + (s : Int)) * ((wd : Int) + (g : Int)) ≤ 160 := by
    have := Int.mul_le_mul (show 1 + (s : Int) ≤ 16 by omega) (show (wd : Int) + (g : Int) ≤ 10 by omega) (by omega) (by omega)
    simpa using this
  ((repeat ((conv => whnf); simp only [lenA_r, itemsA_r, lstA_r, lstC_s, Option.map_some, atI_0, ixN_0, mup_same, mup_mup, true_and, and_true, List.map_cons, List.map_nil, List.length_cons, List.length_map, List.length_nil, List.set_cons_zero, List.set_cons_succ, List.cons_append, List.nil_append, List.getElem?_cons_zero, List.getElem?_cons_succ, w3])); (conv => whnf))
  refine ⟨CMul_l (by omega), ?_⟩
  (conv => whnf)
  refine ⟨⟨by omega, by omega⟩, ?_⟩
  obtain ⟨pr, hpr⟩ : ∃ pr : Int, (1 + (s : Int)) * ((wd : Int) + (g : Int)) = pr := ⟨_, rfl⟩
  rw [hpr] at pos up
  (dsimp only)
  rw [hpr]
  have q1 : 3 ≤ (480 : Int) / pr := by
    rw [Int.le_ediv_iff_mul_le (by omega)]
    omega
  have q2 : (480 : Int) / pr * pr ≤ 480 := Int.ediv_mul_le _ (by omega)
  generalize (480 : Int) / pr = qq at q1 q2 ⊢
  (conv => whnf)
  obtain ⟨rows, er, r1, r2, r3⟩ : ∃ rows : Nat, (if qq < 1 + (r : Int) then qq else 1 + (r : Int)) = (rows : Int) ∧ 1 ≤ rows ∧ rows ≤ 24 ∧ (rows : Int) ≤ qq := by
    split
    · exact ⟨qq.toNat, by omega, by omega, by omega, by omega⟩
    · exact ⟨1 + r, by omega, by omega, by omega, by omega⟩
  ((repeat ((conv => whnf); simp only [lenA_r, itemsA_r, lstA_r, lstC_s, Option.map_some, atI_0, ixN_0, mup_same, mup_mup, true_and, and_true, List.map_cons, List.map_nil, List.length_cons, List.length_map, List.length_nil, List.set_cons_zero, List.set_cons_succ, List.cons_append, List.nil_append, List.getElem?_cons_zero, List.getElem?_cons_succ, w3])); (conv => whnf))
  refine ⟨by decide, ?_⟩
  rw [er]
  change tk_law_world_5 (retD Q) [some (.ref p), some (.int (g : Int)), some (.int (par : Int)), some (.ref w)] (mup Mr w (.dic [(kS "parities", .int (par : Int)), (kS "size", .int (1 + (s : Int))), (kS "grow", .int (g : Int)), (kS "width", .int (wd : Int)), (kS "rows", .int (rows : Int))]))
  have d3 := dr.put (c := .dic [(kS "parities", .int (par : Int)), (kS "size", .int (1 + (s : Int))), (kS "grow", .int (g : Int)), (kS "width", .int (wd : Int)), (kS "rows", .int (rows : Int))]) wp wq
  have w4 : mup Mr w (.dic [(kS "parities", .int (par : Int)), (kS "size", .int (1 + (s : Int))), (kS "grow", .int (g : Int)), (kS "width", .int (wd : Int)), (kS "rows", .int (rows : Int))]) w = _ := mup_same
  have b3 : But p q M (mdel (mup Mr w (.dic [(kS "parities", .int (par : Int)), (kS "size", .int (1 + (s : Int))), (kS "grow", .int (g : Int)), (kS "width", .int (wd : Int)), (kS "rows", .int (rows : Int))])) w) := by
    rw [mdel_put]
    exact b2.trans br.mdel2
  generalize mup Mr w (.dic [(kS "parities", .int (par : Int)), (kS "size", .int (1 + (s : Int))), (kS "grow", .int (g : Int)), (kS "width", .int (wd : Int)), (kS "rows", .int (rows : Int))]) = M3 at d3 w4 b3 ⊢
  decreasing_tactic
  (refine ⟨_, _, rfl, by assumption, fun v Mv dv bv lv => ?_⟩; decreasing_tactic)
  have w5 := bv.at wp wq w4
  ((repeat ((conv => whnf); simp only [lenA_r, itemsA_r, lstA_r, lstC_s, Option.map_some, atI_0, ixN_0, mup_same, mup_mup, true_and, and_true, List.map_cons, List.map_nil, List.length_cons, List.length_map, List.length_nil, List.set_cons_zero, List.set_cons_succ, List.cons_append, List.nil_append, List.getElem?_cons_zero, List.getElem?_cons_succ, w5])); (conv => whnf))
  refine ⟨by omega, ?_⟩
  obtain ⟨mv0, emv0⟩ : ∃ mv : Nat, (v : Int) % (rows : Int) = (mv : Int) := Int.eq_ofNat_of_zero_le (Int.emod_nonneg _ (by omega))
  have lmv : (v : Int) % (rows : Int) < rows := Int.emod_lt_of_pos _ (by omega)
  rw [emv0] at lmv
  try (dsimp only)
  rw [emv0]
  (conv => whnf)
  refine ⟨CMul_l (by omega), ?_⟩
  obtain ⟨mv, emv, m1, m2⟩ : ∃ mv : Nat, (g : Int) * (mv0 : Int) = (mv : Int) ∧ mv < rows ∧ (g = 0 → mv = 0) := by
    have : g = 0 ∨ g = 1 := by omega
    rcases this with rfl | rfl
    · exact ⟨0, by omega, by omega, fun _ => rfl⟩
    · exact ⟨mv0, by omega, by omega, fun h => by omega⟩
  ((repeat ((conv => whnf); simp only [lenA_r, itemsA_r, lstA_r, lstC_s, Option.map_some, atI_0, ixN_0, mup_same, mup_mup, true_and, and_true, List.map_cons, List.map_nil, List.length_cons, List.length_map, List.length_nil, List.set_cons_zero, List.set_cons_succ, List.cons_append, List.nil_append, List.getElem?_cons_zero, List.getElem?_cons_succ, w5])); (conv => whnf))
  refine ⟨by decide, ?_⟩
  rw [emv]
  change tk_law_world_6 (retD Q) [some (.ref p), some (.int (g : Int)), some (.int (par : Int)), some (.ref w)] (mup Mv w (.dic [(kS "parities", .int (par : Int)), (kS "size", .int (1 + (s : Int))), (kS "grow", .int (g : Int)), (kS "width", .int (wd : Int)), (kS "rows", .int (rows : Int)), (kS "moved", .int (mv : Int))]))
  have d4 := dv.put (c := .dic [(kS "parities", .int (par : Int)), (kS "size", .int (1 + (s : Int))), (kS "grow", .int (g : Int)), (kS "width", .int (wd : Int)), (kS "rows", .int (rows : Int)), (kS "moved", .int (mv : Int))]) wp wq
  have w6 : mup Mv w (.dic [(kS "parities", .int (par : Int)), (kS "size", .int (1 + (s : Int))), (kS "grow", .int (g : Int)), (kS "width", .int (wd : Int)), (kS "rows", .int (rows : Int)), (kS "moved", .int (mv : Int))]) w = _ := mup_same
  have b4 : But p q M (mdel (mup Mv w (.dic [(kS "parities", .int (par : Int)), (kS "size", .int (1 + (s : Int))), (kS "grow", .int (g : Int)), (kS "width", .int (wd : Int)), (kS "rows", .int (rows : Int)), (kS "moved", .int (mv : Int))])) w) := by
    rw [mdel_put]
    exact b3.trans bv.mdel2
  generalize mup Mv w (.dic [(kS "parities", .int (par : Int)), (kS "size", .int (1 + (s : Int))), (kS "grow", .int (g : Int)), (kS "width", .int (wd : Int)), (kS "rows", .int (rows : Int)), (kS "moved", .int (mv : Int))]) = M4 at d4 w6 b4 ⊢
  decreasing_tactic
  (refine ⟨_, _, _, _, rfl, by assumption, (by infer_instance), (by infer_instance), (by infer_instance), (by infer_instance), fun f Mf df bf lf => ?_⟩; decreasing_tactic)
  have w7 := bf.at wp wq w6
  ((repeat ((conv => whnf); simp only [lenA_r, itemsA_r, lstA_r, lstC_s, Option.map_some, atI_0, ixN_0, mup_same, mup_mup, true_and, and_true, List.map_cons, List.map_nil, List.length_cons, List.length_map, List.length_nil, List.set_cons_zero, List.set_cons_succ, List.cons_append, List.nil_append, List.getElem?_cons_zero, List.getElem?_cons_succ, w7])); (conv => whnf))
  refine ⟨by decide, ?_⟩
  have es : (1 : Int) + (s : Int) = ((1 + s : Nat) : Int) := by omega
  rw [es]
  have fin : mup Mf w (.dic (putA [(kS "parities", .int (par : Int)), (kS "size", .int ((1 + s : Nat) : Int)), (kS "grow", .int (g : Int)), (kS "width", .int (wd : Int)), (kS "rows", .int (rows : Int)), (kS "moved", .int (mv : Int))] (.inr (Str.ofString "spares")) (dn f))) = mup Mf w (wD ⟨par, 1 + s, rows, wd, mv, f⟩ g) := rfl
  have dl := df.put (c := wD ⟨par, 1 + s, rows, wd, mv, f⟩ g) wp wq
  have wl : mup Mf w (wD ⟨par, 1 + s, rows, wd, mv, f⟩ g) w = _ := mup_same
  have bl : But p q M (mdel (mup Mf w (wD ⟨par, 1 + s, rows, wd, mv, f⟩ g)) w) := by
    rw [mdel_put]
    exact b4.trans bf.mdel2
  refine retEnd (k w ⟨par, 1 + s, rows, wd, mv, f⟩ g _ dl bl wM wp wq wl ⟨headOk p1 p2 (by omega) (by omega) r1 r2 wd1 (by omega) ?_ (by omega), g1, wd2, ?_, by show f ≤ 9; omega⟩)
  · have : g = 0 ∨ g = 1 := by omega
    rcases this with rfl | rfl
    · exact .inl ⟨rfl, m2 rfl⟩
    · exact .inr ⟨rfl, wd2, m1⟩
  · show (1 + s) * (wd + g) * rows ≤ 480
    have h1 : pr * (rows : Int) ≤ pr * qq := Int.mul_le_mul_of_nonneg_left r3 (by omega)
    rw [Int.mul_comm pr qq] at h1
    have h2 : pr * (rows : Int) ≤ 480 := by omega
    rw [← hpr] at h2
    have : (((1 + s) * (wd + g) * rows : Nat) : Int) ≤ 480 := by
      simpa [Int.natCast_mul] using h2
    omega
theorem ok_law_world (T : Tx K mg base) : FnA P w K mg base 3 T.f_law_world T.d_law_world [("_law_box" : Str)] sp_law_world :=
  fnA T.F_law_world sc_law_world len_law_world (fun cdv A outer s H E hr => by
    have hu1 := hu_of hr
    have hu64 := hr.units
    exact (ass_cons (as_set 1 sc_law_world.nd (ae_callTy call_int1 abc_int (aa_cons (ae_eq hu64 (ae_mod (ae_call (ok_law_next T) (hr.mono (by decide)) T.m_law_next T.F_law_next.kp T.b_law_next (aa_cons (av 0) aa_nil)) ae_int) ae_int) aa_nil) T.n_int boot_int))
    (ass_cons (as_set 2 sc_law_world.nd (ae_add ae_int (ae_mod (ae_call (ok_law_next T) (hr.mono (by decide)) T.m_law_next T.F_law_next.kp T.b_law_next (aa_cons (av 0) aa_nil)) ae_int)))
    (ass_cons (as_set 3 sc_law_world.nd (ae_disp (app_cons ae_str (av 2) (app_cons ae_str (ae_add ae_int (ae_call (ok_law_many T) (hr.mono (by decide)) T.m_law_many T.F_law_many.kp T.b_law_many (aa_cons (av 0) (aa_cons ae_int (aa_cons ae_int aa_nil))))) (app_cons ae_str (av 1) app_nil))) rfl rfl (fun z => by cases z) (by decide)))
    (ass_cons (as_asg (ae_add (ae_add (av 2) ae_int) (ae_call (ok_law_many T) (hr.mono (by decide)) T.m_law_many T.F_law_many.kp T.b_law_many (aa_cons (av 0) (aa_cons ae_int (aa_cons (ae_sub (ae_sub ae_int (av 2)) (av 1)) aa_nil))))) (ag_sub hu1 (av 3) ae_str))
    (ass_cons (as_asg (ae_callB (call_min2 rfl) abc_min2 (aa_cons (ae_add ae_int (ae_call (ok_law_many T) (hr.mono (by decide)) T.m_law_many T.F_law_many.kp T.b_law_many (aa_cons (av 0) (aa_cons ae_int (aa_cons ae_int aa_nil))))) (aa_cons (ae_div ae_int (ae_mul (ae_ix hu1 (av 3) ae_str) (ae_add (ae_ix hu1 (av 3) ae_str) (av 1)))) aa_nil)) T.n_min boot_min) (ag_sub hu1 (av 3) ae_str))
    (ass_cons (as_asg (ae_mul (av 1) (ae_mod (ae_call (ok_law_next T) (hr.mono (by decide)) T.m_law_next T.F_law_next.kp T.b_law_next (aa_cons (av 0) aa_nil)) (ae_ix hu1 (av 3) ae_str))) (ag_sub hu1 (av 3) ae_str))
    (ass_cons (as_asg (ae_call (ok_law_many T) (hr.mono (by decide)) T.m_law_many T.F_law_many.kp T.b_law_many (aa_cons (av 0) (aa_cons ae_int (aa_cons ae_int aa_nil)))) (ag_sub hu1 (av 3) ae_str))
    (ass_one (as_ret (av 3))))))))))) spec_law_world
def sp_law_world_of : ASp := fun ds M Q => ∃ p q, ds = [.ref p] ∧ DPot p q M ∧
  ∀ (w l b : Addr) (h : Head) (g : Nat) (fs : List (List Blk)) kl kb M', DPot p q M' → But p q M M' → M' w = some (wD h g) → WOk h g → FullOk h fs → w ≠ p → w ≠ q → l ≠ p → l ≠ q → b ≠ p → b ≠ q → GoneM M' l b kl kb → Q (.tup [.ref w, fullD fs, .tup [.ref l, .ref b]]) M'
def tk_law_world_of_1 : RS := (aRet (aTup (aCons (aVar 1) (aCons (aCall sp_law_fulls (aCons (aVar 0) (aCons (aVar 1) aNil))) (aCons (aCall sp_law_gone (aCons (aVar 0) (aCons (aVar 1) aNil))) aNil)))))
def t_law_world_of : RS := aSeq (aAsg (aCall sp_law_world (aCons (aVar 0) aNil)) (agName 1)) (tk_law_world_of_1)
theorem len_law_world_of : ∀ ds M Q, sp_law_world_of ds M Q → ds.length = 1 := by
  rintro ds M Q ⟨p, q, rfl, _⟩
  rfl
theorem spec_law_world_of : ∀ ds M Q, sp_law_world_of ds M Q → t_law_world_of (retD Q) (startA 2 ds) M := by
  rintro ds M Q ⟨p, q, rfl, hd, k⟩
  decreasing_tactic
  refine ⟨p, q, rfl, hd, fun w h g M1 d1 b1 wM wp wq hw wok => ?_⟩
  decreasing_tactic
  refine ⟨p, q, w, h, g, rfl, d1, hw, wp, wq, wok, fun fs M2 d2 b2 fo => ?_⟩
  have hw2 := b2.at wp wq hw
  decreasing_tactic
  refine ⟨p, q, w, h, g, rfl, d2, hw2, wp, wq, wok, fun l b kl kb M3 d3 b3 lM bM lp lq bp bq gm => ?_⟩
  have u1 : But p q M M1 := fun a c h1 h2 e => mdel_sub _ _ (b1 a c h1 h2 e)
  have u3 : But p q M2 M3 := fun a c h1 h2 e => mdel_sub _ _ (mdel_sub _ _ (b3 a c h1 h2 e))
  decreasing_tactic
  exact retEnd (k w l b h g fs kl kb M3 d3 (u1.trans (b2.trans u3)) (u3.at wp wq hw2) wok fo wp wq lp lq bp bq gm)
theorem ok_law_world_of (T : Tx K mg base) : FnA P w K mg base 4 T.f_law_world_of T.d_law_world_of [("_law_box" : Str)] sp_law_world_of :=
  fnA T.F_law_world_of sc_law_world_of len_law_world_of (fun cdv A outer s H E hr => by
    have hu1 := hu_of hr
    have hu64 := hr.units
    exact (ass_cons (as_set 1 sc_law_world_of.nd (ae_call (ok_law_world T) (hr.mono (by decide)) T.m_law_world T.F_law_world.kp T.b_law_world (aa_cons (av 0) aa_nil)))
    (ass_one (as_ret (ae_tup (aa_cons (av 1) (aa_cons (ae_call (ok_law_fulls T) (hr.mono (by decide)) T.m_law_fulls T.F_law_fulls.kp T.b_law_fulls (aa_cons (av 0) (aa_cons (av 1) aa_nil))) (aa_cons (ae_call (ok_law_gone T) (hr.mono (by decide)) T.m_law_gone T.F_law_gone.kp T.b_law_gone (aa_cons (av 0) (aa_cons (av 1) aa_nil))) aa_nil)))))))) spec_law_world_of
def sp_law : ASp := fun ds M Q => ∃ ns : List Int, ds = [.rol (ns.map Dv.int)] ∧ ns.length ≤ 63 ∧ TabsM lxs M ∧ ∀ M', Q (.bl true) M'
theorem law_true (ns : List Int) (M : Ms) (h : ns.length ≤ 63) (ht : ∀ x ∈ lxs, ∃ P, M P = some (.tab x)) : sp_law [.rol (ns.map Dv.int)] M (fun d _ => d = .bl true) := ⟨ns, rfl, h, ht, fun _ => rfl⟩
def tk_law_5 : RS := (aRet (aOp aEq (aVar 5) (aCall sp_law_store (aCons (aVar 2) (aCons (aVar 3) (aCons (aVar 4) aNil))))))
def tk_law_4 : RS := aSeq (aFor (aiSeq (aFz (aLst (aCons (aVar 5) (aCons (aTup (aCons (aFz (aOp aAdd (aSl (aOp aIx (aVar 5) (aC (.int 0))) aoN (aoS (aC (.int 5)))) (aTup (aCons (aC (.int 0)) aNil)))) (aCons (aOp aIx (aVar 5) (aC (.int 1))) (aCons (aOp aIx (aVar 5) (aC (.int 2))) aNil)))) aNil))))) (agName 7) (aSeq (aFor (aiR1 (aCons (aFn acLen (aCons (aOp aIx (aVar 7) (aC (.int 1))) aNil)) aNil)) (agName 8) (aIfS (aNot (aTru (aCall sp_law_disk_right (aCons (aVar 7) (aCons (aVar 8) (aCons (aOp aMod (aCall sp_law_next (aCons (aVar 1) aNil)) (aOp aIx (aVar 2) (aC (.str ("rows" : Str))))) (aCons (aVar 6) aNil))))))) (aRet (aC (.bl false))) aNext))
    (aFor (aiSeq (aFz (aLst (aCons (aUn aNeg (aC (.int 1))) (aCons (aFn acLen (aCons (aOp aIx (aVar 7) (aC (.int 1))) aNil)) (aCons (aOp aAdd (aFn acLen (aCons (aOp aIx (aVar 7) (aC (.int 1))) aNil)) (aOp aMod (aCall sp_law_next (aCons (aVar 1) aNil)) (aC (.int 9)))) (aCons (aOp aPow (aC (.int 10)) (aC (.int 11))) aNil))))))) (agName 9) (aSeq (aAsg (aLst (aCons (aLam ("law" : Str) lsp_law_refused (axCall sx_lose_disk (aCons (aVar 7) (aCons (aVar 9) aNil)))) aNil)) (agName 10))
    (aSeq (aDrop (aMth "list" amApp (aVar 10) (aCons (aLam ("law" : Str) lsp_law_refused (axCall sx_bad_block (aCons (aVar 7) (aCons (aVar 9) (aCons (aC (.int 0)) aNil))))) aNil)))
    (aSeq (aDrop (aMth "list" amApp (aVar 10) (aCons (aLam ("law" : Str) lsp_law_refused (axCall sx_put_spare (aCons (aVar 7) (aCons (aVar 9) aNil)))) aNil)))
    (aSeq (aDrop (aMth "list" amApp (aVar 10) (aCons (aLam ("law" : Str) lsp_law_refused (axCall sx_spoil_block (aCons (aVar 7) (aCons (aVar 9) (aCons (aC (.int 0)) (aCons (aVar 6) aNil)))))) aNil)))
    (aIfS (aB (aOp aNe (aVar 10) (aFz (aOp aMul (aLst (aCons (aC (.str ("NoPlace" : Str))) aNil)) (aC (.int 4)))))) (aRet (aC (.bl false))) aNext)))))))) (tk_law_5)
def tk_law_3 : RS := aSeq (aAsg (aCall sp_law_block (aCons (aVar 1) (aCons (aOp aIx (aVar 2) (aC (.str ("size" : Str)))) aNil))) (agName 6)) (tk_law_4)
def tk_law_2 : RS := aSeq (aAsg (aCall sp_law_store (aCons (aVar 2) (aCons (aVar 3) (aCons (aVar 4) aNil)))) (agName 5)) (tk_law_3)
def tk_law_1 : RS := aSeq (aAsg (aCall sp_law_world_of (aCons (aVar 1) aNil)) (agTup 3 (agCons (agName 2) (agCons (agName 3) (agCons (agName 4) agNil))))) (tk_law_2)
def t_law : RS := aSeq (aAsg (aLst (aCons (aCall sp_law_numbers (aCons (aVar 0) (aCons (aC (.int 900)) aNil))) (aCons (aC (.int 0)) aNil))) (agName 1)) (tk_law_1)
theorem len_law : ∀ ds M Q, sp_law ds M Q → ds.length = 1 := by
  rintro ds M Q ⟨ns, rfl, _⟩
  rfl
theorem bD_intsL (b : Blk) : bD b = .tup ((b.map fun x : Nat => (x : Int)).map Dv.int) := by
  rw [List.map_map]
  rfl
theorem spec_law : ∀ ds M Q, sp_law ds M Q → t_law (retD Q) (startA 11 ds) M := by
  rintro ds M Q ⟨ns, rfl, hl, tb, k⟩
  have x1 : ("law" : Str) ∈ lxs := by unfold lxs; simp
  have x2 : ("_law_disk_right" : Str) ∈ lxs := by unfold lxs; simp
  have memN : ("NoPlace" : Str) ∈ xcs := by unfold xcs; simp
  decreasing_tactic
  refine ⟨ns, 900, rfl, hl, by decide, fun L M1 Ll Lb s1 => ?_⟩
  decreasing_tactic
  intro p hp
  have dp : DPot p p (mup M1 p (.lst [.rol (L.map fun n => dn n), .int 0])) := ⟨rfl, L, 0, mup_same, (fun e => by rw [e] at Ll; cases Ll), by omega, Lb⟩
  have tb2 := tb.sub (s1.trans (HC.Sub.new (c := .lst [.rol (L.map fun n => dn n), .int 0]) hp))
  generalize mup M1 p (.lst [.rol (L.map fun n => dn n), .int 0]) = M2 at dp tb2 ⊢
  decreasing_tactic
  refine ⟨p, p, rfl, dp, fun w l b h g fs kl kb M3 d3 b3 hw wok fo wp wq lp lq bp bq gm => ?_⟩
  have W3 : BW p w l b h g kl kb lxs M3 := ⟨d3, hw, gm, tb2.but b3 dp⟩
  clear d3 b3 hw gm tb2 dp
  decreasing_tactic
  refine ⟨w, l, b, h, g, fs, kl, kb, rfl, W3.w, W3.gone, wok, fo, fun M4 s4 => ?_⟩
  have W4 := W3.sub s4
  have z1 := wok.ok.size1
  have z2 := wok.ok.size2
  have r1 := wok.ok.rows1
  have r2 := wok.ok.rows2
  have sl : (storeW h g fs kl kb).disks.length ≤ 10 := by
    have := wok.many
    simp [storeW]
    omega
  have sj : (storeW h g fs kl kb).journal = [] := rfl
  have hsz : (storeW h g fs kl kb).head.size = h.size := rfl
  have hrw : (storeW h g fs kl kb).head.rows = h.rows := rfl
  have eS : ∀ M5, BW p w l b h g kl kb lxs M5 → True := fun _ _ => True.intro
  generalize hS : storeW h g fs kl kb = s at sl sj hsz hrw ⊢
  have hw4 := W4.w
  unfold wD at hw4
  decreasing_tactic
  ((repeat ((conv => whnf); simp only [lenA_r, itemsA_r, lstA_r, lstC_s, Option.map_some, atI_0, ixN_0, mup_same, mup_mup, true_and, and_true, List.map_cons, List.map_nil, List.length_cons, List.length_map, List.length_nil, List.set_cons_zero, List.set_cons_succ, List.cons_append, List.nil_append, List.getElem?_cons_zero, List.getElem?_cons_succ, hw4])); (conv => whnf))
  refine ⟨p, p, h.size, rfl, W4.pot, by omega, fun blk M5 d5 b5 okb => ?_⟩
  have W5 := W4.next d5 b5
  clear hw4 d5 b5
  have i0 : atI [s.head.d, .tup (s.disks.map kD), .tup (s.journal.map nD)] 0 = some s.head.d := rfl
  have i1 : atI [s.head.d, .tup (s.disks.map kD), .tup (s.journal.map nD)] 1 = some (.tup (s.disks.map kD)) := rfl
  have i2 : atI [s.head.d, .tup (s.disks.map kD), .tup (s.journal.map nD)] 2 = some (.tup (s.journal.map nD)) := rfl
  obtain ⟨s2, hs2⟩ : ∃ s2 : Store, s2 = ⟨{ s.head with spares := 0 }, s.disks, s.journal⟩ := ⟨_, rfl⟩
  have e2 : Dv.tup [Dv.tup (cutA [dn s.head.par, dn s.head.size, dn s.head.rows, dn s.head.width, dn s.head.moved, dn s.head.spares] none (some 5) ++ [Dv.int 0]), Dv.tup (s.disks.map kD), Dv.tup (s.journal.map nD)] = s2.d := by rw [hs2]; rfl
  have lc : (cutA [dn s.head.par, dn s.head.size, dn s.head.rows, dn s.head.width, dn s.head.moved, dn s.head.spares] none (some 5)).length = 5 := rfl
  decreasing_tactic
  rw [e2]
  clear e2 lc i0 i1 i2
  refine forW_inv (fun i ρ M' => ∃ x7 x8 x9 x10, ρ = [some (.rol (ns.map Dv.int)), some (.ref p), some (.ref w), some (fullD fs), some (.tup [.ref l, .ref b]), some s.d, some (bD blk), x7, x8, x9, x10] ∧ BW p w l b h g kl kb lxs M') ⟨none, none, none, none, rfl, W5⟩ (fun _ _ _ _ _ => rfl) ?_ ?_
  · rintro i dd ρ M6 hi ⟨x7, x8, x9, x10, rfl, W6⟩
    have hm := List.mem_of_getElem? hi
    obtain ⟨t, rfl, tl, hts, htr⟩ : ∃ t : Store, dd = t.d ∧ t.disks.length ≤ 10 ∧ t.head.size = h.size ∧ t.head.rows = h.rows := by
      simp only [List.mem_cons, List.not_mem_nil, or_false] at hm
      rcases hm with rfl | rfl
      · exact ⟨s, rfl, sl, hsz, hrw⟩
      · exact ⟨s2, rfl, by rw [hs2]; exact sl, by rw [hs2]; exact hsz, by rw [hs2]; exact hrw⟩
    clear hm hi hs2
    have j1 : atI [t.head.d, .tup (t.disks.map kD), .tup (t.journal.map nD)] 1 = some (.tup (t.disks.map kD)) := rfl
    have lnD := d_disks t
    decreasing_tactic
    ((repeat ((conv => whnf); simp only [lenA_r, itemsA_r, lstA_r, lstC_s, Option.map_some, atI_0, ixN_0, mup_same, mup_mup, true_and, and_true, List.map_cons, List.map_nil, List.length_cons, List.length_map, List.length_nil, List.set_cons_zero, List.set_cons_succ, List.cons_append, List.nil_append, List.getElem?_cons_zero, List.getElem?_cons_succ, j1])); (conv => whnf))
    decreasing_tactic
    refine forW_inv (fun i ρ M2 => ∃ x8 x9 x10, ρ = [some (.rol (ns.map Dv.int)), some (.ref p), some (.ref w), some (fullD fs), some (.tup [.ref l, .ref b]), some s.d, some (bD blk), some t.d, x8, x9, x10] ∧ BW p w l b h g kl kb lxs M2) ⟨_, _, _, rfl, W6⟩ (fun _ _ _ _ _ => trivial) ?_ ?_
    · rintro d dd ρ M7 hi ⟨x8, x9, x10, rfl, W7⟩
      obtain ⟨hd, rfl⟩ := rangeA_get hi
      have hd : d < t.disks.length := by omega
      rw [Int.zero_add]
      decreasing_tactic
      refine ⟨p, p, rfl, W7.pot, fun v M8 d8 b8 lv => ?_⟩
      have W8 := W7.next d8 b8
      have hw8 := W8.w
      unfold wD at hw8
      decreasing_tactic
      ((repeat ((conv => whnf); simp only [lenA_r, itemsA_r, lstA_r, lstC_s, Option.map_some, atI_0, ixN_0, mup_same, mup_mup, true_and, and_true, List.map_cons, List.map_nil, List.length_cons, List.length_map, List.length_nil, List.set_cons_zero, List.set_cons_succ, List.cons_append, List.nil_append, List.getElem?_cons_zero, List.getElem?_cons_succ, hw8])); (conv => whnf))
      obtain ⟨P2, hP2⟩ := W8.tab _ x2
      decreasing_tactic
      refine ⟨t, d, v % h.rows, blk, by rw [show ((v : Int) % (h.rows : Int)) = ((v % h.rows : Nat) : Int) from (Int.natCast_emod v h.rows).symm], hd, by rw [htr]; exact Nat.mod_lt _ r1, by omega, by omega, by omega, by rw [hts]; exact okb, ⟨P2, hP2⟩, fun M9 s9 => ?_⟩
      decreasing_tactic
      exact wk_of ⟨_, _, _, rfl, W8.sub s9⟩
    · rintro ρ M7 ⟨x8, x9, x10, rfl, W7⟩
      decreasing_tactic
      ((repeat ((conv => whnf); simp only [lenA_r, itemsA_r, lstA_r, lstC_s, Option.map_some, atI_0, ixN_0, mup_same, mup_mup, true_and, and_true, List.map_cons, List.map_nil, List.length_cons, List.length_map, List.length_nil, List.set_cons_zero, List.set_cons_succ, List.cons_append, List.nil_append, List.getElem?_cons_zero, List.getElem?_cons_succ, j1])); (conv => whnf))
      decreasing_tactic
      refine ⟨p, p, rfl, W7.pot, fun v M8 d8 b8 lv => ?_⟩
      have W8 := W7.next d8 b8
      clear d8 b8
      decreasing_tactic
      have lN : PyData.canLay0 (.str ("NoPlace" : Str)) = true := by decide +kernel
      have far : ∀ (i : Nat) (x : Dv), [Dv.int (-1), Dv.int (t.disks.length : Int), Dv.int ((t.disks.length : Int) + (v : Int) % 9), Dv.int (10 ^ Int.toNat 11)][i]? = some x → ∃ z : Int, x = .int z ∧ ¬ (0 ≤ z ∧ z < (t.disks.length : Int)) := by
        intro i x hx
        have := List.mem_of_getElem? hx
        simp only [List.mem_cons, List.not_mem_nil, or_false] at this
        rcases this with rfl | rfl | rfl | rfl
        · exact ⟨_, rfl, by omega⟩
        · exact ⟨_, rfl, by omega⟩
        · exact ⟨_, rfl, by omega⟩
        · exact ⟨_, rfl, by have : (10 : Int) ^ Int.toNat 11 = 100000000000 := by decide
                            omega⟩
      refine forW_inv (fun i ρ M' => ∃ x9 x10, ρ = [some (.rol (ns.map Dv.int)), some (.ref p), some (.ref w), some (fullD fs), some (.tup [.ref l, .ref b]), some s.d, some (bD blk), some t.d, x8, x9, x10] ∧ BW p w l b h g kl kb lxs M') ⟨_, _, rfl, W8⟩ (fun _ _ _ _ _ => rfl) ?_ ?_
      · rintro i x ρ M9 hi ⟨x9, x10, rfl, W9⟩
        obtain ⟨z, rfl, hz⟩ := far i x hi
        clear far
        obtain ⟨P, q1⟩ := W9.tab _ x1
        decreasing_tactic
        refine ⟨⟨P, q1⟩, fun Q1 E1 hR => ?_⟩
        decreasing_tactic
        refine ⟨t, z, rfl, .inl ⟨hz, hR.e _ _ _ _ memN rfl ?_⟩⟩
        decreasing_tactic
        intro p3 h3
        have q2 := look_new (x := .lst [.str ("NoPlace" : Str)]) q1 h3
        decreasing_tactic
        refine ⟨⟨P, q2⟩, fun Q1 E1 hR => ?_⟩
        decreasing_tactic
        refine ⟨t, z, 0, rfl, .inl ⟨fun q => hz q.1, hR.e _ _ _ _ memN rfl ?_⟩⟩
        decreasing_tactic
        rw [mup_mup]
        have q3 := look_new (x := .lst ([.str ("NoPlace" : Str)] ++ [.str ("NoPlace" : Str)])) q1 h3
        refine ⟨⟨P, q3⟩, fun Q1 E1 hR => ?_⟩
        decreasing_tactic
        refine ⟨t, z, rfl, .inl ⟨hz, hR.e _ _ _ _ memN rfl ?_⟩⟩
        decreasing_tactic
        rw [mup_mup]
        have q4 := look_new (x := .lst ([.str ("NoPlace" : Str)] ++ [.str ("NoPlace" : Str)] ++ [.str ("NoPlace" : Str)])) q1 h3
        refine ⟨⟨P, q4⟩, fun Q1 E1 hR => ?_⟩
        decreasing_tactic
        refine ⟨t, z, 0, blk.map fun x : Nat => (x : Int), by rw [← bD_intsL], by rw [List.length_map, okb.1]; omega, .inl ⟨fun q => hz q.1, hR.e _ _ _ _ memN rfl ?_⟩⟩
        decreasing_tactic
        rw [mup_mup]
        intro p4 h4
        decreasing_tactic
        refine ⟨_, mup_same, by decide, by decide, le_line (by simp), fun q hq => fz_new hq ?_⟩
        have plw : Pl 9 (.rol [.str ("NoPlace" : Str), .str ("NoPlace" : Str), .str ("NoPlace" : Str), .str ("NoPlace" : Str)]) := fun x hx => by
          simp only [List.mem_cons, List.not_mem_nil, or_false, or_self] at hx
          rw [hx]
          exact lN
        decreasing_tactic
        refine ⟨_, look_new mup_same h4, plw, plw, ?_⟩
        decreasing_tactic
        rw [dec_T (show [Dv.str ("NoPlace" : Str)] ++ [Dv.str ("NoPlace" : Str)] ++ [Dv.str ("NoPlace" : Str)] ++ [Dv.str ("NoPlace" : Str)] = (List.replicate (Int.toNat 4) [Dv.str ("NoPlace" : Str)]).flatten from rfl)]
        have W10 := W9.sub ((HC.Sub.new (c := .lst ([.str ("NoPlace" : Str)] ++ [.str ("NoPlace" : Str)] ++ [.str ("NoPlace" : Str)] ++ [.str ("NoPlace" : Str)])) h3).trans (HC.Sub.new (c := .lst [.str ("NoPlace" : Str)]) h4))
        clear q2 q3 q4
        generalize mup (mup M9 p3 (.lst ([.str ("NoPlace" : Str)] ++ [.str ("NoPlace" : Str)] ++ [.str ("NoPlace" : Str)] ++ [.str ("NoPlace" : Str)]))) p4 (.lst [.str ("NoPlace" : Str)]) = M11 at W10 ⊢
        decreasing_tactic
        exact wk_of ⟨_, _, rfl, W10⟩
      · rintro ρ M9 ⟨x9, x10, rfl, W9⟩
        exact wk_of ⟨_, _, _, _, rfl, W9⟩
  · rintro ρ M6 ⟨x7, x8, x9, x10, rfl, W6⟩
    decreasing_tactic
    refine ⟨w, l, b, h, g, fs, kl, kb, rfl, W6.w, W6.gone, wok, fo, fun M8 s8 => ?_⟩
    rw [hS]
    have ps := pl_store 5 s
    decreasing_tactic
    rw [dec_T rfl]
    exact retEnd (k _)
theorem ok_law (T : Tx K mg base) : FnA P w K mg base 7 T.f_law T.d_law [("_law_script" : Str)] sp_law :=
  fnAL T.fe_law T.F_law sc_law len_law (fun cdv A outer s H E hcode hr => by
    have hu1 := hu_of hr
    have hu64 := hr.units
    exact (ass_cons (as_set 1 sc_law.nd (ae_lst (aa_cons (ae_call (ok_law_numbers T) (hr.mono (by decide)) T.m_law_numbers T.F_law_numbers.kp T.b_law_numbers (aa_cons (av 0) (aa_cons ae_int aa_nil))) (aa_cons ae_int aa_nil))))
    (ass_cons (as_asg (ae_call (ok_law_world_of T) (hr.mono (by decide)) T.m_law_world_of T.F_law_world_of.kp T.b_law_world_of (aa_cons (av 1) aa_nil)) (ag_tup rfl (ags_cons (ag_name 2 sc_law.nd) (ags_cons (ag_name 3 sc_law.nd) (ags_cons (ag_name 4 sc_law.nd) ags_nil)))))
    (ass_cons (as_set 5 sc_law.nd (ae_call (ok_law_store T) (hr.mono (by decide)) T.m_law_store T.F_law_store.kp T.b_law_store (aa_cons (av 2) (aa_cons (av 3) (aa_cons (av 4) aa_nil)))))
    (ass_cons (as_set 6 sc_law.nd (ae_call (ok_law_block T) (hr.mono (by decide)) T.m_law_block T.F_law_block.kp T.b_law_block (aa_cons (av 1) (aa_cons (ae_ix hu1 (av 2) ae_str) aa_nil))))
    (ass_cons (as_for PassesOwn.never rfl (ai_seq (ae_fz (ae_lst (aa_cons (av 5) (aa_cons (ae_tup (aa_cons (ae_fz (ae_add (ae_slice (ae_ix hu1 (av 5) ae_int) ao_none (ao_some ae_int)) (ae_tup (aa_cons ae_int aa_nil)))) (aa_cons (ae_ix hu1 (av 5) ae_int) (aa_cons (ae_ix hu1 (av 5) ae_int) aa_nil)))) aa_nil))))) (ag_name 7 sc_law.nd) (ass_cons (as_for PassesOwn.never rfl (ai_range1 T.n_range (aa_cons (ae_callB call_len abc_len (aa_cons (ae_ix hu1 (av 7) ae_int) aa_nil) T.n_len boot_len) aa_nil)) (ag_name 8 sc_law.nd) (ass_one (as_if (at_not (at_tru (ae_call (ok_law_disk_right T) (hr.mono (by decide)) T.m_law_disk_right T.F_law_disk_right.kp T.b_law_disk_right (aa_cons (av 7) (aa_cons (av 8) (aa_cons (ae_mod (ae_call (ok_law_next T) (hr.mono (by decide)) T.m_law_next T.F_law_next.kp T.b_law_next (aa_cons (av 1) aa_nil)) (ae_ix hu1 (av 2) ae_str)) (aa_cons (av 6) aa_nil))))))) (ass_one (as_ret ae_bl)) ass_nil)))
    (ass_one (as_for PassesOwn.never rfl (ai_seq (ae_fz (ae_lst (aa_cons (ae_neg ae_int) (aa_cons (ae_callB call_len abc_len (aa_cons (ae_ix hu1 (av 7) ae_int) aa_nil) T.n_len boot_len) (aa_cons (ae_add (ae_callB call_len abc_len (aa_cons (ae_ix hu1 (av 7) ae_int) aa_nil) T.n_len boot_len) (ae_mod (ae_call (ok_law_next T) (hr.mono (by decide)) T.m_law_next T.F_law_next.kp T.b_law_next (aa_cons (av 1) aa_nil)) ae_int)) (aa_cons (ae_pow ae_int ae_int) aa_nil))))))) (ag_name 9 sc_law.nd) (ass_cons (as_set 10 sc_law.nd (ae_lst (aa_cons (ae_lam (x := ("law" : Str)) (k := 2) T.F_law_refused T.m_law_refused T.b_law_refused sc_law_refused (fun cz => lg_law_refused T) T.tl_law hcode hr (by decide) (show LamX.LamS (defScope s_law) _ from LamX.lamS_by (by decide +kernel)) (fun E A outer s H f c hr tk => by
      have hu1 := hu_of hr
      have hu64 := hr.units
      exact (ax_call (takesN tk) (okX_lose_disk T) (hr.mono (by decide)) T.m_lose_disk T.F_lose_disk.kp T.b_lose_disk (aa_cons (av 7) (aa_cons (av 9) aa_nil))))) aa_nil)))
    (ass_cons (as_expr (ae_append (av 10) (aa_cons (ae_lam (x := ("law" : Str)) (k := 3) T.F_law_refused T.m_law_refused T.b_law_refused sc_law_refused (fun cz => lg_law_refused T) T.tl_law hcode hr (by decide) (show LamX.LamS (defScope s_law) _ from LamX.lamS_by (by decide +kernel)) (fun E A outer s H f c hr tk => by
      have hu1 := hu_of hr
      have hu64 := hr.units
      exact (ax_call (takesN tk) (okX_bad_block T) (hr.mono (by decide)) T.m_bad_block T.F_bad_block.kp T.b_bad_block (aa_cons (av 7) (aa_cons (av 9) (aa_cons ae_int aa_nil)))))) aa_nil)))
    (ass_cons (as_expr (ae_append (av 10) (aa_cons (ae_lam (x := ("law" : Str)) (k := 2) T.F_law_refused T.m_law_refused T.b_law_refused sc_law_refused (fun cz => lg_law_refused T) T.tl_law hcode hr (by decide) (show LamX.LamS (defScope s_law) _ from LamX.lamS_by (by decide +kernel)) (fun E A outer s H f c hr tk => by
      have hu1 := hu_of hr
      have hu64 := hr.units
      exact (ax_call (takesN tk) (okX_put_spare T) (hr.mono (by decide)) T.m_put_spare T.F_put_spare.kp T.b_put_spare (aa_cons (av 7) (aa_cons (av 9) aa_nil))))) aa_nil)))
    (ass_cons (as_expr (ae_append (av 10) (aa_cons (ae_lam (x := ("law" : Str)) (k := 3) T.F_law_refused T.m_law_refused T.b_law_refused sc_law_refused (fun cz => lg_law_refused T) T.tl_law hcode hr (by decide) (show LamX.LamS (defScope s_law) _ from LamX.lamS_by (by decide +kernel)) (fun E A outer s H f c hr tk => by
      have hu1 := hu_of hr
      have hu64 := hr.units
      exact (ax_call (takesN tk) (okX_spoil_block T) (hr.mono (by decide)) T.m_spoil_block T.F_spoil_block.kp T.b_spoil_block (aa_cons (av 7) (aa_cons (av 9) (aa_cons ae_int (aa_cons (av 6) aa_nil))))))) aa_nil)))
    (ass_one (as_if (at_ne hu64 (av 10) (ae_fz (ae_mul (ae_lst (aa_cons ae_str aa_nil)) ae_int))) (ass_one (as_ret ae_bl)) ass_nil))))))))))
    (ass_one (as_ret (ae_eq hu64 (av 5) (ae_call (ok_law_store T) (hr.mono (by decide)) T.m_law_store T.F_law_store.kp T.b_law_store (aa_cons (av 2) (aa_cons (av 3) (aa_cons (av 4) aa_nil))))))))))))) spec_law
end Law
namespace Law
open PySem L2 HC PyProof.Rows
set_option maxHeartbeats 4000000
theorem facts {l : PySem.W.OpenLaw} {w : World} {K : PySem.W.Frag} {h : Heap} {mg : Str → Option Value} {fa : Addr} (X : K.In h) (G : h.Ns mainGlobals mg) (hfa : mg "law" = some (.ref fa)) (c : SaysY faL fnL tsL exL w K) :
    ∃ fd : FuncData, (∀ (s : Shared) (v : Value), BindsTo s fd ⟨[v], []⟩ [(("_law_script" : Str), v)]) ∧ ∀ base : Heap, K.In base → base.Ns mainGlobals mg → (∀ y ∈ lxs, LamX.TabB base mg (He.codeOf K (y, none)) (lamP K y)) → FnA l.prog w K mg base 7 fa fd [("_law_script" : Str)] sp_law := by
  obtain ⟨d0, F0⟩ := c.fn_ 0 (x := ("_law_next" : Str)) (st := s_law_next)
  obtain ⟨d1, F1⟩ := c.fn_ 1 (x := ("_law_block" : Str)) (st := s_law_block)
  obtain ⟨d2, F2⟩ := c.fn_ 2 (x := ("_law_refused" : Str)) (st := s_law_refused)
  obtain ⟨d3, F3⟩ := c.fn_ 3 (x := ("look_disk" : Str)) (st := s_look_disk)
  obtain ⟨d4, F4⟩ := c.fn_ 4 (x := ("look_place" : Str)) (st := s_look_place)
  obtain ⟨d5, F5⟩ := c.fn_ 5 (x := ("look_there" : Str)) (st := s_look_there)
  obtain ⟨d6, F6⟩ := c.fn_ 6 (x := ("bad_block" : Str)) (st := s_bad_block)
  obtain ⟨d7, F7⟩ := c.fn_ 7 (x := ("lose_disk" : Str)) (st := s_lose_disk)
  obtain ⟨d8, F8⟩ := c.fn_ 8 (x := ("put_spare" : Str)) (st := s_put_spare)
  obtain ⟨d9, F9⟩ := c.fn_ 9 (x := ("is_full_block" : Str)) (st := s_is_full_block)
  obtain ⟨d10, F10⟩ := c.fn_ 10 (x := ("spoil_block" : Str)) (st := s_spoil_block)
  obtain ⟨d11, F11⟩ := c.fn_ 11 (x := ("_law_disk_right" : Str)) (st := s_law_disk_right)
  obtain ⟨d12, F12⟩ := c.fn_ 12 (x := ("_law_mixed" : Str)) (st := s_law_mixed)
  obtain ⟨d13, F13⟩ := c.fn_ 13 (x := ("_law_numbers" : Str)) (st := s_law_numbers)
  obtain ⟨d14, F14⟩ := c.fn_ 14 (x := ("_law_head" : Str)) (st := s_law_head)
  obtain ⟨d15, F15⟩ := c.fn_ 15 (x := ("_law_wide" : Str)) (st := s_law_wide)
  obtain ⟨d16, F16⟩ := c.fn_ 16 (x := ("_law_store" : Str)) (st := s_law_store)
  obtain ⟨d17, F17⟩ := c.fn_ 17 (x := ("_law_times" : Str)) (st := s_law_times)
  obtain ⟨d18, F18⟩ := c.fn_ 18 (x := ("_law_parities" : Str)) (st := s_law_parities)
  obtain ⟨d19, F19⟩ := c.fn_ 19 (x := ("_law_fulls" : Str)) (st := s_law_fulls)
  obtain ⟨d20, F20⟩ := c.fn_ 20 (x := ("_law_many" : Str)) (st := s_law_many)
  obtain ⟨d21, F21⟩ := c.fn_ 21 (x := ("_law_gone" : Str)) (st := s_law_gone)
  obtain ⟨d22, F22⟩ := c.fn_ 22 (x := ("_law_world" : Str)) (st := s_law_world)
  obtain ⟨d23, F23⟩ := c.fn_ 23 (x := ("_law_world_of" : Str)) (st := s_law_world_of)
  obtain ⟨d24, FD⟩ := c.law_ 24 (x := "law") (st := s_law)
  have F24 := fun_ofD FD
  have e := hfa.symm.trans (c.glo X G 0 (x := ("law" : Str)))
  cases e
  let T : ∀ base : Heap, (∀ y ∈ lxs, LamX.TabB base mg (He.codeOf K (y, none)) (lamP K y)) → Tx K mg base := fun base tb => {
    n_ValueError := c.free X G 1 (x := ("ValueError" : Str))
    n_all := c.free X G 2 (x := ("all" : Str))
    n_int := c.free X G 3 (x := ("int" : Str))
    n_isinstance := c.free X G 4 (x := ("isinstance" : Str))
    n_len := c.free X G 5 (x := ("len" : Str))
    n_min := c.free X G 6 (x := ("min" : Str))
    n_range := c.free X G 7 (x := ("range" : Str))
    n_str := c.free X G 8 (x := ("str" : Str))
    n_sum := c.free X G 9 (x := ("sum" : Str))
    n_tuple := c.free X G 10 (x := ("tuple" : Str))
    n_zip := c.free X G 11 (x := ("zip" : Str))
    f_law_next := He.ga K ("_law_next" : Str), d_law_next := d0, F_law_next := F0, m_law_next := c.glo X G 12 (x := ("_law_next" : Str)), b_law_next := F0.binds (ps := [("_law_box" : Str)]) fun _ _ _ _ _ _ us hl => match us, hl with | [_], _ => rfl
    f_law_block := He.ga K ("_law_block" : Str), d_law_block := d1, F_law_block := F1, m_law_block := c.glo X G 13 (x := ("_law_block" : Str)), b_law_block := F1.binds (ps := [("_law_box" : Str), ("_law_size" : Str)]) fun _ _ _ _ _ _ us hl => match us, hl with | [_, _], _ => rfl
    f_law_refused := He.ga K ("_law_refused" : Str), d_law_refused := d2, F_law_refused := F2, m_law_refused := c.glo X G 14 (x := ("_law_refused" : Str)), b_law_refused := F2.binds (ps := [("_law_told_by" : Str)]) fun _ _ _ _ _ _ us hl => match us, hl with | [_], _ => rfl
    f_look_disk := He.ga K ("look_disk" : Str), d_look_disk := d3, F_look_disk := F3, m_look_disk := c.glo X G 15 (x := ("look_disk" : Str)), b_look_disk := F3.binds (ps := [("store" : Str), ("disk" : Str)]) fun _ _ _ _ _ _ us hl => match us, hl with | [_, _], _ => rfl
    f_look_place := He.ga K ("look_place" : Str), d_look_place := d4, F_look_place := F4, m_look_place := c.glo X G 16 (x := ("look_place" : Str)), b_look_place := F4.binds (ps := [("store" : Str), ("disk" : Str), ("row" : Str)]) fun _ _ _ _ _ _ us hl => match us, hl with | [_, _, _], _ => rfl
    f_look_there := He.ga K ("look_there" : Str), d_look_there := d5, F_look_there := F5, m_look_there := c.glo X G 17 (x := ("look_there" : Str)), b_look_there := F5.binds (ps := [("store" : Str), ("disk" : Str)]) fun _ _ _ _ _ _ us hl => match us, hl with | [_, _], _ => rfl
    f_bad_block := He.ga K ("bad_block" : Str), d_bad_block := d6, F_bad_block := F6, m_bad_block := c.glo X G 18 (x := ("bad_block" : Str)), b_bad_block := F6.binds (ps := [("store" : Str), ("disk" : Str), ("row" : Str)]) fun _ _ _ _ _ _ us hl => match us, hl with | [_, _, _], _ => rfl
    f_lose_disk := He.ga K ("lose_disk" : Str), d_lose_disk := d7, F_lose_disk := F7, m_lose_disk := c.glo X G 19 (x := ("lose_disk" : Str)), b_lose_disk := F7.binds (ps := [("store" : Str), ("disk" : Str)]) fun _ _ _ _ _ _ us hl => match us, hl with | [_, _], _ => rfl
    f_put_spare := He.ga K ("put_spare" : Str), d_put_spare := d8, F_put_spare := F8, m_put_spare := c.glo X G 20 (x := ("put_spare" : Str)), b_put_spare := F8.binds (ps := [("store" : Str), ("disk" : Str)]) fun _ _ _ _ _ _ us hl => match us, hl with | [_, _], _ => rfl
    f_is_full_block := He.ga K ("is_full_block" : Str), d_is_full_block := d9, F_is_full_block := F9, m_is_full_block := c.glo X G 21 (x := ("is_full_block" : Str)), b_is_full_block := F9.binds (ps := [("store" : Str), ("block" : Str)]) fun _ _ _ _ _ _ us hl => match us, hl with | [_, _], _ => rfl
    f_spoil_block := He.ga K ("spoil_block" : Str), d_spoil_block := d10, F_spoil_block := F10, m_spoil_block := c.glo X G 22 (x := ("spoil_block" : Str)), b_spoil_block := F10.binds (ps := [("store" : Str), ("disk" : Str), ("row" : Str), ("told" : Str)]) fun _ _ _ _ _ _ us hl => match us, hl with | [_, _, _, _], _ => rfl
    f_law_disk_right := He.ga K ("_law_disk_right" : Str), d_law_disk_right := d11, F_law_disk_right := F11, m_law_disk_right := c.glo X G 23 (x := ("_law_disk_right" : Str)), b_law_disk_right := F11.binds (ps := [("_law_store_here" : Str), ("_law_disk" : Str), ("_law_row" : Str), ("_law_block_here" : Str)]) fun _ _ _ _ _ _ us hl => match us, hl with | [_, _, _, _], _ => rfl
    f_law_mixed := He.ga K ("_law_mixed" : Str), d_law_mixed := d12, F_law_mixed := F12, m_law_mixed := c.glo X G 24 (x := ("_law_mixed" : Str)), b_law_mixed := F12.binds (ps := [("_law_cell" : Str), ("_law_many_here" : Str)]) fun _ _ _ _ _ _ us hl => match us, hl with | [_, _], _ => rfl
    f_law_numbers := He.ga K ("_law_numbers" : Str), d_law_numbers := d13, F_law_numbers := F13, m_law_numbers := c.glo X G 25 (x := ("_law_numbers" : Str)), b_law_numbers := F13.binds (ps := [("_law_script" : Str), ("_law_many_here" : Str)]) fun _ _ _ _ _ _ us hl => match us, hl with | [_, _], _ => rfl
    f_law_head := He.ga K ("_law_head" : Str), d_law_head := d14, F_law_head := F14, m_law_head := c.glo X G 26 (x := ("_law_head" : Str)), b_law_head := F14.binds (ps := [("_law_world_here" : Str)]) fun _ _ _ _ _ _ us hl => match us, hl with | [_], _ => rfl
    f_law_wide := He.ga K ("_law_wide" : Str), d_law_wide := d15, F_law_wide := F15, m_law_wide := c.glo X G 27 (x := ("_law_wide" : Str)), b_law_wide := F15.binds (ps := [("_law_world_here" : Str), ("_law_row" : Str)]) fun _ _ _ _ _ _ us hl => match us, hl with | [_, _], _ => rfl
    f_law_store := He.ga K ("_law_store" : Str), d_law_store := d16, F_law_store := F16, m_law_store := c.glo X G 28 (x := ("_law_store" : Str)), b_law_store := F16.binds (ps := [("_law_world_here" : Str), ("_law_fulls_here" : Str), ("_law_gone_here" : Str)]) fun _ _ _ _ _ _ us hl => match us, hl with | [_, _, _], _ => rfl
    f_law_times := He.ga K ("_law_times" : Str), d_law_times := d17, F_law_times := F17, m_law_times := c.glo X G 29 (x := ("_law_times" : Str)), b_law_times := F17.binds (ps := [("_law_a" : Str), ("_law_b" : Str)]) fun _ _ _ _ _ _ us hl => match us, hl with | [_, _], _ => rfl
    f_law_parities := He.ga K ("_law_parities" : Str), d_law_parities := d18, F_law_parities := F18, m_law_parities := c.glo X G 30 (x := ("_law_parities" : Str)), b_law_parities := F18.binds (ps := [("_law_data" : Str), ("_law_parities_here" : Str), ("_law_size" : Str)]) fun _ _ _ _ _ _ us hl => match us, hl with | [_, _, _], _ => rfl
    f_law_fulls := He.ga K ("_law_fulls" : Str), d_law_fulls := d19, F_law_fulls := F19, m_law_fulls := c.glo X G 31 (x := ("_law_fulls" : Str)), b_law_fulls := F19.binds (ps := [("_law_box" : Str), ("_law_world_here" : Str)]) fun _ _ _ _ _ _ us hl => match us, hl with | [_, _], _ => rfl
    f_law_many := He.ga K ("_law_many" : Str), d_law_many := d20, F_law_many := F20, m_law_many := c.glo X G 32 (x := ("_law_many" : Str)), b_law_many := F20.binds (ps := [("_law_box" : Str), ("_law_few" : Str), ("_law_most" : Str)]) fun _ _ _ _ _ _ us hl => match us, hl with | [_, _, _], _ => rfl
    f_law_gone := He.ga K ("_law_gone" : Str), d_law_gone := d21, F_law_gone := F21, m_law_gone := c.glo X G 33 (x := ("_law_gone" : Str)), b_law_gone := F21.binds (ps := [("_law_box" : Str), ("_law_world_here" : Str)]) fun _ _ _ _ _ _ us hl => match us, hl with | [_, _], _ => rfl
    f_law_world := He.ga K ("_law_world" : Str), d_law_world := d22, F_law_world := F22, m_law_world := c.glo X G 34 (x := ("_law_world" : Str)), b_law_world := F22.binds (ps := [("_law_box" : Str)]) fun _ _ _ _ _ _ us hl => match us, hl with | [_], _ => rfl
    f_law_world_of := He.ga K ("_law_world_of" : Str), d_law_world_of := d23, F_law_world_of := F23, m_law_world_of := c.glo X G 35 (x := ("_law_world_of" : Str)), b_law_world_of := F23.binds (ps := [("_law_box" : Str)]) fun _ _ _ _ _ _ us hl => match us, hl with | [_], _ => rfl
    f_law := He.ga K ("law" : Str), d_law := d24, F_law := F24, m_law := c.glo X G 0 (x := ("law" : Str)), b_law := F24.binds (ps := [("_law_script" : Str)]) fun _ _ _ _ _ _ us hl => match us, hl with | [_], _ => rfl
    fe_law_disk_right := rfl, tl_law_disk_right := tb ("_law_disk_right" : Str) (by decide +kernel)
    fe_law := rfl, tl_law := tb ("law" : Str) (by decide +kernel)
    ca_Gone := He.ga K ("Gone" : Str), na_Gone := c.gn 36 (x := ("Gone" : Str)), ga_Gone := c.glo X G 36 (x := ("Gone" : Str))
    xc_Gone := xct_of X G (c.fact 36 (f := .glo ("Gone" : Str))) (c.fact 37 (f := .exc ("Gone" : Str)))
    xk_Gone := xckB_ok (c.at_ 1 (f := xckB ("Gone" : Str)))
    k_Gone_Gone := kitQB_ok (y := (some ("Gone" : Str))) (c.at_ 2 (f := kitQB ("Gone" : Str) (some ("Gone" : Str)) true))
    k_Gone_Growing := kitQB_ok (y := (some ("Growing" : Str))) (c.at_ 3 (f := kitQB ("Gone" : Str) (some ("Growing" : Str)) false))
    k_Gone_Halfway := kitQB_ok (y := (some ("Halfway" : Str))) (c.at_ 4 (f := kitQB ("Gone" : Str) (some ("Halfway" : Str)) false))
    k_Gone_Lost := kitQB_ok (y := (some ("Lost" : Str))) (c.at_ 5 (f := kitQB ("Gone" : Str) (some ("Lost" : Str)) false))
    k_Gone_NoPlace := kitQB_ok (y := (some ("NoPlace" : Str))) (c.at_ 6 (f := kitQB ("Gone" : Str) (some ("NoPlace" : Str)) false))
    k_Gone_NoSpare := kitQB_ok (y := (some ("NoSpare" : Str))) (c.at_ 7 (f := kitQB ("Gone" : Str) (some ("NoSpare" : Str)) false))
    k_Gone_NoStore := kitQB_ok (y := (some ("NoStore" : Str))) (c.at_ 8 (f := kitQB ("Gone" : Str) (some ("NoStore" : Str)) false))
    k_Gone_NoText := kitQB_ok (y := (some ("NoText" : Str))) (c.at_ 9 (f := kitQB ("Gone" : Str) (some ("NoText" : Str)) false))
    k_Gone_NotGrowing := kitQB_ok (y := (some ("NotGrowing" : Str))) (c.at_ 10 (f := kitQB ("Gone" : Str) (some ("NotGrowing" : Str)) false))
    k_Gone_There := kitQB_ok (y := (some ("There" : Str))) (c.at_ 11 (f := kitQB ("Gone" : Str) (some ("There" : Str)) false))
    k_Gone_TooFew := kitQB_ok (y := (some ("TooFew" : Str))) (c.at_ 12 (f := kitQB ("Gone" : Str) (some ("TooFew" : Str)) false))
    k_Gone_Untold := kitQB_ok (y := (some ("Untold" : Str))) (c.at_ 13 (f := kitQB ("Gone" : Str) (some ("Untold" : Str)) false))
    k_Gone_ValueError := kitQB_ok (y := none) (c.at_ 14 (f := kitQB ("Gone" : Str) none true))
    e_Gone_DiskError := He.exm_ok (c.fact 38 (f := .exm ("Gone" : Str) ("DiskError" : Str) true))
    ca_NoPlace := He.ga K ("NoPlace" : Str), na_NoPlace := c.gn 39 (x := ("NoPlace" : Str)), ga_NoPlace := c.glo X G 39 (x := ("NoPlace" : Str))
    xc_NoPlace := xct_of X G (c.fact 39 (f := .glo ("NoPlace" : Str))) (c.fact 40 (f := .exc ("NoPlace" : Str)))
    xk_NoPlace := xckB_ok (c.at_ 15 (f := xckB ("NoPlace" : Str)))
    k_NoPlace_Gone := kitQB_ok (y := (some ("Gone" : Str))) (c.at_ 16 (f := kitQB ("NoPlace" : Str) (some ("Gone" : Str)) false))
    k_NoPlace_Growing := kitQB_ok (y := (some ("Growing" : Str))) (c.at_ 17 (f := kitQB ("NoPlace" : Str) (some ("Growing" : Str)) false))
    k_NoPlace_Halfway := kitQB_ok (y := (some ("Halfway" : Str))) (c.at_ 18 (f := kitQB ("NoPlace" : Str) (some ("Halfway" : Str)) false))
    k_NoPlace_Lost := kitQB_ok (y := (some ("Lost" : Str))) (c.at_ 19 (f := kitQB ("NoPlace" : Str) (some ("Lost" : Str)) false))
    k_NoPlace_NoPlace := kitQB_ok (y := (some ("NoPlace" : Str))) (c.at_ 20 (f := kitQB ("NoPlace" : Str) (some ("NoPlace" : Str)) true))
    k_NoPlace_NoSpare := kitQB_ok (y := (some ("NoSpare" : Str))) (c.at_ 21 (f := kitQB ("NoPlace" : Str) (some ("NoSpare" : Str)) false))
    k_NoPlace_NoStore := kitQB_ok (y := (some ("NoStore" : Str))) (c.at_ 22 (f := kitQB ("NoPlace" : Str) (some ("NoStore" : Str)) false))
    k_NoPlace_NoText := kitQB_ok (y := (some ("NoText" : Str))) (c.at_ 23 (f := kitQB ("NoPlace" : Str) (some ("NoText" : Str)) false))
    k_NoPlace_NotGrowing := kitQB_ok (y := (some ("NotGrowing" : Str))) (c.at_ 24 (f := kitQB ("NoPlace" : Str) (some ("NotGrowing" : Str)) false))
    k_NoPlace_There := kitQB_ok (y := (some ("There" : Str))) (c.at_ 25 (f := kitQB ("NoPlace" : Str) (some ("There" : Str)) false))
    k_NoPlace_TooFew := kitQB_ok (y := (some ("TooFew" : Str))) (c.at_ 26 (f := kitQB ("NoPlace" : Str) (some ("TooFew" : Str)) false))
    k_NoPlace_Untold := kitQB_ok (y := (some ("Untold" : Str))) (c.at_ 27 (f := kitQB ("NoPlace" : Str) (some ("Untold" : Str)) false))
    k_NoPlace_ValueError := kitQB_ok (y := none) (c.at_ 28 (f := kitQB ("NoPlace" : Str) none true))
    e_NoPlace_DiskError := He.exm_ok (c.fact 41 (f := .exm ("NoPlace" : Str) ("DiskError" : Str) true))
    ca_NoSpare := He.ga K ("NoSpare" : Str), na_NoSpare := c.gn 42 (x := ("NoSpare" : Str)), ga_NoSpare := c.glo X G 42 (x := ("NoSpare" : Str))
    xc_NoSpare := xct_of X G (c.fact 42 (f := .glo ("NoSpare" : Str))) (c.fact 43 (f := .exc ("NoSpare" : Str)))
    xk_NoSpare := xckB_ok (c.at_ 29 (f := xckB ("NoSpare" : Str)))
    k_NoSpare_Gone := kitQB_ok (y := (some ("Gone" : Str))) (c.at_ 30 (f := kitQB ("NoSpare" : Str) (some ("Gone" : Str)) false))
    k_NoSpare_Growing := kitQB_ok (y := (some ("Growing" : Str))) (c.at_ 31 (f := kitQB ("NoSpare" : Str) (some ("Growing" : Str)) false))
    k_NoSpare_Halfway := kitQB_ok (y := (some ("Halfway" : Str))) (c.at_ 32 (f := kitQB ("NoSpare" : Str) (some ("Halfway" : Str)) false))
    k_NoSpare_Lost := kitQB_ok (y := (some ("Lost" : Str))) (c.at_ 33 (f := kitQB ("NoSpare" : Str) (some ("Lost" : Str)) false))
    k_NoSpare_NoPlace := kitQB_ok (y := (some ("NoPlace" : Str))) (c.at_ 34 (f := kitQB ("NoSpare" : Str) (some ("NoPlace" : Str)) false))
    k_NoSpare_NoSpare := kitQB_ok (y := (some ("NoSpare" : Str))) (c.at_ 35 (f := kitQB ("NoSpare" : Str) (some ("NoSpare" : Str)) true))
    k_NoSpare_NoStore := kitQB_ok (y := (some ("NoStore" : Str))) (c.at_ 36 (f := kitQB ("NoSpare" : Str) (some ("NoStore" : Str)) false))
    k_NoSpare_NoText := kitQB_ok (y := (some ("NoText" : Str))) (c.at_ 37 (f := kitQB ("NoSpare" : Str) (some ("NoText" : Str)) false))
    k_NoSpare_NotGrowing := kitQB_ok (y := (some ("NotGrowing" : Str))) (c.at_ 38 (f := kitQB ("NoSpare" : Str) (some ("NotGrowing" : Str)) false))
    k_NoSpare_There := kitQB_ok (y := (some ("There" : Str))) (c.at_ 39 (f := kitQB ("NoSpare" : Str) (some ("There" : Str)) false))
    k_NoSpare_TooFew := kitQB_ok (y := (some ("TooFew" : Str))) (c.at_ 40 (f := kitQB ("NoSpare" : Str) (some ("TooFew" : Str)) false))
    k_NoSpare_Untold := kitQB_ok (y := (some ("Untold" : Str))) (c.at_ 41 (f := kitQB ("NoSpare" : Str) (some ("Untold" : Str)) false))
    k_NoSpare_ValueError := kitQB_ok (y := none) (c.at_ 42 (f := kitQB ("NoSpare" : Str) none true))
    e_NoSpare_DiskError := He.exm_ok (c.fact 44 (f := .exm ("NoSpare" : Str) ("DiskError" : Str) true))
    ca_There := He.ga K ("There" : Str), na_There := c.gn 45 (x := ("There" : Str)), ga_There := c.glo X G 45 (x := ("There" : Str))
    xc_There := xct_of X G (c.fact 45 (f := .glo ("There" : Str))) (c.fact 46 (f := .exc ("There" : Str)))
    xk_There := xckB_ok (c.at_ 43 (f := xckB ("There" : Str)))
    k_There_Gone := kitQB_ok (y := (some ("Gone" : Str))) (c.at_ 44 (f := kitQB ("There" : Str) (some ("Gone" : Str)) false))
    k_There_Growing := kitQB_ok (y := (some ("Growing" : Str))) (c.at_ 45 (f := kitQB ("There" : Str) (some ("Growing" : Str)) false))
    k_There_Halfway := kitQB_ok (y := (some ("Halfway" : Str))) (c.at_ 46 (f := kitQB ("There" : Str) (some ("Halfway" : Str)) false))
    k_There_Lost := kitQB_ok (y := (some ("Lost" : Str))) (c.at_ 47 (f := kitQB ("There" : Str) (some ("Lost" : Str)) false))
    k_There_NoPlace := kitQB_ok (y := (some ("NoPlace" : Str))) (c.at_ 48 (f := kitQB ("There" : Str) (some ("NoPlace" : Str)) false))
    k_There_NoSpare := kitQB_ok (y := (some ("NoSpare" : Str))) (c.at_ 49 (f := kitQB ("There" : Str) (some ("NoSpare" : Str)) false))
    k_There_NoStore := kitQB_ok (y := (some ("NoStore" : Str))) (c.at_ 50 (f := kitQB ("There" : Str) (some ("NoStore" : Str)) false))
    k_There_NoText := kitQB_ok (y := (some ("NoText" : Str))) (c.at_ 51 (f := kitQB ("There" : Str) (some ("NoText" : Str)) false))
    k_There_NotGrowing := kitQB_ok (y := (some ("NotGrowing" : Str))) (c.at_ 52 (f := kitQB ("There" : Str) (some ("NotGrowing" : Str)) false))
    k_There_There := kitQB_ok (y := (some ("There" : Str))) (c.at_ 53 (f := kitQB ("There" : Str) (some ("There" : Str)) true))
    k_There_TooFew := kitQB_ok (y := (some ("TooFew" : Str))) (c.at_ 54 (f := kitQB ("There" : Str) (some ("TooFew" : Str)) false))
    k_There_Untold := kitQB_ok (y := (some ("Untold" : Str))) (c.at_ 55 (f := kitQB ("There" : Str) (some ("Untold" : Str)) false))
    k_There_ValueError := kitQB_ok (y := none) (c.at_ 56 (f := kitQB ("There" : Str) none true))
    e_There_DiskError := He.exm_ok (c.fact 47 (f := .exm ("There" : Str) ("DiskError" : Str) true))
    ca_Growing := He.ga K ("Growing" : Str), na_Growing := c.gn 48 (x := ("Growing" : Str)), ga_Growing := c.glo X G 48 (x := ("Growing" : Str))
    ca_Halfway := He.ga K ("Halfway" : Str), na_Halfway := c.gn 49 (x := ("Halfway" : Str)), ga_Halfway := c.glo X G 49 (x := ("Halfway" : Str))
    ca_Lost := He.ga K ("Lost" : Str), na_Lost := c.gn 50 (x := ("Lost" : Str)), ga_Lost := c.glo X G 50 (x := ("Lost" : Str))
    ca_NoStore := He.ga K ("NoStore" : Str), na_NoStore := c.gn 51 (x := ("NoStore" : Str)), ga_NoStore := c.glo X G 51 (x := ("NoStore" : Str))
    ca_NoText := He.ga K ("NoText" : Str), na_NoText := c.gn 52 (x := ("NoText" : Str)), ga_NoText := c.glo X G 52 (x := ("NoText" : Str))
    ca_NotGrowing := He.ga K ("NotGrowing" : Str), na_NotGrowing := c.gn 53 (x := ("NotGrowing" : Str)), ga_NotGrowing := c.glo X G 53 (x := ("NotGrowing" : Str))
    ca_TooFew := He.ga K ("TooFew" : Str), na_TooFew := c.gn 54 (x := ("TooFew" : Str)), ga_TooFew := c.glo X G 54 (x := ("TooFew" : Str))
    ca_Untold := He.ga K ("Untold" : Str), na_Untold := c.gn 55 (x := ("Untold" : Str)), ga_Untold := c.glo X G 55 (x := ("Untold" : Str))
    ca_DiskError := He.ga K ("DiskError" : Str), na_DiskError := c.gn 56 (x := ("DiskError" : Str)), ga_DiskError := c.glo X G 56 (x := ("DiskError" : Str))
  }
  exact ⟨_, fun s v => FunD.bindsA (ps := [("_law_script" : Str)]) FD (fun _ _ _ _ _ _ us hl => match us, hl with | [_], _ => rfl) s [v] rfl, fun base _ _ tb => ok_law (T base tb)⟩
end Law
open PySem PySem.W PySem.Calls PyProof.Rows
set_option maxRecDepth 100000 in
set_option maxHeartbeats 0 in
theorem PySem.Challenge.cw_lostdisk_k38_befalls_refused_holds : PySem.Challenge.rw_lostdisk_k38_befalls_refused.Holds := by
  w_on; o_law
  refine HandSHeadRun.head_any (r := Law.RL) (q := view Law.RL.prog [40]) (H := Law.hkL) (ob := Law.obL) (M := 30000) (loose := Law.nmL) (d := HandSHeadRun.topDef Law.RL.prog 40) (kwd := []) Law.obL_eq
    (by kernel_rfl) (fun s => by kernel_rfl) Law.run (by kernel_rfl) (by kernel_rfl) (by kernel_rfl) (by rfl) (by first | assumption | decide +kernel) (by decide +kernel) ⟨rfl, rfl, rfl, rfl, rfl, by decide +kernel⟩ ?hw ?hc
  case hw => w_witness2
  case hc =>
    refine LamX.walk_ofTsE (l := PySem.Challenge.rw_lostdisk_k38_befalls_refused) (n := 63) (k := 7) (x := ("_law_script" : Str)) (CX := fun _ => L2.CX0) rfl (by decide) (by kernel_rfl) ⟨rfl, by decide, by decide⟩ ?F (fun _ _ _ _ _ z => z)
    intro w mg fa h Y G hmg0
    obtain ⟨K, KX, c, t⟩ := Y
    have hmg : mg ("law" : PySem.Str) = some (.ref fa) := by
      have e : (HandSHeadRun.topDef Law.RL.prog 40).name = ("law" : PySem.Str) := by kernel_rfl
      rw [← e]
      exact hmg0
    obtain ⟨fd, hb, hF⟩ := Law.facts (l := PySem.Challenge.rw_lostdisk_k38_befalls_refused) KX G hmg c
    exact ⟨K, KX, HC.lawAtT (xs := Law.lxs) KX t (HC.tabNd_ok (c.at_ 0 (f := HC.tabNd (Law.lxs.map fun x => (x, none))))) hb hF fun ns M h ht => Law.law_true ns M h ht⟩
