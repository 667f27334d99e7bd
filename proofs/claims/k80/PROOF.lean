import PyProof.Rows.All
import HandS.HeadEnd
import HandS.Head2
import HandS.HeadHook3
import HandS.HeadHook4
import HandS.ExcField
import HandS.Words
import Wide.All
import OpenK.AllK
import Wide.FinOn
import HandS.ForMost
import HandS.ForExc
import HandS.Wide
import HandS.IsInst
import HandS.TupAny
import HandS.TupMul
import HandS.Zip
import HandS.Walk
import HandS.Conv
import HandS.Codes
import HandS.TryOnly
import HandS.More
import HandS.TupLe
import HandS.Steps
import HandS.Lambda
import KE.GoesEnum
import KE.GoesZip
import HandS.Style
import PyProof.Rows.SeqMore
import HandS.CallLocal
import HandS.SortInts
import HandS.SortRule
import HandS.Deep
import HandS.SetKeys
import HandS.Iter
import HandS.Rev
import PyProof.EqAt
import HandS.Flow
import KE.KStrBytes
import HandS.Text
import PySem.Challenge.RW_lostdisk_k80_shown
set_option Elab.async false
set_option linter.all false
set_option maxRecDepth 100000
set_option maxHeartbeats 1000000
namespace HC
open PySem PySem.Spec L2 PyProof.Rows
def ddF (x : Str) (st : Stmt) : He.DefD := ⟨(x, none), x, x, defArgs st, defBody st, defScope st, [], []⟩
abbrev AlY : Type := He.AlT × Bool
def obsY0 (fa : List He.Fa) (fn : List He.DefD) (ts : List He.Tab) (ex : List (PySem.W.Frag → Bool)) (K : PySem.W.Frag) : AlY := (He.obsT fa fn ts K, ex.all fun f => f K)
def obsY (n : Nat) (fa : List He.Fa) (fn : List He.DefD) (ts : List He.Tab) (ex : List (PySem.W.Frag → Bool)) (g : Addr → Option Obj) : AlY := obsY0 fa fn ts ex (He.frG g (List.range n))
def valY (fn : List He.DefD) (ts : List He.Tab) (w : World) : AlY := (He.valT fn ts w, true)
def SaysY (fa : List He.Fa) (fn : List He.DefD) (ts : List He.Tab) (ex : List (PySem.W.Frag → Bool)) (w : World) (K : PySem.W.Frag) : Prop := obsY0 fa fn ts ex K = valY fn ts w
def hookY (n : Nat) (fa : List He.Fa) (fn : List He.DefD) (ts : List He.Tab) (ex : List (PySem.W.Frag → Bool)) : PySem.W.Hook where
  α := AlY
  obs := fun s => obsY n fa fn ts ex s.heap.get?
  val := fun w => valY fn ts w
  says := fun w h => ∃ K : PySem.W.Frag, K.In h ∧ SaysY fa fn ts ex w K
  of := fun _ _ e => ⟨_, He.frG_in, e⟩
  keeps := fun _ _ _ ⟨K, hK, c⟩ k => ⟨K, PySem.W.Frag.In.keeps hK k, c⟩
theorem obsY_eq {n : Nat} {fa : List He.Fa} {fn : List He.DefD} {ts : List He.Tab} {ex : List (PySem.W.Frag → Bool)} {g : Addr → Option Obj} {s : Shared} (h : ∀ a, g a = s.heap.get? a) : obsY n fa fn ts ex g = (hookY n fa fn ts ex).obs s := by
  have e : g = s.heap.get? := funext h
  rw [e] <;> rfl
section
open HandSHeadRun
variable {E : Option PySem.W.SharedT} {n : Nat} {fa : List He.Fa} {ts : List He.Tab} {ex : List (PySem.W.Frag → Bool)} {w : World}
theorem obs_add {fn fn2 : List He.DefD} {K : PySem.W.Frag} (h1 : obsY0 fa fn ts ex K = valY fn ts w) (h2 : obsY0 [] fn2 [] [] K = valY fn2 [] w) : obsY0 fa (fn ++ fn2) ts ex K = valY (fn ++ fn2) ts w := by
  have a1 : ((fa.all fun f => f.ok K) && fn.all fun d => d.ok K) = true := congrArg (fun z : AlY => z.1.1.1) h1
  have a2 : fn.map (fun d => He.fnW K d.at_) = fn.map He.DefD.val := congrArg (fun z : AlY => z.1.1.2) h1
  have a3 : ts.map (fun t => He.dicW K (t.1 K)) = ts.map fun t => some (He.keysIn w.params t.2) := congrArg (fun z : AlY => z.1.2) h1
  have a4 : (ex.all fun f => f K) = true := congrArg (fun z : AlY => z.2) h1
  have b1 : (([] : List He.Fa).all (fun f => f.ok K) && fn2.all fun d => d.ok K) = true := congrArg (fun z : AlY => z.1.1.1) h2
  have b2 : fn2.map (fun d => He.fnW K d.at_) = fn2.map He.DefD.val := congrArg (fun z : AlY => z.1.1.2) h2
  obtain ⟨c1, c2⟩ := Bool.and_eq_true_iff.mp a1
  have c3 := (Bool.and_eq_true_iff.mp b1).2
  show ((((fa.all fun f => f.ok K) && (fn ++ fn2).all fun d => d.ok K, (fn ++ fn2).map fun d => He.fnW K d.at_), ts.map fun t => He.dicW K (t.1 K)), ex.all fun f => f K) = (((true, (fn ++ fn2).map He.DefD.val), ts.map fun t => some (He.keysIn w.params t.2)), true)
  rw [List.all_append, List.map_append, List.map_append, c1, c2, c3, a2, a3, a4, b2]
  rfl
theorem run_add {fn fn2 : List He.DefD} (h1 : E.map (fun s => obsY n fa fn ts ex (getT s)) = some (valY fn ts w)) (h2 : E.map (fun s => obsY n [] fn2 [] [] (getT s)) = some (valY fn2 [] w)) :
    E.map (fun s => obsY n fa (fn ++ fn2) ts ex (getT s)) = some (valY (fn ++ fn2) ts w) := by
  cases E with
  | none => cases h1
  | some s => exact congrArg some (obs_add (Option.some.inj h1) (Option.some.inj h2))
theorem run_join3 {α β γ : Type} {f : PySem.W.SharedT → α} {g : PySem.W.SharedT → β} {k : PySem.W.SharedT → γ} {a : α} {b : β} {c : γ} (h1 : E.map (fun s => (f s, g s)) = some (a, b)) (h2 : E.map k = some c) : E.map (fun s => (f s, g s, k s)) = some (a, b, c) := by
  cases E with
  | none => cases h1
  | some s =>
    have e := Option.some.inj h1
    have e1 : f s = a := congrArg Prod.fst e
    have e2 : g s = b := congrArg Prod.snd e
    have e3 : k s = c := Option.some.inj h2
    show some (f s, g s, k s) = _
    rw [e1, e2, e3]
end
end HC
namespace Law
open PySem PySem.Spec L2 HC PyProof.Rows
set_option maxHeartbeats 0
def top (i : Nat) : Stmt := PySem.Challenge.pw_lostdisk_k80_shown.main.body.getD i (.Pass ⟨0, 0, 0, 0⟩)
abbrev s_law_pot : Stmt := top 8
abbrev s_law_block_text : Stmt := top 16
abbrev s_law_rows : Stmt := top 17
abbrev s_law_next : Stmt := top 9
abbrev s_law_block : Stmt := top 12
abbrev s_law_disk : Stmt := top 13
abbrev s_law_count : Stmt := top 10
abbrev s_law_head : Stmt := top 11
abbrev s_law_journal : Stmt := top 14
abbrev s_law_store : Stmt := top 15
abbrev s_byte_text : Stmt := top 2
abbrev s_block_text : Stmt := top 3
abbrev s_disk_text : Stmt := top 4
abbrev s_note_text : Stmt := top 5
abbrev s_show_store : Stmt := top 6
abbrev s_law : Stmt := top 18
def faL0 : List He.Fa := [.glo ("law" : Str), .free ("int" : Str), .free ("isinstance" : Str), .free ("len" : Str), .free ("min" : Str), .free ("range" : Str), .free ("str" : Str), .free ("tuple" : Str), .str ("FIGURES" : Str) ("0123456789abcdef" : Str), .glo ("_law_pot" : Str), .glo ("_law_block_text" : Str), .glo ("_law_rows" : Str), .glo ("_law_next" : Str), .glo ("_law_block" : Str), .glo ("_law_disk" : Str), .glo ("_law_count" : Str), .glo ("_law_head" : Str), .glo ("_law_journal" : Str), .glo ("_law_store" : Str), .glo ("byte_text" : Str), .glo ("block_text" : Str), .glo ("disk_text" : Str), .glo ("note_text" : Str), .glo ("show_store" : Str)]
def faL : List He.Fa := faL0
def fnL0 : List He.DefD := [ddF ("_law_pot" : Str) s_law_pot, ddF ("_law_block_text" : Str) s_law_block_text, ddF ("_law_rows" : Str) s_law_rows, ddF ("_law_next" : Str) s_law_next, ddF ("_law_block" : Str) s_law_block, ddF ("_law_disk" : Str) s_law_disk, ddF ("_law_count" : Str) s_law_count, ddF ("_law_head" : Str) s_law_head, ddF ("_law_journal" : Str) s_law_journal, ddF ("_law_store" : Str) s_law_store, ddF ("byte_text" : Str) s_byte_text, ddF ("block_text" : Str) s_block_text, ddF ("disk_text" : Str) s_disk_text, ddF ("note_text" : Str) s_note_text, ddF ("show_store" : Str) s_show_store, ddF ("law" : Str) s_law]
def fnL : List He.DefD := fnL0
def tsL0 : List He.Tab := []
def tsL : List He.Tab := tsL0
def exL0 : List (PySem.W.Frag → Bool) := []
def exL : List (PySem.W.Frag → Bool) := exL0
def nmL0 : List Str := [("FIGURES" : Str), ("byte_text" : Str), ("block_text" : Str), ("disk_text" : Str), ("note_text" : Str), ("show_store" : Str), ("_law_pot" : Str), ("_law_next" : Str), ("_law_count" : Str), ("_law_head" : Str), ("_law_block" : Str), ("_law_disk" : Str), ("_law_journal" : Str), ("_law_store" : Str), ("_law_block_text" : Str), ("_law_rows" : Str)]
def nmL : List Str := nmL0
abbrev RL : PySem.W.OpenRow := PySem.W.OpenLaw.row PySem.Challenge.rw_lostdisk_k80_shown
abbrev hkL : PySem.W.Hook := hookY 2000 faL fnL tsL exL
def obL (s : PySem.W.SharedT) : AlY := obsY 2000 faL fnL tsL exL (HandSHeadRun.getT s)
theorem obL_eq (s : PySem.W.SharedT) : obL s = hkL.obs s.abs := obsY_eq (HandSHeadRun.getT_eq s)
open PySem.W PySem.Calls in
theorem runAU (w : World) (os : OsState) : ((HandSHeadRun.endF (HandSHeadRun.stepQ (HandSHeadRun.denQ HandSHeadRun.tabQ) RL.prog w) 30000 RL.prog w os).map fun s => (HandSHeadRun.looksF RL.prog (boot_heap (World.params w)) s.abs, HandSHeadRun.seenQ (PySem.W.view RL.prog [18]) nmL (importedModules RL.prog.main.body) (fun s => PySem.W.xlAt (PySem.W.view RL.prog [18]) [] s && PySem.W.recOk RL.toRowW.records s) s.abs)) = some (true, PySem.W.openGood (PySem.W.view RL.prog [18]) nmL) := by
  kernel_rfl
theorem runBU (w : World) (os : OsState) : ((HandSHeadRun.endF (HandSHeadRun.stepQ (HandSHeadRun.denQ HandSHeadRun.tabQ) RL.prog w) 30000 RL.prog w os).map fun s => obsY 2000 faL [] tsL exL (HandSHeadRun.getT s)) = some (valY [] tsL w) := by
  kernel_rfl
theorem run0U (w : World) (os : OsState) : ((HandSHeadRun.endF (HandSHeadRun.stepQ (HandSHeadRun.denQ HandSHeadRun.tabQ) RL.prog w) 30000 RL.prog w os).map fun s => obsY 2000 [] fnL0 [] [] (HandSHeadRun.getT s)) = some (valY fnL0 [] w) := by
  kernel_rfl
theorem runJU (w : World) (os : OsState) : ((HandSHeadRun.endF (HandSHeadRun.stepQ (HandSHeadRun.denQ HandSHeadRun.tabQ) RL.prog w) 30000 RL.prog w os).map fun s => obL s) = some (valY fnL tsL w) := by
  have h := (run_add (runBU w os) (run0U w os))
  exact h
open PySem.W PySem.Calls in
theorem runKU (w : World) (os : OsState) : ((HandSHeadRun.endF (HandSHeadRun.stepQ (HandSHeadRun.denQ HandSHeadRun.tabQ) RL.prog w) 30000 RL.prog w os).map fun s => (HandSHeadRun.looksF RL.prog (boot_heap (World.params w)) s.abs, HandSHeadRun.seenQ (PySem.W.view RL.prog [18]) nmL (importedModules RL.prog.main.body) (fun s => PySem.W.xlAt (PySem.W.view RL.prog [18]) [] s && PySem.W.recOk RL.toRowW.records s) s.abs, obL s)) = some (true, PySem.W.openGood (PySem.W.view RL.prog [18]) nmL, valY fnL tsL w) := run_join3 (runAU w os) (runJU w os)
theorem runU (w : World) : HandSHeadRun.RunEq RL (PySem.W.view RL.prog [18]) hkL obL 30000 nmL w := fun os => runKU w os
theorem run (w : World) : HandSHeadRun.RunEq RL (PySem.W.view RL.prog [18]) hkL obL 30000 nmL w := runU w
end Law
set_option maxHeartbeats 4000000
namespace HC
open PySem L2
inductive Dv where
  | non | bl (b : Bool) | int (i : Int) | str (x : Str) | ref (a : Addr) | ty (n : String)
  | tup (xs : List Dv)
  | rol (xs : List Dv)
  | tuc (xs : List Dv)
  | exc (c : Str) (f : Option Int)
inductive Cell where
  | lst (xs : List Dv)
  | dic (kvs : List (Key × Dv))
  | dit (kvs : List (List Key × Dv))
  | fdc (kvs : List (Key × Dv))
  | obj (C : Addr) (fs : List (Str × Dv))
  | tab (x : Str)
  | cod (q : Str)
abbrev Ms := Addr → Option Cell
def mup (M : Ms) (a : Addr) (c : Cell) : Ms := fun b => if b = a then some c else M b
theorem mup_same {M : Ms} {a : Addr} {c : Cell} : mup M a c a = some c := if_pos rfl
theorem mup_ne {M : Ms} {a b : Addr} {c : Cell} (h : b ≠ a) : mup M a c b = M b := if_neg h
theorem mup_mup {M : Ms} {a : Addr} {c d : Cell} : mup (mup M a c) a d = mup M a d := by
  funext b; unfold mup; split <;> rfl
theorem mup_self {M : Ms} {a : Addr} {c : Cell} (h : M a = some c) : mup M a c = M := by
  funext b; unfold mup; split
  · subst b; exact h.symm
  · rfl
theorem ne_of_new {M : Ms} {a p : Addr} {c : Cell} (h : M a = some c) (h' : M p = none) : a ≠ p := by
  intro e; subst e; rw [h] at h'; cases h'
def SqF (K : PySem.W.Frag) (H : Hp) (a : Addr) (xs : List V) : Prop := (∃ o, H a = some (.frz o (.lst xs))) ∨ SqL K (fun _ => none) a xs
theorem SqF.l {K : PySem.W.Frag} {H : Hp} {a : Addr} {xs : List V} (h : SqF K H a xs) : SqL K H a xs := by
  rcases h with ⟨o, h⟩ | h
  · exact .inl (.inr ⟨o, h⟩)
  · rcases h with (h | ⟨_, h⟩) | h
    · cases h
    · cases h
    · exact .inr h
def SqC (H : Hp) (a : Addr) (xs : List V) : Prop := ∃ o : Obj, H a = some (.frz o (.tup xs)) ∧ o.dict = none
theorem SqC.t {K : PySem.W.Frag} {H : Hp} {a : Addr} {xs : List V} (h : SqC H a xs) : SqT K H a xs := by
  obtain ⟨o, h, _⟩ := h
  exact .inl (.inr ⟨o, h⟩)
def SqX (K : PySem.W.Frag) (H : Hp) (a : Addr) (c : Str) (f : Option Int) : Prop := ∃ (C : Addr) (oe : Obj) (u : HO), PySem.W.nsIn K mainGlobals c = some (some (.ref C)) ∧ H a = some (.frz oe u) ∧ oe.cls = .ref C ∧ (∃ vs, oe.data = .fields vs) ∧
  match f with
  | none => oe.dict = none
  | some r => ∃ dx od, oe.dict = some dx ∧ H dx = some (.frz od (.xd [(("row" : Str), .int r)]))
mutual
def Rep (K : PySem.W.Frag) (H : Hp) : Dv → V → Prop
  | .non, v => v = .non
  | .bl b, v => v = .bl b
  | .int i, v => v = .int i
  | .str x, v => v = .str x
  | .ref a, v => v = .ref a
  | .ty n, v => v = .ty n
  | .tup ds, v => ∃ a vs, v = .ref a ∧ SqT K H a vs ∧ Reps K H ds vs
  | .rol ds, v => ∃ a vs, v = .ref a ∧ SqF K H a vs ∧ Reps K H ds vs
  | .tuc ds, v => ∃ a vs, v = .ref a ∧ SqC H a vs ∧ Reps K H ds vs
  | .exc c f, v => ∃ a, v = .ref a ∧ SqX K H a c f
def Reps (K : PySem.W.Frag) (H : Hp) : List Dv → List V → Prop
  | [], vs => vs = []
  | d :: ds, vs => ∃ v r, vs = v :: r ∧ Rep K H d v ∧ Reps K H ds r
end
structure Tp (K : PySem.W.Frag) (H H' : Hp) : Prop where
  t : ∀ a vs, SqT K H a vs → SqT K H' a vs
  f : ∀ a vs, SqF K H a vs → SqF K H' a vs
  c : ∀ a vs, SqC H a vs → SqC H' a vs
  d : ∀ a o u, H a = some (.frz o u) → H' a = some (.frz o u)
theorem Tp.refl {K : PySem.W.Frag} (H : Hp) : Tp K H H := ⟨fun _ _ h => h, fun _ _ h => h, fun _ _ h => h, fun _ _ _ h => h⟩
theorem Tp.trans {K : PySem.W.Frag} {H H1 H2 : Hp} (a : Tp K H H1) (b : Tp K H1 H2) : Tp K H H2 := ⟨fun x vs h => b.t x vs (a.t x vs h), fun x vs h => b.f x vs (a.f x vs h), fun x vs h => b.c x vs (a.c x vs h), fun x o u h => b.d x o u (a.d x o u h)⟩
def Soft : Option HO → Prop
  | none => True
  | some (.lst _) => True
  | some (.dK _) => True
  | some (.dT _) => True
  | some (.ins _ _ _) => True
  | _ => False
theorem Tp.put {K : PySem.W.Frag} {H : Hp} {a : Addr} {o : HO} (h : Soft (H a)) : Tp K H (upd H a o) := by
  refine ⟨fun b vs q => ?_, fun b vs q => ?_, fun b vs ⟨ob, q, hd⟩ => ⟨ob, (upd_ne (fun e => by subst e; rw [q] at h; exact h)).trans q, hd⟩, fun b o u q => (upd_ne (fun e => by subst e; rw [q] at h; exact h)).trans q⟩
  · rcases q with (q | ⟨ob, q⟩) | q
    · refine .inl (.inl ?_)
      rw [upd_ne]
      · exact q
      · intro e; subst e; rw [q] at h; exact h
    · refine .inl (.inr ⟨ob, ?_⟩)
      rw [upd_ne]
      · exact q
      · intro e; subst e; rw [q] at h; exact h
    · exact .inr q
  · rcases q with ⟨ob, q⟩ | q
    · refine .inl ⟨ob, ?_⟩
      rw [upd_ne]
      · exact q
      · intro e; subst e; rw [q] at h; exact h
    · exact .inr q
theorem SqX.mono {K : PySem.W.Frag} {H H' : Hp} {a : Addr} {c : Str} {f : Option Int} (h : SqX K H a c f) (t : Tp K H H') : SqX K H' a c f := by
  obtain ⟨C, oe, u, h1, h2, h3, h4, h5⟩ := h
  refine ⟨C, oe, u, h1, t.d _ _ _ h2, h3, h4, ?_⟩
  cases f with
  | none => exact h5
  | some r =>
    obtain ⟨dx, od, e, q⟩ := h5
    exact ⟨dx, od, e, t.d _ _ _ q⟩
section
variable {K : PySem.W.Frag} {H H' : Hp}
mutual
theorem Rep.mono (t : Tp K H H') : ∀ {d : Dv} {v : V}, Rep K H d v → Rep K H' d v
  | .non, _, h => by simpa only [Rep] using h
  | .bl _, _, h => by simpa only [Rep] using h
  | .int _, _, h => by simpa only [Rep] using h
  | .str _, _, h => by simpa only [Rep] using h
  | .ref _, _, h => by simpa only [Rep] using h
  | .ty _, _, h => by simpa only [Rep] using h
  | .tup ds, _, h => by
    simp only [Rep] at h ⊢
    obtain ⟨a, vs, e, q, r⟩ := h
    exact ⟨a, vs, e, t.t _ _ q, Reps.mono t r⟩
  | .rol ds, _, h => by
    simp only [Rep] at h ⊢
    obtain ⟨a, vs, e, q, r⟩ := h
    exact ⟨a, vs, e, t.f _ _ q, Reps.mono t r⟩
  | .tuc ds, _, h => by
    simp only [Rep] at h ⊢
    obtain ⟨a, vs, e, q, r⟩ := h
    exact ⟨a, vs, e, t.c _ _ q, Reps.mono t r⟩
  | .exc c f, _, h => by
    simp only [Rep] at h ⊢
    obtain ⟨a, e, q⟩ := h
    exact ⟨a, e, q.mono t⟩
theorem Reps.mono (t : Tp K H H') : ∀ {ds : List Dv} {vs : List V}, Reps K H ds vs → Reps K H' ds vs
  | [], _, h => by simpa only [Reps] using h
  | d :: ds, _, h => by
    simp only [Reps] at h ⊢
    obtain ⟨v, r, e, q, z⟩ := h
    exact ⟨v, r, e, Rep.mono t q, Reps.mono t z⟩
end
theorem Reps.nil : Reps K H [] [] := by simp only [Reps]
theorem Reps.cons {d : Dv} {v : V} {ds : List Dv} {vs : List V} (h : Rep K H d v) (r : Reps K H ds vs) : Reps K H (d :: ds) (v :: vs) := by
  simp only [Reps]
  exact ⟨v, vs, rfl, h, r⟩
theorem Reps.cons_inv {d : Dv} {ds : List Dv} {vs : List V} (h : Reps K H (d :: ds) vs) : ∃ v r, vs = v :: r ∧ Rep K H d v ∧ Reps K H ds r := by
  simpa only [Reps] using h
theorem Reps.nil_inv {vs : List V} (h : Reps K H [] vs) : vs = [] := by simpa only [Reps] using h
theorem Reps.length : ∀ {ds : List Dv} {vs : List V}, Reps K H ds vs → ds.length = vs.length
  | [], _, h => by rw [h.nil_inv]; rfl
  | d :: ds, _, h => by
    obtain ⟨v, r, rfl, _, z⟩ := h.cons_inv
    simp [Reps.length z]
theorem Reps.append : ∀ {ds es : List Dv} {vs ws : List V}, Reps K H ds vs → Reps K H es ws → Reps K H (ds ++ es) (vs ++ ws)
  | [], _, _, _, h, h' => by rw [h.nil_inv]; exact h'
  | d :: ds, _, _, _, h, h' => by
    obtain ⟨v, r, rfl, q, z⟩ := h.cons_inv
    exact Reps.cons q (Reps.append z h')
theorem Reps.get : ∀ {ds : List Dv} {vs : List V} {i : Nat} {d : Dv}, Reps K H ds vs → ds[i]? = some d → ∃ v, vs[i]? = some v ∧ Rep K H d v
  | [], _, _, _, _, e => by simp at e
  | d :: ds, _, 0, x, h, e => by
    obtain ⟨v, r, rfl, q, z⟩ := h.cons_inv
    simp at e; subst e
    exact ⟨v, rfl, q⟩
  | d :: ds, _, i + 1, x, h, e => by
    obtain ⟨v, r, rfl, q, z⟩ := h.cons_inv
    obtain ⟨w, h1, h2⟩ := Reps.get (i := i) z (by simpa using e)
    exact ⟨w, by simpa using h1, h2⟩
theorem Reps.take : ∀ {ds : List Dv} {vs : List V} (n : Nat), Reps K H ds vs → Reps K H (ds.take n) (vs.take n)
  | _, _, 0, _ => by simpa using Reps.nil
  | [], _, n + 1, h => by rw [h.nil_inv]; simpa using Reps.nil
  | d :: ds, _, n + 1, h => by
    obtain ⟨v, r, rfl, q, z⟩ := h.cons_inv
    simpa using Reps.cons q (Reps.take n z)
theorem Reps.drop : ∀ {ds : List Dv} {vs : List V} (n : Nat), Reps K H ds vs → Reps K H (ds.drop n) (vs.drop n)
  | _, _, 0, h => by simpa using h
  | [], _, n + 1, h => by rw [h.nil_inv]; simpa using Reps.nil
  | d :: ds, _, n + 1, h => by
    obtain ⟨v, r, rfl, q, z⟩ := h.cons_inv
    simpa using Reps.drop n z
theorem Reps.set : ∀ {ds : List Dv} {vs : List V} {d : Dv} {v : V} (i : Nat), Reps K H ds vs → Rep K H d v → Reps K H (ds.set i d) (vs.set i v)
  | [], _, _, _, _, h, _ => by rw [h.nil_inv]; simpa using Reps.nil
  | d :: ds, _, _, _, 0, h, q' => by
    obtain ⟨v, r, rfl, q, z⟩ := h.cons_inv
    simpa using Reps.cons q' z
  | d :: ds, _, _, _, i + 1, h, q' => by
    obtain ⟨v, r, rfl, q, z⟩ := h.cons_inv
    simpa using Reps.cons q (Reps.set i z q')
theorem Reps.eraseIdx : ∀ {ds : List Dv} {vs : List V} (i : Nat), Reps K H ds vs → Reps K H (ds.eraseIdx i) (vs.eraseIdx i)
  | [], _, _, h => by rw [h.nil_inv]; simpa using Reps.nil
  | d :: ds, _, 0, h => by
    obtain ⟨v, r, rfl, q, z⟩ := h.cons_inv
    simpa using z
  | d :: ds, _, i + 1, h => by
    obtain ⟨v, r, rfl, q, z⟩ := h.cons_inv
    simpa using Reps.cons q (Reps.eraseIdx i z)
theorem Reps.rev {ds : List Dv} {vs : List V} (h : Reps K H ds vs) : Reps K H ds.reverse vs.reverse := by
  induction ds generalizing vs with
  | nil => rw [h.nil_inv]; simpa using Reps.nil
  | cons d ds ih =>
    obtain ⟨v, r, rfl, q, z⟩ := h.cons_inv
    simpa using Reps.append (ih z) (Reps.cons q Reps.nil)
theorem Reps.of_ints : ∀ (ns : List Int), Reps K H (ns.map Dv.int) (ns.map V.int)
  | [] => by simpa using Reps.nil
  | n :: ns => Reps.cons (by simp only [Rep]) (Reps.of_ints ns)
theorem Reps.replicate {d : Dv} {v : V} (h : Rep K H d v) : ∀ (n : Nat), Reps K H (List.replicate n d) (List.replicate n v)
  | 0 => Reps.nil
  | n + 1 => Reps.cons h (Reps.replicate h n)
end
def lamQ (x : Str) : Str := x ++ ".<locals>." ++ "<lambda>"
def lamP (K : PySem.W.Frag) (x : Str) : Addr := (He.cT K (x, none)).2
def RepC (K : PySem.W.Frag) (H : Hp) (a : Addr) : Cell → Prop
  | .tab x => a = lamP K x ∧ LamX.TabS H a (lamQ x)
  | .cod q => H a = some (LamX.CodeO a q)
  | .lst ds => ∃ vs, H a = some (.lst vs) ∧ Reps K H ds vs
  | .dic kds => ∃ kvs, H a = some (.dK kvs) ∧ Paired (fun (p : Key × Dv) (q : Key × V) => p.1 = q.1 ∧ Rep K H p.2 q.2) kds kvs
  | .dit kds => ∃ kvs, H a = some (.dT kvs) ∧ Paired (fun (p : List Key × Dv) (q : List Key × V) => p.1 = q.1 ∧ Rep K H p.2 q.2) kds kvs
  | .fdc kds => ∃ kvs o, H a = some (.frz o (.dK kvs)) ∧ Paired (fun (p : Key × Dv) (q : Key × V) => p.1 = q.1 ∧ Rep K H p.2 q.2) kds kvs
  | .obj C fs => ∃ dx vs, H a = some (.ins C dx vs) ∧ Paired (fun (p : Str × Dv) (q : Str × V) => p.1 = q.1 ∧ Rep K H p.2 q.2) fs vs
def Cell.sf : Cell → Bool
  | .fdc _ => false
  | .tab _ => false
  | .cod _ => false
  | _ => true
def View (K : PySem.W.Frag) (M : Ms) (H : Hp) : Prop := ∀ a c, M a = some c → RepC K H a c
def Sub (M M' : Ms) : Prop := ∀ a c, M a = some c → M' a = some c
theorem Sub.refl (M : Ms) : Sub M M := fun _ _ h => h
theorem Sub.trans {M M1 M2 : Ms} (a : Sub M M1) (b : Sub M1 M2) : Sub M M2 := fun x c h => b x c (a x c h)
theorem Sub.new {M : Ms} {p : Addr} {c : Cell} (h : M p = none) : Sub M (mup M p c) := fun b d e => by
  rw [mup_ne (ne_of_new e h)]; exact e
theorem Sub.free {M M' : Ms} (s : Sub M M') {p : Addr} (h : M' p = none) : M p = none := by
  cases q : M p with
  | none => rfl
  | some c => rw [s p c q] at h; cases h
theorem Sub.both {M M' : Ms} {p : Addr} {c : Cell} (s : Sub M M') : Sub (mup M p c) (mup M' p c) := fun b d e => by
  by_cases h : b = p
  · subst h; rw [mup_same] at e ⊢; exact e
  · rw [mup_ne h] at e ⊢; exact s b d e
section
variable {K : PySem.W.Frag} {M M' : Ms} {H H' : Hp} {a : Addr}
theorem View.sub (v : View K M' H) (s : Sub M M') : View K M H := fun a c e => v a c (s a c e)
theorem RepC.ne {c : Cell} (h : RepC K H a c) : H a ≠ none := by
  cases c with
  | lst ds => obtain ⟨vs, e, _⟩ := h; rw [e]; exact fun q => nomatch q
  | dic ds => obtain ⟨vs, e, _⟩ := h; rw [e]; exact fun q => nomatch q
  | dit ds => obtain ⟨vs, e, _⟩ := h; rw [e]; exact fun q => nomatch q
  | fdc ds => obtain ⟨vs, o, e, _⟩ := h; rw [e]; exact fun q => nomatch q
  | obj C ds => obtain ⟨dx, vs, e, _⟩ := h; rw [e]; exact fun q => nomatch q
  | tab x => obtain ⟨_, ps, e, _⟩ := h; rw [e]; exact fun q => nomatch q
  | cod q => have h : H a = some (LamX.CodeO a q) := h; rw [h]; exact fun q => nomatch q
theorem View.free (v : View K M H) (h : H a = none) : M a = none := by
  cases q : M a with
  | none => rfl
  | some c => exact ((v a c q).ne h).elim
theorem View.soft (v : View K M H) {c : Cell} (h : M a = some c) (hs : c.sf = true := by rfl) : Soft (H a) := by
  have r := v a c h
  cases c with
  | lst ds => obtain ⟨vs, e, _⟩ := r; rw [e]; trivial
  | dic ds => obtain ⟨vs, e, _⟩ := r; rw [e]; trivial
  | dit ds => obtain ⟨vs, e, _⟩ := r; rw [e]; trivial
  | fdc ds => cases hs
  | obj C ds => obtain ⟨dx, vs, e, _⟩ := r; rw [e]; trivial
  | tab xs => cases hs
  | cod q => cases hs
def TpE (H H' : Hp) : Prop := ∀ b o, H b = some o → ((∃ ps, o = .tbl ps) ∨ ∃ φ, o = .ext φ) → H' b = some o
theorem TpE.tab {H H' : Hp} (x : TpE H H') {P : Addr} {q : Str} (t : LamX.TabS H P q) : LamX.TabS H' P q := by
  obtain ⟨ps, h1, h2, h3⟩ := t
  refine ⟨ps, x _ _ h1 (.inl ⟨_, rfl⟩), h2, fun pos cv hc => ?_⟩
  obtain ⟨c, e1, e2⟩ := h3 pos cv hc
  exact ⟨c, e1, x _ _ e2 (.inr ⟨_, rfl⟩)⟩
theorem TpE.soft {H : Hp} {a : Addr} {o : HO} (hs : Soft (H a)) : TpE H (upd H a o) := fun b u q hu => (upd_ne (fun z => by
  subst z
  rw [q] at hs
  rcases hu with ⟨_, rfl⟩ | ⟨_, rfl⟩ <;> exact hs)).trans q
theorem RepC.keep {c : Cell} (r : RepC K H a c) (t : Tp K H H') (e : H' a = H a) (x : TpE H H') : RepC K H' a c := by
  cases c with
  | tab y => exact ⟨r.1, x.tab r.2⟩
  | cod q => exact e.trans r
  | lst ds =>
    obtain ⟨vs, h, q⟩ := r
    exact ⟨vs, e.trans h, q.mono t⟩
  | dic ds =>
    obtain ⟨vs, h, q⟩ := r
    exact ⟨vs, e.trans h, Paired.mapP q fun _ _ z => ⟨z.1, z.2.mono t⟩⟩
  | dit ds =>
    obtain ⟨vs, h, q⟩ := r
    exact ⟨vs, e.trans h, Paired.mapP q fun _ _ z => ⟨z.1, z.2.mono t⟩⟩
  | fdc ds =>
    obtain ⟨vs, o, h, q⟩ := r
    exact ⟨vs, o, e.trans h, Paired.mapP q fun _ _ z => ⟨z.1, z.2.mono t⟩⟩
  | obj C ds =>
    obtain ⟨dx, vs, h, q⟩ := r
    exact ⟨dx, vs, e.trans h, Paired.mapP q fun _ _ z => ⟨z.1, z.2.mono t⟩⟩
theorem View.put {o : HO} {c : Cell} (v : View K M H) (hs : Soft (H a)) (r : RepC K (upd H a o) a c) : View K (mup M a c) (upd H a o) := fun b d e => by
  by_cases h : b = a
  · subst h; rw [mup_same] at e; cases e; exact r
  · rw [mup_ne h] at e
    exact (v b d e).keep (Tp.put hs) (upd_ne h) (TpE.soft hs)
theorem View.new {o : HO} (v : View K M H) (h : H a = none) : View K M (upd H a o) := fun b d e => by
  refine (v b d e).keep (Tp.put (by rw [h]; trivial)) (upd_ne ?_) (TpE.soft (by rw [h]; trivial))
  intro z; subst z; exact (v b d e).ne h
theorem Tp.new {o : HO} (h : H a = none) : Tp K H (upd H a o) := Tp.put (by rw [h]; trivial)
end
abbrev Env' := List (Option Dv)
structure RepE (K : PySem.W.Frag) (H : Hp) (ρ : Env') (σ : L2.St) : Prop where
  len : ρ.length = σ.length
  at' : ∀ (i : Nat) (d : Dv), ρ[i]? = some (some d) → ∃ v, σ[i]? = some (some v) ∧ Rep K H d v
section
variable {K : PySem.W.Frag} {H H' : Hp} {ρ : Env'} {σ : L2.St}
theorem RepE.mono (r : RepE K H ρ σ) (t : Tp K H H') : RepE K H' ρ σ := ⟨r.len, fun i d e => let ⟨v, h, q⟩ := r.at' i d e; ⟨v, h, q.mono t⟩⟩
theorem RepE.set {d : Dv} {v : V} (r : RepE K H ρ σ) (i : Nat) (q : Rep K H d v) : RepE K H (ρ.set i (some d)) (σ.set i (some v)) := by
  refine ⟨by simp [r.len], fun j e h => ?_⟩
  by_cases hj : i = j
  · subst hj
    have hl : i < ρ.length := by
      have := (List.getElem?_eq_some_iff.mp h).1
      simpa using this
    rw [List.getElem?_set_self hl] at h
    cases h
    exact ⟨v, List.getElem?_set_self (by rw [← r.len]; exact hl), q⟩
  · rw [List.getElem?_set_ne hj] at h
    obtain ⟨w, h1, h2⟩ := r.at' j e h
    exact ⟨w, by rw [List.getElem?_set_ne hj]; exact h1, h2⟩
theorem RepE.drop (r : RepE K H ρ σ) (i : Nat) (x : Option V) : RepE K H (ρ.set i none) (σ.set i x) := by
  refine ⟨by simp [r.len], fun j e h => ?_⟩
  by_cases hj : i = j
  · subst hj
    have hl : i < ρ.length := by
      have := (List.getElem?_eq_some_iff.mp h).1
      simpa using this
    rw [List.getElem?_set_self hl] at h
    cases h
  · rw [List.getElem?_set_ne hj] at h
    obtain ⟨w, h1, h2⟩ := r.at' j e h
    exact ⟨w, by rw [List.getElem?_set_ne hj]; exact h1, h2⟩
def wipeA (ρ : Env') : List Nat → Env'
  | [] => ρ
  | v :: vs => (wipeA ρ vs).set v none
theorem RepE.wipe (r : RepE K H ρ σ) : ∀ (vs : List Nat), RepE K H (wipeA ρ vs) (wipe σ vs)
  | [] => r
  | v :: vs => (RepE.wipe r vs).drop v none
end
def SubE : Env' → Env' → Prop
  | [], [] => True
  | none :: r, _ :: r' => SubE r r'
  | some d :: r, y :: r' => y = some d ∧ SubE r r'
  | _, _ => False
theorem SubE.refl : ∀ (ρ : Env'), SubE ρ ρ
  | [] => True.intro
  | none :: r => SubE.refl r
  | some d :: r => ⟨rfl, SubE.refl r⟩
theorem SubE.rep {K : PySem.W.Frag} {H : Hp} : ∀ {ρ ρ' : Env'} {σ : L2.St}, SubE ρ ρ' → RepE K H ρ' σ → RepE K H ρ σ := fun {ρ ρ' σ} h r => by
  have len : ∀ {ρ ρ' : Env'}, SubE ρ ρ' → ρ.length = ρ'.length := by
    intro ρ
    induction ρ with
    | nil => intro ρ' h; cases ρ' with
      | nil => rfl
      | cons _ _ => exact h.elim
    | cons x r ih => intro ρ' h; cases ρ' with
      | nil => cases x <;> exact h.elim
      | cons y r' =>
        cases x with
        | none => simp [ih (show SubE r r' from h)]
        | some d => simp [ih (show SubE r r' from h.2)]
  have get : ∀ {ρ ρ' : Env'}, SubE ρ ρ' → ∀ (i : Nat) (d : Dv), ρ[i]? = some (some d) → ρ'[i]? = some (some d) := by
    intro ρ
    induction ρ with
    | nil => intro ρ' h i d e; simp at e
    | cons x r ih => intro ρ' h i d e; cases ρ' with
      | nil => cases x <;> exact h.elim
      | cons y r' =>
        cases x with
        | none =>
          cases i with
          | zero => simp at e
          | succ i => simpa using ih (show SubE r r' from h) i d (by simpa using e)
        | some f =>
          cases i with
          | zero => simp at e; subst e; simp [h.1]
          | succ i => simpa using ih (show SubE r r' from h.2) i d (by simpa using e)
  exact ⟨(len h).trans r.len, fun i d e => r.at' i d (get h i d e)⟩
def startA (n : Nat) (ds : List Dv) : Env' := ds.map some ++ List.replicate (n - ds.length) none
theorem repE_start {K : PySem.W.Frag} {H : Hp} {N : List Str} {ds : List Dv} {vs : List V} (h : Reps K H ds vs) : RepE K H (startA N.length ds) (L2.start N vs) := by
  have hl := h.length
  refine ⟨by simp [startA, L2.start, hl], fun i d e => ?_⟩
  unfold startA at e
  unfold L2.start
  by_cases hi : i < ds.length
  · rw [List.getElem?_append_left (by simpa using hi), List.getElem?_map] at e
    cases q : ds[i]? with
    | none => rw [q] at e; cases e
    | some d' =>
      rw [q] at e; cases e
      obtain ⟨v, h1, h2⟩ := h.get q
      refine ⟨v, ?_, h2⟩
      rw [List.getElem?_append_left (by simpa [← hl] using hi), List.getElem?_map, h1]; rfl
  · rw [List.getElem?_append_right (by simpa using hi), List.getElem?_replicate] at e
    split at e <;> cases e
abbrev DK := Dv → Ms → Prop
abbrev RE := Env' → Ms → DK → Prop
abbrev RT := Env' → Ms → (Bool → Ms → Prop) → Prop
abbrev RA := Env' → Ms → (List Dv → Ms → Prop) → Prop
structure Ends' where
  nx : Env' → Ms → Prop
  rt : DK
  bk : Env' → Ms → Prop := fun _ _ => False
  ct : Env' → Ms → Prop := fun _ _ => False
abbrev RS := Ends' → Env' → Ms → Prop
def wk (N : Env' → Ms → Prop) : Env' → Ms → Prop := fun ρ M => ∃ ρ' M', SubE ρ' ρ ∧ Sub M' M ∧ N ρ' M'
def wkM (N : Ms → Prop) : Ms → Prop := fun M => ∃ M', Sub M' M ∧ N M'
def onS {α : Type} (o : Option α) (Q : α → Prop) : Prop := match o with | some a => Q a | none => False
theorem onS_ex {α : Type} {o : Option α} {Q : α → Prop} (h : onS o Q) : ∃ a, o = some a ∧ Q a := by
  cases o with
  | none => exact h.elim
  | some a => exact ⟨a, rfl, h⟩
theorem onS_of {α : Type} {o : Option α} {Q : α → Prop} {a : α} (e : o = some a) (h : Q a) : onS o Q := by subst e; exact h
def onIf (b : Bool) (A B : Prop) : Prop := match b with | true => A | false => B
theorem onIf_dec {c A B : Prop} {inst : Decidable c} (h1 : c → A) (h2 : ¬ c → B) : onIf (@decide c inst) A B := by
  by_cases h : c
  · rw [show @decide c inst = true from decide_eq_true h]; exact h1 h
  · rw [show @decide c inst = false from decide_eq_false h]; exact h2 h
theorem onIf_ndec {c A B : Prop} {inst : Decidable c} (h1 : ¬ c → A) (h2 : c → B) : onIf (!@decide c inst) A B := by
  by_cases h : c
  · rw [show @decide c inst = true from decide_eq_true h]; exact h2 h
  · rw [show @decide c inst = false from decide_eq_false h]; exact h1 h
def onB (d : Dv) (Q : Bool → Prop) : Prop := match d with | .bl b => Q b | _ => False
theorem onB_ex {d : Dv} {Q : Bool → Prop} (h : onB d Q) : ∃ b, d = .bl b ∧ Q b := by
  cases d <;> first | exact h.elim | exact ⟨_, rfl, h⟩
def onI (d : Dv) (Q : Int → Prop) : Prop := match d with | .int b => Q b | _ => False
theorem onI_ex {d : Dv} {Q : Int → Prop} (h : onI d Q) : ∃ b, d = .int b ∧ Q b := by
  cases d <;> first | exact h.elim | exact ⟨_, rfl, h⟩
def onI2 (d f : Dv) (Q : Int → Int → Prop) : Prop := match d, f with | .int a, .int b => Q a b | _, _ => False
theorem onI2_ex {d f : Dv} {Q : Int → Int → Prop} (h : onI2 d f Q) : ∃ a b, d = .int a ∧ f = .int b ∧ Q a b := by
  cases d <;> first | exact h.elim | skip
  cases f <;> first | exact h.elim | exact ⟨_, _, rfl, rfl, h⟩
def LkV (K : PySem.W.Frag) (H : Hp) (Q : DK) (Q' : VK) : Prop := ∀ v H' d M', Tp K H H' → Rep K H' d v → View K M' H' → Q d M' → Q' v H'
def LkB (K : PySem.W.Frag) (H : Hp) (Q : Bool → Ms → Prop) (Q' : Bool → Hp → Prop) : Prop := ∀ b H' M', Tp K H H' → View K M' H' → Q b M' → Q' b H'
def LkA (K : PySem.W.Frag) (H : Hp) (Q : List Dv → Ms → Prop) (Q' : List V → Hp → Prop) : Prop := ∀ vs H' ds M', Tp K H H' → Reps K H' ds vs → View K M' H' → Q ds M' → Q' vs H'
def LkS (K : PySem.W.Frag) (H : Hp) (Q : Env' → Ms → Prop) (Q' : L2.St → Hp → Prop) : Prop := ∀ σ H' ρ M', Tp K H H' → RepE K H' ρ σ → View K M' H' → Q ρ M' → Q' σ H'
structure LkD (K : PySem.W.Frag) (H : Hp) (D : Ends') (D' : Ends) : Prop where
  nx : LkS K H D.nx D'.nx
  rt : LkV K H D.rt D'.rt
  bk : LkS K H D.bk D'.bk
  ct : LkS K H D.ct D'.ct
section
variable {K : PySem.W.Frag} {H H1 : Hp}
theorem LkV.up {Q : DK} {Q' : VK} (l : LkV K H Q Q') (t : Tp K H H1) : LkV K H1 Q Q' := fun v H' d M' t' => l v H' d M' (t.trans t')
theorem LkB.up {Q : Bool → Ms → Prop} {Q' : Bool → Hp → Prop} (l : LkB K H Q Q') (t : Tp K H H1) : LkB K H1 Q Q' := fun v H' M' t' => l v H' M' (t.trans t')
theorem LkA.up {Q : List Dv → Ms → Prop} {Q' : List V → Hp → Prop} (l : LkA K H Q Q') (t : Tp K H H1) : LkA K H1 Q Q' := fun v H' d M' t' => l v H' d M' (t.trans t')
theorem LkS.up {Q : Env' → Ms → Prop} {Q' : L2.St → Hp → Prop} (l : LkS K H Q Q') (t : Tp K H H1) : LkS K H1 Q Q' := fun v H' d M' t' => l v H' d M' (t.trans t')
theorem LkD.up {D : Ends'} {D' : Ends} (l : LkD K H D D') (t : Tp K H H1) : LkD K H1 D D' := ⟨l.nx.up t, l.rt.up t, l.bk.up t, l.ct.up t⟩
end
def cE (K : PySem.W.Frag) (t : RE) : TE := fun σ H Q' => ∃ ρ M Q, RepE K H ρ σ ∧ View K M H ∧ t ρ M Q ∧ LkV K H Q Q'
def cT (K : PySem.W.Frag) (t : RT) : TT := fun σ H Q' => ∃ ρ M Q, RepE K H ρ σ ∧ View K M H ∧ t ρ M Q ∧ LkB K H Q Q'
def cA (K : PySem.W.Frag) (t : RA) : TA := fun σ H Q' => ∃ ρ M Q, RepE K H ρ σ ∧ View K M H ∧ t ρ M Q ∧ LkA K H Q Q'
def cS (K : PySem.W.Frag) (t : RS) : TS := fun D' σ H => ∃ ρ M D, RepE K H ρ σ ∧ View K M H ∧ t D ρ M ∧ LkD K H D D'
def AE (X : Cx) (e : Expr) (t : RE) : Prop := PE X e (cE X.K t)
def AT (X : Cx) (e : Expr) (t : RT) : Prop := PT X e (cT X.K t)
def AW (X : Cx) (e : Expr) (t : RT) : Prop := PW X e (cT X.K t)
def AA (X : Cx) (es : List Expr) (t : RA) : Prop := PA X es (cA X.K t)
def AS (X : Cx) (st : Stmt) (t : RS) : Prop := PS X st (cS X.K t)
def ASs (X : Cx) (sts : List Stmt) (t : RS) : Prop := PSs X sts (cS X.K t)
theorem pe_imp {X : Cx} {e : Expr} {t t' : TE} (h : PE X e t) (f : ∀ σ H Q, t' σ H Q → t σ H Q) : PE X e t' := ⟨fun pins s σ H Q I q => h.run pins s σ H Q I (f _ _ _ q)⟩
theorem pt_imp {X : Cx} {e : Expr} {t t' : TT} (h : PT X e t) (f : ∀ σ H Q, t' σ H Q → t σ H Q) : PT X e t' := ⟨fun pins s σ H Q I q => h.run pins s σ H Q I (f _ _ _ q)⟩
theorem pw_imp {X : Cx} {e : Expr} {t t' : TT} (h : PW X e t) (f : ∀ σ H Q, t' σ H Q → t σ H Q) : PW X e t' := ⟨fun wh pins s σ H Q I q => h.run wh pins s σ H Q I (f _ _ _ q)⟩
theorem pa_imp {X : Cx} {e : List Expr} {t t' : TA} (h : PA X e t) (f : ∀ σ H Q, t' σ H Q → t σ H Q) : PA X e t' := ⟨fun pos pins s σ H Q I q => h.run pos pins s σ H Q I (f _ _ _ q)⟩
theorem ps_imp {X : Cx} {e : Stmt} {t t' : TS} (h : PS X e t) (f : ∀ D σ H, t' D σ H → t D σ H) : PS X e t' := ⟨fun pins s σ H D I q => h.run pins s σ H D I (f _ _ _ q)⟩
theorem pss_imp {X : Cx} {e : List Stmt} {t t' : TS} (h : PSs X e t) (f : ∀ D σ H, t' D σ H → t D σ H) : PSs X e t' := ⟨fun pins s σ H D I q => h.run pins s σ H D I (f _ _ _ q)⟩
section
variable {X : Cx} {a b c e : Expr} {ta tb tc te : RE} {pos : Pos}
def aC (d : Dv) : RE := fun _ M Q => Q d M
def aVar (i : Nat) : RE := fun ρ M Q => onS ρ[i]? fun o => onS o fun d => Q d M
theorem ae_c {d : Dv} {v : V} (h : PE X e (tC v)) (r : ∀ H, Rep X.K H d v) : AE X e (aC d) := pe_imp h fun σ H Q ⟨ρ, M, Q1, _, hv, q, k⟩ => k v H d M (Tp.refl H) (r H) hv q
theorem ae_int {i j pos} : AE X (.Constant (.int i) j pos) (aC (.int i)) := ae_c pe_int fun _ => by simp only [Rep]
theorem ae_bl {b j pos} : AE X (.Constant (.bool b) j pos) (aC (.bl b)) := ae_c pe_bl fun _ => by simp only [Rep]
theorem ae_non {j pos} : AE X (.Constant .none j pos) (aC .non) := ae_c pe_non fun _ => by simp only [Rep]
theorem ae_str {x j pos} : AE X (.Constant (.str x) j pos) (aC (.str x)) := ae_c pe_str fun _ => by simp only [Rep]
theorem av (i : Nat) {x : Str} (hN : X.N[i]? = some x := by rfl) (hv : Vis X.env.scope x := by first | exact Or.inl rfl | exact Or.inr (Or.inl rfl) | exact Or.inr (Or.inr rfl)) (hd : (x == ("__debug__" : Str)) = false := by decide)
    (hcd : (x == ("__classdict__" : Str)) = false := by decide) : AE X (.Name x pos) (aVar i) :=
  pe_imp (pe_var hN hv hd hcd) fun σ H Q ⟨ρ, M, Q1, hr, hv, q, k⟩ => by
    obtain ⟨o, e, q⟩ := onS_ex q
    obtain ⟨d, e', q⟩ := onS_ex q
    subst e'
    obtain ⟨v, h1, h2⟩ := hr.at' i d e
    exact ⟨v, h1, k v H d M (Tp.refl H) h2 hv q⟩
theorem ae_gty {x : Str} {n : String} (hg : Gl X x) (hm : X.mg x = none) (hv : bootBuiltins x = some (.type n)) (hn : x ≠ "__name__" := by decide) (hd : (x == ("__debug__" : Str)) = false := by decide) : AE X (.Name x pos) (aC (.ty n)) :=
  ae_c (pe_bltn hg hm hv (v := .ty n) rfl hn hd) fun _ => by simp only [Rep]
theorem seqE {K : PySem.W.Frag} {ρ : Env'} {σ : L2.St} {M : Ms} {H : Hp} {t : RE} {Q : DK} {Q' : VK} (hr : RepE K H ρ σ) (hv : View K M H) (h : t ρ M Q) (k : LkV K H Q Q') : cE K t σ H Q' := ⟨ρ, M, Q, hr, hv, h, k⟩
abbrev AR2 := Dv → Dv → Ms → DK → Prop
def Ab2 (K : PySem.W.Frag) (r : R2) (ar : AR2) : Prop := ∀ H M x y dx dy Q Q', Rep K H dx x → Rep K H dy y → View K M H → ar dx dy M Q → LkV K H Q Q' → r x y H Q'
def aOp (ar : AR2) (ta tb : RE) : RE := fun ρ M Q => ta ρ M fun x M1 => tb ρ M1 fun y M2 => ar x y M2 Q
theorem aop_imp {K : PySem.W.Frag} {r : R2} {ar : AR2} (h : Ab2 K r ar) : ∀ σ H Q, cE K (aOp ar ta tb) σ H Q → tOp r (cE K ta) (cE K tb) σ H Q := fun σ H Q' ⟨ρ, M, Q, hr, hv, q, k⟩ =>
  seqE hr hv q fun v H1 d M1 t1 r1 v1 q1 => seqE (hr.mono t1) v1 q1 fun v2 H2 d2 M2 t2 r2 v2' q2 => h H2 M2 v v2 d d2 Q Q' (r1.mono t2) r2 v2' q2 (k.up (t1.trans t2))
theorem ae_op {op : Operator} {r : R2} {ar : AR2} (ho : OpR X (binaryOp op) r) (h : Ab2 X.K r ar) (ha : AE X a ta) (hb : AE X b tb) : AE X (.BinOp a op b pos) (aOp ar ta tb) := pe_imp (pe_op ho ha hb) (aop_imp h)
theorem ae_cmp {op : CmpOp} {r : R2} {ar : AR2} (ho : OpR X (compareOp op) r) (h : Ab2 X.K r ar) (ha : AE X a ta) (hb : AE X b tb) (hm : behindInMarks op b = false) : AE X (.Compare a [op] [b] pos) (aOp ar ta tb) := pe_imp (pe_cmpR ho ha hb hm) (aop_imp h)
def aB (t : RE) : RT := fun ρ M Q => t ρ M fun d M1 => onB d fun b => Q b M1
theorem at_cmp {op : CmpOp} {r : R2} {ar : AR2} (ho : OpR X (compareOp op) r) (h : Ab2 X.K r ar) (ha : AE X a ta) (hb : AE X b tb) (hm : behindInMarks op b = false) : AT X (.Compare a [op] [b] pos) (aB (aOp ar ta tb)) :=
  pt_imp (pt_cmpR ho ha hb hm) fun σ H Q' h' => by
    obtain ⟨ρ, M, Q, hr, hv, q, k⟩ := h'
    exact aop_imp h σ H _ ⟨ρ, M, _, hr, hv, q, fun v H1 d M1 t1 r1 v1 q1 => by
      obtain ⟨b, e, q1⟩ := onB_ex q1
      exact ⟨b, by subst e; simpa only [Rep] using r1, k b H1 M1 t1 v1 q1⟩⟩
def truA : Dv → Ms → Option Bool
  | .non, _ => some false
  | .bl b, _ => some b
  | .int i, _ => some (i != 0)
  | .tup xs, _ => some (!xs.isEmpty)
  | .rol xs, _ => some (!xs.isEmpty)
  | .ref a, M => match M a with | some (.lst xs) => some (!xs.isEmpty) | some (.dic xs) => some (!xs.isEmpty) | _ => none
  | _, _ => none
def aTru (t : RE) : RT := fun ρ M Q => t ρ M fun d M1 => onS (truA d M1) fun b => Q b M1
theorem Reps.isEmpty {K : PySem.W.Frag} {H : Hp} {ds : List Dv} {vs : List V} (h : Reps K H ds vs) : vs.isEmpty = ds.isEmpty := by
  have := h.length
  cases ds <;> cases vs <;> simp at this ⊢
theorem paired_isEmpty {α β : Type} {R : α → β → Prop} {l : List α} {m : List β} (h : Paired R l m) : m.isEmpty = l.isEmpty := by
  cases h <;> rfl
theorem truA_ok {K : PySem.W.Frag} {M : Ms} {H : Hp} {d : Dv} {v : V} {b : Bool} (r : Rep K H d v) (hv : View K M H) (h : truA d M = some b) : TruV K v H b := by
  cases d with
  | non => simp only [Rep] at r; subst r; simp only [truA, Option.some.injEq] at h; exact h.symm
  | bl k => simp only [Rep] at r; subst r; simp only [truA, Option.some.injEq] at h; exact h.symm
  | int i => simp only [Rep] at r; subst r; simp only [truA, Option.some.injEq] at h; exact h.symm
  | str i => simp [truA] at h
  | ty i => simp [truA] at h
  | tuc i => simp [truA] at h
  | exc i j => simp [truA] at h
  | tup ds =>
    simp only [Rep] at r
    obtain ⟨a, vs, rfl, q, z⟩ := r
    simp only [truA, Option.some.injEq] at h
    exact .inr (.inl ⟨vs, q, by rw [z.isEmpty]; exact h.symm⟩)
  | rol ds =>
    simp only [Rep] at r
    obtain ⟨a, vs, rfl, q, z⟩ := r
    simp only [truA, Option.some.injEq] at h
    exact .inl ⟨vs, q.l, by rw [z.isEmpty]; exact h.symm⟩
  | ref a =>
    simp only [Rep] at r; subst r
    simp only [truA] at h
    cases e : M a with
    | none => rw [e] at h; cases h
    | some c =>
      rw [e] at h
      cases c with
      | lst xs =>
        obtain ⟨vs, h1, h2⟩ := hv a _ e
        simp only [Option.some.injEq] at h
        exact .inl ⟨vs, .inl (.inl h1), by rw [h2.isEmpty]; exact h.symm⟩
      | dic xs =>
        obtain ⟨vs, h1, h2⟩ := hv a _ e
        simp only [Option.some.injEq] at h
        exact .inr (.inr ⟨vs, h1, by rw [paired_isEmpty h2]; exact h.symm⟩)
      | dit xs => cases h
      | fdc xs => cases h
      | obj C xs => cases h
      | tab xs => cases h
      | cod q => cases h
theorem at_tru (h : AE X e te) (he : ∀ whole, isTrue e X.env whole = (do let v ← whole; standAt e.pos; holding [v] (truthy v)) := by intro _; rfl) : AT X e (aTru te) :=
  pt_imp (pt_truth h he) fun σ H Q' ⟨ρ, M, Q, hr, hv, q, k⟩ => seqE hr hv q fun v H1 d M1 t1 r1 v1 q1 => by
    obtain ⟨b, e, q1⟩ := onS_ex q1
    exact ⟨b, truA_ok r1 v1 e, k b H1 M1 t1 v1 q1⟩
def aAnd (t u : RT) : RT := fun ρ M Q => t ρ M fun b M1 => onIf b (u ρ M1 Q) (Q false M1)
def aOr (t u : RT) : RT := fun ρ M Q => t ρ M fun b M1 => onIf b (Q true M1) (u ρ M1 Q)
def aNot (t : RT) : RT := fun ρ M Q => t ρ M fun b M1 => Q (!b) M1
theorem seqT {K : PySem.W.Frag} {ρ : Env'} {σ : L2.St} {M : Ms} {H : Hp} {t : RT} {Q : Bool → Ms → Prop} {Q' : Bool → Hp → Prop} (hr : RepE K H ρ σ) (hv : View K M H) (h : t ρ M Q) (k : LkB K H Q Q') : cT K t σ H Q' := ⟨ρ, M, Q, hr, hv, h, k⟩
variable {tA tBb : RT} {rest : List Expr}
theorem AW.pt (h : AW X e tA) : AT X e tA := PW.pt h
theorem aw_and1 (ha : AT X a tA) : AW X (.BoolOp .And [a] pos) tA := pw_and1 ha
theorem aw_or1 (ha : AT X a tA) : AW X (.BoolOp .Or [a] pos) tA := pw_or1 ha
theorem aw_and (ha : AT X a tA) (hb : AW X (.BoolOp .And (b :: rest) pos) tBb) : AW X (.BoolOp .And (a :: b :: rest) pos) (aAnd tA tBb) :=
  pw_imp (pw_and ha hb) fun σ H Q' ⟨ρ, M, Q, hr, hv, q, k⟩ => seqT hr hv q fun b H1 M1 t1 v1 q1 => by
    cases b with
    | true => exact seqT (hr.mono t1) v1 q1 (k.up t1)
    | false => exact k _ _ _ t1 v1 q1
theorem aw_or (ha : AT X a tA) (hb : AW X (.BoolOp .Or (b :: rest) pos) tBb) : AW X (.BoolOp .Or (a :: b :: rest) pos) (aOr tA tBb) :=
  pw_imp (pw_or ha hb) fun σ H Q' ⟨ρ, M, Q, hr, hv, q, k⟩ => seqT hr hv q fun b H1 M1 t1 v1 q1 => by
    cases b with
    | false => exact seqT (hr.mono t1) v1 q1 (k.up t1)
    | true => exact k _ _ _ t1 v1 q1
theorem at_not (ha : AT X a tA) : AT X (.UnaryOp .Not a pos) (aNot tA) :=
  pt_imp (pt_not ha) fun σ H Q' ⟨ρ, M, Q, hr, hv, q, k⟩ => seqT hr hv q fun b H1 M1 t1 v1 q1 => k _ _ _ t1 v1 q1
def aAndV (t u : RE) : RE := fun ρ M Q => t ρ M fun x M1 => onB x fun b => onIf b (u ρ M1 Q) (Q (.bl false) M1)
theorem rep_bl {K : PySem.W.Frag} {H : Hp} {b : Bool} : Rep K H (.bl b) (.bl b) := by simp only [Rep]
theorem rep_int {K : PySem.W.Frag} {H : Hp} {i : Int} : Rep K H (.int i) (.int i) := by simp only [Rep]
theorem rep_str {K : PySem.W.Frag} {H : Hp} {i : Str} : Rep K H (.str i) (.str i) := by simp only [Rep]
theorem rep_non {K : PySem.W.Frag} {H : Hp} : Rep K H .non .non := by simp only [Rep]
theorem rep_ref {K : PySem.W.Frag} {H : Hp} {a : Addr} : Rep K H (.ref a) (.ref a) := by simp only [Rep]
theorem rep_tup {K : PySem.W.Frag} {H : Hp} {a : Addr} {vs : List V} {ds : List Dv} (h : SqT K H a vs) (r : Reps K H ds vs) : Rep K H (.tup ds) (.ref a) := by
  simp only [Rep]; exact ⟨a, vs, rfl, h, r⟩
theorem ae_and1 (ha : AE X a ta) : AE X (.BoolOp .And [a] pos) ta := pe_one ha
theorem ae_and (ha : AE X a ta) (hb : AE X (.BoolOp .And (b :: rest) pos) tb) : AE X (.BoolOp .And (a :: b :: rest) pos) (aAndV ta tb) :=
  pe_imp (pe_and ha hb) fun σ H Q' ⟨ρ, M, Q, hr, hv, q, k⟩ => seqE hr hv q fun v H1 d M1 t1 r1 v1 q1 => by
    obtain ⟨b, e, q1⟩ := onB_ex q1
    subst e
    refine ⟨b, by simpa only [Rep] using r1, ?_⟩
    cases b with
    | true => exact seqE (hr.mono t1) v1 q1 (k.up t1)
    | false => exact k _ _ _ _ t1 rep_bl v1 q1
end
section
variable {X : Cx}
def arI (C : Int → Int → Prop) (g : Int → Int → Dv) : AR2 := fun x y M Q => onI2 x y fun i j => C i j ∧ Q (g i j) M
def arI0 (g : Int → Int → Dv) : AR2 := fun x y M Q => onI2 x y fun i j => Q (g i j) M
theorem ab_I {K : PySem.W.Frag} {C : Int → Int → Prop} {g : Int → Int → Int} : Ab2 K (rI C fun i j => .int (g i j)) (arI C fun i j => .int (g i j)) := fun H M x y dx dy Q Q' rx ry hv q0 k => by
  obtain ⟨i, j, e1, e2, hc, q⟩ := onI2_ex q0
  subst e1 e2
  exact ⟨i, j, by simpa only [Rep] using rx, by simpa only [Rep] using ry, hc, k _ _ _ _ (Tp.refl H) rep_int hv q⟩
theorem ab_I0 {K : PySem.W.Frag} {g : Int → Int → Int} : Ab2 K (rI0 fun i j => .int (g i j)) (arI0 fun i j => .int (g i j)) := fun H M x y dx dy Q Q' rx ry hv q0 k => by
  obtain ⟨i, j, e1, e2, q⟩ := onI2_ex q0
  subst e1 e2
  exact ⟨i, j, by simpa only [Rep] using rx, by simpa only [Rep] using ry, k _ _ _ _ (Tp.refl H) rep_int hv q⟩
theorem ab_B0 {K : PySem.W.Frag} {g : Int → Int → Bool} : Ab2 K (rI0 fun i j => .bl (g i j)) (arI0 fun i j => .bl (g i j)) := fun H M x y dx dy Q Q' rx ry hv q0 k => by
  obtain ⟨i, j, e1, e2, q⟩ := onI2_ex q0
  subst e1 e2
  exact ⟨i, j, by simpa only [Rep] using rx, by simpa only [Rep] using ry, k _ _ _ _ (Tp.refl H) rep_bl hv q⟩
variable {a b : Expr} {ta tb : RE} {pos : Pos}
theorem div_wide {i j : Int} (h : 0 < j ∧ j < 1000000000000000000000000) : CDivW i j := by
  refine wide_div (b := 90) h.1 ?_ (by decide) (by decide)
  have e : (2 : Nat) ^ 90 = 1237940039285380274899124224 := by decide
  rw [e]
  omega
theorem ab_div {K : PySem.W.Frag} : Ab2 K (rI CDivW fun i j => .int (i / j)) (arI (fun _ j => 0 < j ∧ j < 1000000000000000000000000) fun i j => .int (i / j)) := fun H M x y dx dy Q Q' rx ry hv q0 k => by
  obtain ⟨i, j, e1, e2, hc, q⟩ := onI2_ex q0
  subst e1 e2
  exact ⟨i, j, by simpa only [Rep] using rx, by simpa only [Rep] using ry, div_wide hc, k _ _ _ _ (Tp.refl H) rep_int hv q⟩
def aSub := arI0 fun i j => .int (i - j)
def aMod := arI (fun _ j => 0 < j) fun i j => .int (i % j)
def aDiv := arI (fun _ j => 0 < j ∧ j < 1000000000000000000000000) fun i j => .int (i / j)
def aPow := arI CPow fun i j => .int (i ^ j.toNat)
def aLt := arI0 fun i j => .bl (decide (i < j))
def aGt := arI0 fun i j => .bl (decide (j < i))
def aGe := arI0 fun i j => .bl (decide (j ≤ i))
theorem ae_sub (ha : AE X a ta) (hb : AE X b tb) : AE X (.BinOp a .Sub b pos) (aOp aSub ta tb) := ae_op op_sub ab_I0 ha hb
theorem ae_mod (ha : AE X a ta) (hb : AE X b tb) : AE X (.BinOp a .Mod b pos) (aOp aMod ta tb) := ae_op op_mod ab_I ha hb
theorem ae_div (ha : AE X a ta) (hb : AE X b tb) : AE X (.BinOp a .FloorDiv b pos) (aOp aDiv ta tb) := ae_op op_fdivW ab_div ha hb
theorem ae_pow (ha : AE X a ta) (hb : AE X b tb) : AE X (.BinOp a .Pow b pos) (aOp aPow ta tb) := ae_op op_pow ab_I ha hb
theorem ae_lt (ha : AE X a ta) (hb : AE X b tb) : AE X (.Compare a [.Lt] [b] pos) (aOp aLt ta tb) := ae_cmp op_lt ab_B0 ha hb (nomark _)
theorem at_gt (ha : AE X a ta) (hb : AE X b tb) : AT X (.Compare a [.Gt] [b] pos) (aB (aOp aGt ta tb)) := at_cmp op_gt ab_B0 ha hb (nomark _)
theorem at_ge (ha : AE X a ta) (hb : AE X b tb) : AT X (.Compare a [.GtE] [b] pos) (aB (aOp aGe ta tb)) := at_cmp op_ge ab_B0 ha hb (nomark _)
end
end HC
set_option maxHeartbeats 4000000
namespace HC
open PySem L2 PyProof.Rows
section
variable {X : Cx} {e : Expr} {es : List Expr} {te : RE} {t : RA} {pos : Pos}
def aNil : RA := fun _ M Q => Q [] M
def aCons (te : RE) (t : RA) : RA := fun ρ M Q => te ρ M fun d M1 => t ρ M1 fun ds M2 => Q (d :: ds) M2
theorem seqA {K : PySem.W.Frag} {ρ : Env'} {σ : L2.St} {M : Ms} {H : Hp} {t : RA} {Q : List Dv → Ms → Prop} {Q' : List V → Hp → Prop} (hr : RepE K H ρ σ) (hv : View K M H) (h : t ρ M Q) (k : LkA K H Q Q') : cA K t σ H Q' := ⟨ρ, M, Q, hr, hv, h, k⟩
theorem aa_nil : AA X [] aNil := pa_imp pa_nil fun σ H Q' ⟨ρ, M, Q, hr, hv, q, k⟩ => k [] H [] M (Tp.refl H) Reps.nil hv q
theorem aa_cons (ha : AE X e te) (hr : AA X es t) (hs : starEach (e :: es) X.env = (false, eval e X.env) :: starEach es X.env := by rfl) : AA X (e :: es) (aCons te t) :=
  pa_imp (pa_cons ha hr hs) fun σ H Q' ⟨ρ, M, Q, hr, hv, q, k⟩ => seqE hr hv q fun v H1 d M1 t1 r1 v1 q1 => seqA (hr.mono t1) v1 q1 fun vs H2 ds M2 t2 r2 v2 q2 => k (v :: vs) H2 (d :: ds) M2 (t1.trans t2) (Reps.cons (r1.mono t2) r2) v2 q2
def aTup (t : RA) : RE := fun ρ M Q => t ρ M fun ds M1 => ds.length ≤ sizeLine ∧ Q (.tup ds) M1
def aLst (t : RA) : RE := fun ρ M Q => t ρ M fun ds M1 => ds.length ≤ sizeLine ∧ ∀ p, M1 p = none → Q (.ref p) (mup M1 p (.lst ds))
theorem end_tup {K : PySem.W.Frag} {H : Hp} {M : Ms} {vs : List V} {ds : List Dv} {Q : DK} {Q' : VK} (r : Reps K H ds vs) (hv : View K M H) (q : Q (.tup ds) M) (k : LkV K H Q Q') : ∀ p, H p = none → Q' (.ref p) (upd H p (.tup vs)) := fun p hp =>
  k _ _ (.tup ds) M (Tp.new hp) (rep_tup (.inl (.inl upd_same)) (r.mono (Tp.new hp))) (hv.new hp) q
theorem end_lst {K : PySem.W.Frag} {H : Hp} {M : Ms} {vs : List V} {ds : List Dv} {Q : DK} {Q' : VK} (r : Reps K H ds vs) (hv : View K M H) (q : ∀ p, M p = none → Q (.ref p) (mup M p (.lst ds))) (k : LkV K H Q Q') : ∀ p, H p = none → Q' (.ref p) (upd H p (.lst vs)) := fun p hp =>
  k _ _ (.ref p) _ (Tp.new hp) rep_ref (hv.put (c := .lst ds) (by rw [hp]; trivial) ⟨vs, upd_same, r.mono (Tp.new hp)⟩) (q p (hv.free hp))
theorem ae_tup {x1} (h : AA X es t) : AE X (.Tuple es x1 pos) (aTup t) := pe_imp (pe_tup h) fun σ H Q' ⟨ρ, M, Q, hr, hv, q, k⟩ => seqA hr hv q fun vs H1 ds M1 t1 r1 v1 ⟨z, q1⟩ =>
  ⟨by rw [← r1.length]; exact z, end_tup r1 v1 q1 (k.up t1)⟩
theorem ae_lst (h : AA X es t) : AE X (.List es pos) (aLst t) := pe_imp (pe_lst h) fun σ H Q' ⟨ρ, M, Q, hr, hv, q, k⟩ => seqA hr hv q fun vs H1 ds M1 t1 r1 v1 ⟨z, q1⟩ =>
  ⟨by rw [← r1.length]; exact z, end_lst r1 v1 q1 (k.up t1)⟩
end
section
variable {X : Cx}
theorem opr_or {f : Value → Value → Sem Value} {r r' : R2} (h : OpR X f r) (h' : OpR X f r') : OpR X f (fun x y H Q => r x y H Q ∨ r' x y H Q) := by
  intro pins s σ H x y v u Q I rx ry q
  rcases q with q | q
  · exact h pins s σ H x y v u Q I rx ry q
  · exact h' pins s σ H x y v u Q I rx ry q
theorem rep_int_inv {K : PySem.W.Frag} {H : Hp} {i : Int} {v : V} (h : Rep K H (.int i) v) : v = .int i := by simpa only [Rep] using h
theorem rep_bl_inv {K : PySem.W.Frag} {H : Hp} {i : Bool} {v : V} (h : Rep K H (.bl i) v) : v = .bl i := by simpa only [Rep] using h
theorem rep_str_inv {K : PySem.W.Frag} {H : Hp} {i : Str} {v : V} (h : Rep K H (.str i) v) : v = .str i := by simpa only [Rep] using h
theorem rep_non_inv {K : PySem.W.Frag} {H : Hp} {v : V} (h : Rep K H .non v) : v = .non := by simpa only [Rep] using h
theorem rep_ref_inv {K : PySem.W.Frag} {H : Hp} {a : Addr} {v : V} (h : Rep K H (.ref a) v) : v = .ref a := by simpa only [Rep] using h
theorem rep_ty_inv {K : PySem.W.Frag} {H : Hp} {a : String} {v : V} (h : Rep K H (.ty a) v) : v = .ty a := by simpa only [Rep] using h
theorem rep_tup_inv {K : PySem.W.Frag} {H : Hp} {ds : List Dv} {v : V} (h : Rep K H (.tup ds) v) : ∃ a vs, v = .ref a ∧ SqT K H a vs ∧ Reps K H ds vs := by simpa only [Rep] using h
theorem rep_rol_inv {K : PySem.W.Frag} {H : Hp} {ds : List Dv} {v : V} (h : Rep K H (.rol ds) v) : ∃ a vs, v = .ref a ∧ SqF K H a vs ∧ Reps K H ds vs := by simpa only [Rep] using h
theorem view_lst {K : PySem.W.Frag} {M : Ms} {H : Hp} {a : Addr} {ds : List Dv} (hv : View K M H) (h : M a = some (.lst ds)) : ∃ vs, H a = some (.lst vs) ∧ Reps K H ds vs := hv a _ h
theorem rep_tuc_inv {K : PySem.W.Frag} {H : Hp} {ds : List Dv} {v : V} (h : Rep K H (.tuc ds) v) : ∃ a vs, v = .ref a ∧ SqC H a vs ∧ Reps K H ds vs := by simpa only [Rep] using h
theorem rep_exc_inv {K : PySem.W.Frag} {H : Hp} {c : Str} {f : Option Int} {v : V} (h : Rep K H (.exc c f) v) : ∃ a, v = .ref a ∧ SqX K H a c f := by simpa only [Rep] using h
def aAdd : AR2 := fun x y M Q => match x, y with
  | .int i, .int j => Q (.int (i + j)) M
  | .int i, .bl k => Q (.int (i + b2i k)) M
  | .str a, .str b => a.length + b.length ≤ sizeLine ∧ Q (.str (a ++ b)) M
  | .tup a, .tup b => a.length + b.length ≤ sizeLine ∧ Q (.tup (a ++ b)) M
  | .ref a, .ref b => ∃ xs ys, M a = some (.lst xs) ∧ M b = some (.lst ys) ∧ xs.length + ys.length ≤ sizeLine ∧ ∀ p, M p = none → Q (.ref p) (mup M p (.lst (xs ++ ys)))
  | _, _ => False
def rAddH (K : PySem.W.Frag) : R2 := fun x y H Q => (rI0 (fun i j => .int (i + j)) x y H Q ∨ (∃ i k, x = .int i ∧ y = .bl k ∧ Q (.int (i + b2i k)) H)) ∨ ((∃ i j, x = .str i ∧ y = .str j ∧ i.length + j.length ≤ sizeLine ∧ Q (.str (i ++ j)) H) ∨ (rCatA K x y H Q ∨ rCat x y H Q))
theorem op_addH : OpR X (binaryOp .Add) (rAddH X.K) := opr_or (opr_or op_add op_add_ib) (opr_or op_add_str (opr_or op_catA op_cat))
theorem ab_add {K : PySem.W.Frag} : Ab2 K (rAddH K) aAdd := by
  intro H M x y dx dy Q Q' rx ry hv q k
  cases dx <;> cases dy <;> first | exact q.elim | skip
  case int.int i j => exact .inl (.inl ⟨i, j, rep_int_inv rx, rep_int_inv ry, k _ _ _ _ (Tp.refl H) rep_int hv q⟩)
  case int.bl i j => exact .inl (.inr ⟨i, j, rep_int_inv rx, rep_bl_inv ry, k _ _ _ _ (Tp.refl H) rep_int hv q⟩)
  case str.str i j => exact .inr (.inl ⟨i, j, rep_str_inv rx, rep_str_inv ry, q.1, k _ _ _ _ (Tp.refl H) rep_str hv q.2⟩)
  case tup.tup ds es =>
    obtain ⟨a, vs, e1, s1, r1⟩ := rep_tup_inv rx
    obtain ⟨b, ws, e2, s2, r2⟩ := rep_tup_inv ry
    have l1 := r1.length
    have l2 := r2.length
    obtain ⟨z, q⟩ := q
    refine .inr (.inr (.inl ⟨a, b, vs, ws, e1, e2, s1, s2, by omega, fun h => ?_, fun _ h => ?_, fun _ _ => end_tup (r1.append r2) hv q k⟩))
    · subst h
      have : ds = [] := List.length_eq_zero_iff.mp l1
      subst this
      exact k _ _ _ _ (Tp.refl H) (rep_tup s2 r2) hv q
    · subst h
      have : es = [] := List.length_eq_zero_iff.mp l2
      subst this
      rw [List.append_nil] at q
      exact k _ _ _ _ (Tp.refl H) (rep_tup s1 r1) hv q
  case ref.ref a b =>
    obtain ⟨xs, ys, h1, h2, z, q⟩ := q
    obtain ⟨vs, e1, r1⟩ := view_lst hv h1
    obtain ⟨ws, e2, r2⟩ := view_lst hv h2
    have l1 := r1.length
    have l2 := r2.length
    exact .inr (.inr (.inr ⟨a, b, vs, ws, rep_ref_inv rx, rep_ref_inv ry, e1, e2, by omega, end_lst (r1.append r2) hv q k⟩))
variable {a b : Expr} {ta tb : RE} {pos : Pos}
theorem ae_add (ha : AE X a ta) (hb : AE X b tb) : AE X (.BinOp a .Add b pos) (aOp aAdd ta tb) := ae_op op_addH ab_add ha hb
theorem Reps.flat {K : PySem.W.Frag} {H : Hp} {ds : List Dv} {vs : List V} (h : Reps K H ds vs) : ∀ (n : Nat), Reps K H (List.replicate n ds).flatten (List.replicate n vs).flatten
  | 0 => Reps.nil
  | n + 1 => by
    rw [List.replicate_succ, List.replicate_succ, List.flatten_cons, List.flatten_cons]
    exact h.append (Reps.flat h n)
def aMul : AR2 := fun x y M Q => match x, y with
  | .int i, .int j => (CMul i j ∨ CMulW i j) ∧ Q (.int (i * j)) M
  | .ref a, .int k => ∃ xs, M a = some (.lst xs) ∧ k < 2 ^ 63 ∧ -(2 ^ 63) ≤ k ∧ xs.length * k.toNat ≤ sizeLine ∧ ∀ p, M p = none → Q (.ref p) (mup M p (.lst (List.replicate k.toNat xs).flatten))
  | .tup xs, .int k => xs ≠ [] ∧ -1000 ≤ k ∧ k ≤ 1000 ∧ xs.length ≤ 1000 ∧ Q (.tup (List.replicate k.toNat xs).flatten) M
  | _, _ => False
def rRepT1 (K : PySem.W.Frag) : R2 := fun x y H Q => ∃ l xs, x = .ref l ∧ y = .int 1 ∧ SqT K H l xs ∧ Q (.ref l) H
open PyProof.Rows in
theorem tuple_mulW1 (l : Addr) (items : Array Value) (n : Nat) (dd : Option Addr) (sl : Array (Option Value)) (u : Tok) :
    Meets (Builtin.«tuple.__mul__» ⟨[.ref l, .int 1 u], []⟩) (fun _ R s => s.heap.get? l = some { cls := .type "tuple", dict := dd, data := .seq items n, slots := sl } ∧
      R (.ok (.ret (Value.ref l))) s) :=
  .of_wp fun prog w A R s h => by
    obtain ⟨hp, g, d, tk, os⟩ := s
    obtain ⟨hl, h⟩ := h
    have f1 := AutoSeq1.idx_int
    have c1 : (items.isEmpty || (1 : Int) == 1) = true := by simp
    wp_walk using wpAny_loadPart' hl
    repeat (first
      | (refine wpAny_ite_false (decide_eq_false (by decide)) ?_; wp_walk using wpAny_loadPart' hl)
      | (refine wpAny_ite_true (decide_eq_true c1) ?_; wp_walk using wpAny_loadPart' hl))
    all_goals first | exact ⟨_, rfl, h⟩ | trace_state
theorem op_repT1 : OpR X (binaryOp .Mult) (rRepT1 X.K) := by
  intro pins s σ H x y v u Q I rx ry h
  obtain ⟨l, xs, rfl, rfl, hT, q⟩ := h
  cases rx
  obtain ⟨t, rfl⟩ := ry
  obtain ⟨its, r, ⟨⟨cls, dd, data, sl⟩, ho, hc, n, hd⟩, hs⟩ := I.tuple hT
  simp only at hc hd
  subst hc hd
  exact wpAny_binaryOp_repeat_ref (T := "tuple") (U := "int") (by decide) ⟨_, ho, rfl⟩ (fun s' => typeIs_int s' 1 t) noFill_tuple_mul F.fills_int_mul F.slot_int_rmul repeat_tuple F.slot_int_index.lookup
    (call_meets F.slot_int_rmul (typeIs_int s 1 t) F.entry_int_rmul (F.args_int_rmul_2 _ _) (int_rmul_tuple 1 t l its.toArray n dd sl)
      ⟨ho, rfl, ⟨_, ho, rfl⟩, call_meets F.slot_tuple_mul ⟨_, ho, rfl⟩ F.entry_tuple_mul (F.args_tuple_mul_2 _ _) (tuple_mulW1 l its.toArray n dd sl t) ⟨ho, ⟨.ref l, H, I, rfl, q⟩⟩⟩)
open PyProof.Rows in
theorem tuple_mulW0 (l : Addr) (items : Array Value) (n : Nat) (dd : Option Addr) (sl : Array (Option Value)) (x : Int) (u : Tok) (b0 : (decide (x < -(2 ^ 63)) || decide (x ≥ 2 ^ 63)) = false) (b1 : (items.isEmpty || x == 1) = false) (b2 : (decide (x ≤ 0) || items.isEmpty) = true) :
    Meets (Builtin.«tuple.__mul__» ⟨[.ref l, .int x u], []⟩) (fun _ R s => s.heap.get? l = some { cls := .type "tuple", dict := dd, data := .seq items n, slots := sl } ∧
      R (.ok (.ret (Value.ref s.heap.objs.size))) { s with heap := s.heap.push { cls := Value.type "tuple", data := Data.seq #[] }, toks := s.toks }) :=
  .of_wp fun prog w A R s h => by
    obtain ⟨hp, g, d, tk, os⟩ := s
    obtain ⟨hl, h⟩ := h
    have f1 := AutoSeq1.idx_int
    wp_walk using wpAny_loadPart' hl
    repeat (first
      | (refine wpAny_ite_false (decide_eq_false (ne_true_of_eq_false b0)) ?_; wp_walk using wpAny_loadPart' hl)
      | (refine wpAny_ite_false (decide_eq_false (ne_true_of_eq_false b1)) ?_; wp_walk using wpAny_loadPart' hl)
      | (refine wpAny_ite_true (decide_eq_true b2) ?_; wp_walk using wpAny_loadPart' hl))
    all_goals exact ⟨_, rfl, h⟩
def rRepT0 (K : PySem.W.Frag) : R2 := fun x y H Q => ∃ l k xs, x = .ref l ∧ y = .int k ∧ SqT K H l xs ∧ xs ≠ [] ∧ -1000 ≤ k ∧ k ≤ 0 ∧ ∀ p, H p = none → Q (.ref p) (upd H p (.tup []))
theorem op_repT0 : OpR X (binaryOp .Mult) (rRepT0 X.K) := by
  intro pins s σ H x y v u Q I rx ry h
  obtain ⟨l, k, xs, rfl, rfl, hT, hne, h1, h2, q⟩ := h
  cases rx
  obtain ⟨t, rfl⟩ := ry
  obtain ⟨its, r, ⟨⟨cls, dd, data, sl⟩, ho, hc, n, hd⟩, hs⟩ := I.tuple hT
  simp only at hc hd
  subst hc hd
  have he : its ≠ [] := by
    rintro rfl
    exact hne (List.eq_nil_of_length_eq_zero r.length)
  have hi : its.toArray.isEmpty = false := by
    cases its with
    | nil => exact absurd rfl he
    | cons a b => rfl
  have b0 : (decide (k < -(2 ^ 63)) || decide (k ≥ 2 ^ 63)) = false := by
    simp only [Bool.or_eq_false_iff, decide_eq_false_iff_not]
    omega
  have b1 : (its.toArray.isEmpty || k == 1) = false := by
    simp only [hi, Bool.false_or, beq_eq_false_iff_ne]
    omega
  have b2 : (decide (k ≤ 0) || its.toArray.isEmpty) = true := by simp [h2]
  refine wpAny_binaryOp_repeat_ref (T := "tuple") (U := "int") (by decide) ⟨_, ho, rfl⟩ (fun s' => typeIs_int s' k t) noFill_tuple_mul F.fills_int_mul F.slot_int_rmul repeat_tuple F.slot_int_index.lookup
    (call_meets F.slot_int_rmul (typeIs_int s k t) F.entry_int_rmul (F.args_int_rmul_2 _ _) (int_rmul_tuple k t l its.toArray n dd sl)
      ⟨ho, rfl, ⟨_, ho, rfl⟩, call_meets F.slot_tuple_mul ⟨_, ho, rfl⟩ F.entry_tuple_mul (F.args_tuple_mul_2 _ _) (tuple_mulW0 l its.toArray n dd sl k t b0 b1 b2) ⟨ho, ?_⟩⟩)
  refine ⟨.ref s.heap.objs.size, _, I.laid (t' := s.toks) (o := .tup []) (fun b ob z => Heap.get?_push_of_some _ z) (Nat.le_refl _) ?_, rfl, q _ (I.hok.fresh (Nat.le_refl _))⟩
  exact ⟨Nat.zero_le _, _, .nil, IsTup.new _ _⟩
def rMulH (K : PySem.W.Frag) : R2 := fun x y H Q => (rI CMul (fun i j => .int (i * j)) x y H Q ∨ rI CMulW (fun i j => .int (i * j)) x y H Q) ∨ (rRep x y H Q ∨ (rRepT1 K x y H Q ∨ (rRepT0 K x y H Q ∨ rRepT K x y H Q)))
theorem op_mulH : OpR X (binaryOp .Mult) (rMulH X.K) := opr_or (opr_or op_mul op_mulW) (opr_or op_rep (opr_or op_repT1 (opr_or op_repT0 op_repT)))
theorem ab_mul {K : PySem.W.Frag} : Ab2 K (rMulH K) aMul := by
  intro H M x y dx dy Q Q' rx ry hv q k
  cases dx <;> cases dy <;> first | exact q.elim | skip
  case int.int i j =>
    obtain ⟨c, q⟩ := q
    rcases c with c | c
    · exact .inl (.inl ⟨i, j, rep_int_inv rx, rep_int_inv ry, c, k _ _ _ _ (Tp.refl H) rep_int hv q⟩)
    · exact .inl (.inr ⟨i, j, rep_int_inv rx, rep_int_inv ry, c, k _ _ _ _ (Tp.refl H) rep_int hv q⟩)
  case tup.int ds n =>
    obtain ⟨hne, h1, h2, h3, q⟩ := q
    obtain ⟨a, vs, e1, s1, r1⟩ := rep_tup_inv rx
    have l1 := r1.length
    by_cases hn : n = 1
    · subst hn
      refine .inr (.inr (.inl ⟨a, vs, e1, rep_int_inv ry, s1, k _ _ _ _ (Tp.refl H) (rep_tup s1 ?_) hv q⟩))
      simpa using r1
    · by_cases h0 : n ≤ 0
      · have e0 : (List.replicate n.toNat ds).flatten = [] := by
          rw [Int.toNat_of_nonpos h0]; rfl
        rw [e0] at q
        refine .inr (.inr (.inr (.inl ⟨a, n, vs, e1, rep_int_inv ry, s1, fun z => hne (List.length_eq_zero_iff.mp (by rw [l1, z]; rfl)), h1, h0, end_tup .nil hv q k⟩)))
      refine .inr (.inr (.inr (.inr ⟨a, n, vs, e1, rep_int_inv ry, s1, fun z => hne (List.length_eq_zero_iff.mp (by rw [l1, z]; rfl)), by omega, h2, by omega, end_tup (r1.flat n.toNat) hv q k⟩)))
  case ref.int a n =>
    obtain ⟨xs, h1, h2, h3, z, q⟩ := q
    obtain ⟨vs, e1, r1⟩ := view_lst hv h1
    have l1 := r1.length
    exact .inr (.inl ⟨a, n, vs, rep_ref_inv rx, rep_int_inv ry, e1, h3, h2, by rw [← l1]; exact z, end_lst (r1.flat n.toNat) hv q k⟩)
theorem ae_mul (ha : AE X a ta) (hb : AE X b tb) : AE X (.BinOp a .Mult b pos) (aOp aMul ta tb) := ae_op op_mulH ab_mul ha hb
def Pl : Nat → Dv → Prop
  | _, .non => True
  | _, .int _ => True
  | _, .str x => PyData.canLay0 (.str x) = true
  | n + 1, .tup xs => ∀ d ∈ xs, Pl n d
  | n + 1, .rol xs => ∀ d ∈ xs, Pl n d
  | _, _ => False
def pyP : Nat → Dv → PyData
  | _, .int i => .int i
  | _, .str x => .str x
  | n + 1, .tup xs => .tuple (xs.map (pyP n))
  | n + 1, .rol xs => .list (xs.map (pyP n))
  | _, _ => .none
section
variable {K : PySem.W.Frag} {H : Hp}
theorem dpAll_of {n : Nat} (ih : ∀ d v, Pl n d → Rep K H d v → Dp K H v (pyP n d)) : ∀ {xs : List Dv} {vs : List V}, (∀ d ∈ xs, Pl n d) → Reps K H xs vs → DpAll K H vs (xs.map (pyP n))
  | [], _, _, r => by rw [r.nil_inv]; exact .nil
  | d :: xs, _, h, r => by
    obtain ⟨v, w, rfl, r1, r2⟩ := r.cons_inv
    exact .cons (ih d v (h d (by simp)) r1) (dpAll_of ih (fun e he => h e (by simp [he])) r2)
theorem dp_of : ∀ (n : Nat) (d : Dv) (v : V), Pl n d → Rep K H d v → Dp K H v (pyP n d)
  | 0, .non, v, _, r => by rw [rep_non_inv r]; exact .non
  | n + 1, .non, v, _, r => by rw [rep_non_inv r]; exact .non
  | 0, .int i, v, _, r => by rw [rep_int_inv r]; exact .int i
  | n + 1, .int i, v, _, r => by rw [rep_int_inv r]; exact .int i
  | 0, .str i, v, _, r => by rw [rep_str_inv r]; exact .str i
  | n + 1, .str i, v, _, r => by rw [rep_str_inv r]; exact .str i
  | n + 1, .tup xs, v, h, r => by
    obtain ⟨a, vs, e, s, z⟩ := rep_tup_inv r
    subst e
    exact .tup s (dpAll_of (dp_of n) h z)
  | n + 1, .rol xs, v, h, r => by
    obtain ⟨a, vs, e, s, z⟩ := rep_rol_inv r
    subst e
    exact .lst s.l (dpAll_of (dp_of n) h z)
theorem canLayAll_of {f : Dv → PyData} : ∀ {xs : List Dv}, (∀ d ∈ xs, (f d).canLay0 = true) → PyData.canLayAll0 (xs.map f) = true
  | [], _ => by simp [PyData.canLayAll0]
  | d :: xs, h => by
    have h1 := h d (by simp)
    have h2 := canLayAll_of fun e (he : e ∈ xs) => h e (List.mem_cons_of_mem _ he)
    simp [PyData.canLayAll0, h1, h2]
theorem canLay_pl : ∀ (n : Nat) (d : Dv), Pl n d → (pyP n d).canLay0 = true
  | 0, .non, _ => by simp [pyP, PyData.canLay0]
  | n + 1, .non, _ => by simp [pyP, PyData.canLay0]
  | 0, .int _, _ => by simp [pyP, PyData.canLay0]
  | n + 1, .int _, _ => by simp [pyP, PyData.canLay0]
  | 0, .str _, h => h
  | n + 1, .str _, h => h
  | n + 1, .tup xs, h => by
    simp only [pyP, PyData.canLay0]
    exact canLayAll_of fun d hd => canLay_pl n d (h d hd)
  | n + 1, .rol xs, h => by
    simp only [pyP, PyData.canLay0]
    exact canLayAll_of fun d hd => canLay_pl n d (h d hd)
theorem depthAll_of {f : Dv → PyData} {n : Nat} : ∀ {xs : List Dv}, (∀ d ∈ xs, (f d).depth ≤ n) → PyData.depthAll (xs.map f) ≤ n
  | [], _ => by simp [PyData.depthAll]
  | d :: xs, h => by
    have h1 := h d (by simp)
    have h2 := depthAll_of fun e he => h e (List.mem_cons_of_mem _ he)
    simp [PyData.depthAll]
    omega
theorem depth_pl : ∀ (n : Nat) (d : Dv), Pl n d → (pyP n d).depth ≤ n
  | 0, .non, _ => by simp [pyP, PyData.depth]
  | n + 1, .non, _ => by simp [pyP, PyData.depth]
  | 0, .int _, _ => by simp [pyP, PyData.depth]
  | n + 1, .int _, _ => by simp [pyP, PyData.depth]
  | 0, .str _, h => by simp [pyP, PyData.depth]
  | n + 1, .str _, h => by simp [pyP, PyData.depth]
  | n + 1, .tup xs, h => by
    simp only [pyP, PyData.depth]
    have := depthAll_of fun d hd => depth_pl n d (h d hd)
    omega
  | n + 1, .rol xs, h => by
    simp only [pyP, PyData.depth]
    have := depthAll_of fun d hd => depth_pl n d (h d hd)
    omega
theorem eqvAll_of {n : Nat} (ih : ∀ d e, Pl n d → Pl n e → (PyData.eqv (pyP n d) (pyP n e) = true ↔ d = e)) : ∀ {xs ys : List Dv}, (∀ d ∈ xs, Pl n d) → (∀ d ∈ ys, Pl n d) → (PyData.eqvAll (xs.map (pyP n)) (ys.map (pyP n)) = true ↔ xs = ys)
  | [], [], _, _ => by simp [PyData.eqvAll]
  | [], _ :: _, _, _ => by simp [PyData.eqvAll]
  | _ :: _, [], _, _ => by simp [PyData.eqvAll]
  | d :: xs, e :: ys, h, h' => by
    have h1 := ih d e (h d (by simp)) (h' e (by simp))
    have h2 := eqvAll_of ih (xs := xs) (ys := ys) (fun z hz => h z (by simp [hz])) fun z hz => h' z (by simp [hz])
    simp [PyData.eqvAll, h1, h2]
theorem eqv_pl : ∀ (n : Nat) (d e : Dv), Pl n d → Pl n e → (PyData.eqv (pyP n d) (pyP n e) = true ↔ d = e) := by
  intro n
  induction n with
  | zero =>
    intro d e hd he
    cases d <;> cases e <;> first | exact hd.elim | exact he.elim | simp [pyP, PyData.eqv]
  | succ n ih =>
    intro d e hd he
    cases d <;> cases e <;> first | exact hd.elim | exact he.elim | skip
    case tup.tup xs ys =>
      have := eqvAll_of ih (xs := xs) (ys := ys) hd he
      simp only [pyP, PyData.eqv, this, Dv.tup.injEq]
    case rol.rol xs ys =>
      have := eqvAll_of ih (xs := xs) (ys := ys) hd he
      simp only [pyP, PyData.eqv, this, Dv.rol.injEq]
    all_goals simp [pyP, PyData.eqv]
open Classical in
theorem eqv_dec (n : Nat) (d e : Dv) (hd : Pl n d) (he : Pl n e) : PyData.eqv (pyP n d) (pyP n e) = decide (d = e) := by
  by_cases h : d = e
  · rw [decide_eq_true h]; exact (eqv_pl n d e hd he).mpr h
  · rw [decide_eq_false h]
    cases q : PyData.eqv (pyP n d) (pyP n e) with
    | false => rfl
    | true => exact absurd ((eqv_pl n d e hd he).mp q) h
end
open Classical in
noncomputable def aEqB (x y : Dv) (M : Ms) (Q : Bool → Prop) : Prop := match x, y with
  | .bl a, .bl b => Q (a == b)
  | .ref a, .ref b => ∃ xs ys, M a = some (.lst xs) ∧ M b = some (.lst ys) ∧ (∀ d ∈ xs, Pl 8 d) ∧ (∀ d ∈ ys, Pl 8 d) ∧ Q (decide (xs = ys))
  | .ref a, .rol ys => ∃ xs, M a = some (.lst xs) ∧ Pl 9 (.rol xs) ∧ Pl 9 (.rol ys) ∧ Q (decide (xs = ys))
  | .rol xs, .ref b => ∃ ys, M b = some (.lst ys) ∧ Pl 9 (.rol xs) ∧ Pl 9 (.rol ys) ∧ Q (decide (xs = ys))
  | x, y => Pl 9 x ∧ Pl 9 y ∧ Q (decide (x = y))
noncomputable def aEq : AR2 := fun x y M Q => aEqB x y M fun b => Q (.bl b) M
noncomputable def aNe : AR2 := fun x y M Q => aEqB x y M fun b => Q (.bl (!b)) M
theorem shaped_of {d : PyData} (h1 : d.canLay0 = true) (h2 : d.depth ≤ 20) : SeqAt.shaped d = true := by
  unfold SeqAt.shaped
  rw [h1, Bool.true_and]
  exact decide_eq_true (by omega)
open Classical in
theorem aEqB_ok {K : PySem.W.Frag} {H : Hp} {M : Ms} {x y : V} {dx dy : Dv} {P : Bool → Prop} (rx : Rep K H dx x) (ry : Rep K H dy y) (hv : View K M H) (h : aEqB dx dy M P) :
    ∃ d e, Dp K H x d ∧ Dp K H y e ∧ SeqAt.shaped d = true ∧ SeqAt.shaped e = true ∧ P (PyData.eqv d e) := by
  have gen : Pl 9 dx → Pl 9 dy → P (decide (dx = dy)) → ∃ d e, Dp K H x d ∧ Dp K H y e ∧ SeqAt.shaped d = true ∧ SeqAt.shaped e = true ∧ P (PyData.eqv d e) := fun h1 h2 q => by
    have d1 := depth_pl 9 _ h1
    have d2 := depth_pl 9 _ h2
    exact ⟨_, _, dp_of 9 _ _ h1 rx, dp_of 9 _ _ h2 ry, shaped_of (canLay_pl _ _ h1) (by omega), shaped_of (canLay_pl _ _ h2) (by omega), by rw [eqv_dec 9 _ _ h1 h2]; exact q⟩
  unfold aEqB at h
  split at h
  · next a b =>
    rw [rep_bl_inv rx, rep_bl_inv ry]
    refine ⟨.bool a, .bool b, .bl a, .bl b, by rfl, by rfl, ?_⟩
    simp only [PyData.eqv]
    exact h
  · next a b =>
    obtain ⟨xs, ys, h1, h2, p1, p2, q⟩ := h
    obtain ⟨vs, e1, r1⟩ := view_lst hv h1
    obtain ⟨ws, e2, r2⟩ := view_lst hv h2
    rw [rep_ref_inv rx, rep_ref_inv ry]
    have c1 : PyData.canLay0 (.list (xs.map (pyP 8))) = true := by simp only [PyData.canLay0]; exact canLayAll_of fun d hd => canLay_pl 8 d (p1 d hd)
    have c2 : PyData.canLay0 (.list (ys.map (pyP 8))) = true := by simp only [PyData.canLay0]; exact canLayAll_of fun d hd => canLay_pl 8 d (p2 d hd)
    have z1 : PyData.depth (.list (xs.map (pyP 8))) ≤ 20 := by
      have := depthAll_of fun d hd => depth_pl 8 d (p1 d hd)
      simp only [PyData.depth]; omega
    have z2 : PyData.depth (.list (ys.map (pyP 8))) ≤ 20 := by
      have := depthAll_of fun d hd => depth_pl 8 d (p2 d hd)
      simp only [PyData.depth]; omega
    refine ⟨_, _, .lst (.inl (.inl e1)) (dpAll_of (dp_of 8) p1 r1), .lst (.inl (.inl e2)) (dpAll_of (dp_of 8) p2 r2), shaped_of c1 z1, shaped_of c2 z2, ?_⟩
    have e := eqvAll_of (eqv_pl 8) p1 p2
    have e' : PyData.eqv (.list (xs.map (pyP 8))) (.list (ys.map (pyP 8))) = decide (xs = ys) := by
      simp only [PyData.eqv]
      by_cases q : xs = ys
      · rw [decide_eq_true q]; exact e.mpr q
      · rw [decide_eq_false q]
        cases w : PyData.eqvAll (xs.map (pyP 8)) (ys.map (pyP 8)) with
        | false => rfl
        | true => exact absurd (e.mp w) q
    rw [e']; exact q
  · next a ys =>
    obtain ⟨xs, h1, p1, p2, q⟩ := h
    obtain ⟨vs, e1, r1⟩ := view_lst hv h1
    rw [rep_ref_inv rx]
    have d1 := depth_pl 9 _ p1
    have d2 := depth_pl 9 _ p2
    have eq : decide (Dv.rol xs = Dv.rol ys) = decide (xs = ys) := by simp only [Dv.rol.injEq]
    refine ⟨pyP 9 (.rol xs), _, ?_, dp_of 9 _ _ p2 ry, shaped_of (canLay_pl _ _ p1) (by omega), shaped_of (canLay_pl _ _ p2) (by omega), by rw [eqv_dec 9 _ _ p1 p2, eq]; exact q⟩
    show Dp K H (.ref a) (.list (xs.map (pyP 8)))
    exact .lst (.inl (.inl e1)) (dpAll_of (dp_of 8) p1 r1)
  · next xs b =>
    obtain ⟨ys, h1, p1, p2, q⟩ := h
    obtain ⟨vs, e1, r1⟩ := view_lst hv h1
    rw [rep_ref_inv ry]
    have d1 := depth_pl 9 _ p1
    have d2 := depth_pl 9 _ p2
    have eq : decide (Dv.rol xs = Dv.rol ys) = decide (xs = ys) := by simp only [Dv.rol.injEq]
    refine ⟨_, pyP 9 (.rol ys), dp_of 9 _ _ p1 rx, ?_, shaped_of (canLay_pl _ _ p1) (by omega), shaped_of (canLay_pl _ _ p2) (by omega), by rw [eqv_dec 9 _ _ p1 p2, eq]; exact q⟩
    show Dp K H (.ref b) (.list (ys.map (pyP 8)))
    exact .lst (.inl (.inl e1)) (dpAll_of (dp_of 8) p2 r1)
  · exact gen h.1 h.2.1 h.2.2
theorem ab_eq {K : PySem.W.Frag} : Ab2 K (rEqD K) aEq := fun H M x y dx dy Q Q' rx ry hv q k => by
  obtain ⟨d, e, h1, h2, h3, h4, q⟩ := aEqB_ok rx ry hv q
  exact ⟨d, e, h1, h2, h3, h4, k _ _ _ _ (Tp.refl H) rep_bl hv q⟩
theorem ab_ne {K : PySem.W.Frag} : Ab2 K (rNeD K) aNe := fun H M x y dx dy Q Q' rx ry hv q k => by
  obtain ⟨d, e, h1, h2, h3, h4, q⟩ := aEqB_ok rx ry hv q
  exact ⟨d, e, h1, h2, h3, h4, k _ _ _ _ (Tp.refl H) rep_bl hv q⟩
theorem ae_eq (hu : X.A.units + 64 < cLine) (ha : AE X a ta) (hb : AE X b tb) : AE X (.Compare a [.Eq] [b] pos) (aOp aEq ta tb) := ae_cmp (op_eqD hu) ab_eq ha hb (nomark _)
theorem at_eq (hu : X.A.units + 64 < cLine) (ha : AE X a ta) (hb : AE X b tb) : AT X (.Compare a [.Eq] [b] pos) (aB (aOp aEq ta tb)) := at_cmp (op_eqD hu) ab_eq ha hb (nomark _)
theorem at_ne (hu : X.A.units + 64 < cLine) (ha : AE X a ta) (hb : AE X b tb) : AT X (.Compare a [.NotEq] [b] pos) (aB (aOp aNe ta tb)) := at_cmp (op_neD hu) ab_ne ha hb (nomark _)
end
end HC
set_option maxHeartbeats 4000000
namespace HC
open PySem L2
abbrev RG := Dv → Env' → Ms → (Env' → Ms → Prop) → Prop
abbrev RGs := List Dv → Env' → Ms → (Env' → Ms → Prop) → Prop
def cG (K : PySem.W.Frag) (t : RG) : TG := fun v σ H Q' => ∃ d ρ M Q, Rep K H d v ∧ RepE K H ρ σ ∧ View K M H ∧ t d ρ M Q ∧ LkS K H Q Q'
def cGs (K : PySem.W.Frag) (t : RGs) : TGs := fun vs σ H Q' => ∃ ds ρ M Q, Reps K H ds vs ∧ RepE K H ρ σ ∧ View K M H ∧ t ds ρ M Q ∧ LkS K H Q Q'
def AG (X : Cx) (e : Expr) (t : RG) : Prop := PG X e (cG X.K t)
def AGs (X : Cx) (es : List Expr) (t : RGs) : Prop := PGs X es (cGs X.K t)
theorem pg_imp {X : Cx} {e : Expr} {t t' : TG} (h : PG X e t) (f : ∀ v σ H Q, t' v σ H Q → t v σ H Q) : PG X e t' := ⟨fun pins s σ H v u Q I r q => h.run pins s σ H v u Q I r (f _ _ _ _ q)⟩
theorem pgs_imp {X : Cx} {e : List Expr} {t t' : TGs} (h : PGs X e t) (f : ∀ v σ H Q, t' v σ H Q → t v σ H Q) : PGs X e t' := ⟨fun pins s σ H v u Q I r q => h.run pins s σ H v u Q I r (f _ _ _ _ q)⟩
theorem pg_or {X : Cx} {e : Expr} {t t' : TG} (h : PG X e t) (h' : PG X e t') : PG X e (fun v σ H Q => t v σ H Q ∨ t' v σ H Q) := ⟨fun pins s σ H v u Q I r q => q.elim (fun q => h.run pins s σ H v u Q I r q) (fun q => h'.run pins s σ H v u Q I r q)⟩
section
variable {X : Cx} {pos : Pos} {e : Expr} {es : List Expr}
def agName (i : Nat) : RG := fun d ρ M Q => Q (ρ.set i (some d)) M
theorem ag_name (i : Nat) {x : Str} (hN : X.N.Nodup) (hi : X.N[i]? = some x := by rfl) (hx : Loc X.env.scope x := by first | exact .inl rfl | exact .inr rfl) (hf : X.fn x = true ∨ X.env.scope.names.lookup x = some .local := by first | exact .inl rfl | exact .inr rfl) : AG X (.Name x pos) (agName i) :=
  pg_imp (pg_name hN hi hx hf) fun v σ H Q' ⟨d, ρ, M, Q, rd, hr, hv, q, k⟩ => k _ _ _ _ (Tp.refl H) (hr.set i rd) hv q
def agNil : RGs := fun ds ρ M Q => ds = [] ∧ Q ρ M
def agCons (t : RG) (u : RGs) : RGs := fun ds ρ M Q => match ds with
  | [] => False
  | d :: r => t d ρ M fun ρ1 M1 => u r ρ1 M1 Q
theorem ags_nil : AGs X [] agNil := pgs_imp pgs_nil fun v σ H Q' ⟨d, ρ, M, Q, rd, hr, hv, ⟨e, q⟩, k⟩ => by
  subst e
  exact ⟨rd.nil_inv, k _ _ _ _ (Tp.refl H) hr hv q⟩
theorem ags_cons {t : RG} {u : RGs} (h1 : AG X e t) (h2 : AGs X es u) (hs : (assignEach (e :: es) X.env).map (·.2) = assign e X.env :: (assignEach es X.env).map (·.2) := by rfl) : AGs X (e :: es) (agCons t u) :=
  pgs_imp (pgs_cons h1 h2 hs) fun vs σ H Q' ⟨ds, ρ, M, Q, rd, hr, hv, q, k⟩ => by
    cases ds with
    | nil => exact q.elim
    | cons d r =>
      obtain ⟨v, vr, e1, r1, r2⟩ := rd.cons_inv
      exact ⟨v, vr, e1, d, ρ, M, _, r1, hr, hv, q, fun σ1 H1 ρ1 M1 t1 hr1 hv1 q1 => ⟨r, ρ1, M1, Q, r2.mono t1, hr1, hv1, q1, k.up t1⟩⟩
def itemsA : Dv → Ms → Option (List Dv)
  | .tup ds, _ => some ds
  | .rol ds, _ => some ds
  | .tuc ds, _ => some ds
  | .ref a, M => match M a with | some (.lst ds) => some ds | _ => none
  | _, _ => none
theorem itemsA_ok {K : PySem.W.Frag} {M : Ms} {H : Hp} {d : Dv} {v : V} {ds : List Dv} (r : Rep K H d v) (hv : View K M H) (h : itemsA d M = some ds) : ∃ a vs, v = .ref a ∧ (SqT K H a vs ∨ SqL K H a vs) ∧ Reps K H ds vs := by
  cases d with
  | tup es =>
    cases h
    obtain ⟨a, vs, e, s, z⟩ := (show ∃ a vs, v = .ref a ∧ SqT K H a vs ∧ Reps K H ds vs by simpa only [Rep] using r)
    exact ⟨a, vs, e, .inl s, z⟩
  | rol es =>
    cases h
    obtain ⟨a, vs, e, s, z⟩ := (show ∃ a vs, v = .ref a ∧ SqF K H a vs ∧ Reps K H ds vs by simpa only [Rep] using r)
    exact ⟨a, vs, e, .inr s.l, z⟩
  | exc _ _ => cases h
  | tuc es =>
    cases h
    obtain ⟨a, vs, e, s, z⟩ := (show ∃ a vs, v = .ref a ∧ SqC H a vs ∧ Reps K H ds vs by simpa only [Rep] using r)
    exact ⟨a, vs, e, .inl s.t, z⟩
  | ref a =>
    have e : v = .ref a := by simpa only [Rep] using r
    simp only [itemsA] at h
    cases q : M a with
    | none => rw [q] at h; cases h
    | some c =>
      rw [q] at h
      cases c with
      | dic _ => cases h
      | dit _ => cases h
      | fdc _ => cases h
      | obj _ _ => cases h
      | tab _ => cases h
      | cod _ => cases h
      | lst es =>
        cases h
        obtain ⟨vs, h1, h2⟩ := hv a _ q
        exact ⟨a, vs, e, .inr (.inl (.inl h1)), h2⟩
  | non => cases h
  | bl _ => cases h
  | int _ => cases h
  | str _ => cases h
  | ty _ => cases h
def agTup (n : Nat) (t : RGs) : RG := fun d ρ M Q => onS (itemsA d M) fun ds => ds.length = n ∧ t ds ρ M Q
theorem ag_tup {k : Nat} {t : RGs} {n : Nat} (hc : X.calm = true) (h : AGs X es t) (hn : (assignEach es X.env).length = n := by rfl) (hst : (assignEach es X.env).findIdx? (·.1) = none := by rfl) : AG X (.Tuple es k pos) (agTup n t) :=
  pg_imp (pg_or (pg_tup hc h hn hst) (pg_lst hc h hn hst)) fun v σ H Q' ⟨d, ρ, M, Q, rd, hr, hv, q, k⟩ => by
    obtain ⟨ds, e, hl, q⟩ := onS_ex q
    obtain ⟨a, vs, e1, s, z⟩ := itemsA_ok rd hv e
    rcases s with s | s
    · exact .inl ⟨a, vs, e1, s, by rw [← z.length]; exact hl, ds, ρ, M, Q, z, hr, hv, q, k⟩
    · exact .inr ⟨a, vs, e1, s, by rw [← z.length]; exact hl, ds, ρ, M, Q, z, hr, hv, q, k⟩
end
section
variable {X : Cx} {pos : Pos} {a b c e tg : Expr} {te : RE} {st : Stmt} {sts rest : List Stmt} {t u : RS} {tc : RT} {g : RG}
theorem seqS {K : PySem.W.Frag} {ρ : Env'} {σ : L2.St} {M : Ms} {H : Hp} {t : RS} {D : Ends'} {D' : Ends} (hr : RepE K H ρ σ) (hv : View K M H) (h : t D ρ M) (k : LkD K H D D') : cS K t D' σ H := ⟨ρ, M, D, hr, hv, h, k⟩
def aNext : RS := fun D ρ M => D.nx ρ M
def aSeq (t u : RS) : RS := fun D ρ M => t { D with nx := u D } ρ M
theorem next_imp {K : PySem.W.Frag} : ∀ D σ H, cS K aNext D σ H → tNext D σ H := fun D' σ H ⟨ρ, M, D, hr, hv, q, k⟩ => k.nx _ _ _ _ (Tp.refl H) hr hv q
theorem ass_nil : ASs X [] aNext := pss_imp pss_nil next_imp
theorem ass_cons (h1 : AS X st t) (h2 : ASs X rest u) : ASs X (st :: rest) (aSeq t u) :=
  pss_imp (pss_cons h1 h2) fun D' σ H ⟨ρ, M, D, hr, hv, q, k⟩ => seqS (D := { D with nx := u D }) hr hv q ⟨fun σ1 H1 ρ1 M1 t1 r1 v1 q1 => seqS r1 v1 q1 (k.up t1), k.rt, k.bk, k.ct⟩
theorem ass_one (h : AS X st t) : ASs X [st] t := pss_one h
def aDrop (te : RE) : RS := fun D ρ M => te ρ M fun _ M1 => D.nx ρ M1
theorem as_expr (h : AE X e te) (hs : swapsWith e none pos.line X.env = pure false := by rfl) : AS X (.Expr e pos) (aDrop te) := ps_imp (ps_expr h hs) fun D' σ H ⟨ρ, M, D, hr, hv, q, k⟩ => seqE hr hv q fun v H1 d M1 t1 r1 v1 q1 => k.nx _ _ _ _ t1 (hr.mono t1) v1 q1
def aRet (te : RE) : RS := fun D ρ M => te ρ M D.rt
theorem as_ret (h : AE X e te) : AS X (.Return (some e) pos) (aRet te) := ps_imp (ps_ret h) fun D' σ H ⟨ρ, M, D, hr, hv, q, k⟩ => seqE hr hv q k.rt
def aIfS (tc : RT) (t u : RS) : RS := fun D ρ M => tc ρ M fun b M1 => onIf b (t D ρ M1) (u D ρ M1)
theorem as_if {as bs : List Stmt} (hc : AT X c tc) (h1 : ASs X as t) (h2 : ASs X bs u) : AS X (.If c as bs pos) (aIfS tc t u) :=
  ps_imp (ps_if hc h1 h2) fun D' σ H ⟨ρ, M, D, hr, hv, q, k⟩ => seqT hr hv q fun b H1 M1 t1 v1 q1 => by
    cases b with
    | true => exact seqS (hr.mono t1) v1 q1 (k.up t1)
    | false => exact seqS (hr.mono t1) v1 q1 (k.up t1)
def aAsg (te : RE) (g : RG) : RS := fun D ρ M => te ρ M fun d M1 => g d ρ M1 D.nx
theorem as_asg (he : AE X e te) (hg : AG X tg g) (hs : swapsWithSole [tg] e pos.line X.env = pure false := by rfl) (hw : swappedStores [tg] e X.env = pure none := by rfl)
    (h1 : (assignEach [tg] X.env).map (·.2) = [assign tg X.env] := by rfl) : AS X (.Assign [tg] e pos) (aAsg te g) :=
  ps_imp (ps_asg he hg hs hw h1) fun D' σ H ⟨ρ, M, D, hr, hv, q, k⟩ => seqE hr hv q fun v H1 d M1 t1 r1 v1 q1 => ⟨d, ρ, M1, D.nx, r1, hr.mono t1, v1, q1, k.nx.up t1⟩
theorem asg_name_imp {K : PySem.W.Frag} {i : Nat} {te' : TE} (h : ∀ σ H Q, cE K te σ H Q → te' σ H Q) : ∀ D σ H, cS K (aAsg te (agName i)) D σ H → tAsg te' (gName i) D σ H := fun D' σ H ⟨ρ, M, D, hr, hv, q, k⟩ =>
  h _ _ _ (seqE hr hv q fun v H1 d M1 t1 r1 v1 q1 => k.nx _ _ _ _ t1 ((hr.mono t1).set i r1) v1 q1)
theorem as_set (i : Nat) {x : Str} {pos' : Pos} (hN : X.N.Nodup) (he : AE X e te) (hi : X.N[i]? = some x := by rfl) (hx : Loc X.env.scope x := by first | exact .inl rfl | exact .inr rfl) (hs : swapsWith e (some (.Name x pos')) pos.line X.env = pure false := by rfl) (hf : X.fn x = true ∨ X.env.scope.names.lookup x = some .local := by first | exact .inl rfl | exact .inr rfl) :
    AS X (.Assign [.Name x pos'] e pos) (aAsg te (agName i)) := ps_imp (ps_set hN hi hx he hs hf) (asg_name_imp fun _ _ _ q => q)
end
abbrev RI := Env' → Ms → (List Dv → (Ms → Prop) → Ms → Prop) → Prop
structure IW (K : PySem.W.Frag) (J : It) (ds : List Dv) (keep : Ms → Prop) (H0 : Hp) : Prop where
  go : ∀ i H M, i < ds.length → Tp K H0 H → View K M H → keep M → J.go i H
  stop : ∀ H M, Tp K H0 H → View K M H → keep M → J.stop ds.length H
  yld : ∀ i H M x H', i < ds.length → Tp K H0 H → View K M H → keep M → J.yld i H x H' → ∃ d, ds[i]? = some d ∧ Tp K H H' ∧ Rep K H' d x ∧ View K M H' ∧ (∀ a, H a ≠ none → H' a = H a)
def cI (K : PySem.W.Frag) (ai : RI) : TI := fun σ H R => ∃ ρ M Q, RepE K H ρ σ ∧ View K M H ∧ ai ρ M Q ∧ ∀ J H' ds keep M', Tp K H H' → View K M' H' → Q ds keep M' → IW K J ds keep H' → R J H'
def AI (X : Cx) (tg iter : Expr) (ai : RI) : Prop := PI X tg iter (cI X.K ai)
theorem pi_imp {X : Cx} {tg e : Expr} {t t' : TI} (h : PI X tg e t) (f : ∀ σ H Q, t' σ H Q → t σ H Q) : PI X tg e t' := ⟨fun pins s σ H Q I q => h.run pins s σ H Q I (f _ _ _ q)⟩
def forW0 (keep : Ms → Prop) (g : RG) (tb : RS) (D : Ends') : List Dv → Env' → Ms → Prop
  | [], ρ, M => keep M ∧ D.nx ρ M
  | d :: ds, ρ, M => keep M ∧ ∃ N : Env' → Ms → Prop, (∀ ρ1 M1, N ρ1 M1 → forW0 keep g tb D ds ρ1 M1) ∧ g d ρ M fun ρ1 M1 => tb { D with nx := wk N, ct := wk N, bk := D.nx } ρ1 M1
@[irreducible] def forW (keep : Ms → Prop) (g : RG) (tb : RS) (D : Ends') (ds : List Dv) (ρ : Env') (M : Ms) : Prop := forW0 keep g tb D ds ρ M
theorem forW_eqn {keep : Ms → Prop} {g : RG} {tb : RS} {D : Ends'} {ρ : Env'} {M : Ms} : forW keep g tb D [] ρ M = (keep M ∧ D.nx ρ M) := by unfold forW; rfl
theorem forW_eqc {keep : Ms → Prop} {g : RG} {tb : RS} {D : Ends'} {d : Dv} {ds : List Dv} {ρ : Env'} {M : Ms} : forW keep g tb D (d :: ds) ρ M = (keep M ∧ ∃ N : Env' → Ms → Prop, (∀ ρ1 M1, N ρ1 M1 → forW keep g tb D ds ρ1 M1) ∧ g d ρ M fun ρ1 M1 => tb { D with nx := wk N, ct := wk N, bk := D.nx } ρ1 M1) := by unfold forW; rfl
def aFor (ai : RI) (g : RG) (tb : RS) : RS := fun D ρ M => ai ρ M fun ds keep M1 => forW keep g tb D ds ρ M1
section
variable {X : Cx} {pos : Pos} {tg iter : Expr} {ai : RI} {g : RG} {t : RS}
theorem drop_cons {α : Type} {l : List α} {i : Nat} {d : α} (h : l[i]? = some d) : l.drop i = d :: l.drop (i + 1) := by
  have hl := (List.getElem?_eq_some_iff.mp h).1
  rw [List.drop_eq_getElem_cons hl]
  have : l[i] = d := (List.getElem?_eq_some_iff.mp h).2
  rw [this]
theorem as_for {body : List Stmt} (hp : PassesOwn (model X.prog X.w) X.A X.env X.xe) (hc : X.calm = true) (hi : AI X tg iter ai) (hg : AG X tg g) (hb : ASs X body t)
    (hs : ∀ x, foldedSetIterable iter X.env x = pure x := by intro _; rfl) : AS X (.For tg iter body [] pos) (aFor ai g t) :=
  ps_imp (ps_for hp hc hi hg hb hs) fun D' σ H h => by
    obtain ⟨ρ, M, D, hr, hv, q, k⟩ := h
    refine ⟨ρ, M, _, hr, hv, q, fun J H1 ds keep M1 t1 v1 q1 iw => ?_⟩
    refine ⟨fun i m σ2 H2 => m = ds.length - i ∧ i ≤ ds.length ∧ ∃ ρ2 M2, Tp X.K H1 H2 ∧ RepE X.K H2 ρ2 σ2 ∧ View X.K M2 H2 ∧ forW keep g t D (ds.drop i) ρ2 M2, ⟨ds.length, by simp, Nat.zero_le _, ρ, M1, Tp.refl _, hr.mono t1, v1, by simpa using q1⟩, ?_⟩
    rintro i m σ2 H2 ⟨rfl, hi', ρ2, M2, t2, r2, v2, q2⟩
    by_cases hlt : i < ds.length
    · rw [drop_cons (List.getElem?_eq_getElem hlt), forW_eqc] at q2
      obtain ⟨kp, Nx, hN, q2⟩ := q2
      refine .inr ⟨iw.go i H2 M2 hlt t2 v2 kp, fun σ3 H3 => ∃ ρ3 M3, Tp X.K H1 H3 ∧ RepE X.K H3 ρ3 σ3 ∧ View X.K M3 H3 ∧ Nx ρ3 M3, ?_, ?_⟩
      · rintro σ3 H3 ⟨ρ3, M3, t3, r3, v3, q3⟩
        exact ⟨ds.length - (i + 1), by omega, rfl, hlt, ρ3, M3, t3, r3, v3, hN _ _ q3⟩
      · intro x H3 hy
        obtain ⟨d, hd, t3, rd, v3, _⟩ := iw.yld i H2 M2 x H3 hlt t2 v2 kp hy
        have e : d = ds[i] := by rw [List.getElem?_eq_getElem hlt] at hd; exact (Option.some.inj hd).symm
        subst e
        refine ⟨_, ρ2, M2, _, rd, r2.mono t3, v3, q2, fun σ4 H4 ρ4 M4 t4 r4 v4 q4 => ?_⟩
        have tt := t2.trans (t3.trans t4)
        refine seqS r4 v4 q4 ⟨fun σ5 H5 ρ5 M5 t5 r5 v5 ⟨ρ6, M6, se, sm, q5⟩ => ⟨ρ6, M6, tt.trans t5, se.rep r5, v5.sub sm, q5⟩, k.rt.up (t1.trans tt), k.nx.up (t1.trans tt), fun σ5 H5 ρ5 M5 t5 r5 v5 ⟨ρ6, M6, se, sm, q5⟩ => ⟨ρ6, M6, tt.trans t5, se.rep r5, v5.sub sm, q5⟩⟩
    · have e : i = ds.length := by omega
      subst e
      rw [List.drop_length, forW_eqn] at q2
      exact .inl ⟨iw.stop H2 M2 t2 v2 q2.1, k.nx _ _ _ _ (t1.trans t2) r2 v2 q2.2⟩
theorem forW_inv {keep : Ms → Prop} {D : Ends'} {ds : List Dv} {ρ : Env'} {M : Ms} (P : Nat → Env' → Ms → Prop) (h0 : P 0 ρ M) (hk : ∀ i ρ M, i ≤ ds.length → P i ρ M → keep M)
    (hs : ∀ i d ρ M, ds[i]? = some d → P i ρ M → g d ρ M fun ρ1 M1 => t { D with nx := wk (P (i + 1)), ct := wk (P (i + 1)), bk := D.nx } ρ1 M1) (hd : ∀ ρ M, P ds.length ρ M → D.nx ρ M) : forW keep g t D ds ρ M := by
  have main : ∀ (n i : Nat), i + n = ds.length → ∀ ρ M, P i ρ M → forW keep g t D (ds.drop i) ρ M := by
    intro n
    induction n with
    | zero =>
      intro i hi ρ M p
      have e : i = ds.length := by omega
      subst e
      rw [List.drop_length, forW_eqn]
      exact ⟨hk _ _ _ (Nat.le_refl _) p, hd _ _ p⟩
    | succ n ih =>
      intro i hi ρ M p
      have hlt : i < ds.length := by omega
      rw [drop_cons (List.getElem?_eq_getElem hlt), forW_eqc]
      exact ⟨hk _ _ _ (by omega) p, P (i + 1), fun ρ1 M1 p1 => ih (i + 1) (by omega) ρ1 M1 p1, hs i _ ρ M (List.getElem?_eq_getElem hlt) p⟩
  simpa using main ds.length 0 (by omega) ρ M h0
end
end HC
set_option maxHeartbeats 4000000
namespace HC
open PySem L2
inductive Tg where
  | nm (i : Nat)
  | tp (ts : List Tg)
mutual
def Tg.g (K : PySem.W.Frag) : Tg → TG
  | .nm i => gName i
  | .tp ts => fun v σ H Q => gTup K ts.length (Tg.gs K ts) v σ H Q ∨ gLst K ts.length (Tg.gs K ts) v σ H Q
def Tg.gs (K : PySem.W.Frag) : List Tg → TGs
  | [] => gNil
  | t :: ts => gCons (Tg.g K t) (Tg.gs K ts)
end
mutual
def Tg.put : Tg → Dv → Env' → Ms → Option Env'
  | .nm i, d, ρ, _ => some (ρ.set i (some d))
  | .tp ts, d, ρ, M => match itemsA d M with
    | some ds => Tg.puts ts ds ρ M
    | none => none
def Tg.puts : List Tg → List Dv → Env' → Ms → Option Env'
  | [], [], ρ, _ => some ρ
  | t :: ts, d :: ds, ρ, M => (Tg.put t d ρ M).bind fun ρ1 => Tg.puts ts ds ρ1 M
  | _, _, _, _ => none
end
mutual
def Tg.slots : Tg → List Nat
  | .nm i => [i]
  | .tp ts => Tg.slotss ts
def Tg.slotss : List Tg → List Nat
  | [] => []
  | t :: ts => Tg.slots t ++ Tg.slotss ts
end
theorem wipe_set_not : ∀ {vs : List Nat} {σ : L2.St} {i : Nat} {x : Option V}, i ∉ vs → wipe (σ.set i x) vs = (wipe σ vs).set i x
  | [], _, _, _, _ => rfl
  | v :: vs, σ, i, x, h => by
    have h1 : i ≠ v := fun e => h (by simp [e])
    have h2 : i ∉ vs := fun e => h (by simp [e])
    show (wipe (σ.set i x) vs).set v none = ((wipe σ vs).set v none).set i x
    rw [wipe_set_not h2, List.set_comm _ _ h1]
theorem wipe_set : ∀ {vs : List Nat} {σ : L2.St} {i : Nat} {x : Option V}, i ∈ vs → wipe (σ.set i x) vs = wipe σ vs
  | v :: vs, σ, i, x, h => by
    show (wipe (σ.set i x) vs).set v none = (wipe σ vs).set v none
    by_cases h2 : i ∈ vs
    · rw [wipe_set h2]
    · have e : i = v := by
        rcases List.mem_cons.mp h with e | e
        · exact e
        · exact absurd e h2
      subst e
      rw [wipe_set_not h2, List.set_set]
theorem wipe_wipe {vs : List Nat} {σ : L2.St} : ∀ {ws : List Nat}, (∀ i ∈ ws, i ∈ vs) → wipe (wipe σ ws) vs = wipe σ vs
  | [], _ => rfl
  | w :: ws, h => by
    show wipe ((wipe σ ws).set w none) vs = wipe σ vs
    rw [wipe_set (h w (by simp)), wipe_wipe fun i hi => h i (by simp [hi])]
theorem puts_len {M : Ms} : ∀ {ts : List Tg} {ds : List Dv} {ρ ρ' : Env'}, Tg.puts ts ds ρ M = some ρ' → ds.length = ts.length
  | [], [], _, _, _ => rfl
  | [], d :: ds, _, _, h => by simp [Tg.puts] at h
  | t :: ts, [], _, _, h => by simp [Tg.puts] at h
  | t :: ts, d :: ds, ρ, ρ', h => by
    simp only [Tg.puts] at h
    cases e : Tg.put t d ρ M with
    | none => rw [e] at h; cases h
    | some ρ1 =>
      rw [e] at h
      simp only [Option.bind_some] at h
      simp [puts_len h]
section
variable {K : PySem.W.Frag} {M : Ms} {H : Hp} {vs : List Nat}
mutual
theorem Tg.ok : ∀ {t : Tg} {d : Dv} {v : V} {ρ ρ' : Env'} {σ : L2.St} {Q : L2.St → Hp → Prop}, Rep K H d v → RepE K H ρ σ → View K M H → Tg.put t d ρ M = some ρ' → (∀ i ∈ Tg.slots t, i ∈ vs) → (∀ σ', RepE K H ρ' σ' → wipe σ' vs = wipe σ vs → Q σ' H) → Tg.g K t v σ H Q
  | .nm i, d, v, ρ, ρ', σ, Q, rd, hr, hv, h, hs, k => by
    simp only [Tg.put, Option.some.injEq] at h
    subst h
    simp only [Tg.g, gName]
    exact k _ (hr.set i rd) (wipe_set (hs i (by simp [Tg.slots])))
  | .tp ts, d, v, ρ, ρ', σ, Q, rd, hr, hv, h, hs, k => by
    simp only [Tg.put] at h
    cases e : itemsA d M with
    | none => rw [e] at h; cases h
    | some ds =>
      rw [e] at h
      obtain ⟨a, xs, e1, s, z⟩ := itemsA_ok rd hv e
      have main := Tg.oks z hr hv h (fun i hi => hs i (by simpa [Tg.slots] using hi)) k
      simp only [Tg.g]
      rcases s with s | s
      · exact .inl ⟨a, xs, e1, s, by rw [← z.length]; exact main.1, main.2⟩
      · exact .inr ⟨a, xs, e1, s, by rw [← z.length]; exact main.1, main.2⟩
theorem Tg.oks : ∀ {ts : List Tg} {ds : List Dv} {xs : List V} {ρ ρ' : Env'} {σ : L2.St} {Q : L2.St → Hp → Prop}, Reps K H ds xs → RepE K H ρ σ → View K M H → Tg.puts ts ds ρ M = some ρ' → (∀ i ∈ Tg.slotss ts, i ∈ vs) → (∀ σ', RepE K H ρ' σ' → wipe σ' vs = wipe σ vs → Q σ' H) →
    ds.length = ts.length ∧ Tg.gs K ts xs σ H Q
  | [], [], xs, ρ, ρ', σ, Q, rd, hr, hv, h, hs, k => by
    simp only [Tg.puts, Option.some.injEq] at h
    subst h
    refine ⟨rfl, ?_⟩
    simp only [Tg.gs, gNil]
    exact ⟨rd.nil_inv, k _ hr rfl⟩
  | [], d :: ds, _, _, _, _, _, _, _, _, h, _, _ => by simp [Tg.puts] at h
  | t :: ts, [], _, _, _, _, _, _, _, _, h, _, _ => by simp [Tg.puts] at h
  | t :: ts, d :: ds, xs, ρ, ρ', σ, Q, rd, hr, hv, h, hs, k => by
    simp only [Tg.puts] at h
    cases e : Tg.put t d ρ M with
    | none => rw [e] at h; cases h
    | some ρ1 =>
      rw [e] at h
      simp only [Option.bind_some] at h
      obtain ⟨v, r, e1, r1, r2⟩ := rd.cons_inv
      have hs1 : ∀ i ∈ Tg.slots t, i ∈ vs := fun i hi => hs i (by simp [Tg.slotss, hi])
      have hs2 : ∀ i ∈ Tg.slotss ts, i ∈ vs := fun i hi => hs i (by simp [Tg.slotss, hi])
      have hl : ds.length = ts.length := puts_len h
      refine ⟨by simp [hl], ?_⟩
      simp only [Tg.gs, gCons]
      exact ⟨v, r, e1, Tg.ok r1 hr hv e hs1 fun σ1 hr1 w1 => (Tg.oks r2 hr1 hv h hs2 fun σ2 hr2 w2 => k σ2 hr2 (w2.trans w1)).2⟩
end
end
def aYes : RT := fun _ M Q => Q true M
def ATs (X : Cx) (ifs : List Expr) (t : RT) : Prop := PTs X ifs (cT X.K t)
theorem pts_imp {X : Cx} {e : List Expr} {t t' : TT} (h : PTs X e t) (f : ∀ σ H Q, t' σ H Q → t σ H Q) : PTs X e t' := ⟨fun pins s σ H Q I q => h.run pins s σ H Q I (f _ _ _ q)⟩
theorem ats_nil {X : Cx} : ATs X [] aYes := pts_imp pts_nil fun σ H Q' ⟨ρ, M, Q, hr, hv, q, k⟩ => k _ _ _ (Tp.refl H) hv q
def lcT (tg : Tg) (own : List Nat) (tt : RT) (te : RE) (ρ : Env') (D : Addr) (d : Dv) (N : Ms → Prop) (M : Ms) : Prop :=
  ∃ ρ', Tg.put tg d (wipeA ρ own) M = some ρ' ∧ tt ρ' M fun b M2 => onIf b (te ρ' M2 fun y M3 => ∃ acc, M3 D = some (.lst acc) ∧ acc.length < sizeLine ∧ wkM N (mup M3 D (.lst (acc ++ [y])))) (wkM N M2)
def lcW0 (keep : Ms → Prop) (tg : Tg) (own : List Nat) (tt : RT) (te : RE) (ρ : Env') (D : Addr) (Q : Ms → Prop) : List Dv → Ms → Prop
  | [], M => keep M ∧ Q M
  | d :: ds, M => keep M ∧ ∃ N : Ms → Prop, (∀ M1, N M1 → lcW0 keep tg own tt te ρ D Q ds M1) ∧ lcT tg own tt te ρ D d N M
@[irreducible] def lcW (keep : Ms → Prop) (tg : Tg) (own : List Nat) (tt : RT) (te : RE) (ρ : Env') (D : Addr) (Q : Ms → Prop) (ds : List Dv) (M : Ms) : Prop := lcW0 keep tg own tt te ρ D Q ds M
theorem lcW_eqn {keep : Ms → Prop} {tg : Tg} {own : List Nat} {tt : RT} {te : RE} {ρ : Env'} {D : Addr} {Q : Ms → Prop} {M : Ms} : lcW keep tg own tt te ρ D Q [] M = (keep M ∧ Q M) := by unfold lcW; rfl
theorem lcW_eqc {keep : Ms → Prop} {tg : Tg} {own : List Nat} {tt : RT} {te : RE} {ρ : Env'} {D : Addr} {Q : Ms → Prop} {d : Dv} {ds : List Dv} {M : Ms} : lcW keep tg own tt te ρ D Q (d :: ds) M = (keep M ∧ ∃ N : Ms → Prop, (∀ M1, N M1 → lcW keep tg own tt te ρ D Q ds M1) ∧ lcT tg own tt te ρ D d N M) := by unfold lcW; rfl
def aLc (ai : RI) (tg : Tg) (own : List Nat) (tt : RT) (te : RE) : RE := fun ρ M Q => ai ρ M fun ds keep M1 => ∀ D, M1 D = none → lcW keep tg own tt te ρ D (Q (.ref D)) ds (mup M1 D (.lst []))
section
variable {X : Cx} {pos : Pos} {target iter elt : Expr} {ifs : List Expr} {ai : RI} {tt : RT} {te : RE}
theorem lc_imp {K : PySem.W.Frag} {tg : Tg} {own : List Nat} (hsl : ∀ i ∈ Tg.slots tg, i ∈ own) : ∀ σ H Q, cE K (aLc ai tg own tt te) σ H Q → tLc (cI K ai) (Tg.g K tg) (cT K tt) (cE K te) own σ H Q := fun σ H Q' h => by
  obtain ⟨ρ, M, Q, hr, hv, q, k⟩ := h
  refine ⟨ρ, M, _, hr, hv, q, fun J H1 ds keep M1 t1 v1 q1 iw D hD => ?_⟩
  have q2 := q1 D (v1.free hD)
  have tD : Tp K H1 (upd H1 D (.lst [])) := Tp.new hD
  refine ⟨fun i m H2 => m = ds.length - i ∧ i ≤ ds.length ∧ ∃ M2, Tp K H1 H2 ∧ View K M2 H2 ∧ lcW keep tg own tt te ρ D (Q (.ref D)) (ds.drop i) M2, ⟨ds.length, by simp, Nat.zero_le _, _, tD, v1.put (c := .lst []) (by rw [hD]; trivial) ⟨[], upd_same, Reps.nil⟩, by simpa using q2⟩, ?_⟩
  rintro i m H2 ⟨rfl, hi', M2, t2, v2, w2⟩
  by_cases hlt : i < ds.length
  · rw [drop_cons (List.getElem?_eq_getElem hlt), lcW_eqc] at w2
    obtain ⟨kp, Nx, hN, w2⟩ := w2
    refine .inr ⟨iw.go i H2 M2 hlt t2 v2 kp, fun H3 => ∃ M3, Tp K H1 H3 ∧ View K M3 H3 ∧ Nx M3, ?_, ?_⟩
    · rintro H3 ⟨M3, t3, v3, n3⟩
      exact ⟨ds.length - (i + 1), by omega, rfl, hlt, M3, t3, v3, hN _ n3⟩
    · intro x H3 hy
      obtain ⟨d, hd, t3, rd, v3, _⟩ := iw.yld i H2 M2 x H3 hlt t2 v2 kp hy
      have e : d = ds[i] := by rw [List.getElem?_eq_getElem hlt] at hd; exact (Option.some.inj hd).symm
      subst e
      obtain ⟨ρ', hput, w3⟩ := w2
      have tt3 : Tp K H1 H3 := t2.trans t3
      refine Tg.ok rd ((hr.mono (t1.trans tt3)).wipe own) v3 hput hsl fun σ3 hr3 hw => ⟨hw.trans (wipe_wipe fun _ z => z), ?_⟩
      refine seqT hr3 v3 w3 fun b H4 M4 t4 v4 w4 => ?_
      cases b with
      | false =>
        obtain ⟨M6, sm, w4⟩ := w4
        exact ⟨M6, tt3.trans t4, v4.sub sm, w4⟩
      | true =>
        refine seqE (hr3.mono t4) v4 w4 fun y H5 dy M5 t5 r5 v5 w5 => ?_
        obtain ⟨acc, ha, hz, M6, sm, n5⟩ := w5
        obtain ⟨vs, e5, z5⟩ := v5 D _ ha
        refine ⟨vs, e5, by rw [← z5.length]; exact hz, M6, ((tt3.trans t4).trans t5).trans (Tp.put (v5.soft ha)), View.sub (M' := mup M5 D (.lst (acc ++ [dy]))) (v5.put (c := .lst (acc ++ [dy])) (v5.soft ha) ⟨vs ++ [y], upd_same, ?_⟩) sm, n5⟩
        exact ((z5.append (Reps.cons r5 Reps.nil)).mono (Tp.put (v5.soft ha)))
  · have e : i = ds.length := by omega
    subst e
    rw [List.drop_length, lcW_eqn] at w2
    exact .inl ⟨iw.stop H2 M2 t2 v2 w2.1, k _ _ _ _ (t1.trans t2) (by simp only [Rep]) v2 w2.2⟩
theorem ae_lc {own : List (Str × Nat)} {tg : Tg} {scope : Scope} (hsl : ∀ i ∈ Tg.slots tg, i ∈ own.map (·.2)) (hc : X.calm = true) (hN : X.N.Nodup) (hi : AI X target iter ai) (ok : BlkOk X.N X.env.scope scope own)
    (hg : ∀ (s : Shared) (H : Hp) (C : Addr) (cl : List (Str × Addr)) (fp : List Addr), PG (X.blk s H scope (compEnvC scope cl C X.env) fp) target (Tg.g X.K tg)) (ht : ∀ (s : Shared) (H : Hp) (C : Addr) (cl : List (Str × Addr)) (fp : List Addr), ATs (X.blk s H scope (compEnvC scope cl C X.env) fp) ifs tt)
    (he : ∀ (s : Shared) (H : Hp) (C : Addr) (cl : List (Str × Addr)) (fp : List Addr), AE (X.blk s H scope (compEnvC scope cl C X.env) fp) elt te) (hs : ∀ x, foldedSetIterable iter X.env x = pure x := by intro _; rfl) :
    AE X (.ListComp elt [⟨target, iter, ifs, 0⟩] scope pos) (aLc ai tg (own.map (·.2)) tt te) := pe_imp (pe_lc (tt := cT X.K tt) (te := cE X.K te) hc hN hi ok hg ht he hs) (lc_imp hsl)
theorem as_setLc (i : Nat) {y : Str} {py spos : Pos} {own : List (Str × Nat)} {tg : Tg} {scope : Scope} (hsl : ∀ i ∈ Tg.slots tg, i ∈ own.map (·.2)) (hc : X.calm = true) (hN : X.N.Nodup) (hy : X.N[i]? = some y) (hyl : X.env.scope.names.lookup y = some .local)
    (hsw : swapsWith (.ListComp elt [⟨target, iter, ifs, 0⟩] scope pos) (some (.Name y py)) spos.line X.env = pure true) (hi : AI X target iter ai) (ok : BlkOk X.N X.env.scope scope own)
    (hg : ∀ (s : Shared) (H : Hp) (C : Addr) (cl : List (Str × Addr)) (fp : List Addr), PG (X.blk s H scope (compEnvC scope cl C X.env) fp) target (Tg.g X.K tg)) (ht : ∀ (s : Shared) (H : Hp) (C : Addr) (cl : List (Str × Addr)) (fp : List Addr), ATs (X.blk s H scope (compEnvC scope cl C X.env) fp) ifs tt)
    (he : ∀ (s : Shared) (H : Hp) (C : Addr) (cl : List (Str × Addr)) (fp : List Addr), AE (X.blk s H scope (compEnvC scope cl C X.env) fp) elt te) (hs : ∀ x, foldedSetIterable iter X.env x = pure x := by intro _; rfl) :
    AS X (.Assign [.Name y py] (.ListComp elt [⟨target, iter, ifs, 0⟩] scope pos) spos) (aAsg (aLc ai tg (own.map (·.2)) tt te) (agName i)) := ps_imp (ps_setLc (tt := cT X.K tt) (te := cE X.K te) hc hN hy hyl hsw hi ok hg ht he hs) (asg_name_imp (lc_imp hsl))
end
end HC
set_option maxHeartbeats 4000000
namespace HC
open PySem L2 PyProof.Rows
section
variable {X : Cx} {a b c e : Expr} {ta tb tc te : RE} {pos : Pos} {K : PySem.W.Frag}
def isNon : Dv → Bool
  | .non => true
  | _ => false
theorem isNon_ok {H : Hp} {d : Dv} {v : V} (r : Rep K H d v) : decide (v = .non) = isNon d := by
  cases d with
  | non => rw [rep_non_inv r]; rfl
  | bl _ => rw [rep_bl_inv r]; rfl
  | int _ => rw [rep_int_inv r]; rfl
  | str _ => rw [rep_str_inv r]; rfl
  | ref _ => rw [rep_ref_inv r]; rfl
  | ty _ => rw [rep_ty_inv r]; rfl
  | tup _ => obtain ⟨a, vs, e, _⟩ := rep_tup_inv r; rw [e]; rfl
  | rol _ => obtain ⟨a, vs, e, _⟩ := rep_rol_inv r; rw [e]; rfl
  | tuc _ => obtain ⟨a, vs, e, _⟩ := rep_tuc_inv r; rw [e]; rfl
  | exc _ _ => obtain ⟨a, e, _⟩ := rep_exc_inv r; rw [e]; rfl
def aIsB (x y : Dv) (Q : Bool → Prop) : Prop := match y with
  | .non => Q (isNon x)
  | .bl b => match x with | .bl a => Q (a == b) | _ => False
  | _ => False
def aIs : AR2 := fun x y M Q => aIsB x y fun b => Q (.bl b) M
def rIsH : R2 := fun x y H Q => (y = .non ∧ Q (.bl (decide (x = .non))) H) ∨ (∃ a b, x = .bl a ∧ y = .bl b ∧ Q (.bl (decide (a = b))) H)
theorem ab_is : Ab2 K rIsH aIs := by
  intro H M x y dx dy Q Q' rx ry hv q k
  cases dy <;> first | exact q.elim | skip
  case non => exact .inl ⟨rep_non_inv ry, by rw [isNon_ok rx]; exact k _ _ _ _ (Tp.refl H) rep_bl hv q⟩
  case bl b =>
    cases dx <;> first | exact q.elim | skip
    case bl a =>
      refine .inr ⟨a, b, rep_bl_inv rx, rep_bl_inv ry, ?_⟩
      have e : decide (a = b) = (a == b) := by cases a <;> cases b <;> rfl
      rw [e]
      exact k _ _ _ _ (Tp.refl H) rep_bl hv q
theorem op_isH : OpR X (compareOp .Is) rIsH := opr_or op_isN op_is_bl
theorem at_is (ha : AE X a ta) (hb : AE X b tb) : AT X (.Compare a [.Is] [b] pos) (aB (aOp aIs ta tb)) := at_cmp op_isH ab_is ha hb (nomark _)
def keyD : Dv → Option Key
  | .int i => some (.inl i)
  | .str x => some (.inr x)
  | _ => none
def getK {κ : Type} [DecidableEq κ] (kvs : List (κ × Dv)) (k : κ) : Option Dv := (kvs.find? fun kv => decide (kv.1 = k)).map (·.2)
theorem keyD_ok {H : Hp} {d : Dv} {v : V} {k : Key} (r : Rep K H d v) (h : keyD d = some k) : v = kV k := by
  cases d <;> first | cases h | skip
  case int i => exact rep_int_inv r
  case str x => exact rep_str_inv r
theorem getK_ok {κ : Type} [DecidableEq κ] {H : Hp} : ∀ {kds : List (κ × Dv)} {kvs : List (κ × V)} {k : κ}, Paired (fun (p : κ × Dv) (q : κ × V) => p.1 = q.1 ∧ Rep K H p.2 q.2) kds kvs →
    (getK kds k = none ∧ valV kvs k = none) ∨ ∃ d v, getK kds k = some d ∧ valV kvs k = some v ∧ Rep K H d v
  | _, _, _, .nil => .inl ⟨rfl, rfl⟩
  | (k1, d) :: kds, (k2, v) :: kvs, k, .cons ⟨e, r⟩ t => by
    have e' : k1 = k2 := e
    subst e'
    by_cases h : k1 = k
    · refine .inr ⟨d, v, ?_, ?_, r⟩
      · simp [getK, h]
      · simp [valV, h]
    · rcases getK_ok (k := k) t with ⟨h1, h2⟩ | ⟨d', v', h1, h2, h3⟩
      · refine .inl ⟨?_, ?_⟩
        · simp only [getK, List.find?_cons, h, decide_false]; exact h1
        · simp only [valV, List.find?_cons, h, decide_false]; exact h2
      · refine .inr ⟨d', v', ?_, ?_, h3⟩
        · simp only [getK, List.find?_cons, h, decide_false]; exact h1
        · simp only [valV, List.find?_cons, h, decide_false]; exact h2
theorem ix_dict (hu : X.A.units + 1 < cLine) : IxR X (fun x y H Q => ∃ a v, x = .ref a ∧ DGet H a y (some v) ∧ Q v H) := by
  intro value slice pins s σ H x y v u Q I rx ry h hs
  obtain ⟨a, w, rfl, g, q⟩ := h
  obtain rfl : v = Value.ref a := rx
  have hT := dict_typeIs I g
  unfold subscriptTail
  refine wpAny_bind ?_
  rw [getitemInPython_of_ne hT.not_modules]
  refine wpAny_bind (wpAny_specialOf hT PySem.F.slot_dict_getitem.lookup ?_)
  have fin : wpAny (model X.prog X.w) X.A (subscripted slice false (.ref a) u) (fun r s₃ => wpAny (model X.prog X.w) X.A (letTemporaryGo value (.ref a) r >>= fun _ => pure r) (EP X pins σ Q) X.xe s₃) X.xe s := by
    rw [hs]
    exact wpAny_operating (wpAny_mono (d_getItem hu I g ry fun w' s3 I3 rw' => (⟨w, H, I3, rw', q⟩ : EP X pins σ Q w' s3)) (fun r s₃ h₃ => wpAny_bind (wpAny_letTemporaryGo (wpAny_pure h₃))) fun _ _ x => x)
  first
    | exact wpAny_pure (wpAny_bind fin)
    | exact wpAny_bind (wpAny_pure (wpAny_bind fin))
    | exact wpAny_bind fin
def rIxH (K : PySem.W.Frag) : R2 := fun x y H Q => rIx K x y H Q ∨ (∃ a v, x = .ref a ∧ DGet H a y (some v) ∧ Q v H)
theorem ix_H (hu : X.A.units + 1 < cLine) : IxR X (rIxH X.K) := IxR.or ix_seq (ix_dict hu)
def aIx : AR2 := fun x y M Q => match x with
  | .tup xs => onI y fun i => onS (atI xs i) fun d => Q d M
  | .rol xs => onI y fun i => onS (atI xs i) fun d => Q d M
  | .str z => onI y fun i => z.length ≤ sizeLine ∧ onS (atI z.cps.toList i) fun c => Q (.str ⟨#[c]⟩) M
  | .ref a => match M a with
    | some (.lst xs) => onI y fun i => onS (atI xs i) fun d => Q d M
    | some (.dic kvs) => onS (keyD y) fun k => onS (getK kvs k) fun d => Q d M
    | _ => False
  | _ => False
theorem atI_rep {H : Hp} {ds : List Dv} {vs : List V} {i : Int} {d : Dv} (r : Reps K H ds vs) (h : atI ds i = some d) : ∃ v, atI vs i = some v ∧ Rep K H d v := by
  unfold atI at h ⊢
  rw [r.length] at h
  cases e : ixN vs.length i with
  | none => rw [e] at h; cases h
  | some j =>
    rw [e] at h
    simp only [Option.bind_some] at h ⊢
    exact r.get h
theorem ab_ix : Ab2 K (rIxH K) aIx := by
  intro H M x y dx dy Q Q' rx ry hv q k
  cases dx <;> first | exact q.elim | skip
  case tup xs =>
    obtain ⟨i, e, q4⟩ := onI_ex q
    obtain ⟨d, h, q5⟩ := onS_ex q4
    subst e
    obtain ⟨a, vs, e1, s, r⟩ := rep_tup_inv rx
    obtain ⟨v, h1, h2⟩ := atI_rep r h
    exact .inl (.inr (.inl ⟨a, vs, i, v, e1, rep_int_inv ry, s, h1, k _ _ _ _ (Tp.refl H) h2 hv q5⟩))
  case rol xs =>
    obtain ⟨i, e, q4⟩ := onI_ex q
    obtain ⟨d, h, q5⟩ := onS_ex q4
    subst e
    obtain ⟨a, vs, e1, s, r⟩ := rep_rol_inv rx
    obtain ⟨v, h1, h2⟩ := atI_rep r h
    exact .inl (.inl ⟨a, vs, i, v, e1, rep_int_inv ry, s.l, h1, k _ _ _ _ (Tp.refl H) h2 hv q5⟩)
  case str z =>
    obtain ⟨i, e, hl, q4⟩ := onI_ex q
    obtain ⟨c, h, q5⟩ := onS_ex q4
    subst e
    exact .inl (.inr (.inr ⟨z, i, c, rep_str_inv rx, rep_int_inv ry, hl, h, k _ _ _ _ (Tp.refl H) rep_str hv q5⟩))
  case ref a =>
    simp only [aIx] at q
    split at q
    · next xs e =>
      obtain ⟨i, e1, q4⟩ := onI_ex q
      obtain ⟨d, h, q5⟩ := onS_ex q4
      subst e1
      obtain ⟨vs, e2, r⟩ := view_lst hv e
      obtain ⟨v, h1, h2⟩ := atI_rep r h
      exact .inl (.inl ⟨a, vs, i, v, rep_ref_inv rx, rep_int_inv ry, .inl (.inl e2), h1, k _ _ _ _ (Tp.refl H) h2 hv q5⟩)
    · next kvs e =>
      obtain ⟨kk, e1, q⟩ := onS_ex q
      obtain ⟨d, h, q⟩ := onS_ex q
      obtain ⟨vs, e2, r⟩ := (show ∃ kvs', H a = some (.dK kvs') ∧ Paired (fun (p : Key × Dv) (q : Key × V) => p.1 = q.1 ∧ Rep K H p.2 q.2) kvs kvs' from hv a _ e)
      rcases getK_ok (k := kk) r with ⟨h1, _⟩ | ⟨d', v, h1, h2, h3⟩
      · rw [h1] at h; cases h
      · rw [h1] at h; cases h
        exact .inr ⟨a, v, rep_ref_inv rx, .inl ⟨vs, kk, .inl e2, keyD_ok ry e1, h2.symm⟩, k _ _ _ _ (Tp.refl H) h3 hv q⟩
    · exact q.elim
theorem ae_ix (hu : X.A.units + 1 < cLine) (ha : AE X a ta) (hb : AE X b tb) (hs : PlainIx b := by exact fun _ _ => rfl) : AE X (.Subscript a b pos) (aOp aIx ta tb) := pe_imp (pe_ix (ix_H hu) ha hb hs) (aop_imp ab_ix)
abbrev RO := Env' → Ms → (Option Int → Ms → Prop) → Prop
def cO (K : PySem.W.Frag) (t : RO) : TO := fun σ H Q' => ∃ ρ M Q, RepE K H ρ σ ∧ View K M H ∧ t ρ M Q ∧ ∀ o H' M', Tp K H H' → View K M' H' → Q o M' → Q' o H'
def AO (X : Cx) (e : Option Expr) (t : RO) : Prop := PO X e (cO X.K t)
theorem po_imp {e : Option Expr} {t t' : TO} (h : PO X e t) (f : ∀ σ H Q, t' σ H Q → t σ H Q) : PO X e t' := ⟨fun pins s σ H Q I q => h.run pins s σ H Q I (f _ _ _ q)⟩
def aoN : RO := fun _ M Q => Q none M
def aoS (t : RE) : RO := fun ρ M Q => t ρ M fun d M1 => onI d fun i => Q (some i) M1
theorem ao_none : AO X none aoN := po_imp po_none fun σ H Q' ⟨ρ, M, Q, hr, hv, q, k⟩ => k _ _ _ (Tp.refl H) hv q
theorem ao_some (h : AE X e te) : AO X (some e) (aoS te) := po_imp (po_some h) fun σ H Q' ⟨ρ, M, Q, hr, hv, q, k⟩ => seqE hr hv q fun v H1 d M1 t1 r1 v1 q1 => by
  obtain ⟨i, e, q1⟩ := onI_ex q1
  subst e
  exact ⟨i, rep_int_inv r1, k _ _ _ t1 v1 q1⟩
def cutA (xs : List Dv) (lo hi : Option Int) : List Dv := (xs.drop (HT.sIx xs.length 0 lo)).take (HT.sIx xs.length xs.length hi - HT.sIx xs.length 0 lo)
def lstC : Option Cell → Option (List Dv)
  | some (.lst xs) => some xs
  | _ => none
theorem lstC_eq {o : Option Cell} {xs : List Dv} (h : lstC o = some xs) : o = some (.lst xs) := by
  cases o with
  | none => cases h
  | some c => cases c <;> first | (cases h; done) | (cases h; rfl)
def aSl (te : RE) (tl th : RO) : RE := fun ρ M Q => te ρ M fun x M1 => tl ρ M1 fun lo M2 => th ρ M2 fun hi M3 => match x with
  | .tup xs => Q (.tup (cutA xs lo hi)) M3
  | .str z => z.length ≤ sizeLine ∧ Q (.str (cutS z lo hi)) M3
  | .rol xs => ∀ p, M3 p = none → Q (.ref p) (mup M3 p (.lst (cutA xs lo hi)))
  | .ref a => onS (lstC (M3 a)) fun xs => ∀ p, M3 p = none → Q (.ref p) (mup M3 p (.lst (cutA xs lo hi)))
  | _ => False
theorem cutA_rep {H : Hp} {ds : List Dv} {vs : List V} (r : Reps K H ds vs) (lo hi : Option Int) : Reps K H (cutA ds lo hi) (cutV vs lo hi) := by
  unfold cutA cutV
  rw [r.length]
  exact (r.drop _).take _
theorem ae_slice {tl th : RO} {lo hi : Option Expr} {p2 : Pos} (he : AE X e te) (hl : AO X lo tl) (hh : AO X hi th) : AE X (.Subscript e (.Slice lo hi none p2) pos) (aSl te tl th) :=
  pe_imp (pe_slice (SlR.or sl_list (SlR.or sl_tupA sl_str)) he hl hh) fun σ H Q' h => by
    obtain ⟨ρ, M, Q, hr, hv, q, k⟩ := h
    refine seqE hr hv q fun v H1 d M1 t1 r1 v1 q1 => ?_
    refine ⟨ρ, M1, _, hr.mono t1, v1, q1, fun lo H2 M2 t2 v2 q2 => ⟨ρ, M2, _, hr.mono (t1.trans t2), v2, q2, fun hi H3 M3 t3 v3 q3 => ?_⟩⟩
    have rd := r1.mono (t2.trans t3)
    have k3 := k.up (t1.trans (t2.trans t3))
    cases d <;> first | exact q3.elim | skip
    case tup xs =>
      obtain ⟨a, vs, e, s, r⟩ := rep_tup_inv rd
      refine .inr (.inl ⟨a, vs, e, s, fun hw => k3 _ _ _ _ (Tp.refl H3) (rep_tup s ?_) v3 q3, fun _ => end_tup (cutA_rep r lo hi) v3 q3 k3⟩)
      have l := r.length
      unfold cutA
      rw [l, hw.1, hw.2]
      simpa [← l] using r
    case str z => exact .inr (.inr ⟨z, rep_str_inv rd, q3.1, k3 _ _ _ _ (Tp.refl H3) rep_str v3 q3.2⟩)
    case rol xs =>
      obtain ⟨a, vs, e, s, r⟩ := rep_rol_inv rd
      exact .inl ⟨a, vs, e, s.l, end_lst (cutA_rep r lo hi) v3 q3 k3⟩
    case ref a =>
      obtain ⟨xs, h1, q4⟩ := onS_ex q3
      replace h1 := lstC_eq h1
      obtain ⟨vs, e, r⟩ := view_lst v3 h1
      exact .inl ⟨a, vs, rep_ref_inv rd, .inl (.inl e), end_lst (cutA_rep r lo hi) v3 q4 k3⟩
abbrev ARC := List Dv → Ms → DK → Prop
def AbC (K : PySem.W.Frag) (r : List V → Hp → VK → Prop) (ar : ARC) : Prop := ∀ H M vs ds Q Q', Reps K H ds vs → View K M H → ar ds M Q → LkV K H Q Q' → r vs H Q'
def aFn (ar : ARC) (t : RA) : RE := fun ρ M Q => t ρ M fun ds M1 => ar ds M1 Q
variable {x : Str} {bid T : String} {r : List V → Hp → VK → Prop} {ar : ARC} {p : Pos} {es : List Expr} {t : RA}
theorem afn_imp (h : AbC K r ar) : ∀ σ H Q, cE K (aFn ar t) σ H Q → tCB r (cA K t) σ H Q := fun σ H Q' ⟨ρ, M, Q, hr, hv, q, k⟩ =>
  seqA hr hv q fun vs H1 ds M1 t1 r1 v1 q1 => h H1 M1 vs ds Q Q' r1 v1 q1 (k.up t1)
theorem ae_callB (hc : CallR X (.builtin bid) r) (h : AbC X.K r ar) (ha : AA X (e :: es) t) (hm : X.mg x = none) (hv : bootBuiltins x = some (.builtin bid)) (hg : Gl X x := by rfl) (hn : x ≠ "__name__" := by decide) (hdb : (x == ("__debug__" : Str)) = false := by decide)
    (he : starEach (e :: es) X.env = (false, eval e X.env) :: starEach es X.env := by rfl) (hpl : (backTo pos (starEach es X.env)).any (·.1) = false := by rfl) : AE X (.Call (.Name x p) (e :: es) [] pos) (aFn ar t) := pe_imp (pe_callB hc hg hm hv ha hn hdb he hpl) (afn_imp h)
theorem ae_callTy (hc : CallR X (.type T) r) (h : AbC X.K r ar) (ha : AA X (e :: es) t) (hm : X.mg x = none) (hv : bootBuiltins x = some (.type T)) (hg : Gl X x := by rfl) (hn : x ≠ "__name__" := by decide) (hdb : (x == ("__debug__" : Str)) = false := by decide)
    (he : starEach (e :: es) X.env = (false, eval e X.env) :: starEach es X.env := by rfl) (hpl : (backTo pos (starEach es X.env)).any (·.1) = false := by rfl) : AE X (.Call (.Name x p) (e :: es) [] pos) (aFn ar t) := pe_imp (pe_callTy hc hg hm hv ha hn hdb he hpl) (afn_imp h)
theorem reps1 {H : Hp} {d : Dv} {vs : List V} (h : Reps K H [d] vs) : ∃ v, vs = [v] ∧ Rep K H d v := by
  obtain ⟨v, r, e, h1, h2⟩ := h.cons_inv
  rw [h2.nil_inv] at e
  exact ⟨v, e, h1⟩
theorem reps2 {H : Hp} {d d' : Dv} {vs : List V} (h : Reps K H [d, d'] vs) : ∃ v v', vs = [v, v'] ∧ Rep K H d v ∧ Rep K H d' v' := by
  obtain ⟨v, r, e, h1, h2⟩ := h.cons_inv
  obtain ⟨v', e', h3⟩ := reps1 h2
  rw [e'] at e
  exact ⟨v, v', e, h1, h3⟩
def lenA (d : Dv) (M : Ms) : Option Nat := match d with
  | .str z => some z.length
  | d => (itemsA d M).map List.length
def acLen : ARC := fun ds M Q => match ds with
  | [d] => onS (lenA d M) fun n => (match d with | .str z => z.length ≤ sizeLine | _ => True) ∧ Q (.int (n : Int)) M
  | _ => False
theorem abc_len : AbC K (fun xs H Q => ∃ x n, xs = [x] ∧ LenV K x H n ∧ Q (.int n) H) acLen := by
  intro H M vs ds Q Q' r hv q k
  match ds, q with
  | [d], q =>
    obtain ⟨n, h, hz, q⟩ := onS_ex q
    obtain ⟨v, e, rd⟩ := reps1 r
    refine ⟨v, n, e, ?_, k _ _ _ _ (Tp.refl H) rep_int hv q⟩
    cases d with
    | str z =>
      rw [rep_str_inv rd]
      cases h
      exact ⟨hz, rfl⟩
    | tup xs =>
      obtain ⟨a, ws, e1, s, z⟩ := rep_tup_inv rd
      rw [e1]
      cases h
      exact .inr ⟨ws, s, z.length⟩
    | exc _ _ => cases h
    | tuc xs =>
      obtain ⟨a, ws, e1, s, z⟩ := rep_tuc_inv rd
      rw [e1]
      cases h
      exact .inr ⟨ws, s.t, z.length⟩
    | rol xs =>
      obtain ⟨a, ws, e1, s, z⟩ := rep_rol_inv rd
      rw [e1]
      cases h
      exact .inl ⟨ws, s.l, z.length⟩
    | ref a =>
      rw [rep_ref_inv rd]
      simp only [lenA, itemsA] at h
      cases e1 : M a with
      | none => rw [e1] at h; cases h
      | some c =>
        rw [e1] at h
        cases c with
        | lst xs =>
          obtain ⟨ws, e2, z⟩ := view_lst hv e1
          cases h
          exact .inl ⟨ws, .inl (.inl e2), z.length⟩
        | dic _ => cases h
        | dit _ => cases h
        | fdc _ => cases h
        | obj _ _ => cases h
        | tab _ => cases h
        | cod _ => cases h
    | non => cases h
    | bl _ => cases h
    | int _ => cases h
    | ty _ => cases h
def acInt : ARC := fun ds M Q => match ds with | [.int i] => Q (.int i) M | [.bl b] => Q (.int (if b then 1 else 0)) M | _ => False
theorem abc_int : AbC K (fun xs H Q => (∃ i, xs = [.int i] ∧ Q (.int i) H) ∨ ∃ k, xs = [.bl k] ∧ Q (.int (if k then 1 else 0)) H) acInt := by
  intro H M vs ds Q Q' r hv q k
  match ds, q with
  | [.int i], q =>
    obtain ⟨v, e, rd⟩ := reps1 r
    exact .inl ⟨i, by rw [e, rep_int_inv rd], k _ _ _ _ (Tp.refl H) rep_int hv q⟩
  | [.bl i], q =>
    obtain ⟨v, e, rd⟩ := reps1 r
    exact .inr ⟨i, by rw [e, rep_bl_inv rd], k _ _ _ _ (Tp.refl H) rep_int hv q⟩
def lstA (d : Dv) (M : Ms) : Option (List Dv) := match d with
  | .rol xs => some xs
  | .ref a => match M a with | some (.lst xs) => some xs | _ => none
  | _ => none
theorem lstA_ok {M : Ms} {H : Hp} {d : Dv} {v : V} {ds : List Dv} (r : Rep K H d v) (hv : View K M H) (h : lstA d M = some ds) : ∃ a vs, v = .ref a ∧ SqL K H a vs ∧ Reps K H ds vs := by
  cases d with
  | rol es =>
    cases h
    obtain ⟨a, vs, e, s, z⟩ := rep_rol_inv r
    exact ⟨a, vs, e, s.l, z⟩
  | ref a =>
    simp only [lstA] at h
    cases q : M a with
    | none => rw [q] at h; cases h
    | some c =>
      rw [q] at h
      cases c with
      | dic _ => cases h
      | dit _ => cases h
      | fdc _ => cases h
      | obj _ _ => cases h
      | tab _ => cases h
      | cod _ => cases h
      | lst es =>
        cases h
        obtain ⟨vs, h1, h2⟩ := view_lst hv q
        exact ⟨a, vs, rep_ref_inv r, .inl (.inl h1), h2⟩
  | tup _ => cases h
  | tuc _ => cases h
  | exc _ _ => cases h
  | non => cases h
  | bl _ => cases h
  | int _ => cases h
  | str _ => cases h
  | ty _ => cases h
def acMin2 : ARC := fun ds M Q => match ds with | [.int i, .int j] => Q (.int (if j < i then j else i)) M | _ => False
theorem abc_min2 : AbC K (fun xs H Q => ∃ i j, xs = [.int i, .int j] ∧ Q (.int (if j < i then j else i)) H) acMin2 := by
  intro H M vs ds Q Q' r hv q k
  match ds, q with
  | [.int i, .int j], q =>
    obtain ⟨v, w, e, r1, r2⟩ := reps2 r
    exact ⟨i, j, by rw [e, rep_int_inv r1, rep_int_inv r2], k _ _ _ _ (Tp.refl H) rep_int hv q⟩
def acTup : ARC := fun ds M Q => match ds with | [d] => onS (itemsA d M) fun xs => Q (.tup xs) M | _ => False
theorem abc_tup : AbC K (fun xs H Q => ∃ p ys, xs = [.ref p] ∧ ((SqL K H p ys ∧ ∀ l, H l = none → Q (.ref l) (upd H l (.tup ys))) ∨ (SqT K H p ys ∧ Q (.ref p) H))) acTup := by
  intro H M vs ds Q Q' r hv q k
  match ds, q with
  | [d], q =>
    obtain ⟨xs, h, q⟩ := onS_ex q
    obtain ⟨v, e, rd⟩ := reps1 r
    obtain ⟨a, ws, e1, s, z⟩ := itemsA_ok rd hv h
    subst e1
    rcases s with s | s
    · exact ⟨a, ws, e, .inr ⟨s, k _ _ _ _ (Tp.refl H) (rep_tup s z) hv q⟩⟩
    · exact ⟨a, ws, e, .inl ⟨s, end_tup z hv q k⟩⟩
end
end HC
set_option maxHeartbeats 4000000
namespace HC
open PySem L2 PyProof.Rows
section
variable {X : Cx} {a b c e o : Expr} {ta tb tc te to : RE} {pos apos cpos p : Pos} {K : PySem.W.Frag} {es : List Expr} {t : RA}
def tyN : Dv → Ms → Option String
  | .non, _ => some "NoneType"
  | .bl _, _ => some "bool"
  | .int _, _ => some "int"
  | .str _, _ => some "str"
  | .tup _, _ => some "tuple"
  | .rol _, _ => some "list"
  | .tuc _, _ => some "tuple"
  | .ref a, M => match M a with | some (.lst _) => some "list" | some (.dic _) => some "dict" | some (.dit _) => some "dict" | _ => none
  | .ty _, _ => none
  | .exc _ _, _ => none
theorem tyN_ok {M : Ms} {H : Hp} {d : Dv} {v : V} {T : String} (r : Rep K H d v) (hv : View K M H) (h : tyN d M = some T) : TyX K H v (.type T) := by
  cases d with
  | non => cases h; rw [rep_non_inv r]; exact .base .non
  | bl b => cases h; rw [rep_bl_inv r]; exact .base (.bl b)
  | int b => cases h; rw [rep_int_inv r]; exact .base (.int b)
  | str b => cases h; rw [rep_str_inv r]; exact .base (.str b)
  | ty b => cases h
  | tup ds =>
    cases h
    obtain ⟨a, vs, e, s, _⟩ := rep_tup_inv r
    rw [e]
    rcases s with (s | ⟨o, s⟩) | ⟨o, its, n, h1, h2, _⟩
    · exact .base (.tup s)
    · exact .fTuple s
    · exact .kTuple h1 h2
  | rol ds =>
    cases h
    obtain ⟨a, vs, e, s, _⟩ := rep_rol_inv r
    rw [e]
    rcases s.l with (s | ⟨o, s⟩) | ⟨o, its, n, h1, h2, _⟩
    · exact .base (.lst s)
    · exact .base (.frz s)
    · exact .kList h1 h2
  | exc _ _ => cases h
  | tuc ds =>
    cases h
    obtain ⟨a, vs, e, ⟨o, s, _⟩, _⟩ := rep_tuc_inv r
    rw [e]
    exact .fTuple s
  | ref a =>
    rw [rep_ref_inv r]
    simp only [tyN] at h
    cases q : M a with
    | none => rw [q] at h; cases h
    | some c =>
      rw [q] at h
      have rc := hv a c q
      cases c with
      | lst xs => cases h; obtain ⟨vs, e, _⟩ := rc; exact .base (.lst e)
      | dic xs => cases h; obtain ⟨vs, e, _⟩ := rc; exact .base (.dK e)
      | dit xs => cases h; obtain ⟨vs, e, _⟩ := rc; exact .base (.dT e)
      | fdc xs => cases h
      | obj C xs => cases h
      | tab xs => cases h
      | cod q => cases h
def acIsi : ARC := fun ds M Q => match ds with | [d, .ty n] => onS (tyN d M) fun T => ∃ b, kitB T n = some b ∧ Q (.bl b) M | _ => False
theorem abc_isi : AbC K (rIsi K) acIsi := by
  intro H M vs ds Q Q' r hv q k
  match ds, q with
  | [d, .ty n], q =>
    obtain ⟨T, h1, b, h2, q⟩ := onS_ex q
    obtain ⟨v, w, e, r1, r2⟩ := reps2 r
    rw [rep_ty_inv r2] at e
    exact ⟨v, .ty n, .type T, .type n, b, e, .ty n, tyN_ok r1 hv h1, kit_ty h2, k _ _ _ _ (Tp.refl H) rep_bl hv q⟩
theorem kit_ii : kitB "int" "int" = some true := by decide +kernel
theorem kit_ib : kitB "int" "bool" = some false := by decide +kernel
theorem kit_it : kitB "int" "tuple" = some false := by decide +kernel
theorem kit_is : kitB "int" "str" = some false := by decide +kernel
theorem kit_bi : kitB "bool" "int" = some true := by decide +kernel
theorem kit_bb : kitB "bool" "bool" = some true := by decide +kernel
theorem kit_bt : kitB "bool" "tuple" = some false := by decide +kernel
theorem kit_bs : kitB "bool" "str" = some false := by decide +kernel
theorem kit_ti : kitB "tuple" "int" = some false := by decide +kernel
theorem kit_tb : kitB "tuple" "bool" = some false := by decide +kernel
theorem kit_tt : kitB "tuple" "tuple" = some true := by decide +kernel
theorem kit_ts : kitB "tuple" "str" = some false := by decide +kernel
theorem kit_si : kitB "str" "int" = some false := by decide +kernel
theorem kit_sb : kitB "str" "bool" = some false := by decide +kernel
theorem kit_st : kitB "str" "tuple" = some false := by decide +kernel
theorem kit_ss : kitB "str" "str" = some true := by decide +kernel
theorem kit_ni : kitB "NoneType" "int" = some false := by decide +kernel
theorem kit_nb : kitB "NoneType" "bool" = some false := by decide +kernel
theorem kit_nt : kitB "NoneType" "tuple" = some false := by decide +kernel
theorem kit_ns : kitB "NoneType" "str" = some false := by decide +kernel
theorem kit_li : kitB "list" "int" = some false := by decide +kernel
theorem kit_lb : kitB "list" "bool" = some false := by decide +kernel
theorem kit_lt : kitB "list" "tuple" = some false := by decide +kernel
theorem kit_ls : kitB "list" "str" = some false := by decide +kernel
abbrev ARM := Dv → List Dv → Ms → DK → Prop
def AbM (K : PySem.W.Frag) (r : V → List V → Hp → VK → Prop) (ar : ARM) : Prop := ∀ H M x dx vs ds Q Q', Rep K H dx x → Reps K H ds vs → View K M H → ar dx ds M Q → LkV K H Q Q' → r x vs H Q'
def tyM (T : String) : Dv → Ms → Prop := fun d M => match d with
  | .str _ => T = "str"
  | .rol _ => T = "list"
  | .ref a => match M a with | some (.lst _) => T = "list" | some (.dic _) => T = "dict" | some (.dit _) => T = "dict" | _ => False
  | _ => False
theorem tyM_ok {M : Ms} {H : Hp} {d : Dv} {v : V} {T : String} (r : Rep K H d v) (hv : View K M H) (h : tyM T d M) : tyV K T v H := by
  cases d <;> first | exact h.elim | skip
  case str z => rw [rep_str_inv r]; exact h
  case rol z =>
    obtain ⟨a, vs, e, s, _⟩ := rep_rol_inv r
    rw [e]; exact .inl ⟨h, vs, s.l⟩
  case ref a =>
    rw [rep_ref_inv r]
    simp only [tyM] at h
    cases q : M a with
    | none => rw [q] at h; exact h.elim
    | some c =>
      rw [q] at h
      have rc := hv a c q
      cases c with
      | lst xs => obtain ⟨vs, e, _⟩ := rc; exact .inl ⟨h, vs, .inl (.inl e)⟩
      | dic xs => obtain ⟨vs, e, _⟩ := rc; exact .inr (.inr (.inl ⟨h, .inl ⟨vs, e⟩⟩))
      | dit xs => obtain ⟨vs, e, _⟩ := rc; exact .inr (.inr (.inl ⟨h, .inr ⟨vs, e⟩⟩))
      | fdc xs => exact h.elim
      | obj C xs => exact h.elim
      | tab xs => exact h.elim
      | cod q => exact h.elim
def aMth (T : String) (ar : ARM) (to : RE) (t : RA) : RE := fun ρ M Q => to ρ M fun x M1 => tyM T x M1 ∧ t ρ M1 fun ds M2 => ar x ds M2 Q
variable {T name mid : String} {nm : Str} {r : V → List V → Hp → VK → Prop} {ar : ARM}
theorem mth_imp (h : AbM K r ar) : ∀ σ H Q, cE K (aMth T ar to t) σ H Q → tBM K T r (cE K to) (cA K t) σ H Q := fun σ H Q' ⟨ρ, M, Q, hr, hv, q, k⟩ =>
  seqE hr hv q fun v H1 d M1 t1 r1 v1 ⟨ht, q1⟩ => ⟨tyM_ok r1 v1 ht, seqA (hr.mono t1) v1 q1 fun vs H2 ds M2 t2 r2 v2 q2 => h H2 M2 v d vs ds Q Q' (r1.mono t2) r2 v2 q2 (k.up (t1.trans t2))⟩
theorem ae_bm (pa : PlainAttrs T) (slot : Slot T nm mid) (hty : typeOf (.builtin mid) = pure (.type "method_descriptor")) (hm : MtR X mid r) (h : AbM X.K r ar) (ho : AE X o to) (ha : AA X (e :: es) t)
    (hbase : attributeBase o nm X.env (eval o X.env) = eval o X.env := by rfl)
    (hfew : ((backTo cpos (starEach (e :: es) X.env)).all (fun x => !x.1) && (backToKw cpos (keywordEach [] X.env)).all (fun x => x.1.isSome)
      && decide ((e :: es).length + ([] : List Keyword).length + (if ([] : List Keyword).isEmpty then 0 else 1) < 30)) = true := by rfl)
    (hline : (apos.endLine == cpos.line) = true := by rfl) (hs : starEach (e :: es) X.env = (false, eval e X.env) :: starEach es X.env := by rfl) (hplain : (backTo cpos (starEach es X.env)).any (·.1) = false := by rfl) :
    AE X (.Call (.Attribute o nm apos) (e :: es) [] cpos) (aMth T ar to t) := pe_imp (pe_bm pa slot hty hm ho ha hbase hfew hline hs hplain) (mth_imp h)
def amApp : ARM := fun x ds M Q => match x, ds with
  | .ref l, [d] => onS (lstC (M l)) fun xs => xs.length < sizeLine ∧ Q .non (mup M l (.lst (xs ++ [d])))
  | _, _ => False
theorem end_wr {H : Hp} {M : Ms} {l : Addr} {xs ys : List Dv} {vs : List V} {Q : DK} {Q' : VK} {d : Dv} {v : V} (hv : View K M H) (hl : M l = some (.lst xs)) (r : Reps K H ys vs) (rd : Rep K H d v) (q : Q d (mup M l (.lst ys))) (k : LkV K H Q Q') : Q' v (upd H l (.lst vs)) :=
  k _ _ d _ (Tp.put (hv.soft hl)) (rd.mono (Tp.put (hv.soft hl))) (hv.put (c := .lst ys) (hv.soft hl) ⟨vs, upd_same, r.mono (Tp.put (hv.soft hl))⟩) q
theorem abm_app : AbM K rAppend amApp := by
  intro H M x dx vs ds Q Q' rx rd hv q k
  match dx, ds, q with
  | .ref l, [d], q =>
    obtain ⟨xs, h1, hz, q⟩ := onS_ex q
    replace h1 := lstC_eq h1
    obtain ⟨v, e, r1⟩ := reps1 rd
    obtain ⟨ws, e2, z⟩ := view_lst hv h1
    exact ⟨l, ws, v, rep_ref_inv rx, e, e2, by rw [← z.length]; exact hz, end_wr hv h1 (z.append (Reps.cons r1 Reps.nil)) rep_non q k⟩
def amPop : ARM := fun x ds M Q => match x, ds with
  | .ref l, [.int i] => onS (lstC (M l)) fun xs => (0 ≤ i ∧ i < 4611686018427387904) ∧ onS xs[i.toNat]? fun d => Q d (mup M l (.lst (xs.eraseIdx i.toNat)))
  | _, _ => False
theorem seqIndex_nat {k n : Nat} (h : k < n) : seqIndex? (k : Int) n = some k := by
  have := (ixN_seq (n := n) (i := (k : Int)) (j := k) (by unfold ixN; rw [if_pos (by omega), if_pos (by omega), Int.toNat_natCast])).1
  exact this
theorem abm_pop : AbM K rPopAt amPop := by
  intro H M x dx vs ds Q Q' rx rd hv q k
  match dx, ds, q with
  | .ref l, [.int i], q =>
    obtain ⟨xs, h1, ⟨h0, hb⟩, q⟩ := onS_ex q
    obtain ⟨d, hd, q5⟩ := onS_ex q
    replace h1 := lstC_eq h1
    obtain ⟨kk, hk⟩ : ∃ kk, i.toNat = kk := ⟨_, rfl⟩
    rw [hk] at hd q5
    obtain ⟨v, e, r1⟩ := reps1 rd
    rw [rep_int_inv r1] at e
    obtain ⟨ws, e2, z⟩ := view_lst hv h1
    obtain ⟨w, hw, rw'⟩ := z.get hd
    have hl := (List.getElem?_eq_some_iff.mp hw).1
    have ei : i = (kk : Int) := by omega
    subst ei
    exact ⟨l, ws, kk, kk, w, rep_ref_inv rx, e, e2, by omega, by omega, seqIndex_nat hl, hw, end_wr hv h1 (z.eraseIdx kk) rw' q5 k⟩
theorem ae_append (ho : AE X o to) (ha : AA X [e] t) (hline : (apos.endLine == cpos.line) = true := by rfl) (hbase : attributeBase o "append" X.env (eval o X.env) = eval o X.env := by rfl)
    (hfew : ((backTo cpos (starEach [e] X.env)).all (fun x => !x.1) && (backToKw cpos (keywordEach [] X.env)).all (fun x => x.1.isSome)
      && decide (([e] : List Expr).length + ([] : List Keyword).length + (if ([] : List Keyword).isEmpty then 0 else 1) < 30)) = true := by rfl)
    (hs : starEach [e] X.env = (false, eval e X.env) :: starEach [] X.env := by rfl) (hplain : (backTo cpos (starEach [] X.env)).any (·.1) = false := by rfl) :
    AE X (.Call (.Attribute o "append" apos) [e] [] cpos) (aMth "list" amApp to t) := ae_bm PySem.F.plainAttrs_list PySem.F.slot_list_append PySem.F.type_list_append mt_append abm_app ho ha hbase hfew hline hs hplain
theorem ae_popAt (ho : AE X o to) (ha : AA X [e] t) (hline : (apos.endLine == cpos.line) = true := by rfl) (hbase : attributeBase o "pop" X.env (eval o X.env) = eval o X.env := by rfl)
    (hfew : ((backTo cpos (starEach [e] X.env)).all (fun x => !x.1) && (backToKw cpos (keywordEach [] X.env)).all (fun x => x.1.isSome)
      && decide (([e] : List Expr).length + ([] : List Keyword).length + (if ([] : List Keyword).isEmpty then 0 else 1) < 30)) = true := by rfl)
    (hs : starEach [e] X.env = (false, eval e X.env) :: starEach [] X.env := by rfl) (hplain : (backTo cpos (starEach [] X.env)).any (·.1) = false := by rfl) :
    AE X (.Call (.Attribute o "pop" apos) [e] [] cpos) (aMth "list" amPop to t) := ae_bm PySem.F.plainAttrs_list PySem.F.slot_list_pop PySem.F.type_list_pop mt_popAt abm_pop ho ha hbase hfew hline hs hplain
abbrev ASet := Dv → Dv → Dv → Ms → (Ms → Prop) → Prop
def putA {κ : Type} [DecidableEq κ] (kvs : List (κ × Dv)) (k : κ) (v : Dv) : List (κ × Dv) :=
  if (kvs.any fun kv => decide (kv.1 = k)) = true then kvs.map (fun kv => if kv.1 = k then (kv.1, v) else kv) else kvs ++ [(k, v)]
def asSet : ASet := fun x i v M Q => match x with
  | .ref a => match M a with
    | some (.lst xs) => onI i fun k => onS (ixN xs.length k) fun j => Q (mup M a (.lst (xs.set j v)))
    | some (.dic kvs) => onS (keyD i) fun k => kvs.length < sizeLine ∧ Q (mup M a (.dic (putA kvs k v)))
    | _ => False
  | _ => False
def rSetH : V → V → V → Hp → (Hp → Prop) → Prop := fun o i v H Q => rSetL o i v H Q ∨ ∃ a H', o = .ref a ∧ DPut H a i v H' ∧ Q H'
theorem set_H (hu : X.A.units + 1 < cLine) : PSet X rSetH := by
  intro pins s σ H o i v ov iv u Q I ro ri rv h
  rcases h with h | ⟨a, H', rfl, g, q⟩
  · exact set_list pins s σ H o i v ov iv u Q I ro ri rv h
  · obtain rfl : ov = Value.ref a := ro
    exact d_setItem hu I g ri rv fun s' I' => ⟨H', I', q⟩
abbrev KP (K : PySem.W.Frag) (H : Hp) (κ : Type) : List (κ × Dv) → List (κ × V) → Prop := Paired (fun (p : κ × Dv) (q : κ × V) => p.1 = q.1 ∧ Rep K H p.2 q.2)
theorem kp_any {H : Hp} {κ : Type} [DecidableEq κ] {k : κ} : ∀ {kds : List (κ × Dv)} {kvs : List (κ × V)}, KP K H κ kds kvs → (kds.any fun kv => decide (kv.1 = k)) = (kvs.any fun kv => decide (kv.1 = k))
  | _, _, .nil => rfl
  | (k1, d) :: kds, (k2, v) :: kvs, .cons ⟨e, r⟩ t => by
    have e' : k1 = k2 := e
    subst e'
    simp only [List.any_cons]
    rw [kp_any t]
theorem kp_map {H : Hp} {κ : Type} [DecidableEq κ] {k : κ} {d : Dv} {v : V} (rd : Rep K H d v) : ∀ {kds : List (κ × Dv)} {kvs : List (κ × V)}, KP K H κ kds kvs → KP K H κ (kds.map (fun kv => if kv.1 = k then (kv.1, d) else kv)) (kvs.map (fun kv => if kv.1 = k then (kv.1, v) else kv))
  | _, _, .nil => .nil
  | (k1, d1) :: kds, (k2, v1) :: kvs, .cons ⟨e, r⟩ t => by
    have e' : k1 = k2 := e
    subst e'
    rw [List.map_cons, List.map_cons]
    refine .cons ?_ (kp_map rd t)
    by_cases h : k1 = k
    · simpa [h] using rd
    · simpa [h] using r
theorem kp_app {H : Hp} {κ : Type} : ∀ {kds es : List (κ × Dv)} {kvs fs : List (κ × V)}, KP K H κ kds kvs → KP K H κ es fs → KP K H κ (kds ++ es) (kvs ++ fs)
  | _, _, _, _, .nil, h => h
  | _, _, _, _, .cons r t, h => .cons r (kp_app t h)
theorem kp_put {H : Hp} {κ : Type} [DecidableEq κ] {k : κ} {d : Dv} {v : V} (rd : Rep K H d v) {kds : List (κ × Dv)} {kvs : List (κ × V)} (h : KP K H κ kds kvs) : KP K H κ (putA kds k d) (putK kvs k v) := by
  unfold putA putK
  rw [kp_any h]
  split
  · exact kp_map rd h
  · exact kp_app h (.cons ⟨rfl, rd⟩ .nil)
theorem kp_mono {H H' : Hp} {κ : Type} {kds : List (κ × Dv)} {kvs : List (κ × V)} (h : KP K H κ kds kvs) (t : Tp K H H') : KP K H' κ kds kvs := Paired.mapP h fun _ _ z => ⟨z.1, z.2.mono t⟩
theorem kp_len {H : Hp} {κ : Type} {kds : List (κ × Dv)} {kvs : List (κ × V)} (h : KP K H κ kds kvs) : kds.length = kvs.length := Paired.length h
def agSub (to ti : RE) (s : ASet) : RG := fun d ρ M Q => to ρ M fun x M1 => ti ρ M1 fun i M2 => s x i d M2 fun M3 => Q ρ M3
theorem ag_sub {i : Expr} {ti : RE} (hu : X.A.units + 1 < cLine) (ho : AE X o to) (hi : AE X i ti)
    (ha : ∀ v, assign (.Subscript o i pos) X.env v = (do
      let ov ← holding [v] (eval o X.env)
      let iv ← holding [v, ov] (eval i X.env)
      standAt pos
      holding [v, ov, iv] (setItem ov iv v)
      release [v, ov, iv] []) := by intro _; rfl) : AG X (.Subscript o i pos) (agSub to ti asSet) :=
  pg_imp (pg_sub ho hi (set_H hu) ha) fun v σ H Q' h => by
    obtain ⟨d, ρ, M, Q, rd, hr, hv, q, k⟩ := h
    refine seqE hr hv q fun x H1 dx M1 t1 r1 v1 q1 => seqE (hr.mono t1) v1 q1 fun iv H2 di M2 t2 r2 v2 q2 => ?_
    have t12 := t1.trans t2
    have rx := r1.mono t2
    have rd2 := rd.mono t12
    cases dx <;> first | exact q2.elim | skip
    case ref a =>
      simp only [asSet] at q2
      cases e : M2 a with
      | none => rw [e] at q2; exact q2.elim
      | some c =>
        rw [e] at q2
        cases c with
        | lst xs =>
          obtain ⟨kk, e1, q4⟩ := onI_ex q2
          obtain ⟨j, hj, q5⟩ := onS_ex q4
          subst e1
          obtain ⟨vs, e2, z⟩ := view_lst v2 e
          refine .inl ⟨a, vs, kk, j, rep_ref_inv rx, rep_int_inv r2, e2, by rw [← z.length]; exact hj, ?_⟩
          exact k _ _ _ _ (t12.trans (Tp.put (v2.soft e))) (hr.mono (t12.trans (Tp.put (v2.soft e)))) (v2.put (c := .lst (xs.set j d)) (v2.soft e) ⟨vs.set j v, upd_same, (z.set j rd2).mono (Tp.put (v2.soft e))⟩) q5
        | dic kds =>
          obtain ⟨kk, e1, hz, q2⟩ := onS_ex q2
          obtain ⟨kvs, e2, z⟩ := (show ∃ kvs', H2 a = some (.dK kvs') ∧ KP X.K H2 Key kds kvs' from v2 a _ e)
          refine .inr ⟨a, upd H2 a (.dK (putK kvs kk v)), rep_ref_inv rx, .inl ⟨kvs, kk, e2, keyD_ok r2 e1, by rw [← kp_len z]; exact hz, rfl⟩, ?_⟩
          exact k _ _ _ _ (t12.trans (Tp.put (v2.soft e))) (hr.mono (t12.trans (Tp.put (v2.soft e)))) (v2.put (c := .dic (putA kds kk d)) (v2.soft e) ⟨_, upd_same, kp_mono (kp_put rd2 z) (Tp.put (v2.soft e))⟩) q2
        | dit _ => exact q2.elim
        | fdc _ => exact q2.elim
        | obj _ _ => exact q2.elim
        | tab _ => exact q2.elim
        | cod _ => exact q2.elim
end
end HC
set_option maxHeartbeats 200000
namespace HC
open PySem L2 PyProof.Rows
section
variable {X : Cx} {a b c e o tg : Expr} {ta tb tc te to : RE} {pos apos cpos p tpos : Pos} {K : PySem.W.Frag} {es : List Expr} {t : RA}
def on1 (ds : List Dv) (Q : Dv → Prop) : Prop := match ds with | [d] => Q d | _ => False
theorem on1_ex {ds : List Dv} {Q : Dv → Prop} (h : on1 ds Q) : ∃ d, ds = [d] ∧ Q d := by
  match ds, h with
  | [d], h => exact ⟨d, rfl, h⟩
def aiSeq (te : RE) : RI := fun ρ M Q => te ρ M fun d M1 => onS (itemsA d M1) fun ds => Q ds (fun M => itemsA d M = some ds) M1
theorem pi_seq {tl : TE} (hl : PE X e tl) : PI X tg e (fun σ H R => tl σ H fun x H1 => ∃ a, x = .ref a ∧ ((∃ xs, SqL X.K H1 a xs) ∧ R (Itl X.K a) H1 ∨ (∃ xs, SqT X.K H1 a xs) ∧ R (Itt X.K a) H1)) := by
  refine ⟨fun pins s σ H R I h => ?_⟩
  refine thn (hl.run pins s σ H _ I h) fun v s1 ⟨x, H1, I1, r1, q1⟩ => ?_
  obtain ⟨a, e, ⟨⟨xs, hq⟩, q⟩ | ⟨⟨xs, hq⟩, q⟩⟩ := q1
  · subst e
    cases r1
    obtain ⟨its, rv, p, hz⟩ := I1.list hq
    refine wpAny_pyIter_list p.isList ?_
    refine ⟨s1.heap.objs.size, [s1.heap.objs.size], _, _, H1, rfl, I1.kept (t' := s1.toks) fun b o e => Heap.get?_push_of_some _ e, turn_list a _, ⟨_, Heap.get?_push_size _ rfl, rfl, rfl⟩, fun b hb => ?_, q⟩
    have e : b = s1.heap.objs.size := by simpa using hb
    subst e
    exact I1.fpOk (Nat.le_refl _) (I1.hok.fresh (Nat.le_refl _))
  · subst e
    cases r1
    obtain ⟨its, rv, p, hz⟩ := I1.tuple hq
    refine wpAny_pyIter_tuple (show s1.heap.IsTuple a its.toArray from p) ?_
    refine ⟨s1.heap.objs.size, [s1.heap.objs.size], _, _, H1, rfl, I1.kept (t' := s1.toks) fun b o e => Heap.get?_push_of_some _ e, turn_tuple a _, ⟨_, Heap.get?_push_size _ rfl, rfl, rfl⟩, fun b hb => ?_, q⟩
    have e : b = s1.heap.objs.size := by simpa using hb
    subst e
    exact I1.fpOk (Nat.le_refl _) (I1.hok.fresh (Nat.le_refl _))
theorem items_stand {H1 : Hp} {M1 : Ms} {d : Dv} {v : V} {ds : List Dv} (r : Rep K H1 d v) (hv : View K M1 H1) (h : itemsA d M1 = some ds) :
    ∃ a vs, v = .ref a ∧ Reps K H1 ds vs ∧ ((SqT K H1 a vs ∧ ∀ H, Tp K H1 H → SqT K H a vs) ∨ (SqL K H1 a vs ∧ ∀ H M, Tp K H1 H → View K M H → itemsA d M = some ds → ∃ ws, SqL K H a ws ∧ Reps K H ds ws)) := by
  cases d <;> first | cases h; done | skip
  case tup es =>
    cases h
    obtain ⟨a, vs, e, s, z⟩ := rep_tup_inv r
    exact ⟨a, vs, e, z, .inl ⟨s, fun H t => t.t _ _ s⟩⟩
  case rol es =>
    cases h
    obtain ⟨a, vs, e, s, z⟩ := rep_rol_inv r
    exact ⟨a, vs, e, z, .inr ⟨s.l, fun H M t _ _ => ⟨vs, (t.f _ _ s).l, z.mono t⟩⟩⟩
  case tuc es =>
    cases h
    obtain ⟨a, vs, e, s, z⟩ := rep_tuc_inv r
    exact ⟨a, vs, e, z, .inl ⟨s.t, fun H t => t.t _ _ s.t⟩⟩
  case ref a =>
    simp only [itemsA] at h
    cases q : M1 a with
    | none => rw [q] at h; cases h
    | some c =>
      rw [q] at h
      cases c with
      | dic _ => cases h
      | dit _ => cases h
      | fdc _ => cases h
      | obj _ _ => cases h
      | tab _ => cases h
      | cod _ => cases h
      | lst es =>
        cases h
        obtain ⟨vs, h1, h2⟩ := view_lst hv q
        refine ⟨a, vs, rep_ref_inv r, h2, .inr ⟨.inl (.inl h1), fun H M t v' hk => ?_⟩⟩
        simp only [itemsA] at hk
        cases q' : M a with
        | none => rw [q'] at hk; cases hk
        | some c' =>
          rw [q'] at hk
          cases c' with
          | dic _ => cases hk
          | dit _ => cases hk
          | fdc _ => cases hk
          | obj _ _ => cases hk
          | tab _ => cases hk
          | cod _ => cases hk
          | lst es' =>
            cases hk
            obtain ⟨ws, h3, h4⟩ := view_lst v' q'
            exact ⟨ws, .inl (.inl h3), h4⟩
theorem iw_list {a : Addr} {ds : List Dv} {keep : Ms → Prop} {H1 : Hp} (h : ∀ H M, Tp K H1 H → View K M H → keep M → ∃ ws, SqL K H a ws ∧ Reps K H ds ws) : IW K (Itl K a) ds keep H1 where
  go := fun i H M hi t v k => by
    obtain ⟨ws, s, z⟩ := h H M t v k
    obtain ⟨w, hw, _⟩ := z.get (List.getElem?_eq_getElem hi)
    exact ⟨ws, w, s, hw⟩
  stop := fun H M t v k => by
    obtain ⟨ws, s, z⟩ := h H M t v k
    exact ⟨ws, s, by rw [← z.length]; exact Nat.le_refl _⟩
  yld := fun i H M x H' hi t v k y => by
    obtain ⟨ws, s, z⟩ := h H M t v k
    obtain ⟨w, hw, rw'⟩ := z.get (List.getElem?_eq_getElem hi)
    obtain ⟨e, y2⟩ := y
    subst e
    have := y2 ws s
    rw [hw] at this
    cases this
    exact ⟨_, List.getElem?_eq_getElem hi, Tp.refl _, rw', v, fun _ _ => rfl⟩
theorem iw_tup {a : Addr} {ds : List Dv} {vs : List V} {keep : Ms → Prop} {H1 : Hp} (z0 : Reps K H1 ds vs) (h : ∀ H, Tp K H1 H → SqT K H a vs) : IW K (Itt K a) ds keep H1 where
  go := fun i H M hi t v k => by
    obtain ⟨w, hw, _⟩ := z0.get (List.getElem?_eq_getElem hi)
    exact ⟨vs, w, h H t, hw⟩
  stop := fun H M t v k => ⟨vs, h H t, by rw [← z0.length]; exact Nat.le_refl _⟩
  yld := fun i H M x H' hi t v k y => by
    obtain ⟨w, hw, rw'⟩ := (z0.mono t).get (List.getElem?_eq_getElem hi)
    obtain ⟨e, y2⟩ := y
    subst e
    have := y2 vs (h _ t)
    rw [hw] at this
    cases this
    exact ⟨_, List.getElem?_eq_getElem hi, Tp.refl _, rw', v, fun _ _ => rfl⟩
theorem ai_seq (h : AE X e te) : AI X tg e (aiSeq te) := pi_imp (pi_seq h) fun σ H R ⟨ρ, M, Q, hr, hv, q, k⟩ => seqE hr hv q fun v H1 d M1 t1 r1 v1 q1 => by
  obtain ⟨ds, hi, q1⟩ := onS_ex q1
  obtain ⟨a, vs, e1, z, hs⟩ := items_stand r1 v1 hi
  refine ⟨a, e1, ?_⟩
  rcases hs with ⟨s, hs⟩ | ⟨s, hs⟩
  · exact .inr ⟨⟨vs, s⟩, k _ H1 ds _ M1 t1 v1 q1 (iw_tup z hs)⟩
  · exact .inl ⟨⟨vs, s⟩, k _ H1 ds _ M1 t1 v1 q1 (iw_list hs)⟩
def rangeA (lo : Int) (n : Nat) : List Dv := (List.range n).map fun (i : Nat) => Dv.int (lo + (i : Int))
theorem iw_range {lo : Int} {n : Nat} {keep : Ms → Prop} {H1 : Hp} : IW K (Itr lo n) (rangeA lo n) keep H1 where
  go := fun i H M hi t v k => by
    have h : i < n := by simpa [rangeA] using hi
    exact h
  stop := fun H M t v k => by simp [rangeA, Itr]
  yld := fun i H M x H' hi t v k y => by
    obtain ⟨e, y2⟩ := y
    subst e y2
    refine ⟨.int (lo + (i : Int)), ?_, Tp.refl _, rep_int, v, fun _ _ => rfl⟩
    have : i < n := by simpa [rangeA] using hi
    simp [rangeA, this]
def aiR1 (t : RA) : RI := fun ρ M Q => t ρ M fun ds M1 => on1 ds fun d => onI d fun j => (-(2 ^ 62) ≤ j ∧ j < 2 ^ 62) ∧ Q (rangeA 0 j.toNat) (fun _ => True) M1
theorem ai_range1 (hm : X.mg "range" = none) (ha : AA X [a] t) (hg : Gl X "range" := by rfl) (hs : starEach [a] X.env = [(false, eval a X.env)] := by rfl) : AI X tg (.Call (.Name "range" p) [a] [] pos) (aiR1 t) :=
  pi_imp (pi_range1 hg hm ha hs) fun σ H R ⟨ρ, M, Q, hr, hv, q, k⟩ => seqA hr hv q fun vs H1 ds M1 t1 r1 v1 q1 => by
    obtain ⟨d, e0, q4⟩ := on1_ex q1
    obtain ⟨j, e3, h1, q5⟩ := onI_ex q4
    subst e0 e3
    obtain ⟨v, e, rd⟩ := reps1 r1
    exact ⟨j, by rw [e, rep_int_inv rd], h1.1, h1.2, k _ H1 _ _ M1 t1 v1 q5 iw_range⟩
end
end HC
set_option maxHeartbeats 1000000
namespace HC
open PySem PySem.Spec L2 PyProof.Rows
section
variable {prog : Program} {w : World} {A : Around} {E : Value → Shared → Prop} {s : Shared}
end
section
variable {X : Cx} {e : Expr} {t : RA} {K : PySem.W.Frag} {p pos tpos : Pos}
end
end HC
set_option maxHeartbeats 1000000
namespace HC
open PySem PySem.Spec L2 PyProof.Rows
def RowIt (k : Bool) (h : Heap) (it a : Addr) (i : Nat) : Prop := match k with | true => h.IsTupleIter it a i | false => h.IsListIter it a i
def RowAt (k : Bool) (h : Heap) (a : Addr) (items : Array Value) : Prop := match k with | true => h.IsTuple a items | false => h.IsList a items
def RowO (k : Bool) (a : Addr) : Obj := match k with
  | true => { cls := .type "tuple_iterator", data := .fields #[.ref a, .int 0 0] }
  | false => { cls := .type "list_iterator", data := .fields #[.ref a, .int 0 0] }
theorem RowIt.keep {k : Bool} {h h' : Heap} {it a : Addr} {i : Nat} (r : RowIt k h it a i) (q : ∀ o, h.get? it = some o → h'.get? it = some o) : RowIt k h' it a i := by
  cases k
  · exact Heap.IsListIter.at (h := h) r q
  · exact Heap.IsTupleIter.at (h := h) r q
theorem RowIt.first {k : Bool} {h : Heap} {it a : Addr} (q : h.get? it = some (RowO k a)) : RowIt k h it a 0 := by
  cases k
  · exact ⟨_, q, rfl, rfl⟩
  · exact ⟨_, q, rfl, rfl⟩
theorem RowIt.ob {k : Bool} {h : Heap} {it a : Addr} {i : Nat} (r : RowIt k h it a i) : ∃ o ar, h.get? it = some o ∧ o.data = .fields ar := by
  cases k
  · obtain ⟨o, e, _, d⟩ := r; exact ⟨o, _, e, d⟩
  · obtain ⟨o, e, _, d⟩ := r; exact ⟨o, _, e, d⟩
theorem RowAt.lt {k : Bool} {h : Heap} {a : Addr} {items : Array Value} (r : RowAt k h a items) : a < h.objs.size := by
  cases k
  · obtain ⟨o, e, _⟩ := r; exact Heap.lt_size e
  · obtain ⟨o, e, _⟩ := r; exact Heap.lt_size e
section
variable {prog : Program} {w : World} {A : Around} {E : Value → Shared → Prop} {s : Shared}
end
section
variable {X : Cx} {a b : Expr} {t : RA} {K : PySem.W.Frag} {p pos tpos : Pos}
end
end HC
set_option maxHeartbeats 4000000
namespace HC
open PySem L2 PyProof.Rows
section
variable {X : Cx} {a b c e o tg : Expr} {ta tb tc te to : RE} {pos apos cpos p tpos : Pos} {K : PySem.W.Frag} {es : List Expr} {t : RA}
abbrev ASp := List Dv → Ms → DK → Prop
def cSp (K : PySem.W.Frag) (asp : ASp) : Sp := fun vs H Q' _ => ∃ ds M Q, Reps K H ds vs ∧ View K M H ∧ asp ds M Q ∧ LkV K H Q Q'
abbrev FnA (P : Program) (w : World) (K : PySem.W.Frag) (mg : Str → Option Value) (base : Heap) (k : Nat) (f : Addr) (fd : FuncData) (ps : List Str) (asp : ASp) : Prop := FnOk P w K mg base CX0 k f fd ps (cSp K asp)
def aCall (asp : ASp) (t : RA) : RE := fun ρ M Q => t ρ M fun ds M1 => asp ds M1 Q
theorem acall_imp {asp : ASp} : ∀ σ H Q, cE K (aCall asp t) σ H Q → tCall (cSp K asp) [] E0 (cA K t) σ H Q := fun σ H Q' ⟨ρ, M, Q, hr, hv, q, k⟩ => seqA hr hv q fun vs H1 ds M1 t1 r1 v1 q1 =>
  ⟨ds, M1, Q, by rw [List.append_nil]; exact r1, v1, q1, k.up t1⟩
variable {x : Str} {f : Addr} {fd : FuncData} {ps : List Str} {asp : ASp} {k : Nat}
theorem ae_call (F : FnA X.prog X.w X.K X.mg X.base k f fd ps asp) (hr : Room k X.A) (hm : X.mg x = some (.ref f)) (hk : PySem.W.keepIn X.K (.ref f) = true) (hb : Binds X.K fd ps []) (ha : AA X (e :: es) t) (hg : Gl X x := by rfl)
    (hdb : (x == ("__debug__" : Str)) = false := by decide) (he : starEach (e :: es) X.env = (false, eval e X.env) :: starEach es X.env := by rfl) (hpl : (backTo pos (starEach es X.env)).any (·.1) = false := by rfl) : AE X (.Call (.Name x p) (e :: es) [] pos) (aCall asp t) :=
  pe_imp (pe_call F hr hg hm hk hb .nil pass0 ha hdb he hpl) acall_imp
abbrev BX (P : Program) (w : World) (K : PySem.W.Frag) (mg : Str → Option Value) (base : Heap) (N : List Str) (qual : Str) (st : Stmt) (f : Addr) (cdv : Value) (A : Around) (outer : List Env) (s : Shared) (H : Hp) (E : XK) : Cx := (cxOf CX0 P w K mg base N qual (defScope st) f cdv A outer s H E).nox
def retD (Q : DK) : Ends' := { nx := fun _ M' => ∃ M'', Sub M'' M' ∧ Q .non M'', rt := fun d M' => ∃ M'', Sub M'' M' ∧ Q d M'' }
theorem fnA {P : Program} {w : World} {mg : Str → Option Value} {base : Heap} {qual : Str} {st : Stmt} {N : List Str} {t : RS} (F : Fun K x qual st f fd) (S : FnScope N ps (defScope st)) (len : ∀ ds M Q, asp ds M Q → ds.length = ps.length)
    (body : ∀ (cdv : Value) (A : Around) (outer : List Env) (s : Shared) (H : Hp) (E : XK), Room k (A.deeper (envOfC qual (defScope st) s.heap.objs.size f cdv)) → ASs (BX P w K mg base N qual st f cdv A outer s H E) (defBody st) t)
    (spec : ∀ ds M Q, asp ds M Q → t (retD Q) (startA N.length ds) M) : FnA P w K mg base (k + 1) f fd ps asp := by
  refine F.ok S (fun vs H Q' E ⟨ds, M, Q, r, _, q, _⟩ => by rw [← r.length]; exact len ds M Q q) fun cdv A outer s H vs Q' E hr ⟨ds, M, Q, r, hv, q, kk⟩ => ?_
  refine ⟨_, body cdv A outer s H E hr, startA N.length ds, M, retD Q, repE_start r, hv, spec ds M Q q, ?_, ?_, ?_, ?_⟩
  · rintro σ H' ρ M' tp _ v ⟨M'', sb, q'⟩
    exact kk _ _ _ M'' tp rep_non (v.sub sb) q'
  · rintro v H' d M' tp rd vv ⟨M'', sb, q'⟩
    exact kk _ _ _ M'' tp rd (vv.sub sb) q'
  · rintro _ _ _ _ _ _ _ h
    exact h.elim
  · rintro _ _ _ _ _ _ _ h
    exact h.elim
end
end HC
namespace HC
open PySem L2 PyProof.Rows
section
variable {X : Cx} {a b c e : Expr} {ta tb tc te : RE} {pos : Pos}
theorem pgt_name (i : Nat) {x : Str} (hN : X.N.Nodup) (hi : X.N[i]? = some x := by rfl) (hx : Loc X.env.scope x := by first | exact .inl rfl | exact .inr rfl) (hf : X.fn x = true ∨ X.env.scope.names.lookup x = some .local := by first | exact .inr rfl | exact .inl rfl) : PG X (.Name x pos) (Tg.g X.K (.nm i)) := by
  have h := pg_name (pos := pos) hN hi hx hf
  have e : Tg.g X.K (.nm i) = gName i := by simp only [Tg.g]
  rw [e]; exact h
end
end HC
namespace HC
open PySem L2 PyProof.Rows
theorem law_end {K : PySem.W.Frag} {H : Hp} {a : Addr} {ns : List Int} {sp : ASp} {E : XK} (hl : ns.length ≤ 63) (hO : Only H) (hS : SqL K H a (ns.map V.int)) (h : ∀ ns : List Int, ns.length ≤ 63 → sp [.rol (ns.map Dv.int)] (fun _ => none) (fun d _ => d = .bl true)) :
    cSp K sp [.ref a] H (fun v _ => v = .bl true) E := by
  have hF : SqF K H a (ns.map V.int) := by
    rcases hS with (q | ⟨o, q⟩) | q
    · rcases hO a with z | ⟨o, xs, z⟩
      · rw [q] at z; cases z
      · rw [q] at z; cases z
    · exact .inl ⟨o, q⟩
    · exact .inr (.inr q)
  refine ⟨[.rol (ns.map Dv.int)], fun _ => none, fun d _ => d = .bl true, Reps.cons ?_ Reps.nil, (fun a c e => nomatch e : View K (fun _ => none) H), h ns hl, ?_⟩
  · simp only [Rep]
    exact ⟨a, _, rfl, hF, Reps.of_ints ns⟩
  · rintro v H' d M' _ r _ rfl
    exact rep_bl_inv r
end HC
namespace HC
open PySem L2
section
variable {M : Ms} {p : Addr} {xs : List Dv}
theorem lenA_l (h : M p = some (.lst xs)) : lenA (.ref p) M = some xs.length := by simp [lenA, itemsA, h]
theorem itemsA_l (h : M p = some (.lst xs)) : itemsA (.ref p) M = some xs := by simp [itemsA, h]
theorem lstA_l (h : M p = some (.lst xs)) : lstA (.ref p) M = some xs := by simp [lstA, h]
theorem lstC_l (h : M p = some (.lst xs)) : lstC (M p) = some xs := by simp [lstC, h]
theorem itemsA_r : itemsA (.ref p) M = lstC (M p) := by
  simp only [itemsA, lstC] <;> (cases M p with
    | none => rfl
    | some c => cases c <;> rfl)
theorem lenA_r : lenA (.ref p) M = (lstC (M p)).map List.length := by simp only [lenA, itemsA_r]
theorem lstA_r : lstA (.ref p) M = lstC (M p) := itemsA_r
theorem lstC_s : lstC (some (.lst xs)) = some xs := rfl
theorem tyM_list (h : M p = some (.lst xs)) : tyM "list" (.ref p) M := by simp [tyM, h]
theorem retEnd {Q : DK} {d : Dv} {M : Ms} (h : Q d M) : (retD Q).rt d M := ⟨M, Sub.refl M, h⟩
theorem retSub {Q : DK} {d : Dv} {M M' : Ms} (s : Sub M M') (h : Q d M) : (retD Q).rt d M' := ⟨M, s, h⟩
theorem atI_0 {α : Type} (x : α) (xs : List α) : atI (x :: xs) 0 = some x := by simp [atI, ixN]
theorem ixN_0 (n : Nat) (h : 0 < n) : ixN n 0 = some 0 := by simp [ixN, h]
end
theorem dec_T {p : Prop} {inst : Decidable p} (h : p) : @decide p inst = true := decide_eq_true h
theorem dec_F {p : Prop} {inst : Decidable p} (h : ¬ p) : @decide p inst = false := decide_eq_false h
theorem lt_line {n : Nat} (h : n < 1000000) : n < sizeLine := Nat.lt_trans h (by decide)
theorem le_line {n : Nat} (h : n ≤ 1000000) : n ≤ sizeLine := Nat.le_trans h (by decide)
abbrev dn (n : Nat) : Dv := .int (n : Int)
section
variable {M : Ms} {D p : Addr} {ρ : Env'} {keep : Ms → Prop} {tg : Tg} {own : List Nat} {tt : RT} {te : RE} {Q : Ms → Prop} {N : Ms → Prop}
theorem lcW_inv {ds : List Dv} (P : Nat → Ms → Prop) (h0 : P 0 M) (hk : ∀ i M, i ≤ ds.length → P i M → keep M) (hs : ∀ i d M, ds[i]? = some d → P i M → lcT tg own tt te ρ D d (P (i + 1)) M) (hd : ∀ M, P ds.length M → Q M) : lcW keep tg own tt te ρ D Q ds M := by
  have main : ∀ (n i : Nat), i + n = ds.length → ∀ M, P i M → lcW keep tg own tt te ρ D Q (ds.drop i) M := by
    intro n
    induction n with
    | zero =>
      intro i hi M p
      have e : i = ds.length := by omega
      subst e
      rw [List.drop_length, lcW_eqn]
      exact ⟨hk _ _ (Nat.le_refl _) p, hd _ p⟩
    | succ n ih =>
      intro i hi M p
      have hlt : i < ds.length := by omega
      rw [drop_cons (List.getElem?_eq_getElem hlt), lcW_eqc]
      exact ⟨hk _ _ (by omega) p, P (i + 1), fun M1 p1 => ih (i + 1) (by omega) M1 p1, hs i _ M (List.getElem?_eq_getElem hlt) p⟩
  simpa using main ds.length 0 (by omega) M h0
theorem rangeA_get {lo : Int} {n i : Nat} {d : Dv} (h : (rangeA lo n)[i]? = some d) : i < n ∧ d = .int (lo + (i : Int)) := by
  unfold rangeA at h
  rw [List.getElem?_map] at h
  by_cases hi : i < n
  · rw [List.getElem?_range hi] at h
    simp at h
    exact ⟨hi, h.symm⟩
  · rw [List.getElem?_eq_none (by simpa using hi)] at h
    cases h
theorem rangeA_len {lo : Int} {n : Nat} : (rangeA lo n).length = n := by simp [rangeA]
end
theorem wk_of {N : Env' → Ms → Prop} {ρ : Env'} {M : Ms} (h : N ρ M) : wk N ρ M := ⟨ρ, M, SubE.refl ρ, Sub.refl M, h⟩
def PotAt (M0 : Ms) (p : Addr) (pot : List Int) (M' : Ms) : Prop := M' p = some (.lst (pot.map Dv.int)) ∧ ∀ c, Sub (mup M0 p c) (mup M' p c)
theorem PotAt.first {M0 : Ms} {p : Addr} {pot : List Int} : PotAt M0 p pot (mup M0 p (.lst (pot.map Dv.int))) := ⟨mup_same, fun c => by rw [mup_mup]; exact Sub.refl _⟩
theorem PotAt.sub {M0 M1 M2 : Ms} {p : Addr} {pot : List Int} (h : PotAt M0 p pot M1) (s : Sub M1 M2) : PotAt M0 p pot M2 :=
  ⟨s p _ h.1, fun c => (h.2 c).trans (Sub.both s)⟩
theorem PotAt.new {M0 M1 : Ms} {p q : Addr} {pot : List Int} {l : Cell} (h : PotAt M0 p pot M1) (hq : M1 q = none) : PotAt M0 p pot (mup M1 q l) := h.sub (Sub.new hq)
theorem PotAt.put {M0 M1 : Ms} {p : Addr} {pot pot2 : List Int} (h : PotAt M0 p pot M1) : PotAt M0 p pot2 (mup M1 p (.lst (pot2.map Dv.int))) :=
  ⟨mup_same, fun c => by rw [mup_mup]; exact h.2 c⟩
theorem PotAt.fin {M0 M1 : Ms} {p : Addr} {pot : List Int} (h : PotAt M0 p pot M1) : Sub (mup M0 p (.lst (pot.map Dv.int))) M1 := by
  have := h.2 (.lst (pot.map Dv.int))
  rw [mup_self h.1] at this
  exact this
end HC
set_option maxHeartbeats 1000000
namespace HC
open PySem L2 PyProof.Rows
section
variable {X : Cx} {pos : Pos} {K : PySem.W.Frag}
def aPairs : List (RE × RE) → Env' → Ms → (List (Dv × Dv) → Ms → Prop) → Prop
  | [], _, M, Q => Q [] M
  | (tk, tv) :: r, ρ, M, Q => tk ρ M fun x M1 => tv ρ M1 fun y M2 => aPairs r ρ M2 fun ps M3 => Q ((x, y) :: ps) M3
def keysP : List (Dv × Dv) → Option (List (Key × Dv))
  | [] => some []
  | (x, y) :: r => (keyD x).bind fun k => (keysP r).map fun z => (k, y) :: z
def mergeA (kds more : List (Key × Dv)) : List (Key × Dv) := more.foldl (fun acc kv => putA acc kv.1 kv.2) kds
def aDisp (ts : List (RE × RE)) : RE := fun ρ M Q => ∀ p, M p = none → aPairs ts ρ (mup M p (.dic [])) fun ps M2 => M2 p = some (.dic []) ∧ onS (keysP ps) fun kds => kds.length ≤ 15 ∧ Q (.ref p) (mup M2 p (.dic (mergeA [] kds)))
def ADs (X : Cx) (pos : Pos) (keys : List (Option Expr)) (values : List Expr) (ts : List (RE × RE)) : Prop := PPs X pos keys values (ts.map fun z => (cE X.K z.1, cE X.K z.2))
theorem app_nil : ADs X pos [] [] [] := pps_nil
theorem app_cons {k v : Expr} {ks : List (Option Expr)} {vs : List Expr} {tk tv : RE} {ts : List (RE × RE)} (hk : AE X k tk) (hv : AE X v tv) (hr : ADs X pos ks vs ts) : ADs X pos (some k :: ks) (v :: vs) ((tk, tv) :: ts) := pps_cons hk hv hr
abbrev RP (K : PySem.W.Frag) (H : Hp) : List (Dv × Dv) → List (V × V) → Prop := Paired fun p q => Rep K H p.1 q.1 ∧ Rep K H p.2 q.2
theorem pairs_ok : ∀ {ts : List (RE × RE)} {ρ : Env'} {σ : L2.St} {M : Ms} {H : Hp} {Q : List (Dv × Dv) → Ms → Prop} {Q' : List (V × V) → Hp → Prop}, RepE K H ρ σ → View K M H → aPairs ts ρ M Q →
    (∀ ps H' dps M', Tp K H H' → RP K H' dps ps → View K M' H' → Q dps M' → Q' ps H') → tPairs (ts.map fun z => (cE K z.1, cE K z.2)) σ H Q'
  | [], _, _, _, H, _, _, _, hv, q, k => k [] H [] _ (Tp.refl H) .nil hv q
  | (tk, tv) :: ts, _, _, _, _, _, _, hr, hv, q, k => seqE hr hv q fun x H1 dx M1 t1 r1 v1 q1 => seqE (hr.mono t1) v1 q1 fun y H2 dy M2 t2 r2 v2 q2 =>
    pairs_ok (hr.mono (t1.trans t2)) v2 q2 fun ps H3 dps M3 t3 rp v3 q3 => k _ H3 ((dx, dy) :: dps) M3 ((t1.trans t2).trans t3) (.cons ⟨r1.mono (t2.trans t3), r2.mono t3⟩ rp) v3 q3
theorem keysP_ok {H : Hp} : ∀ {dps : List (Dv × Dv)} {ps : List (V × V)} {kds : List (Key × Dv)}, RP K H dps ps → keysP dps = some kds → ∃ kvs : List (Key × V), ps = kvs.map (fun kv => (kV kv.1, kv.2)) ∧ KP K H Key kds kvs
  | [], _, _, r, h => by cases r; cases h; exact ⟨[], rfl, .nil⟩
  | (x, y) :: dps, _, kds, r, h => by
    cases r with
    | @cons a b as bs r1 r2 =>
    obtain ⟨v, w⟩ := b
    rw [keysP] at h
    cases e : keyD x with
    | none => rw [e] at h; cases h
    | some kk =>
      rw [e] at h
      cases e2 : keysP dps with
      | none => rw [e2] at h; cases h
      | some z =>
        rw [e2] at h
        cases h
        obtain ⟨kvs, e3, r3⟩ := keysP_ok r2 e2
        have e4 : v = kV kk := keyD_ok r1.1 e
        exact ⟨(kk, w) :: kvs, by rw [e3, e4]; rfl, .cons ⟨rfl, r1.2⟩ r3⟩
theorem merge_ok {H : Hp} : ∀ {kds : List (Key × Dv)} {kvs : List (Key × V)} {k0 : List (Key × Dv)} {v0 : List (Key × V)}, KP K H Key kds kvs → KP K H Key k0 v0 → KP K H Key (mergeA k0 kds) (mergeK v0 kvs)
  | _, _, _, _, .nil, z => z
  | (k1, d1) :: kds, (k2, v1) :: kvs, k0, v0, .cons ⟨e, r⟩ t, z => by
    have e' : k1 = k2 := e
    subst e'
    exact merge_ok (k0 := putA k0 k1 d1) (v0 := putK v0 k1 v1) t (kp_put r z)
theorem ae_disp {keys : List (Option Expr)} {values : List Expr} {ts : List (RE × RE)} (h : ADs X pos keys values ts) (hall : keys.all (·.isSome) = true) (hl : keys.length = values.length) (h0 : keys ≠ [])
    (h15 : keys.length ≤ 15) : AE X (.Dict keys values pos) (aDisp ts) :=
  pe_imp (pe_disp h hall hl h0 h15) fun σ H Q' ⟨ρ, M, Q, hr, hv, q, k⟩ p hp => by
    have t0 : Tp X.K H (upd H p (.dK [])) := Tp.new hp
    have v0 : View X.K (mup M p (.dic [])) (upd H p (.dK [])) := hv.put (c := .dic []) (by rw [hp]; trivial) ⟨[], upd_same, .nil⟩
    refine pairs_ok (hr.mono t0) v0 (q p (hv.free hp)) fun ps H2 dps M2 t2 rp v2 q2 => ?_
    obtain ⟨e, q3⟩ := q2
    obtain ⟨kds, ek, hlen, q4⟩ := onS_ex q3
    obtain ⟨kvs0, eh, z0⟩ := v2 _ _ e
    cases z0
    obtain ⟨kvs, ep, zk⟩ := keysP_ok rp ek
    have tp : Tp X.K H2 (upd H2 p (.dK (mergeK [] kvs))) := Tp.put (v2.soft e)
    exact ⟨eh, kvs, ep, by rw [← kp_len zk]; exact hlen, k _ _ _ _ ((t0.trans t2).trans tp) rep_ref (v2.put (c := .dic (mergeA [] kds)) (v2.soft e) ⟨_, upd_same, kp_mono (merge_ok zk .nil) tp⟩) q4⟩
end
end HC
set_option maxHeartbeats 1000000
namespace HC
open PySem L2 PyProof.Rows
theorem onIf_decT {c A B : Prop} {inst : Decidable c} (h : c) (q : A) : onIf (@decide c inst) A B := by rw [decide_eq_true h]; exact q
theorem onIf_decF {c A B : Prop} {inst : Decidable c} (h : ¬ c) (q : B) : onIf (@decide c inst) A B := by rw [decide_eq_false h]; exact q
theorem onIf_ndecT {c A B : Prop} {inst : Decidable c} (h : ¬ c) (q : A) : onIf (!@decide c inst) A B := by rw [decide_eq_false h]; exact q
theorem onIf_ndecF {c A B : Prop} {inst : Decidable c} (h : c) (q : B) : onIf (!@decide c inst) A B := by rw [decide_eq_true h]; exact q
theorem look_new {M : Ms} {p r : Addr} {c x : Cell} (h : M p = some c) (hr : M r = none) : mup M r x p = some c := by rw [mup_ne (ne_of_new h hr)]; exact h
theorem CMul_l {i j : Int} (h : -18446744073709551616 < i ∧ i < 18446744073709551616) : CMul i j ∨ CMulW i j := .inl (.inl h)
theorem CMul_r {i j : Int} (h : -18446744073709551616 < j ∧ j < 18446744073709551616) : CMul i j ∨ CMulW i j := .inl (.inr h)
theorem inv_frz {X : Cx} {pins : List (Addr × Obj)} {σ : L2.St} {H : Hp} {s : Shared} {a : Addr} {xs : List V} (I : Inv X pins σ H s) (h : H a = some (.lst xs)) : ∃ o, Inv X pins σ (upd H a (.frz o (.lst xs))) s := by
  obtain ⟨z, its, n, r, e⟩ := I.hok a _ h
  have ne : ∀ {b : Addr} {u : HO}, H b = some u → u ≠ .lst xs → b ≠ a := fun {b u} q hu e' => by
    subst e'; rw [h] at q; cases q; exact hu rfl
  refine ⟨{ cls := .type "list", data := .seq its.toArray n }, I.un (h' := s.heap) (t' := s.toks) ⟨fun b o q n hb hx => q, fun b o q n _ _ => ⟨o.slots, q⟩, fun b o q n hx => ?_, fun b o q _ => ⟨o, q⟩, fun b ys q => ?_, fun b o u q => ?_, fun b ps q => ⟨#[], ?_⟩⟩ fun b u (q : upd H a (.frz { cls := .type "list", data := .seq its.toArray n } (.lst xs)) b = some u) => ?_⟩
  · rw [upd_ne]
    · exact n
    · intro e'; subst e'; rw [h] at n; cases n
  · rw [upd_ne (ne q (fun z => nomatch z))]; exact q
  · rw [upd_ne (ne q (fun z => nomatch z))]; exact q
  · rw [upd_ne (ne q (fun z => nomatch z))]; simpa using q
  · by_cases hb : b = a
    · subst hb
      rw [upd_same] at q
      cases q
      exact ⟨e, z, its, n, r, e⟩
    · rw [upd_ne hb] at q
      exact (I.hok b u q).stay (fun _ _ _ q => q) (fun c q => by rw [upd_ne (ne q (fun z => nomatch z))]; exact q) (fun c ys q => by rw [upd_ne (ne q (fun z => nomatch z))]; exact q)
theorem pe_frz {X : Cx} {e : Expr} {t : TE} (h : PE X e t) : PE X e (fun σ H Q => t σ H (fun v H' => Q v H' ∨ ∃ a xs, v = .ref a ∧ H' a = some (.lst xs) ∧ ∀ o, Q v (upd H' a (.frz o (.lst xs))))) :=
  ⟨fun pins s σ H Q I q => thn (h.run pins s σ H _ I q) fun u s' ⟨v, H', I', r, q'⟩ => by
    rcases q' with q' | ⟨a, xs, e, hl, q'⟩
    · exact ⟨v, H', I', r, q'⟩
    · obtain ⟨o, I2⟩ := inv_frz I' hl
      exact ⟨v, _, I2, r, q' o⟩⟩
def fzK (d : Dv) (M : Ms) (Q : DK) : Prop := match d with
  | .ref a => onS (lstC (M a)) fun xs => ∃ M', M' a = none ∧ Sub M' M ∧ Q (.rol xs) M'
  | d => Q d M
def aFz (te : RE) : RE := fun ρ M Q => te ρ M fun d M1 => fzK d M1 Q
theorem fz_rep {K : PySem.W.Frag} {H : Hp} {a : Addr} {xs : List Dv} {vs : List V} {o : Obj} (hs : Soft (H a)) (r : Reps K H xs vs) : Rep K (upd H a (.frz o (.lst vs))) (.rol xs) (.ref a) := by
  simp only [Rep]
  exact ⟨a, vs, rfl, .inl ⟨o, upd_same⟩, r.mono (Tp.put hs)⟩
theorem fz_view {K : PySem.W.Frag} {H : Hp} {M M' : Ms} {a : Addr} {o : HO} (v : View K M H) (hs : Soft (H a)) (h0 : M' a = none) (s : Sub M' M) : View K M' (upd H a o) := fun b c e => by
  have hb : b ≠ a := fun z => by subst z; rw [h0] at e; cases e
  exact (v b c (s b c e)).keep (Tp.put hs) (upd_ne hb) (TpE.soft hs)
theorem fzK_val {d : Dv} {M : Ms} {Q : DK} (h : fzK d M Q) : (∃ a xs M', d = .ref a ∧ M a = some (.lst xs) ∧ M' a = none ∧ Sub M' M ∧ Q (.rol xs) M') ∨ Q d M := by
  cases d with
  | ref a =>
    obtain ⟨xs, e, M', h0, s, q⟩ := onS_ex h
    exact .inl ⟨a, xs, M', rfl, lstC_eq e, h0, s, q⟩
  | _ => exact .inr h
theorem fz_new {M : Ms} {p : Addr} {xs : List Dv} {Q : DK} (h : M p = none) (q : Q (.rol xs) M) : fzK (.ref p) (mup M p (.lst xs)) Q := onS_of (a := xs) (by rw [mup_same]; rfl) ⟨M, h, Sub.new h, q⟩
def mdel (M : Ms) (a : Addr) : Ms := fun b => if b = a then none else M b
theorem mdel_same {M : Ms} {a : Addr} : mdel M a a = none := if_pos rfl
theorem mdel_ne {M : Ms} {a b : Addr} (h : b ≠ a) : mdel M a b = M b := if_neg h
theorem mdel_sub {M : Ms} {a : Addr} : Sub (mdel M a) M := fun b c e => by
  by_cases h : b = a
  · subst h; rw [mdel_same] at e; cases e
  · rw [mdel_ne h] at e; exact e
theorem fz_del {M : Ms} {p : Addr} {xs : List Dv} {Q : DK} (h : M p = some (.lst xs)) (q : Q (.rol xs) (mdel M p)) : fzK (.ref p) M Q := onS_of (a := xs) (by rw [h]; rfl) ⟨_, mdel_same, mdel_sub, q⟩
section
variable {X : Cx} {e : Expr} {te : RE} {st : Stmt}
theorem ae_fz (h : AE X e te) : AE X e (aFz te) := pe_imp (pe_frz h) fun σ H Q' ⟨ρ, M, Q, hr, hv, q, k⟩ => seqE hr hv q fun v H1 d M1 t1 r1 v1 q1 => by
  rcases fzK_val q1 with ⟨a, xs, M', rfl, e1, h0, s, q2⟩ | q2
  · obtain ⟨vs, h1, h2⟩ := view_lst v1 e1
    have hs := v1.soft e1
    exact .inr ⟨a, vs, rep_ref_inv r1, h1, fun o => by
      rw [rep_ref_inv r1]
      exact k _ _ (.rol xs) M' (t1.trans (Tp.put hs)) (fz_rep hs h2) (fz_view v1 hs h0 s) q2⟩
  · exact .inl (k _ _ _ _ t1 r1 v1 q2)
theorem lcFk_opt {keep : Ms → Prop} {tg : Tg} {own : List Nat} {tt : RT} {ρ : Env'} {Q : DK} {M : Ms} {ds : List Dv} (g : Nat → Option Dv) (hk : ∀ M', Sub M M' → keep M') (hl : ds.length ≤ sizeLine)
    (ht : ∀ i d, ds[i]? = some d → ∀ (M' : Ms) (N : Option Dv → Ms → Prop), Sub M M' → N (g i) M' → ∃ ρ', Tg.put tg d (wipeA ρ own) M' = some ρ' ∧ tt ρ' M' fun b M2 => onIf b (te ρ' M2 fun y M3 => N (some y) M3) (N none M2))
    (q : Q (.rol ((List.range ds.length).filterMap g)) M) : ∀ D, M D = none → lcW keep tg own tt te ρ D (fun M' => fzK (.ref D) M' Q) ds (mup M D (.lst [])) := fun D hD => by
  have len : ∀ i, ((List.range i).filterMap g).length ≤ i := fun i => by
    have := List.length_filterMap_le g (List.range i)
    simpa using this
  refine lcW_inv (fun i M' => M' = mup M D (.lst ((List.range i).filterMap g))) rfl (fun i M' _ e => by subst e; exact hk _ (Sub.new hD)) (fun i d M' hd e => ?_) fun M' e => ?_
  · subst e
    have hi := (List.getElem?_eq_some_iff.mp hd).1
    obtain ⟨ρ', h1, h2⟩ := ht i d hd (mup M D (.lst ((List.range i).filterMap g))) (fun o M3 => match o with
      | some y => ∃ acc, M3 D = some (.lst acc) ∧ acc.length < sizeLine ∧ wkM (fun M' => M' = mup M D (.lst ((List.range (i + 1)).filterMap g))) (mup M3 D (.lst (acc ++ [y])))
      | none => wkM (fun M' => M' = mup M D (.lst ((List.range (i + 1)).filterMap g))) M3) (Sub.new hD) (by
        cases e : g i with
        | some y =>
          refine ⟨_, mup_same, ?_, _, Sub.refl _, ?_⟩
          · have := len i; omega
          · rw [mup_mup, List.range_succ, List.filterMap_append]
            simp [e]
        | none =>
          refine ⟨_, Sub.refl _, ?_⟩
          rw [List.range_succ, List.filterMap_append]
          simp [e])
    exact ⟨ρ', h1, h2⟩
  · subst e
    refine onS_of (a := (List.range ds.length).filterMap g) (by rw [mup_same]; rfl) ⟨M, hD, Sub.new hD, q⟩
theorem lcF_opt {keep : Ms → Prop} {tg : Tg} {own : List Nat} {tt : RT} {ρ : Env'} {Q : DK} {M : Ms} {ds : List Dv} (g : Nat → Option Dv) (hk : ∀ M, keep M) (hl : ds.length ≤ sizeLine)
    (ht : ∀ i d, ds[i]? = some d → ∀ (M' : Ms) (N : Option Dv → Ms → Prop), Sub M M' → N (g i) M' → ∃ ρ', Tg.put tg d (wipeA ρ own) M' = some ρ' ∧ tt ρ' M' fun b M2 => onIf b (te ρ' M2 fun y M3 => N (some y) M3) (N none M2))
    (q : Q (.rol ((List.range ds.length).filterMap g)) M) : ∀ D, M D = none → lcW keep tg own tt te ρ D (fun M' => fzK (.ref D) M' Q) ds (mup M D (.lst [])) :=
  lcFk_opt g (fun _ _ => hk _) hl ht q
theorem lcF {keep : Ms → Prop} {tg : Tg} {own : List Nat} {ρ : Env'} {Q : DK} {M : Ms} {ds : List Dv} (f : Nat → Dv) (hk : ∀ M, keep M) (hl : ds.length ≤ sizeLine)
    (ht : ∀ i d, ds[i]? = some d → ∀ (M' : Ms) (N : Dv → Ms → Prop), Sub M M' → N (f i) M' → ∃ ρ', Tg.put tg d (wipeA ρ own) M' = some ρ' ∧ te ρ' M' N)
    (q : Q (.rol ((List.range ds.length).map f)) M) : ∀ D, M D = none → lcW keep tg own aYes te ρ D (fun M' => fzK (.ref D) M' Q) ds (mup M D (.lst [])) :=
  lcF_opt (fun i => some (f i)) hk hl (fun i d hd M' N hs hn => by
    obtain ⟨ρ', h1, h2⟩ := ht i d hd M' (fun y M3 => N (some y) M3) hs hn
    exact ⟨ρ', h1, h2⟩) (by rw [List.filterMap_eq_map']; exact q)
end
end HC
set_option maxHeartbeats 1000000
namespace HC
open PySem L2 PyProof.Rows
section
variable {X : Cx} {a b e : Expr} {ta tb te : RE} {pos p pos2 p2 : Pos} {K : PySem.W.Frag}
def RgA (a b : Int) : Prop := -4611686018427387904 ≤ a ∧ a < 4611686018427387904 ∧ -4611686018427387904 ≤ b ∧ b < 4611686018427387904 ∧ b - a ≤ 16777216
theorem RgA.ok {a b : Int} (h : RgA a b) : RgOk a b := by
  obtain ⟨h1, h2, h3, h4, h5⟩ := h
  have e1 : (2 : Int) ^ 62 = 4611686018427387904 := by decide
  have e2 : (2 : Nat) ^ 24 = 16777216 := by decide
  refine ⟨?_, ?_, ?_, ?_, ?_⟩
  · rw [e1]; exact h1
  · rw [e1]; exact h2
  · rw [e1]; exact h3
  · rw [e1]; exact h4
  · rw [e2]; omega
end
section
variable {X : Cx} {e : Expr} {te : RE} {K : PySem.W.Frag}
def aRev (te : RE) : RE := fun ρ M Q => te ρ M fun d M1 => onS (lstA d M1) fun xs => ∀ p, M1 p = none → Q (.ref p) (mup M1 p (.lst xs.reverse))
theorem ae_rev {k : Nat} {p1 p2 p3 pos : Pos} (he : AE X e te) : AE X (.Subscript e (.Slice none none (some (.UnaryOp .USub (.Constant (.int 1) k p1) p2)) p3) pos) (aRev te) :=
  pe_imp (pe_revL he) fun σ H Q' ⟨ρ, M, Q, hr, hv, q, k⟩ => seqE hr hv q fun v H1 d M1 t1 r1 v1 q1 => by
    obtain ⟨xs, e, q2⟩ := onS_ex q1
    obtain ⟨a, vs, e1, s, z⟩ := lstA_ok r1 v1 e
    exact ⟨a, vs, e1, s, end_lst z.rev v1 q2 (k.up t1)⟩
end
section
variable {tt : RT} {te : RE}
end
theorem mdel_put {M : Ms} {q : Addr} {c : Cell} : mdel (mup M q c) q = mdel M q := by
  funext b
  unfold mdel
  by_cases h : b = q
  · rw [if_pos h, if_pos h]
  · rw [if_neg h, if_neg h, mup_ne h]
end HC
set_option maxHeartbeats 1000000
namespace HC
open PySem L2 PyProof.Rows
section
variable {X : Cx} {a b e : Expr} {ta tb te : RE} {pos p pos2 p2 : Pos} {K : PySem.W.Frag}
end
end HC
set_option maxHeartbeats 1000000
namespace HC
open PySem L2 PyProof.Rows
section
variable {X : Cx} {a b e o i : Expr} {ta tb te to ti : RE} {pos p pos2 p2 tpos : Pos} {K : PySem.W.Frag}
end
end HC
namespace HC
open PySem L2 PyProof.Rows
section
variable {X : Cx} {a b c e o : Expr} {es : List Expr} {ta tb tc te to tk : RE} {t : RA} {pos p pos2 p2 tpos : Pos} {K : PySem.W.Frag}
end
end HC
namespace HC
open PySem L2 PyProof.Rows
section
variable {X : Cx} {a b c e o key : Expr} {es : List Expr} {ta tb tc te to tk : RE} {t : RA} {pos p pos2 p2 tpos xp yp sp ap cp rp : Pos} {K : PySem.W.Frag} {d : Addr} {x y : Str}
structure TabK (K : PySem.W.Frag) (w : World) (mg : Str → Option Value) (x : Str) (d : Addr) : Prop where
  g : mg x = some (.ref d)
  kd : ∃ es n, KDict K w d es n
end
end HC
set_option maxHeartbeats 1000000
namespace HC
open PySem PySem.Spec L2 PyProof.Rows
theorem fun_ofD {K : PySem.W.Frag} {x q : Str} {st : Stmt} {f : Addr} {fd : FuncData} (F : FunD K x q (defArgs st) (defBody st) (defScope st) [] [] f fd) : Fun K x q st f fd := by
  obtain ⟨oc, od, dV, kV, doc, pm, an, cdv, ct, osl, e, lk, hcd, hd, _⟩ := F.ex
  rcases hd with ⟨_, rfl⟩ | ⟨h, _⟩
  · exact ⟨⟨oc, od, kV, doc, pm, an, cdv, ct, osl, e, lk, hcd⟩, F.kp⟩
  · exact absurd rfl h
section
variable {fa : List He.Fa} {fn : List He.DefD} {ts : List He.Tab} {ex : List (PySem.W.Frag → Bool)} {w : World} {K : PySem.W.Frag} {h : Heap} {mg : Str → Option Value}
theorem SaysY.t (c : SaysY fa fn ts ex w K) : He.SaysT fa fn ts w K := congrArg (fun z : AlY => z.1) c
theorem SaysY.at_ (c : SaysY fa fn ts ex w K) (i : Nat) {f : PySem.W.Frag → Bool} (e : ex[i]? = some f := by rfl) : f K = true := by
  have c1 : (ex.all fun f => f K) = true := congrArg (fun z : AlY => z.2) c
  exact List.all_eq_true.mp c1 f (List.mem_of_getElem? e)
theorem SaysY.fact (c : SaysY fa fn ts ex w K) (i : Nat) {f : He.Fa} (e : fa[i]? = some f := by rfl) : f.ok K = true := c.t.d.fact i e
theorem SaysY.fn_ (c : SaysY fa fn ts ex w K) (i : Nat) {x : Str} {st : Stmt} (e : fn[i]? = some (ddF x st) := by rfl) : ∃ fd, Fun K x x st (He.ga K x) fd := by
  obtain ⟨fd, F⟩ := c.t.d.def_ i e
  exact ⟨fd, fun_ofD F⟩
theorem SaysY.law_ (c : SaysY fa fn ts ex w K) (i : Nat) {x : Str} {st : Stmt} (e : fn[i]? = some (ddF x st) := by rfl) : ∃ fd, FunD K x x (defArgs st) (defBody st) (defScope st) [] [] (He.ga K x) fd := c.t.d.def_ i e
theorem SaysY.glo (c : SaysY fa fn ts ex w K) (X : K.In h) (G : h.Ns mainGlobals mg) (i : Nat) {x : Str} (e : fa[i]? = some (.glo x) := by rfl) : mg x = some (.ref (He.ga K x)) := He.glo_ok X G (c.fact i e)
theorem SaysY.free (c : SaysY fa fn ts ex w K) (X : K.In h) (G : h.Ns mainGlobals mg) (i : Nat) {x : Str} (e : fa[i]? = some (.free x) := by rfl) : mg x = none := He.free_ok X G (c.fact i e)
theorem SaysY.int (c : SaysY fa fn ts ex w K) (X : K.In h) (G : h.Ns mainGlobals mg) (i : Nat) {x : Str} {k : Int} (e : fa[i]? = some (.int x k) := by rfl) : ∃ t, mg x = some (.int k t) := He.int_ok X G (c.fact i e)
theorem SaysY.str (c : SaysY fa fn ts ex w K) (X : K.In h) (G : h.Ns mainGlobals mg) (i : Nat) {x z : Str} (e : fa[i]? = some (.str x z) := by rfl) : ∃ t, mg x = some (.str z t) := He.str_ok X G (c.fact i e)
end
end HC
set_option maxHeartbeats 1000000
namespace HC
open PySem L2 PyProof.Rows
section
variable {X : Cx} {K : PySem.W.Frag}
end
end HC
namespace HC
open PySem L2 PyProof.Rows
section
variable {X : Cx} {K : PySem.W.Frag} {o e : Expr} {es : List Expr} {apos cpos tpos : Pos} {to te : RE} {t : RA}
end
end HC
namespace HC
open PySem L2 PyProof.Rows
section
variable {X : Cx} {K : PySem.W.Frag} {x : Str} {p : Pos}
end
end HC
set_option maxHeartbeats 1000000
namespace HC
open PySem PySem.Spec L2 PyProof.Rows
section
variable {prog : Program} {w : World} {A : Around} {E : Value → Shared → Prop} {s : Shared}
end
def PrAt (K : PySem.W.Frag) (H : Hp) (x : V) (p : Int × Int) : Prop := ∃ t, x = V.ref t ∧ SqT K H t [.int p.1, .int p.2]
theorem PrAt.up {K : PySem.W.Frag} {H : Hp} {x : V} {p : Int × Int} {d : Addr} {o : HO} (h : PrAt K H x p) (hd : H d = none) : PrAt K (upd H d o) x p := by
  obtain ⟨t, e, s⟩ := h
  exact ⟨t, e, (Tp.new hd).t _ _ s⟩
section
variable {X : Cx}
end
end HC
namespace HC
open PySem PySem.Spec L2 HT PyProof.Rows
section
variable {prog : Program} {w : World} {A : Around} {E : Value → Shared → Prop} {s : Shared}
end
section
variable {X : Cx} {e : Expr} {te : RE}
end
end HC
set_option maxHeartbeats 1000000
namespace HC
open PySem PySem.Spec L2 PyProof.Rows
section
variable {X : Cx} {e o f : Expr} {es : List Expr} {te to tf : RE} {t : RA} {pos apos cpos p : Pos} {K : PySem.W.Frag}
end
end HC
namespace HC
open PySem L2
end HC
set_option maxHeartbeats 1000000
namespace HC
open PySem PySem.Spec L2 PyProof.Rows
section
variable {X : Cx} {e o f tg : Expr} {es : List Expr} {te to tf : RE} {t : RA} {pos apos cpos p : Pos} {K : PySem.W.Frag}
end
end HC
namespace HC
open PySem PySem.Spec L2 PyProof.Rows
section
variable {X : Cx} {e o f tg : Expr} {es : List Expr} {te to tf : RE} {t : RA} {pos apos cpos p : Pos} {K : PySem.W.Frag}
end
section
theorem ext_listW (l : Addr) (items : Array Value) (n : Nat) (b : Addr) (items2 : Array Value) (n2 : Nat) (dd : Option Addr) (sl : Array (Option Value)) (hlong : ¬(!items.isEmpty && Builtin.List.listTooLong (items.size + items2.size)) = true) (hz : items.size ≤ sizeLine) (hz2 : items.size + items2.size ≤ sizeLine + 1) :
    Meets (Builtin.«list.extend» ⟨[.ref l, .ref b], []⟩) (fun _ R s => s.heap.get? l = some { cls := .type "list", dict := none, data := .seq items n, slots := #[] } ∧ s.heap.get? b = some { cls := .type "list", dict := dd, data := .seq items2 n2, slots := sl } ∧
      R (.ok (.ret Value.none)) { s with heap := s.heap.update l (Obj.mapSeq fun x => x ++ items2), toks := s.toks }) :=
  .of_wp fun prog w A R s h => by
    obtain ⟨hp, g, d, tk, os⟩ := s
    obtain ⟨hl, hb, h⟩ := h
    have f1 := AutoSeq1.idx_int
    have f2 := AutoSeq1.sub_tuple_tuple
    have f3 := AutoSeq1.sub_list_list
    have hz' : (items ++ items2).size ≤ sizeLine + 1 := by rw [Array.size_append]; exact hz2
    wp_walk using (wpAny_updateSeq hl rfl (hz := hz) (_hz' := hz')), wpAny_loadPart' hl, wpAny_loadPart' hb
    exact ⟨_, rfl, h⟩
theorem ext_tupleW (l : Addr) (items : Array Value) (n : Nat) (b : Addr) (items2 : Array Value) (n2 : Nat) (dd : Option Addr) (sl : Array (Option Value)) (hlong : ¬(!items.isEmpty && Builtin.List.listTooLong (items.size + items2.size)) = true) (hz : items.size ≤ sizeLine) (hz2 : items.size + items2.size ≤ sizeLine + 1) :
    Meets (Builtin.«list.extend» ⟨[.ref l, .ref b], []⟩) (fun _ R s => s.heap.get? l = some { cls := .type "list", dict := none, data := .seq items n, slots := #[] } ∧ s.heap.get? b = some { cls := .type "tuple", dict := dd, data := .seq items2 n2, slots := sl } ∧
      R (.ok (.ret Value.none)) { s with heap := s.heap.update l (Obj.mapSeq fun x => x ++ items2), toks := s.toks }) :=
  .of_wp fun prog w A R s h => by
    obtain ⟨hp, g, d, tk, os⟩ := s
    obtain ⟨hl, hb, h⟩ := h
    have f1 := AutoSeq1.idx_int
    have f2 := AutoSeq1.sub_tuple_tuple
    have f3 := AutoSeq1.sub_list_list
    have hz' : (items ++ items2).size ≤ sizeLine + 1 := by rw [Array.size_append]; exact hz2
    wp_walk using (wpAny_updateSeq hl rfl (hz := hz) (_hz' := hz')), wpAny_loadPart' hl, wpAny_loadPart' hb
    exact ⟨_, rfl, h⟩
end
section
variable {X : Cx} {e o f tg : Expr} {es : List Expr} {te to tf : RE} {t : RA} {pos apos cpos p : Pos} {K : PySem.W.Frag}
def rExtA (K : PySem.W.Frag) : V → List V → Hp → VK → Prop := fun x vs H Q => ∃ l b xs zs, x = .ref l ∧ vs = [.ref b] ∧ H l = some (.lst xs) ∧ (SqL K H b zs ∨ SqT K H b zs) ∧ xs.length + zs.length ≤ sizeLine ∧ Q .non (upd H l (.lst (xs ++ zs)))
theorem mt_extA : MtM X "list.extend" (rExtA X.K) := by
  intro pins s σ H x vs v us Q I rx rv h
  obtain ⟨l, b, xs, zs, rfl, rfl, hH, hB, hz, q⟩ := h
  cases rx
  obtain ⟨u, rfl, ru⟩ := rv.one
  cases ru
  obtain ⟨z, its, n, r, hl, e⟩ := I.lstM hH
  have fin : ∀ its2 : List Value, Vals zs its2 → EP X pins σ Q .none { s with heap := s.heap.update l (Obj.mapSeq fun x => x ++ its2.toArray), toks := s.toks } := fun its2 r2 => by
    have := r2.length
    refine ⟨.non, _, I.lset (its' := its ++ its2) hH e (by simp) (r.append r2) ?_, rfl, q⟩
    rw [List.length_append]
    omega
  have notLong : ∀ its2 : List Value, Vals zs its2 → its.toArray.size + its2.toArray.size ≤ sizeLine ∧ ¬ (!its.toArray.isEmpty && Builtin.List.listTooLong (its.toArray.size + its2.toArray.size)) = true := fun its2 r2 => by
    have := r2.length
    have hsz : its.toArray.size + its2.toArray.size ≤ sizeLine := by rw [List.size_toArray, List.size_toArray]; omega
    refine ⟨hsz, ?_⟩
    rw [notLongL hsz, Bool.and_false]
    exact Bool.false_ne_true
  rcases hB with hB | hB
  · obtain ⟨its2, r2, ⟨⟨cls, dd, data, sls⟩, n2, ho, hc, hdn, hdt⟩, hl2⟩ := I.list hB
    simp only at hc hdt
    subst hc hdt
    obtain ⟨hsz, hlong⟩ := notLong its2 r2
    exact call_meets PySem.F.slot_list_extend ⟨_, e, rfl⟩ PySem.F.entry_list_extend (PySem.F.args_list_extend_2 _ _) (ext_listW l its.toArray n b its2.toArray n2 dd sls hlong (by omega) (by omega)) ⟨e, ho, fin its2 r2⟩
  · obtain ⟨its2, r2, ⟨⟨cls, dd, data, sls⟩, ho, hc, n2, hdt⟩, hl2⟩ := I.tuple hB
    simp only at hc hdt
    subst hc hdt
    obtain ⟨hsz, hlong⟩ := notLong its2 r2
    exact call_meets PySem.F.slot_list_extend ⟨_, e, rfl⟩ PySem.F.entry_list_extend (PySem.F.args_list_extend_2 _ _) (ext_tupleW l its.toArray n b its2.toArray n2 dd sls hlong (by omega) (by omega)) ⟨e, ho, fin its2 r2⟩
def amExtA : ARM := fun x ds M Q => match x, ds with
  | .ref l, [d] => onS (lstC (M l)) fun xs => onS (itemsA d M) fun ys => xs.length + ys.length ≤ sizeLine ∧ Q .non (mup M l (.lst (xs ++ ys)))
  | _, _ => False
theorem abm_extA : AbM K (rExtA K) amExtA := by
  intro H M x dx vs ds Q Q' rx rd hv q k
  match dx, ds, q with
  | .ref l, [d], q =>
    obtain ⟨xs, h1, q⟩ := onS_ex q
    obtain ⟨ys, h2, hz, q⟩ := onS_ex q
    replace h1 := lstC_eq h1
    obtain ⟨v, e, r1⟩ := reps1 rd
    obtain ⟨ws, e2, z⟩ := view_lst hv h1
    obtain ⟨b, us, e3, s3, z3⟩ := itemsA_ok r1 hv h2
    have l1 := z.length
    have l3 := z3.length
    exact ⟨l, b, ws, us, rep_ref_inv rx, by rw [e, e3], e2, s3.symm, by omega, end_wr hv h1 (z.append z3) rep_non q k⟩
theorem ae_extA (ho : AE X o to) (ha : AA X [e] t) (hline : (apos.endLine == cpos.line) = true := by rfl) (hbase : attributeBase o "extend" X.env (eval o X.env) = eval o X.env := by rfl)
    (hfew : ((backTo cpos (starEach [e] X.env)).all (fun x => !x.1) && (backToKw cpos (keywordEach [] X.env)).all (fun x => x.1.isSome)
      && decide (([e] : List Expr).length + ([] : List Keyword).length + (if ([] : List Keyword).isEmpty then 0 else 1) < 30)) = true := by rfl)
    (hs : starEach [e] X.env = (false, eval e X.env) :: starEach [] X.env := by rfl) (hplain : (backTo cpos (starEach [] X.env)).any (·.1) = false := by rfl) :
    AE X (.Call (.Attribute o "extend" apos) [e] [] cpos) (aMth "list" amExtA to t) := ae_bm PySem.F.plainAttrs_list PySem.F.slot_list_extend PySem.F.type_list_extend mt_extA abm_extA ho ha hbase hfew hline hs hplain
end
end HC
set_option maxHeartbeats 1000000
namespace HC
open PySem PySem.Spec L2 PyProof.Rows
section
variable {X : Cx} {K : PySem.W.Frag}
theorem strs_are : ∀ {ys : List Str} {its : List Value}, Vals (ys.map V.str) its → StrsAre its ys
  | [], _, r => by cases r; exact .nil
  | y :: ys, _, r => by
    cases r with
    | cons h t =>
      obtain ⟨u, rfl⟩ := (show ∃ t, _ = Value.str y t from h)
      exact .cons y u (strs_are t)
def rJoinA (K : PySem.W.Frag) : V → List V → Hp → VK → Prop := fun x xs H Q => ∃ (sep : Str) (p : Addr) (ys : List Str), x = .str sep ∧ xs = [.ref p] ∧ (SqL K H p (ys.map V.str) ∨ SqT K H p (ys.map V.str)) ∧
  (ys.map (·.length)).sum + ys.length * sep.length ≤ 16777216 ∧ Q (.str (Txt.join sep ys)) H
theorem mt_joinA : MtR X "str.join" (rJoinA X.K) := fun pins s σ H x xs v us Q I rx rxs h => by
  obtain ⟨sep, p, ys, rfl, rfl, hs, h1, q⟩ := h
  obtain ⟨t, rfl⟩ := (show ∃ t, v = Value.str sep t from rx)
  obtain ⟨u, rfl, ru⟩ := vals1 rxs
  obtain rfl : u = Value.ref p := ru
  rcases hs with hs | hs
  · obtain ⟨its, rv, pl, hz⟩ := I.list hs
    exact join_list pl.isList (strs_are rv) h1 fun t' k => ⟨.str _, H, I.tok k, ⟨_, rfl⟩, q⟩
  · obtain ⟨its, rv, pl, hz⟩ := I.tuple hs
    exact join_tuple pl (strs_are rv) h1 fun t' k => ⟨.str _, H, I.tok k, ⟨_, rfl⟩, q⟩
def amJoin : ARM := fun x ds M Q => match x, ds with
  | .str sep, [d] => onS (itemsA d M) fun xs => ∃ ys : List Str, xs = ys.map Dv.str ∧ (ys.map (·.length)).sum + ys.length * sep.length ≤ 16777216 ∧ Q (.str (Txt.join sep ys)) M
  | _, _ => False
theorem reps_strs {H : Hp} : ∀ {ys : List Str} {ws : List V}, Reps K H (ys.map Dv.str) ws → ws = ys.map V.str
  | [], _, r => r
  | y :: ys, _, r => by
    obtain ⟨v, r', rfl, h, t⟩ := Reps.cons_inv (d := .str y) (ds := ys.map Dv.str) r
    rw [rep_str_inv h, reps_strs t]
    rfl
theorem abm_join : AbM K (rJoinA K) amJoin := by
  intro H M x dx vs ds Q Q' rx rd hv q k
  match dx, ds, q with
  | .str sep, [d], q =>
    obtain ⟨xs, h2, ys, rfl, hz, q⟩ := onS_ex q
    obtain ⟨v, e, r1⟩ := reps1 rd
    obtain ⟨b, us, e3, s3, z3⟩ := itemsA_ok r1 hv h2
    rw [reps_strs z3] at s3
    exact ⟨sep, b, ys, rep_str_inv rx, by rw [e, e3], s3.symm, hz, k _ _ _ _ (Tp.refl H) rep_str hv q⟩
variable {o e : Expr} {to : RE} {t : RA} {apos cpos : Pos}
theorem ae_join (ho : AE X o to) (ha : AA X [e] t) (hline : (apos.endLine == cpos.line) = true := by rfl) (hbase : attributeBase o "join" X.env (eval o X.env) = eval o X.env := by rfl)
    (hfew : ((backTo cpos (starEach [e] X.env)).all (fun x => !x.1) && (backToKw cpos (keywordEach [] X.env)).all (fun x => x.1.isSome)
      && decide (([e] : List Expr).length + ([] : List Keyword).length + (if ([] : List Keyword).isEmpty then 0 else 1) < 30)) = true := by rfl)
    (hs : starEach [e] X.env = (false, eval e X.env) :: starEach [] X.env := by rfl) (hplain : (backTo cpos (starEach [] X.env)).any (·.1) = false := by rfl) :
    AE X (.Call (.Attribute o "join" apos) [e] [] cpos) (aMth "str" amJoin to t) := ae_bm PySem.F.plainAttrs_str PySem.F.slot_str_join PySem.F.type_str_join mt_joinA abm_join ho ha hbase hfew hline hs hplain
theorem ae_gstr {x z : Str} {tk : Tok} {pos : Pos} (hg : Gl X x) (hm : X.mg x = some (.str z tk)) (hd : (x == ("__debug__" : Str)) = false := by decide) : AE X (.Name x pos) (aC (.str z)) :=
  ae_c (pe_glob hg hm (v := .str z) ⟨_, rfl⟩ hd) fun _ => by simp only [Rep]
end
end HC
set_option maxHeartbeats 1000000
namespace HC
open PySem PySem.Spec L2 PyProof.Rows
section
variable {X : Cx} {e : Expr} {te : RE} {pos : Pos} {K : PySem.W.Frag}
end
end HC
namespace HC
open PySem PySem.Spec L2 PyProof.Rows
end HC
set_option maxHeartbeats 4000000
namespace HC
open PySem PySem.Spec L2 PyProof.Rows HT
section
variable {prog : Program} {w : World} {A : Around} {E : Value → Shared → Prop} {s : Shared}
end
section
variable {X : Cx} {e : Expr} {te : RE} {pos : Pos} {K : PySem.W.Frag}
end
end HC
set_option maxHeartbeats 4000000
namespace HC
open PySem PySem.Spec L2 PyProof.Rows HT
section
variable {X : Cx}
end
section
variable {X : Cx} {o e : Expr} {to : RE} {t : RA} {apos cpos : Pos}
end
end HC
namespace HC
open PySem PySem.Spec L2 PyProof.Rows
section
variable {X : Cx} {a b : Expr} {ta tb : RE} {rest : List Expr} {pos : Pos}
end
end HC
set_option maxHeartbeats 1000000
namespace HC
open PySem L2 PyProof.Rows
def strI (i : Int) : Str := toString i
def acStr : ARC := fun ds M Q => match ds with | [.int i] => i.natAbs.log2 < 1920 ∧ Q (.str (strI i)) M | _ => False
theorem abc_str {K : PySem.W.Frag} : AbC K (fun xs H Q => ∃ i, xs = [.int i] ∧ i.natAbs.log2 < 1920 ∧ Q (.str (toString i)) H) acStr := by
  intro H M vs ds Q Q' r hv q k
  match ds, q with
  | [.int i], q =>
    obtain ⟨v, e, rd⟩ := reps1 r
    exact ⟨i, by rw [e, rep_int_inv rd], q.1, k _ _ _ _ (Tp.refl H) rep_str hv q.2⟩
theorem lay_asc {x : Str} (h : PySem.W.KSb.Asc x) : PyData.canLay0 (.str x) = true := by
  show x.cps.all (· < 0x110000) = true
  rw [Array.all_eq_true]
  intro i hi
  have := h x.cps[i] (Array.mem_toList_iff.mpr (Array.getElem_mem hi))
  exact decide_eq_true (by omega)
end HC
namespace Law
open PySem L2 HC PyProof.Rows
abbrev kS (x : Str) : Key := .inr x
def potC (q : Addr) (l s m : Int) : Cell := .dic [(kS "own", .ref q), (kS "left", .int l), (kS "seed", .int s), (kS "many", .int m)]
structure DPot (p q : Addr) (M : Ms) : Prop where
  ne : p ≠ q
  d : ∃ l s m : Int, M p = some (potC q l s m) ∧ 0 ≤ l ∧ 0 ≤ s ∧ 0 ≤ m
  o : ∃ own : List Int, M q = some (.lst (own.map Dv.int)) ∧ (∀ x ∈ own, 0 ≤ x) ∧ own.length ≤ 63
def But (p q : Addr) (M M' : Ms) : Prop := ∀ a c, a ≠ p → a ≠ q → M a = some c → M' a = some c
theorem put_left (o : Dv) (l s c x : Dv) : putA [(kS (Str.ofString "own"), o), (kS (Str.ofString "left"), l), (kS (Str.ofString "seed"), s), (kS (Str.ofString "many"), c)] (.inr (Str.ofString "left")) x = [(kS (Str.ofString "own"), o), (kS (Str.ofString "left"), x), (kS (Str.ofString "seed"), s), (kS (Str.ofString "many"), c)] := rfl
theorem put_seed (o : Dv) (l s c x : Dv) : putA [(kS (Str.ofString "own"), o), (kS (Str.ofString "left"), l), (kS (Str.ofString "seed"), s), (kS (Str.ofString "many"), c)] (.inr (Str.ofString "seed")) x = [(kS (Str.ofString "own"), o), (kS (Str.ofString "left"), l), (kS (Str.ofString "seed"), x), (kS (Str.ofString "many"), c)] := rfl
theorem put_many (o : Dv) (l s c x : Dv) : putA [(kS (Str.ofString "own"), o), (kS (Str.ofString "left"), l), (kS (Str.ofString "seed"), s), (kS (Str.ofString "many"), c)] (.inr (Str.ofString "many")) x = [(kS (Str.ofString "own"), o), (kS (Str.ofString "left"), l), (kS (Str.ofString "seed"), s), (kS (Str.ofString "many"), x)] := rfl
theorem But.p {p q : Addr} {M M1 : Ms} {c : Cell} (h : But p q M M1) : But p q M (mup M1 p c) := fun a d h1 h2 e => by rw [mup_ne h1]; exact h a d h1 h2 e
theorem But.q {p q : Addr} {M M1 : Ms} {c : Cell} (h : But p q M M1) : But p q M (mup M1 q c) := fun a d h1 h2 e => by rw [mup_ne h2]; exact h a d h1 h2 e
theorem But.new {p q r : Addr} {M M1 : Ms} {c : Cell} (h : But p q M M1) (hr : M1 r = none) : But p q M (mup M1 r c) := fun a d h1 h2 e => Sub.new hr a d (h a d h1 h2 e)
theorem But.refl (p q : Addr) (M : Ms) : But p q M M := fun _ _ _ _ e => e
theorem But.trans {p q : Addr} {M M1 M2 : Ms} (h : But p q M M1) (k : But p q M1 M2) : But p q M M2 := fun a d h1 h2 e => k a d h1 h2 (h a d h1 h2 e)
theorem But.sub {p q : Addr} {M M1 M2 : Ms} (h : But p q M M1) (k : Sub M1 M2) : But p q M M2 := fun a d h1 h2 e => k a d (h a d h1 h2 e)
theorem DPot.sub {p q : Addr} {M M1 : Ms} (h : DPot p q M) (k : Sub M M1) : DPot p q M1 := by
  obtain ⟨hne, ⟨l, s, c, hp, b⟩, own, hq, ho⟩ := h
  exact ⟨hne, ⟨l, s, c, k _ _ hp, b⟩, own, k _ _ hq, ho⟩
theorem DPot.set {p q : Addr} {M : Ms} {l s c : Int} (h : DPot p q M) (l0 : 0 ≤ l) (s0 : 0 ≤ s) (c0 : 0 ≤ c) : DPot p q (mup M p (potC q l s c)) := by
  obtain ⟨hne, _, own, hq, ho⟩ := h
  exact ⟨hne, ⟨l, s, c, mup_same, l0, s0, c0⟩, own, by rw [mup_ne hne.symm]; exact hq, ho⟩
theorem DPot.keep {p q : Addr} {M M1 : Ms} (h : DPot p q M) (k : Sub M M1) : DPot p q M1 := h.sub k
theorem DPot.nep {p q r : Addr} {M : Ms} (h : DPot p q M) (hr : M r = none) : r ≠ p := by
  obtain ⟨_, ⟨l, s, c, hp, _⟩, _⟩ := h
  exact (ne_of_new hp hr).symm
theorem DPot.neq {p q r : Addr} {M : Ms} (h : DPot p q M) (hr : M r = none) : r ≠ q := by
  obtain ⟨_, _, own, hq, _⟩ := h
  exact (ne_of_new hq hr).symm
theorem DPot.del {p q r : Addr} {M : Ms} (h : DPot p q M) (h1 : r ≠ p) (h2 : r ≠ q) : DPot p q (mdel M r) := by
  obtain ⟨hne, ⟨l, s, c, hp, b⟩, own, hq, ho⟩ := h
  exact ⟨hne, ⟨l, s, c, by rw [mdel_ne h1.symm]; exact hp, b⟩, own, by rw [mdel_ne h2.symm]; exact hq, ho⟩
theorem But.del {p q r : Addr} {M M1 : Ms} (h : But p q M M1) (hr : M r = none) : But p q M (mdel M1 r) := fun a d h1 h2 e => by rw [mdel_ne (ne_of_new e hr)]; exact h a d h1 h2 e
theorem But.at {p q r : Addr} {M M1 : Ms} {c : Cell} (h : But p q M M1) (h1 : r ≠ p) (h2 : r ≠ q) (e : M r = some c) : M1 r = some c := h r c h1 h2 e
theorem DPot.put {p q r : Addr} {M : Ms} {c : Cell} (h : DPot p q M) (h1 : r ≠ p) (h2 : r ≠ q) : DPot p q (mup M r c) := by
  obtain ⟨hne, ⟨l, s, c', hp, b⟩, own, hq, ho⟩ := h
  exact ⟨hne, ⟨l, s, c', by rw [mup_ne h1.symm]; exact hp, b⟩, own, by rw [mup_ne h2.symm]; exact hq, ho⟩
theorem But.mdel2 {p q r : Addr} {M M1 : Ms} (h : But p q M M1) : But p q (mdel M r) (mdel M1 r) := fun a d h1 h2 e => by
  by_cases ha : a = r
  · subst ha; rw [mdel_same] at e; cases e
  · rw [mdel_ne ha] at e ⊢; exact h a d h1 h2 e
theorem But.put {p q r : Addr} {M M1 : Ms} {c : Cell} (h : But p q M M1) (hr : M r = none) : But p q M (mup M1 r c) := fun a d h1 h2 e => by rw [mup_ne (ne_of_new e hr)]; exact h a d h1 h2 e
end Law
namespace Law
open PySem L2 HC PyProof.Rows
def Pn : Nat → Dv → Prop
  | _, .non => True
  | _, .bl _ => True
  | _, .int _ => True
  | _, .str x => PyData.canLay0 (.str x) = true
  | n + 1, .tup xs => xs.length ≤ sizeLine ∧ ∀ d ∈ xs, Pn n d
  | n + 1, .rol xs => xs.length ≤ sizeLine ∧ ∀ d ∈ xs, Pn n d
  | _, _ => False
theorem Pn.up : ∀ {n : Nat} {d : Dv}, Pn n d → Pn (n + 1) d
  | 0, .non, _ => trivial
  | 0, .bl _, _ => trivial
  | 0, .int _, _ => trivial
  | 0, .str _, h => h
  | n + 1, .non, _ => trivial
  | n + 1, .bl _, _ => trivial
  | n + 1, .int _, _ => trivial
  | n + 1, .str _, h => h
  | n + 1, .tup xs, h => ⟨h.1, fun d hd => Pn.up (h.2 d hd)⟩
  | n + 1, .rol xs, h => ⟨h.1, fun d hd => Pn.up (h.2 d hd)⟩
abbrev Blk := List Nat
structure Head where
  par : Nat
  size : Nat
  rows : Nat
  width : Nat
  moved : Nat
  spares : Nat
def Head.d (h : Head) : Dv := .tup [dn h.par, dn h.size, dn h.rows, dn h.width, dn h.moved, dn h.spares]
structure Head.Ok (h : Head) (many : Nat) : Prop where
  par1 : 1 ≤ h.par
  par2 : h.par ≤ 2
  size1 : 1 ≤ h.size
  size2 : h.size ≤ 16
  rows1 : 1 ≤ h.rows
  rows2 : h.rows ≤ 24
  width1 : h.par + 1 ≤ h.width
  width2 : h.width ≤ 10
  many : (many = h.width ∧ h.moved = 0) ∨ (many = h.width + 1 ∧ many ≤ 10 ∧ h.moved < h.rows)
  sp : h.spares ≤ 1000000
theorem headOk {par size rows width moved spares many : Nat} (h1 : 1 ≤ par) (h2 : par ≤ 2) (h3 : 1 ≤ size) (h4 : size ≤ 16) (h5 : 1 ≤ rows) (h6 : rows ≤ 24) (h7 : par + 1 ≤ width) (h8 : width ≤ 10)
    (h9 : (many = width ∧ moved = 0) ∨ (many = width + 1 ∧ many ≤ 10 ∧ moved < rows)) (h10 : spares ≤ 1000000) : (⟨par, size, rows, width, moved, spares⟩ : Head).Ok many := ⟨h1, h2, h3, h4, h5, h6, h7, h8, h9, h10⟩
def bD (b : Blk) : Dv := .tup (b.map fun n => dn n)
def oD : Option Blk → Dv
  | none => .non
  | some b => bD b
abbrev Disk := Option (List (Option Blk))
def kD : Disk → Dv
  | none => .non
  | some bs => .tup (bs.map oD)
inductive Note where
  | block (disk row : Nat) (b : Blk)
  | fin (many width moved : Nat)
def nD : Note → Dv
  | .block disk row b => .tup [.str ("block" : Str), dn disk, dn row, bD b]
  | .fin many width moved => .tup [.str ("end" : Str), dn many, dn width, dn moved]
structure Store where
  head : Head
  disks : List Disk
  journal : List Note
def Store.d (s : Store) : Dv := .tup [s.head.d, .tup (s.disks.map kD), .tup (s.journal.map nD)]
def BlkOk' (b : Blk) (size : Nat) : Prop := b.length = size ∧ ∀ x ∈ b, x < 256
def DiskOk (k : Disk) (size rows : Nat) : Prop := ∀ bs, k = some bs → bs.length = rows ∧ ∀ o ∈ bs, ∀ b, o = some b → BlkOk' b size
def WidthsOk (w m par rows many : Nat) : Prop := par + 1 ≤ w ∧ w ≤ 10 ∧ ((many = w ∧ m = 0) ∨ (many = w + 1 ∧ many ≤ 10 ∧ m < rows))
def NoteOk (h : Head) (many : Nat) (i : Nat) (last : Bool) : Note → Prop
  | .block disk row b => disk < many ∧ row < h.rows ∧ BlkOk' b h.size
  | .fin k w m => last = true ∧ k = i ∧ WidthsOk w m h.par h.rows many
structure Store.Ok (s : Store) : Prop where
  head : s.head.Ok s.disks.length
  disks : ∀ k ∈ s.disks, DiskOk k s.head.size s.head.rows
  journal : ∀ i n, s.journal[i]? = some n → NoteOk s.head s.disks.length i (decide (i + 1 = s.journal.length)) n
structure Store.Fit (s : Store) : Prop where
  disks : s.disks.length ≤ 1000000
  journal : s.journal.length ≤ 1000000
  rows : ∀ k ∈ s.disks, ∀ bs, k = some bs → bs.length ≤ 1000000 ∧ ∀ o ∈ bs, ∀ b, o = some b → b.length ≤ 1000000
  notes : ∀ n ∈ s.journal, ∀ i r b, n = .block i r b → b.length ≤ 1000000
def Store.wide (s : Store) (row : Nat) : Nat := s.head.width + (if row < s.head.moved then 1 else 0)
def Store.cell (s : Store) (disk row : Nat) : Option Blk := match s.disks.getD disk none with
  | none => none
  | some bs => bs.getD row none
def Store.row (s : Store) (row : Nat) : List (Option Blk) := (List.range (s.wide row)).map fun j => s.cell ((row + j) % s.wide row) row
theorem Store.Ok.many_le {s : Store} (h : s.Ok) : s.disks.length ≤ 10 := by
  have := h.head.many
  have := h.head.width2
  omega
theorem Store.Ok.disk {s : Store} (h : s.Ok) {i : Nat} : DiskOk (s.disks.getD i none) s.head.size s.head.rows := by
  by_cases hi : i < s.disks.length
  · have : s.disks.getD i none ∈ s.disks := by
      rw [List.getD_eq_getElem?_getD, List.getElem?_eq_getElem hi]
      exact List.getElem_mem hi
    exact h.disks _ this
  · rw [List.getD_eq_getElem?_getD, List.getElem?_eq_none (by omega)]
    exact fun bs e => nomatch e
def Store.kept (s : Store) : Nat := s.head.rows * (s.head.width - s.head.par)
end Law
namespace Law
open PySem L2 HC PyProof.Rows
def figS : Str := ("0123456789abcdef" : Str)
def hexT (k : Nat) : Str := ⟨#[figS.cps.toList.getD k 0]⟩
def byteT (b : Nat) : Str := hexT (b / 16) ++ hexT (b % 16)
def blkT (b : Blk) : Str := Txt.join ("" : Str) (b.map byteT)
def oT : Option Blk → Str
  | none => ("-" : Str)
  | some b => blkT b
def diskT : Disk → Str
  | none => ("lost" : Str)
  | some bs => Txt.join (" " : Str) (("disk" : Str) :: bs.map oT)
def noteT : Note → Str
  | .block d r b => Txt.join (" " : Str) [("note" : Str), strI d, strI r, blkT b]
  | .fin a w m => Txt.join (" " : Str) [("end" : Str), strI a, strI w, strI m]
def headT (h : Head) : Str := Txt.join (" " : Str) [("store" : Str), strI h.par, strI h.size, strI h.rows, strI h.width, strI h.moved, strI h.spares]
def rowsT (s : Store) : List Str := headT s.head :: (s.disks.map diskT ++ s.journal.map noteT)
def storeT (s : Store) : Str := Txt.join ("\n" : Str) (rowsT s)
theorem join_le (y : Str) (ys : List Str) : (Txt.join y ys).length ≤ (ys.map (·.length)).sum + ys.length * y.length := by
  show (Builtin.Str.glued y ys).length ≤ _
  rw [StrLaws.glued_eq_join]
  cases ys with
  | nil => exact Nat.zero_le _
  | cons a l =>
    rw [len_join_cons, List.length_cons, Nat.add_mul, Nat.one_mul]
    omega
theorem sum_le {ys : List Str} {B : Nat} (h : ∀ y ∈ ys, y.length ≤ B) : (ys.map (·.length)).sum ≤ ys.length * B := by
  induction ys with
  | nil => simp
  | cons y ys ih =>
    rw [List.map_cons, List.sum_cons, List.length_cons, Nat.add_mul, Nat.one_mul]
    have := h y List.mem_cons_self
    have := ih fun z hz => h z (List.mem_cons_of_mem _ hz)
    omega
theorem len_num {n : Nat} (h : n < 10000000000) : (strI (n : Int)).length ≤ 10 := PySem.W.KT.len_num (Int.natCast_nonneg n) (by omega)
theorem log_num {n : Nat} (h : n < 10000000000) : ((n : Int)).natAbs.log2 < 1920 := by
  rw [Int.natAbs_natCast]
  by_cases z : n = 0
  · rw [z]; decide
  · exact Nat.lt_of_lt_of_le ((Nat.log2_lt z).mpr (show n < 2 ^ 34 by omega)) (by decide)
theorem len_byteT (b : Nat) : (byteT b).length = 2 := by
  unfold byteT
  rw [Str.length_append]
  rfl
theorem len_blkT (b : Blk) : (blkT b).length ≤ 2 * b.length := by
  unfold blkT
  have h1 := join_le ("" : Str) (b.map byteT)
  have h2 := sum_le (ys := b.map byteT) (B := 2) fun y hy => by
    obtain ⟨x, _, rfl⟩ := List.mem_map.mp hy
    rw [len_byteT]
    exact Nat.le_refl _
  have h3 : ("" : Str).length = 0 := by decide
  rw [h3, Nat.mul_zero] at h1
  rw [List.length_map] at h2
  omega
def accT (b : Blk) : Str := b.foldl (fun a x => a ++ hexT (x / 16) ++ hexT (x % 16)) ("" : Str)
theorem joinL_nil : ∀ (L : List (List Nat)), TL.joinL [] L = L.flatten
  | [] => rfl
  | [p] => by simp [TL.joinL]
  | p :: q :: r => by
    show p ++ ([] ++ TL.joinL [] (q :: r)) = _
    rw [List.nil_append, joinL_nil (q :: r)]
    rfl
theorem tl_empty : TL.tl ("" : Str) = [] := by decide
theorem tl_acc : ∀ (b : Blk) (a : Str), TL.tl (b.foldl (fun a x => a ++ hexT (x / 16) ++ hexT (x % 16)) a) = TL.tl a ++ ((b.map byteT).map TL.tl).flatten
  | [], a => by simp
  | x :: b, a => by
    rw [List.foldl_cons, tl_acc b, List.map_cons, List.map_cons, List.flatten_cons]
    unfold byteT
    simp only [TL.tl_append, List.append_assoc]
theorem acc_blk (b : Blk) : accT b = blkT b := by
  refine TL.ext_tl ?_
  unfold accT blkT
  rw [tl_acc, tl_empty, List.nil_append]
  show _ = TL.tl (Builtin.Str.glued ("" : Str) (b.map byteT))
  rw [StrLaws.glued_eq_join, TL.tl_join, tl_empty, joinL_nil]
theorem fig_at {k : Nat} (h : k < 16) : atI figS.cps.toList (k : Int) = some (figS.cps.toList.getD k 0) := by
  match k, h with
  | 0, _ | 1, _ | 2, _ | 3, _ | 4, _ | 5, _ | 6, _ | 7, _ | 8, _ | 9, _ | 10, _ | 11, _ | 12, _ | 13, _ | 14, _ | 15, _ => decide +kernel
  | k + 16, h => omega
theorem len_oT {o : Option Blk} (h : ∀ b, o = some b → b.length ≤ 16 ∧ ∀ x ∈ b, x < 256) : (oT o).length ≤ 32 := by
  cases o with
  | none => show ("-" : Str).length ≤ 32; decide
  | some b =>
    have h1 := len_blkT b
    have h2 := (h b rfl).1
    exact Nat.le_trans h1 (by omega)
theorem size_disk {bs : List (Option Blk)} (hl : bs.length ≤ 24) (h : ∀ o ∈ bs, ∀ b, o = some b → b.length ≤ 16 ∧ ∀ x ∈ b, x < 256) : ((("disk" : Str) :: bs.map oT).map (·.length)).sum + (("disk" : Str) :: bs.map oT).length * (" " : Str).length ≤ 900 := by
  have h2 := sum_le (ys := ("disk" : Str) :: bs.map oT) (B := 32) fun y hy => by
    rcases List.mem_cons.mp hy with rfl | hy
    · decide
    · obtain ⟨o, ho, rfl⟩ := List.mem_map.mp hy
      exact len_oT (h o ho)
  have h3 : (" " : Str).length = 1 := by decide
  rw [h3]
  have e : (("disk" : Str) :: bs.map oT).length = bs.length + 1 := by simp
  rw [e] at h2 ⊢
  omega
def NtOk : Note → Prop
  | .block d r b => d < 10000000000 ∧ r < 10000000000 ∧ b.length ≤ 16 ∧ ∀ x ∈ b, x < 256
  | .fin a w m => a < 10000000000 ∧ w < 10000000000 ∧ m < 10000000000
theorem size_note {d r : Nat} {b : Blk} (h1 : d < 10000000000) (h2 : r < 10000000000) (h3 : b.length ≤ 16) : (([("note" : Str), strI d, strI r, blkT b]).map (·.length)).sum + ([("note" : Str), strI d, strI r, blkT b]).length * (" " : Str).length ≤ 900 := by
  have e1 := len_num h1
  have e2 := len_num h2
  have e3 := len_blkT b
  have h4 : (" " : Str).length = 1 := by decide
  have h5 : ("note" : Str).length = 4 := by decide
  simp only [List.map_cons, List.map_nil, List.sum_cons, List.sum_nil, List.length_cons, List.length_nil, h4, h5]
  omega
theorem size_end {a w m : Nat} (h1 : a < 10000000000) (h2 : w < 10000000000) (h3 : m < 10000000000) : (([("end" : Str), strI a, strI w, strI m]).map (·.length)).sum + ([("end" : Str), strI a, strI w, strI m]).length * (" " : Str).length ≤ 900 := by
  have e1 := len_num h1
  have e2 := len_num h2
  have e3 := len_num h3
  have h4 : (" " : Str).length = 1 := by decide
  have h5 : ("end" : Str).length = 3 := by decide
  simp only [List.map_cons, List.map_nil, List.sum_cons, List.sum_nil, List.length_cons, List.length_nil, h4, h5]
  omega
theorem size_head {h : Head} {many : Nat} (ok : h.Ok many) : (([("store" : Str), strI h.par, strI h.size, strI h.rows, strI h.width, strI h.moved, strI h.spares]).map (·.length)).sum + ([("store" : Str), strI h.par, strI h.size, strI h.rows, strI h.width, strI h.moved, strI h.spares]).length * (" " : Str).length ≤ 900 := by
  have mv : h.moved < 10000000000 := by
    have := ok.rows2
    rcases ok.many with q | q <;> omega
  have e1 := len_num (n := h.par) (by have := ok.par2; omega)
  have e2 := len_num (n := h.size) (by have := ok.size2; omega)
  have e3 := len_num (n := h.rows) (by have := ok.rows2; omega)
  have e4 := len_num (n := h.width) (by have := ok.width2; omega)
  have e5 := len_num mv
  have e6 := len_num (n := h.spares) (by have := ok.sp; omega)
  have h4 : (" " : Str).length = 1 := by decide
  have h5 : ("store" : Str).length = 5 := by decide
  simp only [List.map_cons, List.map_nil, List.sum_cons, List.sum_nil, List.length_cons, List.length_nil, h4, h5]
  omega
def hdNs (h : Head) : List Nat := [h.par, h.size, h.rows, h.width, h.moved, h.spares]
theorem hd_ok {h : Head} {many : Nat} (ok : h.Ok many) : ∀ x ∈ hdNs h, x < 10000000000 := fun x hx => by
  have := ok.par2
  have := ok.size2
  have := ok.rows2
  have := ok.width2
  have := ok.sp
  have mv : h.moved < 10000000000 := by rcases ok.many with q | q <;> omega
  unfold hdNs at hx
  simp only [List.mem_cons, List.not_mem_nil, or_false] at hx
  rcases hx with rfl | rfl | rfl | rfl | rfl | rfl <;> omega
theorem nt_ok {s : Store} (ok : s.Ok) (hl : s.journal.length ≤ 10) : ∀ n ∈ s.journal, NtOk n := fun n hn => by
  obtain ⟨i, hi⟩ := List.getElem?_of_mem hn
  have il := (List.getElem?_eq_some_iff.mp hi).1
  have j := ok.journal i n hi
  have z2 := ok.head.size2
  have r2 := ok.head.rows2
  have mo : s.disks.length ≤ 11 := by
    have := ok.head.width2
    rcases ok.head.many with q | q <;> omega
  cases n with
  | block d r b =>
    obtain ⟨j1, j2, j3, j4⟩ := j
    exact ⟨by omega, by omega, by rw [j3]; exact z2, j4⟩
  | fin a w m =>
    obtain ⟨j1, j2, j3⟩ := j
    unfold WidthsOk at j3
    exact ⟨by omega, by omega, by omega⟩
theorem len_disk {s : Store} (ok : s.Ok) {k : Disk} (hk : k ∈ s.disks) : (diskT k).length ≤ 900 := by
  cases k with
  | none => show ("lost" : Str).length ≤ 900; decide
  | some bs =>
    obtain ⟨h1, h2⟩ := ok.disks _ hk bs rfl
    refine Nat.le_trans (join_le _ _) (size_disk (by rw [h1]; exact ok.head.rows2) fun o ho b hb => ?_)
    obtain ⟨h3, h4⟩ := h2 o ho b hb
    exact ⟨by rw [h3]; exact ok.head.size2, h4⟩
theorem len_note {n : Note} (h : NtOk n) : (noteT n).length ≤ 900 := by
  cases n with
  | block d r b => exact Nat.le_trans (join_le _ _) (size_note h.1 h.2.1 h.2.2.1)
  | fin a w m => exact Nat.le_trans (join_le _ _) (size_end h.1 h.2.1 h.2.2)
theorem size_rows {s : Store} (ok : s.Ok) (hl : s.journal.length ≤ 10) : ((rowsT s).map (·.length)).sum + (rowsT s).length * ("\n" : Str).length ≤ 100000 := by
  have mo : s.disks.length ≤ 11 := by
    have := ok.head.width2
    rcases ok.head.many with q | q <;> omega
  have h2 := sum_le (ys := rowsT s) (B := 900) fun y hy => by
    unfold rowsT at hy
    rcases List.mem_cons.mp hy with rfl | hy
    · exact Nat.le_trans (join_le _ _) (size_head ok.head)
    · rcases List.mem_append.mp hy with hy | hy
      · obtain ⟨k, hk, rfl⟩ := List.mem_map.mp hy
        exact len_disk ok hk
      · obtain ⟨n, hn, rfl⟩ := List.mem_map.mp hy
        exact len_note (nt_ok ok hl n hn)
  have h3 : ("\n" : Str).length = 1 := by decide
  have e : (rowsT s).length = s.disks.length + s.journal.length + 1 := by unfold rowsT; simp
  rw [h3]
  rw [e] at h2 ⊢
  omega
open PySem.W.KSb in
theorem asc_joinT {y : Str} (hy : Asc y) : ∀ {ys : List Str}, (∀ z ∈ ys, Asc z) → Asc (Str.join y ys)
  | [], _ => fun c hc => nomatch (show c ∈ ([] : List Nat) from hc)
  | [a], h => h a List.mem_cons_self
  | a :: b :: r, h => asc_app (asc_app (h a List.mem_cons_self) hy) (asc_joinT hy fun z hz => h z (List.mem_cons_of_mem _ hz))
open PySem.W.KSb in
theorem asc_join' {y : Str} (hy : Asc y) {ys : List Str} (h : ∀ z ∈ ys, Asc z) : Asc (Txt.join y ys) := by
  show Asc (Builtin.Str.glued y ys)
  rw [StrLaws.glued_eq_join]
  exact asc_joinT hy h
section
open PySem.W.KSb
theorem fig_lt (k : Nat) : figS.cps.toList.getD k 0 < 128 := by
  by_cases h : k < 16
  · have a : ∀ k, k < 16 → figS.cps.toList.getD k 0 < 128 := by decide +kernel
    exact a k h
  · rw [List.getD_eq_getElem?_getD, List.getElem?_eq_none (by show figS.cps.toList.length ≤ k; exact Nat.le_trans (show figS.cps.toList.length ≤ 16 by decide) (by omega))]
    decide
theorem asc_hex (k : Nat) : Asc (hexT k) := fun c hc => by
  have hc : c ∈ [figS.cps.toList.getD k 0] := hc
  rw [List.mem_singleton.mp hc]
  exact fig_lt k
theorem asc_blk (b : Blk) : Asc (blkT b) := asc_join' (asc_of (by decide +kernel)) fun z hz => by
  obtain ⟨x, _, rfl⟩ := List.mem_map.mp hz
  exact asc_app (asc_hex _) (asc_hex _)
theorem asc_oT (o : Option Blk) : Asc (oT o) := by
  cases o with
  | none => exact asc_of (show (("-" : Str).cps.toList.all fun c => decide (c < 128)) = true by decide +kernel)
  | some b => exact asc_blk b
theorem asc_sp : Asc (" " : Str) := asc_of (by decide +kernel)
theorem asc_disk (k : Disk) : Asc (diskT k) := by
  cases k with
  | none => exact asc_of (show (("lost" : Str).cps.toList.all fun c => decide (c < 128)) = true by decide +kernel)
  | some bs =>
    refine asc_join' asc_sp fun z hz => ?_
    rcases List.mem_cons.mp hz with rfl | hz
    · exact asc_of (by decide +kernel)
    · obtain ⟨o, _, rfl⟩ := List.mem_map.mp hz
      exact asc_oT o
theorem asc_note (n : Note) : Asc (noteT n) := by
  cases n with
  | block d r b =>
    refine asc_join' asc_sp fun z hz => ?_
    simp only [List.mem_cons, List.not_mem_nil, or_false] at hz
    rcases hz with rfl | rfl | rfl | rfl
    · exact asc_of (by decide +kernel)
    · exact asc_num _
    · exact asc_num _
    · exact asc_blk b
  | fin a w m =>
    refine asc_join' asc_sp fun z hz => ?_
    simp only [List.mem_cons, List.not_mem_nil, or_false] at hz
    rcases hz with rfl | rfl | rfl | rfl
    · exact asc_of (by decide +kernel)
    · exact asc_num _
    · exact asc_num _
    · exact asc_num _
theorem asc_head (h : Head) : Asc (headT h) := asc_join' asc_sp fun z hz => by
  simp only [List.mem_cons, List.not_mem_nil, or_false] at hz
  rcases hz with rfl | rfl | rfl | rfl | rfl | rfl | rfl
  · exact asc_of (by decide +kernel)
  all_goals exact asc_num _
theorem asc_store (s : Store) : Asc (storeT s) := asc_join' (asc_of (by decide +kernel)) fun z hz => by
  unfold rowsT at hz
  rcases List.mem_cons.mp hz with rfl | hz
  · exact asc_head _
  · rcases List.mem_append.mp hz with hz | hz
    · obtain ⟨k, _, rfl⟩ := List.mem_map.mp hz
      exact asc_disk k
    · obtain ⟨n, _, rfl⟩ := List.mem_map.mp hz
      exact asc_note n
end
end Law
namespace Law
open PySem L2 HC PyProof.Rows
theorem Pn.le {n : Nat} {d : Dv} (h : Pn n d) : ∀ k, Pn (n + k) d
  | 0 => h
  | k + 1 => Pn.up (Pn.le h k)
structure BigOk (s : Store) : Prop where
  ok : s.Ok
  len : s.journal.length ≤ 10
  rows : 2 ≤ s.head.rows
  width : s.head.par + 2 ≤ s.head.width
  first : ∃ bs : List Blk, s.disks.getD 0 none = some (bs.map some) ∧ bs.length = s.head.rows ∧ ∀ b ∈ bs, BlkOk' b s.head.size
end Law
namespace Law
open PySem L2 HC PyProof.Rows
set_option maxHeartbeats 1000000
local macro_rules | `(tactic| infer_instance) => `(tactic| (first | exact True.intro | omega | assumption | decide | (dsimp only; omega) | exact lt_line (by omega) | exact le_line (by omega) | exact lt_line (by simp <;> omega) | exact le_line (by simp <;> omega) | exact ⟨by decide, by decide, by decide⟩ | exact ⟨by omega, by omega, by omega⟩ | exact List.cons_ne_nil _ _ | exact CMul_l (by omega) | exact CMul_r (by omega) | exact tyM_list (by (first | exact mup_same | assumption | (exact look_new (by assumption) (by assumption)) | (exact look_new (look_new (by assumption) (by assumption)) (by assumption)))) | (first | exact mup_same | assumption | (exact look_new (by assumption) (by assumption)) | (exact look_new (look_new (by assumption) (by assumption)) (by assumption))) | (simp only [List.length_cons, List.length_nil, List.length_map, List.length_replicate, List.length_append, rangeA_len] <;> omega)))
local macro_rules | `(tactic| decreasing_tactic) => `(tactic| ((conv => whnf); repeat (first | (refine And.intro (by infer_instance) ?_; (conv => whnf)) | (refine And.intro (by infer_instance) fun _ hr => fz_new hr ?_; (conv => whnf)) | (refine fun _ hr => fz_new hr ?_; (conv => whnf)) | (refine onIf_ndecF (by with_reducible rfl) ?_; (conv => whnf)) | (refine onIf_decT (by with_reducible rfl) ?_; (conv => whnf)) | (refine onIf_decT (by omega) ?_; (conv => whnf)) | (refine onIf_decF (by omega) ?_; (conv => whnf)) | (refine onIf_ndecT (by omega) ?_; (conv => whnf)) | (refine onIf_ndecF (by omega) ?_; (conv => whnf)) | (refine onIf_decT (congrArg Dv.int (by omega)) ?_; (conv => whnf)) | (refine onIf_decF (fun h => absurd (Dv.int.inj h) (by omega)) ?_; (conv => whnf)) | (refine onIf_ndecT (fun h => absurd (Dv.int.inj h) (by omega)) ?_; (conv => whnf)) | (refine onIf_ndecF (congrArg Dv.int (by omega)) ?_; (conv => whnf)) | (refine ⟨_, (by (first | exact kit_ii | exact kit_ib | exact kit_it | exact kit_is | exact kit_bi | exact kit_bb | exact kit_bt | exact kit_bs | exact kit_ti | exact kit_tb | exact kit_tt | exact kit_ts | exact kit_si | exact kit_sb | exact kit_st | exact kit_ss | exact kit_ni | exact kit_nb | exact kit_nt | exact kit_ns | exact kit_li | exact kit_lb | exact kit_lt | exact kit_ls)), ?_⟩; (conv => whnf)) | (refine onS_of (itemsA_l (by (first | exact mup_same | assumption | (exact look_new (by assumption) (by assumption)) | (exact look_new (look_new (by assumption) (by assumption)) (by assumption))))) ?_; (conv => whnf)) | (refine onS_of (lstA_l (by (first | exact mup_same | assumption | (exact look_new (by assumption) (by assumption)) | (exact look_new (look_new (by assumption) (by assumption)) (by assumption))))) ?_; (conv => whnf)) | (refine onS_of (lstC_l (by (first | exact mup_same | assumption | (exact look_new (by assumption) (by assumption)) | (exact look_new (look_new (by assumption) (by assumption)) (by assumption))))) ?_; (conv => whnf)) | (refine onS_of (lenA_l (by (first | exact mup_same | assumption | (exact look_new (by assumption) (by assumption)) | (exact look_new (look_new (by assumption) (by assumption)) (by assumption))))) ?_; (conv => whnf)))))
theorem sc_law_pot : FnScope [("_law_script" : Str), ("_law_seed" : Str), ("_law_own" : Str), ("_law_cell" : Str)] [("_law_script" : Str)] (defScope s_law_pot) := ⟨rfl, rfl, rfl, by decide +kernel, rfl, by decide +kernel, by decide +kernel⟩
theorem sc_law_block_text : FnScope [("_law_block_here" : Str), ("_law_signs" : Str), ("_law_made" : Str), ("_law_byte" : Str)] [("_law_block_here" : Str)] (defScope s_law_block_text) := ⟨rfl, rfl, rfl, by decide +kernel, rfl, by decide +kernel, by decide +kernel⟩
abbrev N_law_rows : List Str := [("_law_store_here" : Str), ("_law_head_here" : Str), ("_law_disks" : Str), ("_law_journal_here" : Str), ("_law_rows_here" : Str), ("_law_disk_here" : Str), ("_law_note" : Str), ("_law_one" : Str), ("_law_block_here" : Str)]
theorem sc_law_rows : FnScope [("_law_store_here" : Str), ("_law_head_here" : Str), ("_law_disks" : Str), ("_law_journal_here" : Str), ("_law_rows_here" : Str), ("_law_disk_here" : Str), ("_law_note" : Str), ("_law_one" : Str), ("_law_block_here" : Str)] [("_law_store_here" : Str)] (defScope s_law_rows) := ⟨rfl, rfl, rfl, by decide +kernel, rfl, by decide +kernel, by decide +kernel⟩
theorem sc_law_next : FnScope [("_law_pot_here" : Str), ("_law_many" : Str), ("_law_drawn" : Str), ("_law_mixed" : Str)] [("_law_pot_here" : Str), ("_law_many" : Str)] (defScope s_law_next) := ⟨rfl, rfl, rfl, by decide +kernel, rfl, by decide +kernel, by decide +kernel⟩
abbrev N_law_block : List Str := [("_law_pot_here" : Str), ("_law_size" : Str), ("_law_first" : Str), ("_law_step" : Str), ("_law_k" : Str)]
theorem sc_law_block : FnScope [("_law_pot_here" : Str), ("_law_size" : Str), ("_law_first" : Str), ("_law_step" : Str), ("_law_k" : Str)] [("_law_pot_here" : Str), ("_law_size" : Str)] (defScope s_law_block) := ⟨rfl, rfl, rfl, by decide +kernel, rfl, by decide +kernel, by decide +kernel⟩
theorem sc_law_disk : FnScope [("_law_pot_here" : Str), ("_law_head_here" : Str), ("_law_blocks" : Str), ("_law_row" : Str), ("_law_block_here" : Str)] [("_law_pot_here" : Str), ("_law_head_here" : Str)] (defScope s_law_disk) := ⟨rfl, rfl, rfl, by decide +kernel, rfl, by decide +kernel, by decide +kernel⟩
theorem sc_law_count : FnScope [("_law_pot_here" : Str), ("_law_most" : Str), ("_law_great" : Str)] [("_law_pot_here" : Str), ("_law_most" : Str), ("_law_great" : Str)] (defScope s_law_count) := ⟨rfl, rfl, rfl, by decide +kernel, rfl, by decide +kernel, by decide +kernel⟩
theorem sc_law_head : FnScope [("_law_pot_here" : Str), ("_law_parities" : Str), ("_law_size" : Str), ("_law_rows_here" : Str), ("_law_width" : Str), ("_law_grows" : Str), ("_law_moved" : Str), ("_law_head_here" : Str)] [("_law_pot_here" : Str)] (defScope s_law_head) := ⟨rfl, rfl, rfl, by decide +kernel, rfl, by decide +kernel, by decide +kernel⟩
theorem sc_law_journal : FnScope [("_law_pot_here" : Str), ("_law_head_here" : Str), ("_law_many" : Str), ("_law_notes" : Str), ("_law_k" : Str), ("_law_disk_here" : Str), ("_law_pair" : Str)] [("_law_pot_here" : Str), ("_law_head_here" : Str), ("_law_many" : Str)] (defScope s_law_journal) := ⟨rfl, rfl, rfl, by decide +kernel, rfl, by decide +kernel, by decide +kernel⟩
abbrev N_law_store : List Str := [("_law_pot_here" : Str), ("_law_head_here" : Str), ("_law_many" : Str), ("_law_disks" : Str), ("_law_k" : Str)]
theorem sc_law_store : FnScope [("_law_pot_here" : Str), ("_law_head_here" : Str), ("_law_many" : Str), ("_law_disks" : Str), ("_law_k" : Str)] [("_law_pot_here" : Str)] (defScope s_law_store) := ⟨rfl, rfl, rfl, by decide +kernel, rfl, by decide +kernel, by decide +kernel⟩
theorem sc_byte_text : FnScope [("byte" : Str)] [("byte" : Str)] (defScope s_byte_text) := ⟨rfl, rfl, rfl, by decide +kernel, rfl, by decide +kernel, by decide +kernel⟩
abbrev N_block_text : List Str := [("block" : Str), ("byte" : Str)]
theorem sc_block_text : FnScope [("block" : Str), ("byte" : Str)] [("block" : Str)] (defScope s_block_text) := ⟨rfl, rfl, rfl, by decide +kernel, rfl, by decide +kernel, by decide +kernel⟩
abbrev N_disk_text : List Str := [("disk" : Str), ("block" : Str)]
theorem sc_disk_text : FnScope [("disk" : Str), ("block" : Str)] [("disk" : Str)] (defScope s_disk_text) := ⟨rfl, rfl, rfl, by decide +kernel, rfl, by decide +kernel, by decide +kernel⟩
abbrev N_note_text : List Str := [("note" : Str), ("number" : Str)]
theorem sc_note_text : FnScope [("note" : Str), ("number" : Str)] [("note" : Str)] (defScope s_note_text) := ⟨rfl, rfl, rfl, by decide +kernel, rfl, by decide +kernel, by decide +kernel⟩
abbrev N_show_store : List Str := [("store" : Str), ("head" : Str), ("disks" : Str), ("journal" : Str), ("rows" : Str), ("number" : Str), ("disk" : Str), ("note" : Str)]
theorem sc_show_store : FnScope [("store" : Str), ("head" : Str), ("disks" : Str), ("journal" : Str), ("rows" : Str), ("number" : Str), ("disk" : Str), ("note" : Str)] [("store" : Str)] (defScope s_show_store) := ⟨rfl, rfl, rfl, by decide +kernel, rfl, by decide +kernel, by decide +kernel⟩
abbrev N_law : List Str := [("_law_script" : Str), ("_law_pot_here" : Str), ("_law_stores" : Str), ("_law_store_here" : Str), ("_law_seen" : Str), ("_law_k" : Str)]
theorem sc_law : FnScope [("_law_script" : Str), ("_law_pot_here" : Str), ("_law_stores" : Str), ("_law_store_here" : Str), ("_law_seen" : Str), ("_law_k" : Str)] [("_law_script" : Str)] (defScope s_law) := ⟨rfl, rfl, rfl, by decide +kernel, rfl, by decide +kernel, by decide +kernel⟩
set_option genInjectivity false in
set_option genSizeOf false in
set_option genSizeOfSpec false in
set_option maxHeartbeats 0 in
structure Tx (K : PySem.W.Frag) (mg : Str → Option Value) where
  n_int : mg ("int" : Str) = none
  n_isinstance : mg ("isinstance" : Str) = none
  n_len : mg ("len" : Str) = none
  n_min : mg ("min" : Str) = none
  n_range : mg ("range" : Str) = none
  n_str : mg ("str" : Str) = none
  n_tuple : mg ("tuple" : Str) = none
  c_FIGURES : ∃ t, mg ("FIGURES" : Str) = some (.str ("0123456789abcdef" : Str) t)
  f_law_pot : Addr
  d_law_pot : FuncData
  F_law_pot : Fun K ("_law_pot" : Str) ("_law_pot" : Str) s_law_pot f_law_pot d_law_pot
  m_law_pot : mg ("_law_pot" : Str) = some (.ref f_law_pot)
  b_law_pot : Binds K d_law_pot [("_law_script" : Str)] []
  f_law_block_text : Addr
  d_law_block_text : FuncData
  F_law_block_text : Fun K ("_law_block_text" : Str) ("_law_block_text" : Str) s_law_block_text f_law_block_text d_law_block_text
  m_law_block_text : mg ("_law_block_text" : Str) = some (.ref f_law_block_text)
  b_law_block_text : Binds K d_law_block_text [("_law_block_here" : Str)] []
  f_law_rows : Addr
  d_law_rows : FuncData
  F_law_rows : Fun K ("_law_rows" : Str) ("_law_rows" : Str) s_law_rows f_law_rows d_law_rows
  m_law_rows : mg ("_law_rows" : Str) = some (.ref f_law_rows)
  b_law_rows : Binds K d_law_rows [("_law_store_here" : Str)] []
  f_law_next : Addr
  d_law_next : FuncData
  F_law_next : Fun K ("_law_next" : Str) ("_law_next" : Str) s_law_next f_law_next d_law_next
  m_law_next : mg ("_law_next" : Str) = some (.ref f_law_next)
  b_law_next : Binds K d_law_next [("_law_pot_here" : Str), ("_law_many" : Str)] []
  f_law_block : Addr
  d_law_block : FuncData
  F_law_block : Fun K ("_law_block" : Str) ("_law_block" : Str) s_law_block f_law_block d_law_block
  m_law_block : mg ("_law_block" : Str) = some (.ref f_law_block)
  b_law_block : Binds K d_law_block [("_law_pot_here" : Str), ("_law_size" : Str)] []
  f_law_disk : Addr
  d_law_disk : FuncData
  F_law_disk : Fun K ("_law_disk" : Str) ("_law_disk" : Str) s_law_disk f_law_disk d_law_disk
  m_law_disk : mg ("_law_disk" : Str) = some (.ref f_law_disk)
  b_law_disk : Binds K d_law_disk [("_law_pot_here" : Str), ("_law_head_here" : Str)] []
  f_law_count : Addr
  d_law_count : FuncData
  F_law_count : Fun K ("_law_count" : Str) ("_law_count" : Str) s_law_count f_law_count d_law_count
  m_law_count : mg ("_law_count" : Str) = some (.ref f_law_count)
  b_law_count : Binds K d_law_count [("_law_pot_here" : Str), ("_law_most" : Str), ("_law_great" : Str)] []
  f_law_head : Addr
  d_law_head : FuncData
  F_law_head : Fun K ("_law_head" : Str) ("_law_head" : Str) s_law_head f_law_head d_law_head
  m_law_head : mg ("_law_head" : Str) = some (.ref f_law_head)
  b_law_head : Binds K d_law_head [("_law_pot_here" : Str)] []
  f_law_journal : Addr
  d_law_journal : FuncData
  F_law_journal : Fun K ("_law_journal" : Str) ("_law_journal" : Str) s_law_journal f_law_journal d_law_journal
  m_law_journal : mg ("_law_journal" : Str) = some (.ref f_law_journal)
  b_law_journal : Binds K d_law_journal [("_law_pot_here" : Str), ("_law_head_here" : Str), ("_law_many" : Str)] []
  f_law_store : Addr
  d_law_store : FuncData
  F_law_store : Fun K ("_law_store" : Str) ("_law_store" : Str) s_law_store f_law_store d_law_store
  m_law_store : mg ("_law_store" : Str) = some (.ref f_law_store)
  b_law_store : Binds K d_law_store [("_law_pot_here" : Str)] []
  f_byte_text : Addr
  d_byte_text : FuncData
  F_byte_text : Fun K ("byte_text" : Str) ("byte_text" : Str) s_byte_text f_byte_text d_byte_text
  m_byte_text : mg ("byte_text" : Str) = some (.ref f_byte_text)
  b_byte_text : Binds K d_byte_text [("byte" : Str)] []
  f_block_text : Addr
  d_block_text : FuncData
  F_block_text : Fun K ("block_text" : Str) ("block_text" : Str) s_block_text f_block_text d_block_text
  m_block_text : mg ("block_text" : Str) = some (.ref f_block_text)
  b_block_text : Binds K d_block_text [("block" : Str)] []
  f_disk_text : Addr
  d_disk_text : FuncData
  F_disk_text : Fun K ("disk_text" : Str) ("disk_text" : Str) s_disk_text f_disk_text d_disk_text
  m_disk_text : mg ("disk_text" : Str) = some (.ref f_disk_text)
  b_disk_text : Binds K d_disk_text [("disk" : Str)] []
  f_note_text : Addr
  d_note_text : FuncData
  F_note_text : Fun K ("note_text" : Str) ("note_text" : Str) s_note_text f_note_text d_note_text
  m_note_text : mg ("note_text" : Str) = some (.ref f_note_text)
  b_note_text : Binds K d_note_text [("note" : Str)] []
  f_show_store : Addr
  d_show_store : FuncData
  F_show_store : Fun K ("show_store" : Str) ("show_store" : Str) s_show_store f_show_store d_show_store
  m_show_store : mg ("show_store" : Str) = some (.ref f_show_store)
  b_show_store : Binds K d_show_store [("store" : Str)] []
  f_law : Addr
  d_law : FuncData
  F_law : Fun K ("law" : Str) ("law" : Str) s_law f_law d_law
  m_law : mg ("law" : Str) = some (.ref f_law)
  b_law : Binds K d_law [("_law_script" : Str)] []
variable {P : Program} {w : World} {K : PySem.W.Frag} {mg : Str → Option Value} {base : Heap}
def sp_law_pot : ASp := fun ds M Q => ∃ ns : List Int, ds = [.rol (ns.map Dv.int)] ∧ ns.length ≤ 63 ∧ ∀ p q M', DPot p q M' → Sub M M' → Q (.ref p) M'
def tk_law_pot_3 : RS := (aRet (aDisp (((aC (.str ("own" : Str))), (aVar 2)) :: (((aC (.str ("left" : Str))), (aC (.int 0))) :: (((aC (.str ("seed" : Str))), (aVar 1)) :: (((aC (.str ("many" : Str))), (aC (.int 0))) :: []))))))
def tk_law_pot_2 : RS := aSeq (aFor (aiSeq (aVar 0)) (agName 3) (aSeq (aAsg (aOp aMod (aOp aAdd (aOp aAdd (aOp aMul (aVar 1) (aC (.int 48271))) (aOp aMod (aVar 3) (aC (.int 2147483629)))) (aC (.int 7))) (aC (.int 2305843009213693951))) (agName 1))
    (aIfS (aB (aOp aGe (aVar 3) (aOp aPow (aC (.int 10)) (aC (.int 18))))) (aDrop (aMth "list" amApp (aVar 2) (aCons (aVar 3) aNil))) aNext))) (tk_law_pot_3)
def tk_law_pot_1 : RS := aSeq (aAsg (aLst aNil) (agName 2)) (tk_law_pot_2)
def t_law_pot : RS := aSeq (aAsg (aC (.int 11)) (agName 1)) (tk_law_pot_1)
theorem len_law_pot : ∀ ds M Q, sp_law_pot ds M Q → ds.length = 1 := by
  rintro ds M Q ⟨ns, rfl, _⟩
  rfl
theorem spec_law_pot : ∀ ds M Q, sp_law_pot ds M Q → t_law_pot (retD Q) (startA 4 ds) M := by
  rintro ds M Q ⟨ns, rfl, hl, k⟩
  (conv => whnf)
  refine ⟨Nat.zero_le _, fun q hq => ?_⟩
  (conv => whnf)
  refine forW_inv (fun i ρ M' => ∃ own : List Int, ∃ seed : Int, ∃ x3, 0 ≤ seed ∧ (∀ x ∈ own, 0 ≤ x) ∧ own.length ≤ i ∧ ρ = [some (.rol (ns.map Dv.int)), some (.int seed), some (.ref q), x3] ∧ M' = mup M q (.lst (own.map Dv.int))) ⟨[], 11, none, by decide, by simp, by simp, rfl, rfl⟩ (fun _ _ _ _ _ => rfl) ?_ ?_
  · rintro i d ρ M' hd ⟨own, seed, x3, h0, ho, hlen, rfl, rfl⟩
    have hi := (List.getElem?_eq_some_iff.mp hd).1
    rw [List.length_map] at hi
    rw [List.getElem?_map] at hd
    obtain ⟨c, hc, rfl⟩ := Option.map_eq_some_iff.mp hd
    (conv => whnf)
    refine ⟨.inl (.inr ⟨by decide, by decide⟩), ?_⟩
    (conv => whnf)
    refine ⟨(by first | decide | omega | (dsimp only; decide) | (dsimp only; omega)), ?_⟩
    (conv => whnf)
    refine ⟨(by first | decide | omega | (dsimp only; decide) | (dsimp only; omega)), ?_⟩
    (conv => whnf)
    refine ⟨⟨by decide, by decide, by decide⟩, ?_⟩
    (conv => whnf)
    refine onIf_dec (fun hg => ?_) (fun _ => ?_)
    · have hg : (10 : Int) ^ (18 : Int).toNat ≤ c := hg
      have h18 : (0 : Int) ≤ (10 : Int) ^ (18 : Int).toNat := by decide
      (conv => whnf)
      refine ⟨tyM_list mup_same, ?_⟩
      ((repeat ((conv => whnf); simp only [lenA_r, itemsA_r, lstA_r, lstC_s, Option.map_some, atI_0, ixN_0, mup_same, mup_mup, true_and, and_true, List.map_cons, List.map_nil, List.length_cons, List.length_map, List.length_nil, List.set_cons_zero, List.set_cons_succ, List.cons_append, List.nil_append, List.getElem?_cons_zero, List.getElem?_cons_succ])); (conv => whnf))
      refine ⟨lt_line (by omega), ?_⟩
      refine wk_of ⟨own ++ [c], _, _, Int.emod_nonneg _ (by decide), fun x hx => ?_, by simp; omega, rfl, by rw [List.map_append]; rfl⟩
      rcases List.mem_append.mp hx with h | h
      · exact ho x h
      · rw [List.mem_singleton.mp h]; exact Int.le_trans h18 hg
    · refine wk_of ⟨own, _, _, Int.emod_nonneg _ (by decide), ho, by omega, rfl, rfl⟩
  · rintro ρ M' ⟨own, seed, x3, h0, ho, hlen, rfl, rfl⟩
    rw [List.length_map] at hlen
    (conv => whnf)
    intro p hp
    have hqp : q ≠ p := ne_of_new mup_same hp
    (conv => whnf)
    refine ⟨mup_same, ?_⟩
    dsimp only [keysP, keyD, Option.bind, Option.map, onS, mergeA, List.foldl]
    refine ⟨show 4 ≤ 15 by decide, ?_⟩
    rw [mup_mup]
    refine retSub (Sub.refl _) (k p q _ ⟨hqp.symm, ⟨0, seed, 0, mup_same, by decide, h0, by decide⟩, own, by rw [mup_ne hqp, mup_same], ho, by omega⟩ ((Sub.new hq).trans (Sub.new hp)))
theorem ok_law_pot (T : Tx K mg) : FnA P w K mg base 1 T.f_law_pot T.d_law_pot [("_law_script" : Str)] sp_law_pot :=
  fnA T.F_law_pot sc_law_pot len_law_pot (fun cdv A outer s H E hr => by
    have hu1 := hu_of hr
    have hu64 := hr.units
    exact (ass_cons (as_set 1 sc_law_pot.nd ae_int)
    (ass_cons (as_set 2 sc_law_pot.nd (ae_lst aa_nil))
    (ass_cons (as_for PassesOwn.never rfl (ai_seq (av 0)) (ag_name 3 sc_law_pot.nd) (ass_cons (as_set 1 sc_law_pot.nd (ae_mod (ae_add (ae_add (ae_mul (av 1) ae_int) (ae_mod (av 3) ae_int)) ae_int) ae_int))
    (ass_one (as_if (at_ge (av 3) (ae_pow ae_int ae_int)) (ass_one (as_expr (ae_append (av 2) (aa_cons (av 3) aa_nil)))) ass_nil))))
    (ass_one (as_ret (ae_disp (app_cons ae_str (av 2) (app_cons ae_str ae_int (app_cons ae_str (av 1) (app_cons ae_str ae_int app_nil)))) rfl rfl (fun z => by cases z) (by decide)))))))) spec_law_pot
def sp_law_block_text : ASp := fun ds M Q => ∃ o : Option Blk, ds = [oD o] ∧ (∀ b, o = some b → b.length ≤ 16 ∧ ∀ x ∈ b, x < 256) ∧ Q (.str (oT o)) M
def tk_law_block_text_4 : RS := (aRet (aVar 2))
def tk_law_block_text_3 : RS := aSeq (aFor (aiSeq (aVar 0)) (agName 3) (aAsg (aOp aAdd (aOp aAdd (aVar 2) (aOp aIx (aVar 1) (aOp aDiv (aVar 3) (aC (.int 16))))) (aOp aIx (aVar 1) (aOp aSub (aVar 3) (aOp aMul (aOp aDiv (aVar 3) (aC (.int 16))) (aC (.int 16)))))) (agName 2))) (tk_law_block_text_4)
def tk_law_block_text_2 : RS := aSeq (aAsg (aC (.str ("" : Str))) (agName 2)) (tk_law_block_text_3)
def tk_law_block_text_1 : RS := aSeq (aAsg (aC (.str ("0123456789abcdef" : Str))) (agName 1)) (tk_law_block_text_2)
def t_law_block_text : RS := aSeq (aIfS (aB (aOp aIs (aVar 0) (aC .non))) (aRet (aC (.str ("-" : Str)))) aNext) (tk_law_block_text_1)
theorem len_law_block_text : ∀ ds M Q, sp_law_block_text ds M Q → ds.length = 1 := by
  rintro ds M Q ⟨b, rfl, _⟩
  rfl
theorem acc_len : ∀ (b : Blk) (a : Str), (b.foldl (fun a x => a ++ hexT (x / 16) ++ hexT (x % 16)) a).length = a.length + 2 * b.length
  | [], a => by simp
  | x :: b, a => by
    rw [List.foldl_cons, acc_len b, Str.length_append, Str.length_append, List.length_cons]
    have h : ∀ k, (hexT k).length = 1 := fun _ => rfl
    rw [h, h]
    omega
theorem spec_law_block_text : ∀ ds M Q, sp_law_block_text ds M Q → t_law_block_text (retD Q) (startA 4 ds) M := by
  rintro ds M Q ⟨o, rfl, hb, k⟩
  cases o with
  | none =>
    decreasing_tactic
    exact retEnd k
  | some b =>
    obtain ⟨bl, bb⟩ := hb b rfl
    have k : Q (.str (blkT b)) M := k
    rw [← acc_blk] at k
    have lf : ("0123456789abcdef" : Str).length ≤ sizeLine := le_line (by decide)
    decreasing_tactic
    refine forW_inv (fun i ρ M' => ∃ x3, ρ = [some (bD b), some (.str ("0123456789abcdef" : Str)), some (.str (accT (b.take i))), x3] ∧ M' = M) ⟨none, rfl, rfl⟩ (fun _ _ _ _ _ => rfl) ?_ ?_
    · rintro i d ρ M' hi ⟨x3, rfl, rfl⟩
      rw [List.getElem?_map] at hi
      obtain ⟨x, hx, rfl⟩ := Option.map_eq_some_iff.mp hi
      have x256 := bb x (List.mem_of_getElem? hx)
      have e1 : (x : Int) / 16 = ((x / 16 : Nat) : Int) := (Int.natCast_ediv _ _).symm
      have e2 : (x : Int) - ((x / 16 : Nat) : Int) * 16 = ((x % 16 : Nat) : Int) := by omega
      have f1 : atI ("0123456789abcdef" : Str).cps.toList ((x / 16 : Nat) : Int) = some (figS.cps.toList.getD (x / 16) 0) := fig_at (by omega)
      have f2 : atI ("0123456789abcdef" : Str).cps.toList ((x % 16 : Nat) : Int) = some (figS.cps.toList.getD (x % 16) 0) := fig_at (by omega)
      have lA : (accT (b.take i)).length ≤ 32 := by
        unfold accT
        rw [acc_len, List.length_take]
        have : ("" : Str).length = 0 := by decide
        rw [this]
        omega
      have eA : accT (b.take (i + 1)) = accT (b.take i) ++ hexT (x / 16) ++ hexT (x % 16) := by
        unfold accT
        rw [List.take_add_one, hx, List.foldl_append]
        rfl
      generalize accT (b.take i) = A at lA eA ⊢
      have h1 : ∀ k, (hexT k).length = 1 := fun _ => rfl
      have l1 : A.length + (hexT (x / 16)).length ≤ sizeLine := le_line (by rw [h1]; omega)
      have l2 : (A ++ hexT (x / 16)).length + (hexT (x % 16)).length ≤ sizeLine := le_line (by rw [Str.length_append, h1, h1]; omega)
      decreasing_tactic
      rw [e1]
      ((repeat ((conv => whnf); simp only [lenA_r, itemsA_r, lstA_r, lstC_s, Option.map_some, atI_0, ixN_0, mup_same, mup_mup, true_and, and_true, List.map_cons, List.map_nil, List.length_cons, List.length_map, List.length_nil, List.set_cons_zero, List.set_cons_succ, List.cons_append, List.nil_append, List.getElem?_cons_zero, List.getElem?_cons_succ, f1])); (conv => whnf))
      refine ⟨l1, ?_⟩
      decreasing_tactic
      rw [e1, e2]
      ((repeat ((conv => whnf); simp only [lenA_r, itemsA_r, lstA_r, lstC_s, Option.map_some, atI_0, ixN_0, mup_same, mup_mup, true_and, and_true, List.map_cons, List.map_nil, List.length_cons, List.length_map, List.length_nil, List.set_cons_zero, List.set_cons_succ, List.cons_append, List.nil_append, List.getElem?_cons_zero, List.getElem?_cons_succ, f2])); (conv => whnf))
      refine ⟨l2, ?_⟩
      decreasing_tactic
      exact wk_of ⟨some (dn x), by rw [eA]; rfl, rfl⟩
    · rintro ρ M' ⟨x3, rfl, rfl⟩
      rw [List.length_map, List.take_length]
      decreasing_tactic
      exact retEnd k
theorem ok_law_block_text (T : Tx K mg) : FnA P w K mg base 1 T.f_law_block_text T.d_law_block_text [("_law_block_here" : Str)] sp_law_block_text :=
  fnA T.F_law_block_text sc_law_block_text len_law_block_text (fun cdv A outer s H E hr => by
    have hu1 := hu_of hr
    have hu64 := hr.units
    exact (ass_cons (as_if (at_is (av 0) ae_non) (ass_one (as_ret ae_str)) ass_nil)
    (ass_cons (as_set 1 sc_law_block_text.nd ae_str)
    (ass_cons (as_set 2 sc_law_block_text.nd ae_str)
    (ass_cons (as_for PassesOwn.never rfl (ai_seq (av 0)) (ag_name 3 sc_law_block_text.nd) (ass_one (as_set 2 sc_law_block_text.nd (ae_add (ae_add (av 2) (ae_ix hu1 (av 1) (ae_div (av 3) ae_int))) (ae_ix hu1 (av 1) (ae_sub (av 3) (ae_mul (ae_div (av 3) ae_int) ae_int)))))))
    (ass_one (as_ret (av 2)))))))) spec_law_block_text
def sp_law_rows : ASp := fun ds M Q => ∃ s : Store, ds = [s.d] ∧ s.Ok ∧ s.journal.length ≤ 10 ∧ Q (.rol ((rowsT s).map Dv.str)) M
def tk_law_rows_4 : RS := (aRet (aFz (aVar 4)))
def tk_law_rows_3 : RS := aSeq (aFor (aiSeq (aVar 3)) (agName 6) (aIfS (aB (aOp aEq (aOp aIx (aVar 6) (aC (.int 0))) (aC (.str ("end" : Str))))) (aDrop (aMth "list" amApp (aVar 4) (aCons (aMth "str" amJoin (aC (.str (" " : Str))) (aCons (aFz (aOp aAdd (aLst (aCons (aC (.str ("end" : Str))) aNil)) (aLc (aiSeq (aFz (aSl (aVar 6) (aoS (aC (.int 1))) aoN))) (.nm 7) [7] aYes (aFn acStr (aCons (aVar 7) aNil))))) aNil)) aNil))) (aDrop (aMth "list" amApp (aVar 4) (aCons (aMth "str" amJoin (aC (.str (" " : Str))) (aCons (aFz (aLst (aCons (aC (.str ("note" : Str))) (aCons (aFn acStr (aCons (aOp aIx (aVar 6) (aC (.int 1))) aNil)) (aCons (aFn acStr (aCons (aOp aIx (aVar 6) (aC (.int 2))) aNil)) (aCons (aCall sp_law_block_text (aCons (aOp aIx (aVar 6) (aC (.int 3))) aNil)) aNil)))))) aNil)) aNil))))) (tk_law_rows_4)
def tk_law_rows_2 : RS := aSeq (aFor (aiSeq (aVar 2)) (agName 5) (aIfS (aB (aOp aIs (aVar 5) (aC .non))) (aDrop (aMth "list" amApp (aVar 4) (aCons (aC (.str ("lost" : Str))) aNil))) (aDrop (aMth "list" amApp (aVar 4) (aCons (aMth "str" amJoin (aC (.str (" " : Str))) (aCons (aFz (aOp aAdd (aLst (aCons (aC (.str ("disk" : Str))) aNil)) (aLc (aiSeq (aVar 5)) (.nm 8) [8] aYes (aCall sp_law_block_text (aCons (aVar 8) aNil))))) aNil)) aNil))))) (tk_law_rows_3)
def tk_law_rows_1 : RS := aSeq (aAsg (aLst (aCons (aMth "str" amJoin (aC (.str (" " : Str))) (aCons (aFz (aOp aAdd (aLst (aCons (aC (.str ("store" : Str))) aNil)) (aLc (aiSeq (aVar 1)) (.nm 7) [7] aYes (aFn acStr (aCons (aVar 7) aNil))))) aNil)) aNil)) (agName 4)) (tk_law_rows_2)
def t_law_rows : RS := aSeq (aAsg (aVar 0) (agTup 3 (agCons (agName 1) (agCons (agName 2) (agCons (agName 3) agNil))))) (tk_law_rows_1)
theorem len_law_rows : ∀ ds M Q, sp_law_rows ds M Q → ds.length = 1 := by
  rintro ds M Q ⟨b, rfl, _⟩
  rfl
theorem spec_law_rows : ∀ ds M Q, sp_law_rows ds M Q → t_law_rows (retD Q) (startA 9 ds) M := by
  rintro ds M Q ⟨s, rfl, ok, jl, k⟩
  have sz := size_head ok.head
  have many := ok.many_le
  have z2 := ok.head.size2
  have r2 := ok.head.rows2
  have nts := nt_ok ok jl
  show t_law_rows (retD Q) (startA 9 [.tup [.tup (hdNs s.head |>.map fun n => dn n), .tup (s.disks.map kD), .tup (s.journal.map nD)]]) M
  have hO := hd_ok ok.head
  have hL : (hdNs s.head).length = 6 := rfl
  have eH : ([("store" : Str)] ++ (hdNs s.head).map fun (x : Nat) => strI (x : Int)) = [("store" : Str), strI s.head.par, strI s.head.size, strI s.head.rows, strI s.head.width, strI s.head.moved, strI s.head.spares] := rfl
  obtain ⟨ns, hns⟩ : ∃ ns, ns = hdNs s.head := ⟨_, rfl⟩
  rw [← hns] at hO hL eH ⊢
  have pB : Pl 9 (Dv.str ("block" : Str)) := by show PyData.canLay0 (.str ("block" : Str)) = true; decide +kernel
  have pE : Pl 9 (Dv.str ("end" : Str)) := by show PyData.canLay0 (.str ("end" : Str)) = true; decide +kernel
  have no : ¬ Dv.str ("block" : Str) = Dv.str ("end" : Str) := fun e => by injection e with e; exact absurd e (by decide +kernel)
  decreasing_tactic
  refine ⟨rfl, ?_⟩
  decreasing_tactic
  intro D hD
  have lD : mup M D (.lst [.str ("store" : Str)]) D = some (.lst [.str ("store" : Str)]) := mup_same
  have s1 : HC.Sub M (mup M D (.lst [.str ("store" : Str)])) := HC.Sub.new hD
  generalize mup M D (.lst [.str ("store" : Str)]) = M1 at lD s1 ⊢
  decreasing_tactic
  intro E hE
  refine lcW_inv (fun i M' => M' = mup M1 E (.lst ((ns.take i).map fun (x : Nat) => Dv.str (strI (x : Int))))) rfl (fun _ _ _ _ => rfl) ?_ ?_
  · rintro i d M' hi rfl
    rw [List.getElem?_map] at hi
    obtain ⟨x, ho, rfl⟩ := Option.map_eq_some_iff.mp hi
    have et : ns.take (i + 1) = ns.take i ++ [x] := by rw [List.take_add_one, ho]; rfl
    have lt : (ns.take i).length ≤ 6 := Nat.le_trans (List.length_take_le' _ _) (by omega)
    have lx := log_num (hO x (List.mem_of_getElem? ho))
    refine ⟨_, rfl, ?_⟩
    decreasing_tactic
    refine ⟨_, mup_same, lt_line (by rw [List.length_map]; omega), _, HC.Sub.refl _, ?_⟩
    rw [mup_mup, et, List.map_append]
    rfl
  rintro M' rfl
  rw [List.length_map, List.take_length]
  have lD2 := look_new (x := .lst (ns.map fun (x : Nat) => Dv.str (strI (x : Int)))) lD hE
  have lE : mup M1 E (.lst (ns.map fun (x : Nat) => Dv.str (strI (x : Int)))) E = some (.lst (ns.map fun (x : Nat) => Dv.str (strI (x : Int)))) := mup_same
  have s2 : HC.Sub M (mup M1 E (.lst (ns.map fun (x : Nat) => Dv.str (strI (x : Int))))) := s1.trans (HC.Sub.new hE)
  generalize mup M1 E (.lst (ns.map fun (x : Nat) => Dv.str (strI (x : Int)))) = M2 at lD2 lE s2 ⊢
  have b24 : (ns.map fun (x : Nat) => Dv.str (strI (x : Int))).length ≤ 6 := by rw [List.length_map]; omega
  decreasing_tactic
  refine ⟨_, _, lD2, lE, le_line (show 1 + _ ≤ 1000000 by omega), fun G hG => fz_new hG ?_⟩
  decreasing_tactic
  refine ⟨[("store" : Str)] ++ ns.map fun (x : Nat) => strI (x : Int), by rw [List.map_append, List.map_map]; rfl, by rw [eH]; exact Nat.le_trans sz (by decide), ?_⟩
  rw [eH, show Txt.join (" " : Str) [("store" : Str), strI s.head.par, strI s.head.size, strI s.head.rows, strI s.head.width, strI s.head.moved, strI s.head.spares] = headT s.head from rfl]
  clear lD2 lE lD s1 hE hD b24
  decreasing_tactic
  intro R hR
  have RM : M R = none := by
    cases e : M R with
    | none => rfl
    | some c => have := s2 _ _ e; rw [hR] at this; cases this
  have putR : ∀ (Mx : Ms) (c : Cell), HC.Sub M Mx → HC.Sub M (mup Mx R c) := fun Mx c h a d e => by
    rw [mup_ne (ne_of_new e RM)]
    exact h _ _ e
  have lR : mup M2 R (.lst [.str (headT s.head)]) R = some (.lst [.str (headT s.head)]) := mup_same
  have s3 : HC.Sub M (mup M2 R (.lst [.str (headT s.head)])) := s2.trans (HC.Sub.new hR)
  generalize mup M2 R (.lst [.str (headT s.head)]) = M3 at lR s3 ⊢
  clear s2 hR
  obtain ⟨st, hst⟩ : ∃ st : Dv, st = .tup [.tup (ns.map fun n => dn n), .tup (s.disks.map kD), .tup (s.journal.map nD)] := ⟨_, rfl⟩
  decreasing_tactic
  refine forW_inv (fun i ρ M' => ∃ x5 x6 x7 x8, ρ = [some (.tup [.tup (ns.map fun n => dn n), .tup (s.disks.map kD), .tup (s.journal.map nD)]), some (.tup (ns.map fun n => dn n)), some (.tup (s.disks.map kD)), some (.tup (s.journal.map nD)), some (.ref R), x5, x6, x7, x8] ∧ HC.Sub M M' ∧ M' R = some (.lst ((headT s.head :: (s.disks.take i).map diskT).map Dv.str))) ⟨none, none, none, none, rfl, s3, lR⟩ (fun _ _ _ _ _ => rfl) ?_ ?_
  · clear s3 lR
    rintro i d ρ M4 hi ⟨x5, x6, x7, x8, rfl, s4, lR4⟩
    rw [List.getElem?_map] at hi
    obtain ⟨kd, hk, rfl⟩ := Option.map_eq_some_iff.mp hi
    have et : s.disks.take (i + 1) = s.disks.take i ++ [kd] := by rw [List.take_add_one, hk]; rfl
    have lt : (s.disks.take i).length ≤ 11 := Nat.le_trans (List.length_take_le' _ _) (by omega)
    have km := List.mem_of_getElem? hk
    have eT : (headT s.head :: (s.disks.take (i + 1)).map diskT).map Dv.str = ((headT s.head :: (s.disks.take i).map diskT).map Dv.str) ++ [Dv.str (diskT kd)] := by rw [et]; simp
    have lX : ((headT s.head :: (s.disks.take i).map diskT).map Dv.str).length ≤ 12 := by simp; omega
    generalize (headT s.head :: (s.disks.take i).map diskT).map Dv.str = X at lR4 eT lX
    have lX2 : X.length < sizeLine := lt_line (by omega)
    cases kd with
    | none =>
      decreasing_tactic
      ((repeat ((conv => whnf); simp only [lenA_r, itemsA_r, lstA_r, lstC_s, Option.map_some, atI_0, ixN_0, mup_same, mup_mup, true_and, and_true, List.map_cons, List.map_nil, List.length_cons, List.length_map, List.length_nil, List.set_cons_zero, List.set_cons_succ, List.cons_append, List.nil_append, List.getElem?_cons_zero, List.getElem?_cons_succ, lR4])); (conv => whnf))
      exact wk_of ⟨_, _, _, _, rfl, putR _ _ s4, mup_same.trans (congrArg (fun z => some (Cell.lst z)) eT.symm)⟩
    | some bs =>
      obtain ⟨bl, bb⟩ := ok.disks _ km bs rfl
      have bw : ∀ o ∈ bs, ∀ b, o = some b → b.length ≤ 16 ∧ ∀ x ∈ b, x < 256 := fun o ho b hb => by
        obtain ⟨h1, h2⟩ := bb o ho b hb
        exact ⟨by rw [h1]; exact z2, h2⟩
      have szd := size_disk (bs := bs) (by omega) bw
      have bl24 : bs.length ≤ 24 := by omega
      decreasing_tactic
      refine ⟨rfl, ?_⟩
      decreasing_tactic
      intro D hD
      have lD : mup M4 D (.lst [.str ("disk" : Str)]) D = some (.lst [.str ("disk" : Str)]) := mup_same
      have lRa := look_new (x := .lst [.str ("disk" : Str)]) lR4 hD
      have sa : HC.Sub M (mup M4 D (.lst [.str ("disk" : Str)])) := s4.trans (HC.Sub.new hD)
      generalize mup M4 D (.lst [.str ("disk" : Str)]) = M5 at lD lRa sa ⊢
      decreasing_tactic
      intro E hE
      refine lcW_inv (fun j M' => M' = mup M5 E (.lst ((bs.take j).map fun o => Dv.str (oT o)))) rfl (fun _ _ _ _ => rfl) ?_ ?_
      · rintro j d M' hj rfl
        rw [List.getElem?_map] at hj
        obtain ⟨o, ho, rfl⟩ := Option.map_eq_some_iff.mp hj
        have et2 : bs.take (j + 1) = bs.take j ++ [o] := by rw [List.take_add_one, ho]; rfl
        have lt2 : (bs.take j).length ≤ 24 := Nat.le_trans (List.length_take_le' _ _) bl24
        refine ⟨_, rfl, ?_⟩
        decreasing_tactic
        refine ⟨o, rfl, bw o (List.mem_of_getElem? ho), ?_⟩
        decreasing_tactic
        refine ⟨_, mup_same, lt_line (by rw [List.length_map]; omega), _, HC.Sub.refl _, ?_⟩
        rw [mup_mup, et2, List.map_append]
        rfl
      rintro M' rfl
      rw [List.length_map, List.take_length]
      have lD2 := look_new (x := .lst (bs.map fun o => Dv.str (oT o))) lD hE
      have lRb := look_new (x := .lst (bs.map fun o => Dv.str (oT o))) lRa hE
      have lE : mup M5 E (.lst (bs.map fun o => Dv.str (oT o))) E = some (.lst (bs.map fun o => Dv.str (oT o))) := mup_same
      have sb : HC.Sub M (mup M5 E (.lst (bs.map fun o => Dv.str (oT o)))) := sa.trans (HC.Sub.new hE)
      generalize mup M5 E (.lst (bs.map fun o => Dv.str (oT o))) = M6 at lD2 lE lRb sb ⊢
      have b25 : (bs.map fun o => Dv.str (oT o)).length ≤ 24 := by rw [List.length_map]; exact bl24
      decreasing_tactic
      refine ⟨_, _, lD2, lE, le_line (show 1 + _ ≤ 1000000 by omega), fun G hG => fz_new hG ?_⟩
      decreasing_tactic
      refine ⟨("disk" : Str) :: bs.map oT, by rw [List.map_cons, List.map_map]; rfl, Nat.le_trans szd (by decide), ?_⟩
      rw [show Txt.join (" " : Str) (("disk" : Str) :: bs.map oT) = diskT (some bs) from rfl]
      decreasing_tactic
      ((repeat ((conv => whnf); simp only [lenA_r, itemsA_r, lstA_r, lstC_s, Option.map_some, atI_0, ixN_0, mup_same, mup_mup, true_and, and_true, List.map_cons, List.map_nil, List.length_cons, List.length_map, List.length_nil, List.set_cons_zero, List.set_cons_succ, List.cons_append, List.nil_append, List.getElem?_cons_zero, List.getElem?_cons_succ, lRb])); (conv => whnf))
      exact wk_of ⟨_, _, _, _, rfl, putR _ _ sb, mup_same.trans (congrArg (fun z => some (Cell.lst z)) eT.symm)⟩
  · clear s3 lR
    rintro ρ M4 ⟨x5, x6, x7, x8, rfl, s4, lR4⟩
    rw [List.length_map, List.take_length] at lR4
    decreasing_tactic
    refine forW_inv (fun i ρ M' => ∃ x5 x6 x7 x8, ρ = [some (.tup [.tup (ns.map fun n => dn n), .tup (s.disks.map kD), .tup (s.journal.map nD)]), some (.tup (ns.map fun n => dn n)), some (.tup (s.disks.map kD)), some (.tup (s.journal.map nD)), some (.ref R), x5, x6, x7, x8] ∧ HC.Sub M M' ∧ M' R = some (.lst ((headT s.head :: (s.disks.map diskT ++ (s.journal.take i).map noteT)).map Dv.str))) ⟨x5, x6, x7, x8, rfl, s4, by rw [List.take_zero, List.map_nil, List.append_nil]; exact lR4⟩ (fun _ _ _ _ _ => rfl) ?_ ?_
    · clear s4 lR4
      rintro i d ρ M4 hi ⟨x5, x6, x7, x8, rfl, s4, lR4⟩
      rw [List.getElem?_map] at hi
      obtain ⟨nt, hk, rfl⟩ := Option.map_eq_some_iff.mp hi
      have et : s.journal.take (i + 1) = s.journal.take i ++ [nt] := by rw [List.take_add_one, hk]; rfl
      have lt : (s.journal.take i).length ≤ 10 := Nat.le_trans (List.length_take_le' _ _) (by omega)
      have nok := nts nt (List.mem_of_getElem? hk)
      have eT : (headT s.head :: (s.disks.map diskT ++ (s.journal.take (i + 1)).map noteT)).map Dv.str = ((headT s.head :: (s.disks.map diskT ++ (s.journal.take i).map noteT)).map Dv.str) ++ [Dv.str (noteT nt)] := by rw [et]; simp
      have dl : s.disks.length ≤ 11 := by omega
      have lX : ((headT s.head :: (s.disks.map diskT ++ (s.journal.take i).map noteT)).map Dv.str).length ≤ 30 := by simp; omega
      generalize (headT s.head :: (s.disks.map diskT ++ (s.journal.take i).map noteT)).map Dv.str = X at lR4 eT lX
      have lX2 : X.length < sizeLine := lt_line (by omega)
      cases nt with
      | block d r b =>
        obtain ⟨o1, o2, o3, o4⟩ := nok
        have szn := size_note (d := d) (r := r) (b := b) o1 o2 o3
        have l1 := log_num o1
        have l2 := log_num o2
        have i3 : atI [Dv.str ("block" : Str), dn d, dn r, bD b] 3 = some (oD (some b)) := rfl
        decreasing_tactic
        refine ⟨rfl, ?_⟩
        decreasing_tactic
        refine ⟨some b, rfl, fun b' e => (by cases e; exact ⟨o3, o4⟩), ?_⟩
        decreasing_tactic
        refine ⟨[("note" : Str), strI d, strI r, blkT b], rfl, Nat.le_trans szn (by decide), ?_⟩
        rw [show Txt.join (" " : Str) [("note" : Str), strI d, strI r, blkT b] = noteT (.block d r b) from rfl]
        decreasing_tactic
        ((repeat ((conv => whnf); simp only [lenA_r, itemsA_r, lstA_r, lstC_s, Option.map_some, atI_0, ixN_0, mup_same, mup_mup, true_and, and_true, List.map_cons, List.map_nil, List.length_cons, List.length_map, List.length_nil, List.set_cons_zero, List.set_cons_succ, List.cons_append, List.nil_append, List.getElem?_cons_zero, List.getElem?_cons_succ, lR4])); (conv => whnf))
        exact wk_of ⟨_, _, _, _, rfl, putR _ _ s4, mup_same.trans (congrArg (fun z => some (Cell.lst z)) eT.symm)⟩
      | fin a w m =>
        obtain ⟨o1, o2, o3⟩ := nok
        have szn := size_end (a := a) (w := w) (m := m) o1 o2 o3
        have vL : ([a, w, m] : List Nat).length = 3 := rfl
        have vO : ∀ x ∈ [a, w, m], x < 10000000000 := fun x hx => by
          simp only [List.mem_cons, List.not_mem_nil, or_false] at hx
          rcases hx with rfl | rfl | rfl <;> assumption
        have cE : cutA [Dv.str ("end" : Str), dn a, dn w, dn m] (some 1) none = ([a, w, m] : List Nat).map fun n => dn n := rfl
        decreasing_tactic
        refine ⟨rfl, ?_⟩
        decreasing_tactic
        intro D hD
        have lD : mup M4 D (.lst [.str ("end" : Str)]) D = some (.lst [.str ("end" : Str)]) := mup_same
        have lRa := look_new (x := .lst [.str ("end" : Str)]) lR4 hD
        have sa : HC.Sub M (mup M4 D (.lst [.str ("end" : Str)])) := s4.trans (HC.Sub.new hD)
        generalize mup M4 D (.lst [.str ("end" : Str)]) = M5 at lD lRa sa ⊢
        decreasing_tactic
        rw [cE]
        decreasing_tactic
        intro E hE
        obtain ⟨vs, hvs⟩ : ∃ vs : List Nat, vs = [a, w, m] := ⟨_, rfl⟩
        rw [← hvs] at vL vO ⊢
        refine lcW_inv (fun i M' => M' = mup M5 E (.lst ((vs.take i).map fun (x : Nat) => Dv.str (strI (x : Int))))) rfl (fun _ _ _ _ => rfl) ?_ ?_
        · rintro i d M' hi rfl
          rw [List.getElem?_map] at hi
          obtain ⟨x, ho, rfl⟩ := Option.map_eq_some_iff.mp hi
          have et2 : vs.take (i + 1) = vs.take i ++ [x] := by rw [List.take_add_one, ho]; rfl
          have lt2 : (vs.take i).length ≤ 3 := Nat.le_trans (List.length_take_le' _ _) (by omega)
          have lx := log_num (vO x (List.mem_of_getElem? ho))
          refine ⟨_, rfl, ?_⟩
          decreasing_tactic
          refine ⟨_, mup_same, lt_line (by rw [List.length_map]; omega), _, HC.Sub.refl _, ?_⟩
          rw [mup_mup, et2, List.map_append]
          rfl
        rintro M' rfl
        rw [List.length_map, List.take_length]
        have lD2 := look_new (x := .lst (vs.map fun (x : Nat) => Dv.str (strI (x : Int)))) lD hE
        have lRb := look_new (x := .lst (vs.map fun (x : Nat) => Dv.str (strI (x : Int)))) lRa hE
        have lE : mup M5 E (.lst (vs.map fun (x : Nat) => Dv.str (strI (x : Int)))) E = some (.lst (vs.map fun (x : Nat) => Dv.str (strI (x : Int)))) := mup_same
        have sb : HC.Sub M (mup M5 E (.lst (vs.map fun (x : Nat) => Dv.str (strI (x : Int))))) := sa.trans (HC.Sub.new hE)
        generalize mup M5 E (.lst (vs.map fun (x : Nat) => Dv.str (strI (x : Int)))) = M6 at lD2 lE lRb sb ⊢
        have b25 : (vs.map fun (x : Nat) => Dv.str (strI (x : Int))).length ≤ 3 := by rw [List.length_map]; omega
        decreasing_tactic
        refine ⟨_, _, lD2, lE, le_line (show 1 + _ ≤ 1000000 by omega), fun G hG => fz_new hG ?_⟩
        decreasing_tactic
        refine ⟨[("end" : Str), strI a, strI w, strI m], by rw [hvs]; rfl, Nat.le_trans szn (by decide), ?_⟩
        rw [show Txt.join (" " : Str) [("end" : Str), strI a, strI w, strI m] = noteT (.fin a w m) from rfl]
        decreasing_tactic
        ((repeat ((conv => whnf); simp only [lenA_r, itemsA_r, lstA_r, lstC_s, Option.map_some, atI_0, ixN_0, mup_same, mup_mup, true_and, and_true, List.map_cons, List.map_nil, List.length_cons, List.length_map, List.length_nil, List.set_cons_zero, List.set_cons_succ, List.cons_append, List.nil_append, List.getElem?_cons_zero, List.getElem?_cons_succ, lRb])); (conv => whnf))
        exact wk_of ⟨_, _, _, _, rfl, putR _ _ sb, mup_same.trans (congrArg (fun z => some (Cell.lst z)) eT.symm)⟩
    · clear s4 lR4
      rintro ρ M4 ⟨x5, x6, x7, x8, rfl, s4, lR4⟩
      rw [List.length_map, List.take_length] at lR4
      decreasing_tactic
      exact ⟨M, RM, s4, retEnd k⟩
theorem ok_law_rows (T : Tx K mg) : FnA P w K mg base 2 T.f_law_rows T.d_law_rows [("_law_store_here" : Str)] sp_law_rows :=
  fnA T.F_law_rows sc_law_rows len_law_rows (fun cdv A outer s H E hr => by
    have hu1 := hu_of hr
    have hu64 := hr.units
    exact (ass_cons (as_asg (av 0) (ag_tup rfl (ags_cons (ag_name 1 sc_law_rows.nd) (ags_cons (ag_name 2 sc_law_rows.nd) (ags_cons (ag_name 3 sc_law_rows.nd) ags_nil)))))
    (ass_cons (as_set 4 sc_law_rows.nd (ae_lst (aa_cons (ae_join ae_str (aa_cons (ae_fz (ae_add (ae_lst (aa_cons ae_str aa_nil)) (ae_lc (own := [(("_law_one" : Str), 7)]) (tg := (.nm 7)) (by decide) rfl sc_law_rows.nd (ai_seq (av 1)) (blkOk_by (own := [(("_law_one" : Str), 7)]) (N := N_law_rows) (sc := defScope s_law_rows) (by decide +kernel)) (fun _ _ _ _ _ => (pgt_name 7 sc_law_rows.nd)) (fun _ _ _ _ _ => ats_nil) (fun _ _ _ _ _ => (ae_callTy call_str_int abc_str (aa_cons (av 7) aa_nil) T.n_str boot_str))))) aa_nil)) aa_nil)))
    (ass_cons (as_for PassesOwn.never rfl (ai_seq (av 2)) (ag_name 5 sc_law_rows.nd) (ass_one (as_if (at_is (av 5) ae_non) (ass_one (as_expr (ae_append (av 4) (aa_cons ae_str aa_nil)))) (ass_one (as_expr (ae_append (av 4) (aa_cons (ae_join ae_str (aa_cons (ae_fz (ae_add (ae_lst (aa_cons ae_str aa_nil)) (ae_lc (own := [(("_law_block_here" : Str), 8)]) (tg := (.nm 8)) (by decide) rfl sc_law_rows.nd (ai_seq (av 5)) (blkOk_by (own := [(("_law_block_here" : Str), 8)]) (N := N_law_rows) (sc := defScope s_law_rows) (by decide +kernel)) (fun _ _ _ _ _ => (pgt_name 8 sc_law_rows.nd)) (fun _ _ _ _ _ => ats_nil) (fun _ _ _ _ _ => (ae_call (ok_law_block_text T) (hr.mono (by decide)) T.m_law_block_text T.F_law_block_text.kp T.b_law_block_text (aa_cons (av 8) aa_nil)))))) aa_nil)) aa_nil)))))))
    (ass_cons (as_for PassesOwn.never rfl (ai_seq (av 3)) (ag_name 6 sc_law_rows.nd) (ass_one (as_if (at_eq hu64 (ae_ix hu1 (av 6) ae_int) ae_str) (ass_one (as_expr (ae_append (av 4) (aa_cons (ae_join ae_str (aa_cons (ae_fz (ae_add (ae_lst (aa_cons ae_str aa_nil)) (ae_lc (own := [(("_law_one" : Str), 7)]) (tg := (.nm 7)) (by decide) rfl sc_law_rows.nd (ai_seq (ae_fz (ae_slice (av 6) (ao_some ae_int) ao_none))) (blkOk_by (own := [(("_law_one" : Str), 7)]) (N := N_law_rows) (sc := defScope s_law_rows) (by decide +kernel)) (fun _ _ _ _ _ => (pgt_name 7 sc_law_rows.nd)) (fun _ _ _ _ _ => ats_nil) (fun _ _ _ _ _ => (ae_callTy call_str_int abc_str (aa_cons (av 7) aa_nil) T.n_str boot_str))))) aa_nil)) aa_nil)))) (ass_one (as_expr (ae_append (av 4) (aa_cons (ae_join ae_str (aa_cons (ae_fz (ae_lst (aa_cons ae_str (aa_cons (ae_callTy call_str_int abc_str (aa_cons (ae_ix hu1 (av 6) ae_int) aa_nil) T.n_str boot_str) (aa_cons (ae_callTy call_str_int abc_str (aa_cons (ae_ix hu1 (av 6) ae_int) aa_nil) T.n_str boot_str) (aa_cons (ae_call (ok_law_block_text T) (hr.mono (by decide)) T.m_law_block_text T.F_law_block_text.kp T.b_law_block_text (aa_cons (ae_ix hu1 (av 6) ae_int) aa_nil)) aa_nil)))))) aa_nil)) aa_nil)))))))
    (ass_one (as_ret (ae_fz (av 4))))))))) spec_law_rows
def sp_law_next : ASp := fun ds M Q => ∃ p q, ∃ m : Int, ds = [.ref p, .int m] ∧ DPot p q M ∧ 0 < m ∧ m < 1000000000000000000000000 ∧
  ∀ (v : Nat) M', DPot p q M' → But p q M M' → (v : Int) < m → Q (dn v) M'
def tk_law_next_5 : RS := (aRet (aOp aMod (aOp aDiv (aOp aIx (aVar 0) (aC (.str ("seed" : Str)))) (aC (.int 65537))) (aVar 1)))
def tk_law_next_4 : RS := aSeq (aAsg (aOp aMod (aOp aMul (aVar 3) (aOp aAdd (aOp aMod (aVar 3) (aC (.int 1009))) (aC (.int 69621)))) (aC (.int 2305843009213693951))) (agSub (aVar 0) (aC (.str ("seed" : Str))) asSet)) (tk_law_next_5)
def tk_law_next_3 : RS := aSeq (aAsg (aOp aMod (aOp aMul (aOp aAdd (aOp aIx (aVar 0) (aC (.str ("seed" : Str)))) (aOp aMul (aOp aIx (aVar 0) (aC (.str ("many" : Str)))) (aC (.int 7919)))) (aC (.int 48271))) (aC (.int 2305843009213693951))) (agName 3)) (tk_law_next_4)
def tk_law_next_2 : RS := aSeq (aAsg (aOp aAdd (aOp aIx (aVar 0) (aC (.str ("many" : Str)))) (aC (.int 1))) (agSub (aVar 0) (aC (.str ("many" : Str))) asSet)) (tk_law_next_3)
def tk_law_next_1 : RS := aSeq (aIfS (aB (aOp aGt (aOp aIx (aVar 0) (aC (.str ("left" : Str)))) (aC (.int 0)))) (aSeq (aAsg (aOp aMod (aOp aIx (aVar 0) (aC (.str ("left" : Str)))) (aVar 1)) (agName 2))
    (aSeq (aAsg (aOp aDiv (aOp aIx (aVar 0) (aC (.str ("left" : Str)))) (aVar 1)) (agSub (aVar 0) (aC (.str ("left" : Str))) asSet))
    (aRet (aVar 2)))) aNext) (tk_law_next_2)
def t_law_next : RS := aSeq (aIfS (aAnd (aB (aOp aEq (aOp aIx (aVar 0) (aC (.str ("left" : Str)))) (aC (.int 0)))) (aB (aOp aNe (aOp aIx (aVar 0) (aC (.str ("own" : Str)))) (aFz (aLst aNil))))) (aAsg (aMth "list" amPop (aOp aIx (aVar 0) (aC (.str ("own" : Str)))) (aCons (aC (.int 0)) aNil)) (agSub (aVar 0) (aC (.str ("left" : Str))) asSet)) aNext) (tk_law_next_1)
theorem len_law_next : ∀ ds M Q, sp_law_next ds M Q → ds.length = 2 := by
  rintro ds M Q ⟨p, q, m, rfl, _⟩
  rfl
theorem spec_law_next : ∀ ds M Q, sp_law_next ds M Q → t_law_next (retD Q) (startA 4 ds) M := by
  rintro ds M Q ⟨p, q, m, rfl, ⟨hne, ⟨l, s, c, hp, l0, s0, c0⟩, own, hq, ho, hol⟩, m0, m1, k0⟩
  have k : ∀ v M', DPot p q M' → But p q M M' → 0 ≤ v → v < m → Q (.int v) M' := fun v M' h1 h2 h3 h4 => by
    obtain ⟨n, rfl⟩ := Int.eq_ofNat_of_zero_le h3
    exact k0 n M' h1 h2 h4
  have tail : ∀ M1, DPot p q M1 → But p q M M1 → (aSeq (aIfS (aB (aOp aGt (aOp aIx (aVar 0) (aC (.str ("left" : Str)))) (aC (.int 0)))) (aSeq (aAsg (aOp aMod (aOp aIx (aVar 0) (aC (.str ("left" : Str)))) (aVar 1)) (agName 2))
    (aSeq (aAsg (aOp aDiv (aOp aIx (aVar 0) (aC (.str ("left" : Str)))) (aVar 1)) (agSub (aVar 0) (aC (.str ("left" : Str))) asSet))
    (aRet (aVar 2)))) aNext)
    (aSeq (aAsg (aOp aAdd (aOp aIx (aVar 0) (aC (.str ("many" : Str)))) (aC (.int 1))) (agSub (aVar 0) (aC (.str ("many" : Str))) asSet))
    (aSeq (aAsg (aOp aMod (aOp aMul (aOp aAdd (aOp aIx (aVar 0) (aC (.str ("seed" : Str)))) (aOp aMul (aOp aIx (aVar 0) (aC (.str ("many" : Str)))) (aC (.int 7919)))) (aC (.int 48271))) (aC (.int 2305843009213693951))) (agName 3))
    (aSeq (aAsg (aOp aMod (aOp aMul (aVar 3) (aOp aAdd (aOp aMod (aVar 3) (aC (.int 1009))) (aC (.int 69621)))) (aC (.int 2305843009213693951))) (agSub (aVar 0) (aC (.str ("seed" : Str))) asSet))
    (aRet (aOp aMod (aOp aDiv (aOp aIx (aVar 0) (aC (.str ("seed" : Str)))) (aC (.int 65537))) (aVar 1))))))) (retD Q) (startA 4 [Dv.ref p, Dv.int m]) M1 := by
    rintro M1 ⟨_, ⟨l, s, c, hp, l0, s0, c0⟩, own, hq, ho, hol⟩ hb
    ((repeat ((conv => whnf); simp only [lenA_r, itemsA_r, lstA_r, lstC_s, Option.map_some, atI_0, ixN_0, mup_same, mup_mup, true_and, and_true, List.map_cons, List.map_nil, List.length_cons, List.length_map, List.length_nil, List.set_cons_zero, List.set_cons_succ, List.cons_append, List.nil_append, List.getElem?_cons_zero, List.getElem?_cons_succ, hp, potC])); (conv => whnf))
    refine onIf_dec (fun hz => ?_) (fun hz => ?_)
    · ((repeat ((conv => whnf); simp only [lenA_r, itemsA_r, lstA_r, lstC_s, Option.map_some, atI_0, ixN_0, mup_same, mup_mup, true_and, and_true, List.map_cons, List.map_nil, List.length_cons, List.length_map, List.length_nil, List.set_cons_zero, List.set_cons_succ, List.cons_append, List.nil_append, List.getElem?_cons_zero, List.getElem?_cons_succ, hp, potC])); (conv => whnf))
      refine ⟨m0, ?_⟩
      ((repeat ((conv => whnf); simp only [lenA_r, itemsA_r, lstA_r, lstC_s, Option.map_some, atI_0, ixN_0, mup_same, mup_mup, true_and, and_true, List.map_cons, List.map_nil, List.length_cons, List.length_map, List.length_nil, List.set_cons_zero, List.set_cons_succ, List.cons_append, List.nil_append, List.getElem?_cons_zero, List.getElem?_cons_succ, hp, potC])); (conv => whnf))
      refine ⟨⟨m0, m1⟩, ?_⟩
      ((repeat ((conv => whnf); simp only [lenA_r, itemsA_r, lstA_r, lstC_s, Option.map_some, atI_0, ixN_0, mup_same, mup_mup, true_and, and_true, List.map_cons, List.map_nil, List.length_cons, List.length_map, List.length_nil, List.set_cons_zero, List.set_cons_succ, List.cons_append, List.nil_append, List.getElem?_cons_zero, List.getElem?_cons_succ, hp, potC])); (conv => whnf))
      refine ⟨(by first | decide | omega | (dsimp only; decide) | (dsimp only; omega)), ?_⟩
      rw [put_left]
      refine retSub (Sub.refl _) (k _ _ (DPot.set ⟨hne, ⟨l, s, c, hp, l0, s0, c0⟩, own, hq, ho, hol⟩ (Int.ediv_nonneg l0 (by omega)) s0 c0) hb.p (Int.emod_nonneg _ (by omega)) (Int.emod_lt_of_pos _ m0))
    · ((repeat ((conv => whnf); simp only [lenA_r, itemsA_r, lstA_r, lstC_s, Option.map_some, atI_0, ixN_0, mup_same, mup_mup, true_and, and_true, List.map_cons, List.map_nil, List.length_cons, List.length_map, List.length_nil, List.set_cons_zero, List.set_cons_succ, List.cons_append, List.nil_append, List.getElem?_cons_zero, List.getElem?_cons_succ, hp, potC])); (conv => whnf))
      refine ⟨(by first | decide | omega | (dsimp only; decide) | (dsimp only; omega)), ?_⟩
      rw [put_many]
      ((repeat ((conv => whnf); simp only [lenA_r, itemsA_r, lstA_r, lstC_s, Option.map_some, atI_0, ixN_0, mup_same, mup_mup, true_and, and_true, List.map_cons, List.map_nil, List.length_cons, List.length_map, List.length_nil, List.set_cons_zero, List.set_cons_succ, List.cons_append, List.nil_append, List.getElem?_cons_zero, List.getElem?_cons_succ])); (conv => whnf))
      refine ⟨.inl (.inr ⟨by decide, by decide⟩), ?_⟩
      (conv => whnf)
      refine ⟨.inl (.inr ⟨by decide, by decide⟩), ?_⟩
      (conv => whnf)
      refine ⟨(by first | decide | omega | (dsimp only; decide) | (dsimp only; omega)), ?_⟩
      (conv => whnf)
      refine ⟨(by first | decide | omega | (dsimp only; decide) | (dsimp only; omega)), ?_⟩
      (conv => whnf)
      refine ⟨.inl (.inr ⟨by omega, by omega⟩), ?_⟩
      (conv => whnf)
      refine ⟨(by first | decide | omega | (dsimp only; decide) | (dsimp only; omega)), ?_⟩
      ((repeat ((conv => whnf); simp only [lenA_r, itemsA_r, lstA_r, lstC_s, Option.map_some, atI_0, ixN_0, mup_same, mup_mup, true_and, and_true, List.map_cons, List.map_nil, List.length_cons, List.length_map, List.length_nil, List.set_cons_zero, List.set_cons_succ, List.cons_append, List.nil_append, List.getElem?_cons_zero, List.getElem?_cons_succ])); (conv => whnf))
      refine ⟨(by first | decide | omega | (dsimp only; decide) | (dsimp only; omega)), ?_⟩
      rw [put_seed]
      have y0 : 0 ≤ (s + (c + 1) * 7919) * 48271 % 2305843009213693951 * ((s + (c + 1) * 7919) * 48271 % 2305843009213693951 % 1009 + 69621) % 2305843009213693951 := Int.emod_nonneg _ (by decide)
      generalize (s + (c + 1) * 7919) * 48271 % 2305843009213693951 * ((s + (c + 1) * 7919) * 48271 % 2305843009213693951 % 1009 + 69621) % 2305843009213693951 = y at y0 ⊢
      ((repeat ((conv => whnf); simp only [lenA_r, itemsA_r, lstA_r, lstC_s, Option.map_some, atI_0, ixN_0, mup_same, mup_mup, true_and, and_true, List.map_cons, List.map_nil, List.length_cons, List.length_map, List.length_nil, List.set_cons_zero, List.set_cons_succ, List.cons_append, List.nil_append, List.getElem?_cons_zero, List.getElem?_cons_succ])); (conv => whnf))
      refine ⟨⟨by decide, by decide⟩, ?_⟩
      (conv => whnf)
      refine ⟨m0, ?_⟩
      refine retSub (Sub.refl _) (k _ _ (DPot.set ⟨hne, ⟨l, s, c, hp, l0, s0, c0⟩, own, hq, ho, hol⟩ l0 y0 (by omega)) hb.p (Int.emod_nonneg _ (by omega)) (Int.emod_lt_of_pos _ m0))
  have h0 : DPot p q M := ⟨hne, ⟨l, s, c, hp, l0, s0, c0⟩, own, hq, ho, hol⟩
  ((repeat ((conv => whnf); simp only [lenA_r, itemsA_r, lstA_r, lstC_s, Option.map_some, atI_0, ixN_0, mup_same, mup_mup, true_and, and_true, List.map_cons, List.map_nil, List.length_cons, List.length_map, List.length_nil, List.set_cons_zero, List.set_cons_succ, List.cons_append, List.nil_append, List.getElem?_cons_zero, List.getElem?_cons_succ, hp, potC])); (conv => whnf))
  refine ⟨trivial, trivial, ?_⟩
  refine onIf_dec (fun hz => ?_) (fun hz => ?_)
  · ((repeat ((conv => whnf); simp only [lenA_r, itemsA_r, lstA_r, lstC_s, Option.map_some, atI_0, ixN_0, mup_same, mup_mup, true_and, and_true, List.map_cons, List.map_nil, List.length_cons, List.length_map, List.length_nil, List.set_cons_zero, List.set_cons_succ, List.cons_append, List.nil_append, List.getElem?_cons_zero, List.getElem?_cons_succ, hp, potC])); (conv => whnf))
    refine ⟨Nat.zero_le _, fun r hr => fz_new hr ?_⟩
    (conv => whnf)
    have pl1 : ∀ d ∈ own.map Dv.int, Pl 8 d := fun d hd => by
      obtain ⟨x, _, rfl⟩ := List.mem_map.mp hd
      trivial
    have pl2 : ∀ d ∈ ([] : List Dv), Pl 8 d := fun d hd => absurd hd (List.not_mem_nil)
    refine ⟨own.map Dv.int, hq, pl1, pl2, ?_⟩
    refine onIf_ndec (fun h => ?_) (fun h => ?_)
    · cases own with
      | nil => exact absurd rfl h
      | cons x own =>
      ((repeat ((conv => whnf); simp only [lenA_r, itemsA_r, lstA_r, lstC_s, Option.map_some, atI_0, ixN_0, mup_same, mup_mup, true_and, and_true, List.map_cons, List.map_nil, List.length_cons, List.length_map, List.length_nil, List.set_cons_zero, List.set_cons_succ, List.cons_append, List.nil_append, List.getElem?_cons_zero, List.getElem?_cons_succ, hp, potC, hq])); (conv => whnf))
      refine ⟨tyM_list hq, ?_⟩
      ((repeat ((conv => whnf); simp only [lenA_r, itemsA_r, lstA_r, lstC_s, Option.map_some, atI_0, ixN_0, mup_same, mup_mup, true_and, and_true, List.map_cons, List.map_nil, List.length_cons, List.length_map, List.length_nil, List.set_cons_zero, List.set_cons_succ, List.cons_append, List.nil_append, List.getElem?_cons_zero, List.getElem?_cons_succ, hq])); (conv => whnf))
      refine ⟨⟨by decide, by decide⟩, ?_⟩
      have x0 : 0 ≤ x := ho x (by simp)
      have e3 : mup M q (.lst (own.map Dv.int)) p = some (potC q l s c) := by rw [mup_ne hne]; exact hp
      have h2 : DPot p q (mup M q (.lst (own.map Dv.int))) := ⟨hne, ⟨l, s, c, e3, l0, s0, c0⟩, own, mup_same, fun y hy => ho y (by simp [hy]), by simp at hol; omega⟩
      have b2 : But p q M (mup M q (.lst (own.map Dv.int))) := (But.refl p q M).q
      simp only [show Int.toNat 0 = 0 from rfl, List.getElem?_cons_zero, List.eraseIdx_cons_zero]
      generalize mup M q (.lst (own.map Dv.int)) = M2 at e3 h2 b2 ⊢
      (conv => whnf)
      simp only [e3, potC]
      (conv => whnf)
      refine ⟨show 4 < sizeLine by decide, ?_⟩
      rw [put_left]
      exact tail _ (h2.set (l := x) x0 s0 c0) b2.p
    · exact tail _ h0 (But.refl p q M)
  · exact tail _ h0 (But.refl p q M)
theorem ok_law_next (T : Tx K mg) : FnA P w K mg base 1 T.f_law_next T.d_law_next [("_law_pot_here" : Str), ("_law_many" : Str)] sp_law_next :=
  fnA T.F_law_next sc_law_next len_law_next (fun cdv A outer s H E hr => by
    have hu1 := hu_of hr
    have hu64 := hr.units
    exact (ass_cons (as_if (AW.pt (aw_and (at_eq hu64 (ae_ix hu1 (av 0) ae_str) ae_int) (aw_and1 (at_ne hu64 (ae_ix hu1 (av 0) ae_str) (ae_fz (ae_lst aa_nil)))))) (ass_one (as_asg (ae_popAt (ae_ix hu1 (av 0) ae_str) (aa_cons ae_int aa_nil)) (ag_sub hu1 (av 0) ae_str))) ass_nil)
    (ass_cons (as_if (at_gt (ae_ix hu1 (av 0) ae_str) ae_int) (ass_cons (as_set 2 sc_law_next.nd (ae_mod (ae_ix hu1 (av 0) ae_str) (av 1)))
    (ass_cons (as_asg (ae_div (ae_ix hu1 (av 0) ae_str) (av 1)) (ag_sub hu1 (av 0) ae_str))
    (ass_one (as_ret (av 2))))) ass_nil)
    (ass_cons (as_asg (ae_add (ae_ix hu1 (av 0) ae_str) ae_int) (ag_sub hu1 (av 0) ae_str))
    (ass_cons (as_set 3 sc_law_next.nd (ae_mod (ae_mul (ae_add (ae_ix hu1 (av 0) ae_str) (ae_mul (ae_ix hu1 (av 0) ae_str) ae_int)) ae_int) ae_int))
    (ass_cons (as_asg (ae_mod (ae_mul (av 3) (ae_add (ae_mod (av 3) ae_int) ae_int)) ae_int) (ag_sub hu1 (av 0) ae_str))
    (ass_one (as_ret (ae_mod (ae_div (ae_ix hu1 (av 0) ae_str) ae_int) (av 1)))))))))) spec_law_next
def sp_law_block : ASp := fun ds M Q => ∃ p q, ∃ size : Nat, ds = [.ref p, dn size] ∧ DPot p q M ∧ size ≤ 1000 ∧
  ∀ (b : Blk) M', DPot p q M' → But p q M M' → BlkOk' b size → Q (bD b) M'
def tk_law_block_2 : RS := (aRet (aFn acTup (aCons (aFz (aLc (aiR1 (aCons (aVar 1) aNil)) (.nm 4) [4] aYes (aOp aMod (aOp aAdd (aOp aAdd (aVar 2) (aOp aMul (aVar 3) (aVar 4))) (aOp aMul (aVar 4) (aVar 4))) (aC (.int 256))))) aNil)))
def tk_law_block_1 : RS := aSeq (aAsg (aCall sp_law_next (aCons (aVar 0) (aCons (aC (.int 256)) aNil))) (agName 3)) (tk_law_block_2)
def t_law_block : RS := aSeq (aAsg (aCall sp_law_next (aCons (aVar 0) (aCons (aC (.int 256)) aNil))) (agName 2)) (tk_law_block_1)
theorem len_law_block : ∀ ds M Q, sp_law_block ds M Q → ds.length = 2 := by
  rintro ds M Q ⟨p, q, size, rfl, _⟩
  rfl
theorem spec_law_block : ∀ ds M Q, sp_law_block ds M Q → t_law_block (retD Q) (startA 5 ds) M := by
  rintro ds M Q ⟨p, q, size, rfl, hd, hz, k⟩
  decreasing_tactic
  (refine ⟨_, _, _, rfl, by assumption, (by infer_instance), (by infer_instance), fun a Ma da ba la => ?_⟩; decreasing_tactic)
  (refine ⟨_, _, _, rfl, by assumption, (by infer_instance), (by infer_instance), fun b Mb db bb lb => ?_⟩; decreasing_tactic)
  have ok : BlkOk' ((List.range size).map fun i => (a + b * i + i * i) % 256) size := ⟨by simp, fun x hx => by
    obtain ⟨i, _, rfl⟩ := List.mem_map.mp hx
    exact Nat.mod_lt _ (by decide)⟩
  have kk := k _ Mb db (ba.trans bb) ok
  refine lcF (fun i => dn ((a + b * i + i * i) % 256)) (fun _ => trivial) (by rw [rangeA_len]; exact le_line (by omega)) (fun i d hi M' N hs q => ?_) ?_
  · obtain ⟨hi, rfl⟩ := rangeA_get hi
    refine ⟨_, rfl, ?_⟩
    rw [Int.zero_add]
    have hi : i < size := by omega
    decreasing_tactic
    exact q
  · rw [rangeA_len, Int.toNat_natCast]
    simp only [bD, List.map_map] at kk
    decreasing_tactic
    exact retEnd kk
theorem ok_law_block (T : Tx K mg) : FnA P w K mg base 2 T.f_law_block T.d_law_block [("_law_pot_here" : Str), ("_law_size" : Str)] sp_law_block :=
  fnA T.F_law_block sc_law_block len_law_block (fun cdv A outer s H E hr => by
    have hu1 := hu_of hr
    have hu64 := hr.units
    exact (ass_cons (as_set 2 sc_law_block.nd (ae_call (ok_law_next T) (hr.mono (by decide)) T.m_law_next T.F_law_next.kp T.b_law_next (aa_cons (av 0) (aa_cons ae_int aa_nil))))
    (ass_cons (as_set 3 sc_law_block.nd (ae_call (ok_law_next T) (hr.mono (by decide)) T.m_law_next T.F_law_next.kp T.b_law_next (aa_cons (av 0) (aa_cons ae_int aa_nil))))
    (ass_one (as_ret (ae_callTy call_tuple_of abc_tup (aa_cons (ae_fz (ae_lc (own := [(("_law_k" : Str), 4)]) (tg := (.nm 4)) (by decide) rfl sc_law_block.nd (ai_range1 T.n_range (aa_cons (av 1) aa_nil)) (blkOk_by (own := [(("_law_k" : Str), 4)]) (N := N_law_block) (sc := defScope s_law_block) (by decide +kernel)) (fun _ _ _ _ _ => (pgt_name 4 sc_law_block.nd)) (fun _ _ _ _ _ => ats_nil) (fun _ _ _ _ _ => (ae_mod (ae_add (ae_add (av 2) (ae_mul (av 3) (av 4))) (ae_mul (av 4) (av 4))) ae_int)))) aa_nil) T.n_tuple boot_tuple)))))) spec_law_block
def sp_law_disk : ASp := fun ds M Q => ∃ p q, ∃ h : Head, ∃ many, ds = [.ref p, h.d] ∧ DPot p q M ∧ h.Ok many ∧
  ∀ (k : Disk) M', DPot p q M' → But p q M M' → DiskOk k h.size h.rows → Q (kD k) M'
def tk_law_disk_3 : RS := (aRet (aFn acTup (aCons (aVar 2) aNil)))
def tk_law_disk_2 : RS := aSeq (aFor (aiR1 (aCons (aOp aIx (aVar 1) (aC (.int 2))) aNil)) (agName 3) (aSeq (aAsg (aCall sp_law_block (aCons (aVar 0) (aCons (aOp aIx (aVar 1) (aC (.int 1))) aNil))) (agName 4))
    (aSeq (aIfS (aB (aOp aEq (aCall sp_law_next (aCons (aVar 0) (aCons (aC (.int 6)) aNil))) (aC (.int 0)))) (aAsg (aC .non) (agName 4)) aNext)
    (aDrop (aMth "list" amApp (aVar 2) (aCons (aVar 4) aNil)))))) (tk_law_disk_3)
def tk_law_disk_1 : RS := aSeq (aAsg (aLst aNil) (agName 2)) (tk_law_disk_2)
def t_law_disk : RS := aSeq (aIfS (aB (aOp aEq (aCall sp_law_next (aCons (aVar 0) (aCons (aC (.int 6)) aNil))) (aC (.int 0)))) (aRet (aC .non)) aNext) (tk_law_disk_1)
theorem len_law_disk : ∀ ds M Q, sp_law_disk ds M Q → ds.length = 2 := by
  rintro ds M Q ⟨p, q, h, many, rfl, _⟩
  rfl
theorem spec_law_disk : ∀ ds M Q, sp_law_disk ds M Q → t_law_disk (retD Q) (startA 5 ds) M := by
  rintro ds M Q ⟨p, q, h, many, rfl, hd, hh, k⟩
  have i1 : atI [dn h.par, dn h.size, dn h.rows, dn h.width, dn h.moved, dn h.spares] 1 = some (dn h.size) := rfl
  have i2 : atI [dn h.par, dn h.size, dn h.rows, dn h.width, dn h.moved, dn h.spares] 2 = some (dn h.rows) := rfl
  have r2 := hh.rows2
  have s2 := hh.size2
  decreasing_tactic
  (refine ⟨_, _, _, rfl, by assumption, (by infer_instance), (by infer_instance), fun a Ma da ba la => ?_⟩; decreasing_tactic)
  by_cases ha : a = 0
  · subst ha
    decreasing_tactic
    exact retEnd (k none _ da ba (fun bs e => nomatch e))
  decreasing_tactic
  intro r hr
  have rp := da.nep hr
  have rq := da.neq hr
  have dr := da.put (c := .lst []) rp rq
  decreasing_tactic
  refine forW_inv (fun i ρ M' => ∃ x3 x4, ∃ bs : List (Option Blk), ρ = [some (.ref p), some h.d, some (.ref r), x3, x4] ∧ DPot p q M' ∧ But p q Ma (mdel M' r) ∧ M' r = some (.lst (bs.map oD)) ∧ bs.length = i ∧ ∀ o ∈ bs, ∀ b, o = some b → BlkOk' b h.size) ⟨none, none, [], rfl, dr, (But.put (But.refl p q Ma) hr).del hr, mup_same, rfl, fun o ho => by simp at ho⟩ (fun _ _ _ _ _ => trivial) ?_ ?_
  · rintro i d ρ M' hi ⟨x3, x4, bs, rfl, hd, hb, hl, hlen, hbs⟩
    obtain ⟨hi, rfl⟩ := rangeA_get hi
    decreasing_tactic
    refine ⟨p, q, h.size, rfl, hd, by omega, fun b Mb db bb okb => ?_⟩
    decreasing_tactic
    (refine ⟨_, _, _, rfl, by assumption, (by infer_instance), (by infer_instance), fun c Mc dc bc lc => ?_⟩; decreasing_tactic)
    have hl2 := bc.at rp rq (bb.at rp rq hl)
    have app : ∀ (o : Option Blk) x4, (∀ b, o = some b → BlkOk' b h.size) → wk (fun ρ M' => ∃ x3 x4, ∃ bs : List (Option Blk), ρ = [some (.ref p), some h.d, some (.ref r), x3, x4] ∧ DPot p q M' ∧ But p q Ma (mdel M' r) ∧ M' r = some (.lst (bs.map oD)) ∧ bs.length = i + 1 ∧ ∀ o ∈ bs, ∀ b, o = some b → BlkOk' b h.size)
        [some (.ref p), some h.d, some (.ref r), some (.int (0 + (i : Int))), x4] (mup Mc r (.lst (bs.map oD ++ [oD o]))) := fun o x4 ho => by
      refine wk_of ⟨_, _, bs ++ [o], rfl, dc.put rp rq, ?_, ?_, by simp [hlen], fun o2 h2 => ?_⟩
      · rw [mdel_put]
        have b1 := hb.trans ((bb.trans bc).mdel2 (r := r))
        exact b1
      · rw [mup_same]; simp
      · rcases List.mem_append.mp h2 with h3 | h3
        · exact hbs o2 h3
        · rw [List.mem_singleton.mp h3]; exact ho
    by_cases hc : c = 0
    · subst hc
      decreasing_tactic
      exact app none _ (fun b e => nomatch e)
    · decreasing_tactic
      exact app (some b) _ (fun b e => by cases e; exact okb)
  · rintro ρ M' ⟨x3, x4, bs, rfl, hd, hb, hl, hlen, hbs⟩
    rw [rangeA_len] at hlen
    decreasing_tactic
    refine retSub mdel_sub (k (some bs) _ (hd.del rp rq) (ba.trans hb) fun bs' e => ?_)
    cases e
    exact ⟨by omega, hbs⟩
theorem ok_law_disk (T : Tx K mg) : FnA P w K mg base 3 T.f_law_disk T.d_law_disk [("_law_pot_here" : Str), ("_law_head_here" : Str)] sp_law_disk :=
  fnA T.F_law_disk sc_law_disk len_law_disk (fun cdv A outer s H E hr => by
    have hu1 := hu_of hr
    have hu64 := hr.units
    exact (ass_cons (as_if (at_eq hu64 (ae_call (ok_law_next T) (hr.mono (by decide)) T.m_law_next T.F_law_next.kp T.b_law_next (aa_cons (av 0) (aa_cons ae_int aa_nil))) ae_int) (ass_one (as_ret ae_non)) ass_nil)
    (ass_cons (as_set 2 sc_law_disk.nd (ae_lst aa_nil))
    (ass_cons (as_for PassesOwn.never rfl (ai_range1 T.n_range (aa_cons (ae_ix hu1 (av 1) ae_int) aa_nil)) (ag_name 3 sc_law_disk.nd) (ass_cons (as_set 4 sc_law_disk.nd (ae_call (ok_law_block T) (hr.mono (by decide)) T.m_law_block T.F_law_block.kp T.b_law_block (aa_cons (av 0) (aa_cons (ae_ix hu1 (av 1) ae_int) aa_nil))))
    (ass_cons (as_if (at_eq hu64 (ae_call (ok_law_next T) (hr.mono (by decide)) T.m_law_next T.F_law_next.kp T.b_law_next (aa_cons (av 0) (aa_cons ae_int aa_nil))) ae_int) (ass_one (as_set 4 sc_law_disk.nd ae_non)) ass_nil)
    (ass_one (as_expr (ae_append (av 2) (aa_cons (av 4) aa_nil)))))))
    (ass_one (as_ret (ae_callTy call_tuple_of abc_tup (aa_cons (av 2) aa_nil) T.n_tuple boot_tuple))))))) spec_law_disk
def sp_law_count : ASp := fun ds M Q => ∃ p q, ∃ a b : Int, ds = [.ref p, .int a, .int b] ∧ DPot p q M ∧ 0 ≤ a ∧ a < 1000000 ∧ 0 ≤ b ∧ b < 1000000 ∧
  ∀ (v : Nat) M', DPot p q M' → But p q M M' → (v : Int) ≤ max a b → Q (dn v) M'
def t_law_count : RS := (aRet (aCall sp_law_next (aCons (aVar 0) (aCons (aOp aAdd (aOp aIx (aFz (aLst (aCons (aVar 1) (aCons (aVar 2) aNil)))) (aFn acInt (aCons (aOp aEq (aCall sp_law_next (aCons (aVar 0) (aCons (aC (.int 8)) aNil))) (aC (.int 0))) aNil))) (aC (.int 1))) aNil))))
theorem len_law_count : ∀ ds M Q, sp_law_count ds M Q → ds.length = 3 := by
  rintro ds M Q ⟨p, q, a, b, rfl, _⟩
  rfl
theorem spec_law_count : ∀ ds M Q, sp_law_count ds M Q → t_law_count (retD Q) (startA 3 ds) M := by
  rintro ds M Q ⟨p, q, a, b, rfl, hd, a0, a1, b0, b1, k⟩
  decreasing_tactic
  (refine ⟨_, _, _, rfl, by assumption, (by infer_instance), (by infer_instance), fun v Mv dv bv lv => ?_⟩; decreasing_tactic)
  by_cases hv : dn v = Dv.int 0
  · rw [dec_T hv]
    decreasing_tactic
    (refine ⟨_, _, _, rfl, by assumption, (by infer_instance), (by infer_instance), fun w Mw dw bw lw => ?_⟩; decreasing_tactic)
    exact retEnd (k w Mw dw (bv.trans bw) (by omega))
  · rw [dec_F hv]
    decreasing_tactic
    (refine ⟨_, _, _, rfl, by assumption, (by infer_instance), (by infer_instance), fun w Mw dw bw lw => ?_⟩; decreasing_tactic)
    exact retEnd (k w Mw dw (bv.trans bw) (by omega))
theorem ok_law_count (T : Tx K mg) : FnA P w K mg base 2 T.f_law_count T.d_law_count [("_law_pot_here" : Str), ("_law_most" : Str), ("_law_great" : Str)] sp_law_count :=
  fnA T.F_law_count sc_law_count len_law_count (fun cdv A outer s H E hr => by
    have hu1 := hu_of hr
    have hu64 := hr.units
    exact (ass_one (as_ret (ae_call (ok_law_next T) (hr.mono (by decide)) T.m_law_next T.F_law_next.kp T.b_law_next (aa_cons (av 0) (aa_cons (ae_add (ae_ix hu1 (ae_fz (ae_lst (aa_cons (av 1) (aa_cons (av 2) aa_nil)))) (ae_callTy call_int1 abc_int (aa_cons (ae_eq hu64 (ae_call (ok_law_next T) (hr.mono (by decide)) T.m_law_next T.F_law_next.kp T.b_law_next (aa_cons (av 0) (aa_cons ae_int aa_nil))) ae_int) aa_nil) T.n_int boot_int)) ae_int) aa_nil)))))) spec_law_count
def sp_law_head : ASp := fun ds M Q => ∃ p q, ds = [.ref p] ∧ DPot p q M ∧
  ∀ (h : Head) (many : Nat) M', DPot p q M' → But p q M M' → h.Ok many → Q (.tup [h.d, dn many]) M'
def tk_law_head_7 : RS := (aRet (aTup (aCons (aVar 7) (aCons (aOp aAdd (aVar 4) (aFn acInt (aCons (aVar 5) aNil))) aNil))))
def tk_law_head_6 : RS := aSeq (aAsg (aTup (aCons (aVar 1) (aCons (aVar 2) (aCons (aVar 3) (aCons (aVar 4) (aCons (aVar 6) (aCons (aCall sp_law_count (aCons (aVar 0) (aCons (aC (.int 3)) (aCons (aC (.int 999)) aNil)))) aNil))))))) (agName 7)) (tk_law_head_7)
def tk_law_head_5 : RS := aSeq (aAsg (aOp aMul (aCall sp_law_next (aCons (aVar 0) (aCons (aVar 3) aNil))) (aFn acInt (aCons (aVar 5) aNil))) (agName 6)) (tk_law_head_6)
def tk_law_head_4 : RS := aSeq (aAsg (aAndV (aOp aLt (aVar 4) (aC (.int 10))) (aOp aEq (aCall sp_law_next (aCons (aVar 0) (aCons (aC (.int 2)) aNil))) (aC (.int 1)))) (agName 5)) (tk_law_head_5)
def tk_law_head_3 : RS := aSeq (aAsg (aOp aAdd (aOp aAdd (aVar 1) (aC (.int 1))) (aCall sp_law_count (aCons (aVar 0) (aCons (aC (.int 3)) (aCons (aOp aSub (aC (.int 9)) (aVar 1)) aNil))))) (agName 4)) (tk_law_head_4)
def tk_law_head_2 : RS := aSeq (aAsg (aOp aAdd (aC (.int 1)) (aCall sp_law_count (aCons (aVar 0) (aCons (aC (.int 4)) (aCons (aC (.int 23)) aNil))))) (agName 3)) (tk_law_head_3)
def tk_law_head_1 : RS := aSeq (aAsg (aOp aAdd (aC (.int 1)) (aCall sp_law_count (aCons (aVar 0) (aCons (aC (.int 3)) (aCons (aC (.int 15)) aNil))))) (agName 2)) (tk_law_head_2)
def t_law_head : RS := aSeq (aAsg (aOp aAdd (aC (.int 1)) (aCall sp_law_next (aCons (aVar 0) (aCons (aC (.int 2)) aNil)))) (agName 1)) (tk_law_head_1)
theorem len_law_head : ∀ ds M Q, sp_law_head ds M Q → ds.length = 1 := by
  rintro ds M Q ⟨p, q, rfl, _⟩
  rfl
theorem spec_law_head : ∀ ds M Q, sp_law_head ds M Q → t_law_head (retD Q) (startA 8 ds) M := by
  rintro ds M Q ⟨p, q, rfl, hd, k⟩
  decreasing_tactic
  (refine ⟨_, _, _, rfl, by assumption, (by infer_instance), (by infer_instance), fun a Ma da ba la => ?_⟩; decreasing_tactic)
  (refine ⟨_, _, _, _, rfl, by assumption, (by infer_instance), (by infer_instance), (by infer_instance), (by infer_instance), fun b Mb db bb lb => ?_⟩; decreasing_tactic)
  (refine ⟨_, _, _, _, rfl, by assumption, (by infer_instance), (by infer_instance), (by infer_instance), (by infer_instance), fun c Mc dc bc lc => ?_⟩; decreasing_tactic)
  (refine ⟨_, _, _, _, rfl, by assumption, (by infer_instance), (by infer_instance), (by infer_instance), (by infer_instance), fun e Me de be le => ?_⟩; decreasing_tactic)
  by_cases hw : (1 : Int) + a + 1 + e < 10
  · refine onIf_decT hw ?_
    decreasing_tactic
    (refine ⟨_, _, _, rfl, by assumption, (by infer_instance), (by infer_instance), fun g Mg dg bg lg => ?_⟩; decreasing_tactic)
    by_cases hg : g = 1
    · subst hg
      rw [dec_T (show dn 1 = Dv.int 1 from rfl)]
      decreasing_tactic
      (refine ⟨_, _, _, rfl, by assumption, (by infer_instance), (by infer_instance), fun m Mm dm bm lm => ?_⟩; decreasing_tactic)
      (refine ⟨_, _, _, _, rfl, by assumption, (by infer_instance), (by infer_instance), (by infer_instance), (by infer_instance), fun s Ms ds bs ls => ?_⟩; decreasing_tactic)
      simp only [if_true, Int.mul_one]
      refine retEnd (k ⟨1 + a, 1 + b, 1 + c, 1 + a + 1 + e, m, s⟩ (1 + a + 1 + e + 1) _ ds ((((((ba.trans bb).trans bc).trans be).trans bg).trans bm).trans bs) ?_)
      exact headOk (by omega) (by omega) (by omega) (by omega) (by omega) (by omega) (by omega) (by omega) (.inr ⟨rfl, by omega, by omega⟩) (by omega)
    · rw [dec_F (show ¬ dn g = Dv.int 1 from fun h => hg (by have := Dv.int.inj h; omega))]
      decreasing_tactic
      (refine ⟨_, _, _, rfl, by assumption, (by infer_instance), (by infer_instance), fun m Mm dm bm lm => ?_⟩; decreasing_tactic)
      (refine ⟨_, _, _, _, rfl, by assumption, (by infer_instance), (by infer_instance), (by infer_instance), (by infer_instance), fun s Ms ds bs ls => ?_⟩; decreasing_tactic)
      simp only [Bool.false_eq_true, if_false, Int.mul_zero, Int.add_zero]
      refine retEnd (k ⟨1 + a, 1 + b, 1 + c, 1 + a + 1 + e, 0, s⟩ (1 + a + 1 + e) _ ds ((((((ba.trans bb).trans bc).trans be).trans bg).trans bm).trans bs) ?_)
      exact headOk (by omega) (by omega) (by omega) (by omega) (by omega) (by omega) (by omega) (by omega) (.inl ⟨rfl, rfl⟩) (by omega)
  · refine onIf_decF hw ?_
    decreasing_tactic
    (refine ⟨_, _, _, rfl, by assumption, (by infer_instance), (by infer_instance), fun m Mm dm bm lm => ?_⟩; decreasing_tactic)
    (refine ⟨_, _, _, _, rfl, by assumption, (by infer_instance), (by infer_instance), (by infer_instance), (by infer_instance), fun s Ms ds bs ls => ?_⟩; decreasing_tactic)
    simp only [Bool.false_eq_true, if_false, Int.mul_zero, Int.add_zero]
    refine retEnd (k ⟨1 + a, 1 + b, 1 + c, 1 + a + 1 + e, 0, s⟩ (1 + a + 1 + e) _ ds (((((ba.trans bb).trans bc).trans be).trans bm).trans bs) ?_)
    exact headOk (by omega) (by omega) (by omega) (by omega) (by omega) (by omega) (by omega) (by omega) (.inl ⟨rfl, rfl⟩) (by omega)
theorem ok_law_head (T : Tx K mg) : FnA P w K mg base 3 T.f_law_head T.d_law_head [("_law_pot_here" : Str)] sp_law_head :=
  fnA T.F_law_head sc_law_head len_law_head (fun cdv A outer s H E hr => by
    have hu1 := hu_of hr
    have hu64 := hr.units
    exact (ass_cons (as_set 1 sc_law_head.nd (ae_add ae_int (ae_call (ok_law_next T) (hr.mono (by decide)) T.m_law_next T.F_law_next.kp T.b_law_next (aa_cons (av 0) (aa_cons ae_int aa_nil)))))
    (ass_cons (as_set 2 sc_law_head.nd (ae_add ae_int (ae_call (ok_law_count T) (hr.mono (by decide)) T.m_law_count T.F_law_count.kp T.b_law_count (aa_cons (av 0) (aa_cons ae_int (aa_cons ae_int aa_nil))))))
    (ass_cons (as_set 3 sc_law_head.nd (ae_add ae_int (ae_call (ok_law_count T) (hr.mono (by decide)) T.m_law_count T.F_law_count.kp T.b_law_count (aa_cons (av 0) (aa_cons ae_int (aa_cons ae_int aa_nil))))))
    (ass_cons (as_set 4 sc_law_head.nd (ae_add (ae_add (av 1) ae_int) (ae_call (ok_law_count T) (hr.mono (by decide)) T.m_law_count T.F_law_count.kp T.b_law_count (aa_cons (av 0) (aa_cons ae_int (aa_cons (ae_sub ae_int (av 1)) aa_nil))))))
    (ass_cons (as_set 5 sc_law_head.nd (ae_and (ae_lt (av 4) ae_int) (ae_and1 (ae_eq hu64 (ae_call (ok_law_next T) (hr.mono (by decide)) T.m_law_next T.F_law_next.kp T.b_law_next (aa_cons (av 0) (aa_cons ae_int aa_nil))) ae_int))))
    (ass_cons (as_set 6 sc_law_head.nd (ae_mul (ae_call (ok_law_next T) (hr.mono (by decide)) T.m_law_next T.F_law_next.kp T.b_law_next (aa_cons (av 0) (aa_cons (av 3) aa_nil))) (ae_callTy call_int1 abc_int (aa_cons (av 5) aa_nil) T.n_int boot_int)))
    (ass_cons (as_set 7 sc_law_head.nd (ae_tup (aa_cons (av 1) (aa_cons (av 2) (aa_cons (av 3) (aa_cons (av 4) (aa_cons (av 6) (aa_cons (ae_call (ok_law_count T) (hr.mono (by decide)) T.m_law_count T.F_law_count.kp T.b_law_count (aa_cons (av 0) (aa_cons ae_int (aa_cons ae_int aa_nil)))) aa_nil))))))))
    (ass_one (as_ret (ae_tup (aa_cons (av 7) (aa_cons (ae_add (av 4) (ae_callTy call_int1 abc_int (aa_cons (av 5) aa_nil) T.n_int boot_int)) aa_nil))))))))))))) spec_law_head
structure JOk (h : Head) (many : Nat) (js : List Note) : Prop where
  note : ∀ i n, js[i]? = some n → NoteOk h many i (decide (i + 1 = js.length)) n
  len : js.length ≤ 10
def sp_law_journal : ASp := fun ds M Q => ∃ p q, ∃ h : Head, ∃ many : Nat, ds = [.ref p, h.d, dn many] ∧ DPot p q M ∧ h.Ok many ∧
  ∀ (js : List Note) M', DPot p q M' → But p q M M' → JOk h many js → Q (.tup (js.map nD)) M'
def tk_law_journal_5 : RS := (aRet (aFn acTup (aCons (aVar 3) aNil)))
def tk_law_journal_4 : RS := aSeq (aIfS (aB (aOp aEq (aCall sp_law_next (aCons (aVar 0) (aCons (aC (.int 2)) aNil))) (aC (.int 0)))) (aDrop (aMth "list" amApp (aVar 3) (aCons (aOp aAdd (aTup (aCons (aC (.str ("end" : Str))) (aCons (aFn acLen (aCons (aVar 3) aNil)) aNil))) (aVar 6)) aNil))) aNext) (tk_law_journal_5)
def tk_law_journal_3 : RS := aSeq (aIfS (aAnd (aB (aOp aGt (aVar 2) (aOp aAdd (aOp aIx (aVar 1) (aC (.int 0))) (aC (.int 1))))) (aB (aOp aEq (aCall sp_law_next (aCons (aVar 0) (aCons (aC (.int 2)) aNil))) (aC (.int 0))))) (aAsg (aTup (aCons (aOp aSub (aVar 2) (aC (.int 1))) (aCons (aCall sp_law_next (aCons (aVar 0) (aCons (aOp aIx (aVar 1) (aC (.int 2))) aNil))) aNil))) (agName 6)) aNext) (tk_law_journal_4)
def tk_law_journal_2 : RS := aSeq (aAsg (aTup (aCons (aVar 2) (aCons (aC (.int 0)) aNil))) (agName 6)) (tk_law_journal_3)
def tk_law_journal_1 : RS := aSeq (aFor (aiR1 (aCons (aCall sp_law_count (aCons (aVar 0) (aCons (aC (.int 3)) (aCons (aC (.int 9)) aNil)))) aNil)) (agName 4) (aSeq (aAsg (aCall sp_law_next (aCons (aVar 0) (aCons (aVar 2) aNil))) (agName 5))
    (aDrop (aMth "list" amApp (aVar 3) (aCons (aTup (aCons (aC (.str ("block" : Str))) (aCons (aVar 5) (aCons (aCall sp_law_next (aCons (aVar 0) (aCons (aOp aIx (aVar 1) (aC (.int 2))) aNil))) (aCons (aCall sp_law_block (aCons (aVar 0) (aCons (aOp aIx (aVar 1) (aC (.int 1))) aNil))) aNil))))) aNil))))) (tk_law_journal_2)
def t_law_journal : RS := aSeq (aAsg (aLst aNil) (agName 3)) (tk_law_journal_1)
theorem len_law_journal : ∀ ds M Q, sp_law_journal ds M Q → ds.length = 3 := by
  rintro ds M Q ⟨p, q, h, many, rfl, _⟩
  rfl
theorem jok_blocks {h : Head} {many : Nat} {js : List Note} (hl : js.length ≤ 10) (hb : ∀ n ∈ js, ∃ d r b, n = .block d r b ∧ d < many ∧ r < h.rows ∧ BlkOk' b h.size) : JOk h many js := by
  refine ⟨fun i n e => ?_, hl⟩
  obtain ⟨d, r, b, rfl, h1, h2, h3⟩ := hb n (List.mem_of_getElem? e)
  exact ⟨h1, h2, h3⟩
theorem jok_end {h : Head} {many w m : Nat} {js : List Note} (hl : js.length ≤ 9) (hb : ∀ n ∈ js, ∃ d r b, n = .block d r b ∧ d < many ∧ r < h.rows ∧ BlkOk' b h.size) (hw : WidthsOk w m h.par h.rows many) :
    JOk h many (js ++ [.fin js.length w m]) := by
  refine ⟨fun i n e => ?_, by simp; omega⟩
  by_cases hi : i < js.length
  · rw [List.getElem?_append_left hi] at e
    obtain ⟨d, r, b, rfl, h1, h2, h3⟩ := hb n (List.mem_of_getElem? e)
    exact ⟨h1, h2, h3⟩
  · have hlt := (List.getElem?_eq_some_iff.mp e).1
    simp at hlt
    have e2 : i = js.length := by omega
    subst e2
    rw [List.getElem?_append_right (Nat.le_refl _)] at e
    simp at e
    subst e
    exact ⟨by simp, rfl, hw⟩
theorem spec_law_journal : ∀ ds M Q, sp_law_journal ds M Q → t_law_journal (retD Q) (startA 7 ds) M := by
  rintro ds M Q ⟨p, q, h, many, rfl, hd, hh, k⟩
  have i0 : atI [dn h.par, dn h.size, dn h.rows, dn h.width, dn h.moved, dn h.spares] 0 = some (dn h.par) := rfl
  have i1 : atI [dn h.par, dn h.size, dn h.rows, dn h.width, dn h.moved, dn h.spares] 1 = some (dn h.size) := rfl
  have i2 : atI [dn h.par, dn h.size, dn h.rows, dn h.width, dn h.moved, dn h.spares] 2 = some (dn h.rows) := rfl
  have r1 := hh.rows1
  have r2 := hh.rows2
  have s2 := hh.size2
  have w1 := hh.width1
  have w2 := hh.width2
  have wm := hh.many
  decreasing_tactic
  intro r hr
  have rp := hd.nep hr
  have rq := hd.neq hr
  have dr := hd.put (c := .lst []) rp rq
  have tail : ∀ (w m : Nat) (d1 d2 : Dv) (x4 x5 : Option Dv) (M1 : Ms) (js : List Note), d1 = dn w → d2 = dn m → WidthsOk w m h.par h.rows many → DPot p q M1 → But p q M (mdel M1 r) → M1 r = some (.lst (js.map nD)) → js.length ≤ 9 → (∀ n ∈ js, ∃ d r b, n = .block d r b ∧ d < many ∧ r < h.rows ∧ BlkOk' b h.size) →
      tk_law_journal_4 (retD Q) [some (.ref p), some h.d, some (dn many), some (.ref r), x4, x5, some (.tup [d1, d2])] M1 := by
    intro w m d1 d2 x4 x5 M1 js e1 e2 hw hd hb hl hlen hbs
    subst e1 e2
    decreasing_tactic
    (refine ⟨_, _, _, rfl, by assumption, (by infer_instance), (by infer_instance), fun a Ma da ba la => ?_⟩; decreasing_tactic)
    have hl2 := ba.at rp rq hl
    by_cases ha : a = 0
    · subst ha
      decreasing_tactic
      have e : List.map nD js ++ [Dv.tup ([Dv.str ("end" : Str), Dv.int ((List.map nD js).length : Int)] ++ [dn w, dn m])] = (js ++ [Note.fin js.length w m]).map nD := by simp [nD]
      rw [e]
      refine retSub mdel_sub (k (js ++ [.fin js.length w m]) _ ((da.put rp rq).del rp rq) ?_ (jok_end hlen hbs hw))
      rw [mdel_put]
      exact hb.trans ba.mdel2
    · decreasing_tactic
      exact retSub mdel_sub (k js _ (da.del rp rq) (hb.trans ba.mdel2) (jok_blocks (by omega) hbs))
  decreasing_tactic
  (refine ⟨_, _, _, _, rfl, by assumption, (by infer_instance), (by infer_instance), (by infer_instance), (by infer_instance), fun z Mz dz bz lz => ?_⟩; decreasing_tactic)
  refine forW_inv (fun i ρ M' => ∃ x4 x5, ∃ js : List Note, ρ = [some (.ref p), some h.d, some (dn many), some (.ref r), x4, x5, none] ∧ DPot p q M' ∧ But p q M (mdel M' r) ∧ M' r = some (.lst (js.map nD)) ∧ js.length = i ∧ ∀ n ∈ js, ∃ d r b, n = .block d r b ∧ d < many ∧ r < h.rows ∧ BlkOk' b h.size) ⟨none, none, [], rfl, dz, ?_, bz.at rp rq mup_same, rfl, fun o ho => by simp at ho⟩ (fun _ _ _ _ _ => trivial) ?_ ?_
  · have b1 := bz.mdel2 (r := r)
    rw [mdel_put] at b1
    exact ((But.refl p q M).del hr).trans b1
  · rintro i d ρ M' hi ⟨x4, x5, js, rfl, hd, hb, hl, hlen, hbs⟩
    obtain ⟨hi, rfl⟩ := rangeA_get hi
    decreasing_tactic
    (refine ⟨_, _, _, rfl, by assumption, (by infer_instance), (by infer_instance), fun a Ma da ba la => ?_⟩; decreasing_tactic)
    have hla := ba.at rp rq hl
    decreasing_tactic
    (refine ⟨_, _, _, rfl, by assumption, (by infer_instance), (by infer_instance), fun b Mb db bb lb => ?_⟩; decreasing_tactic)
    refine ⟨p, q, h.size, rfl, db, by omega, fun blk Mc dc bc okb => ?_⟩
    have hl2 := bc.at rp rq (bb.at rp rq hla)
    decreasing_tactic
    refine wk_of ⟨_, _, js ++ [.block a b blk], rfl, dc.put rp rq, ?_, ?_, by simp [hlen], fun n hn => ?_⟩
    · rw [mdel_put]
      exact hb.trans ((ba.trans (bb.trans bc)).mdel2)
    · rw [mup_same]; simp [nD]
    · rcases List.mem_append.mp hn with h3 | h3
      · exact hbs n h3
      · rw [List.mem_singleton.mp h3]; exact ⟨_, _, _, rfl, by omega, by omega, okb⟩
  · rintro ρ M' ⟨x4, x5, js, rfl, hd, hb, hl, hlen, hbs⟩
    rw [rangeA_len] at hlen
    have hmax : (z : Int) ≤ 9 := by omega
    decreasing_tactic
    by_cases hm : (h.par : Int) + 1 < many
    · refine onIf_decT hm ?_
      decreasing_tactic
      (refine ⟨_, _, _, rfl, by assumption, (by infer_instance), (by infer_instance), fun a Ma da ba la => ?_⟩; decreasing_tactic)
      have hl2 := ba.at rp rq hl
      by_cases ha : a = 0
      · subst ha
        decreasing_tactic
        refine ⟨_, _, _, rfl, by assumption, (by infer_instance), (by infer_instance), fun b Mb db bb lb => ?_⟩
        refine ⟨show 2 ≤ sizeLine by decide, ?_⟩
        exact tail (many - 1) b _ _ _ _ Mb js (by show Dv.int ((many : Int) - 1) = Dv.int ((many - 1 : Nat) : Int); congr 1; omega) rfl ⟨by omega, by omega, .inr ⟨by omega, by omega, by omega⟩⟩ db (hb.trans (ba.trans bb).mdel2) (bb.at rp rq hl2) (by omega) hbs
      · decreasing_tactic
        exact tail many 0 _ _ _ _ Ma js rfl rfl ⟨by omega, by omega, .inl ⟨rfl, rfl⟩⟩ da (hb.trans ba.mdel2) hl2 (by omega) hbs
    · refine onIf_decF hm ?_
      decreasing_tactic
      exact tail many 0 _ _ _ _ M' js rfl rfl ⟨by omega, by omega, .inl ⟨rfl, rfl⟩⟩ hd hb hl (by omega) hbs
theorem ok_law_journal (T : Tx K mg) : FnA P w K mg base 3 T.f_law_journal T.d_law_journal [("_law_pot_here" : Str), ("_law_head_here" : Str), ("_law_many" : Str)] sp_law_journal :=
  fnA T.F_law_journal sc_law_journal len_law_journal (fun cdv A outer s H E hr => by
    have hu1 := hu_of hr
    have hu64 := hr.units
    exact (ass_cons (as_set 3 sc_law_journal.nd (ae_lst aa_nil))
    (ass_cons (as_for PassesOwn.never rfl (ai_range1 T.n_range (aa_cons (ae_call (ok_law_count T) (hr.mono (by decide)) T.m_law_count T.F_law_count.kp T.b_law_count (aa_cons (av 0) (aa_cons ae_int (aa_cons ae_int aa_nil)))) aa_nil)) (ag_name 4 sc_law_journal.nd) (ass_cons (as_set 5 sc_law_journal.nd (ae_call (ok_law_next T) (hr.mono (by decide)) T.m_law_next T.F_law_next.kp T.b_law_next (aa_cons (av 0) (aa_cons (av 2) aa_nil))))
    (ass_one (as_expr (ae_append (av 3) (aa_cons (ae_tup (aa_cons ae_str (aa_cons (av 5) (aa_cons (ae_call (ok_law_next T) (hr.mono (by decide)) T.m_law_next T.F_law_next.kp T.b_law_next (aa_cons (av 0) (aa_cons (ae_ix hu1 (av 1) ae_int) aa_nil))) (aa_cons (ae_call (ok_law_block T) (hr.mono (by decide)) T.m_law_block T.F_law_block.kp T.b_law_block (aa_cons (av 0) (aa_cons (ae_ix hu1 (av 1) ae_int) aa_nil))) aa_nil))))) aa_nil))))))
    (ass_cons (as_set 6 sc_law_journal.nd (ae_tup (aa_cons (av 2) (aa_cons ae_int aa_nil))))
    (ass_cons (as_if (AW.pt (aw_and (at_gt (av 2) (ae_add (ae_ix hu1 (av 1) ae_int) ae_int)) (aw_and1 (at_eq hu64 (ae_call (ok_law_next T) (hr.mono (by decide)) T.m_law_next T.F_law_next.kp T.b_law_next (aa_cons (av 0) (aa_cons ae_int aa_nil))) ae_int)))) (ass_one (as_set 6 sc_law_journal.nd (ae_tup (aa_cons (ae_sub (av 2) ae_int) (aa_cons (ae_call (ok_law_next T) (hr.mono (by decide)) T.m_law_next T.F_law_next.kp T.b_law_next (aa_cons (av 0) (aa_cons (ae_ix hu1 (av 1) ae_int) aa_nil))) aa_nil))))) ass_nil)
    (ass_cons (as_if (at_eq hu64 (ae_call (ok_law_next T) (hr.mono (by decide)) T.m_law_next T.F_law_next.kp T.b_law_next (aa_cons (av 0) (aa_cons ae_int aa_nil))) ae_int) (ass_one (as_expr (ae_append (av 3) (aa_cons (ae_add (ae_tup (aa_cons ae_str (aa_cons (ae_callB call_len abc_len (aa_cons (av 3) aa_nil) T.n_len boot_len) aa_nil))) (av 6)) aa_nil)))) ass_nil)
    (ass_one (as_ret (ae_callTy call_tuple_of abc_tup (aa_cons (av 3) aa_nil) T.n_tuple boot_tuple))))))))) spec_law_journal
def sp_law_store : ASp := fun ds M Q => ∃ p q, ds = [.ref p] ∧ DPot p q M ∧
  ∀ (s : Store) M', DPot p q M' → But p q M M' → s.Ok → s.journal.length ≤ 10 → Q s.d M'
def tk_law_store_2 : RS := (aRet (aTup (aCons (aVar 1) (aCons (aVar 3) (aCons (aCall sp_law_journal (aCons (aVar 0) (aCons (aVar 1) (aCons (aVar 2) aNil)))) aNil)))))
def tk_law_store_1 : RS := aSeq (aAsg (aFn acTup (aCons (aFz (aLc (aiR1 (aCons (aVar 2) aNil)) (.nm 4) [4] aYes (aCall sp_law_disk (aCons (aVar 0) (aCons (aVar 1) aNil))))) aNil)) (agName 3)) (tk_law_store_2)
def t_law_store : RS := aSeq (aAsg (aCall sp_law_head (aCons (aVar 0) aNil)) (agTup 2 (agCons (agName 1) (agCons (agName 2) agNil)))) (tk_law_store_1)
theorem len_law_store : ∀ ds M Q, sp_law_store ds M Q → ds.length = 1 := by
  rintro ds M Q ⟨p, q, rfl, _⟩
  rfl
theorem spec_law_store : ∀ ds M Q, sp_law_store ds M Q → t_law_store (retD Q) (startA 5 ds) M := by
  rintro ds M Q ⟨p, q, rfl, hd, k⟩
  decreasing_tactic
  refine ⟨p, q, rfl, hd, fun h many Ma da ba hh => ?_⟩
  have wm := hh.many
  have w2 := hh.width2
  decreasing_tactic
  intro r hr
  have rp := da.nep hr
  have rq := da.neq hr
  refine lcW_inv (fun i M' => ∃ ks : List Disk, DPot p q M' ∧ But p q Ma (mdel M' r) ∧ M' r = some (.lst (ks.map kD)) ∧ ks.length = i ∧ ∀ k ∈ ks, DiskOk k h.size h.rows) ⟨[], da.put rp rq, ?_, mup_same, rfl, fun o ho => by simp at ho⟩ (fun _ _ _ _ => trivial) ?_ ?_
  · rw [mdel_put]; exact (But.refl p q Ma).del hr
  · rintro i d M' hi ⟨ks, hd, hb, hl, hlen, hks⟩
    obtain ⟨hi, rfl⟩ := rangeA_get hi
    refine ⟨_, rfl, ?_⟩
    decreasing_tactic
    refine ⟨p, q, h, many, rfl, hd, hh, fun kk Mb db bb okk => ?_⟩
    have hl2 := bb.at rp rq hl
    refine ⟨_, hl2, lt_line (by simp; omega), _, Sub.refl _, ks ++ [kk], db.put rp rq, ?_, ?_, by simp [hlen], fun k2 hk2 => ?_⟩
    · rw [mdel_put]; exact hb.trans bb.mdel2
    · rw [mup_same]; simp
    · rcases List.mem_append.mp hk2 with h3 | h3
      · exact hks k2 h3
      · rw [List.mem_singleton.mp h3]; exact okk
  · rintro M' ⟨ks, hd, hb, hl, hlen, hks⟩
    rw [rangeA_len] at hlen
    have hlen : ks.length = many := by omega
    refine fz_del hl ?_
    decreasing_tactic
    refine ⟨p, q, h, many, rfl, hd.del rp rq, hh, fun js Mc dc bc okj => ?_⟩
    decreasing_tactic
    have e : Dv.tup [h.d, .tup (ks.map kD), .tup (js.map nD)] = (⟨h, ks, js⟩ : Store).d := rfl
    rw [e]
    exact retEnd (k ⟨h, ks, js⟩ _ dc (ba.trans (hb.trans bc)) ⟨by rw [hlen]; exact hh, hks, fun i n e => by rw [hlen]; exact okj.note i n e⟩ okj.len)
theorem ok_law_store (T : Tx K mg) : FnA P w K mg base 4 T.f_law_store T.d_law_store [("_law_pot_here" : Str)] sp_law_store :=
  fnA T.F_law_store sc_law_store len_law_store (fun cdv A outer s H E hr => by
    have hu1 := hu_of hr
    have hu64 := hr.units
    exact (ass_cons (as_asg (ae_call (ok_law_head T) (hr.mono (by decide)) T.m_law_head T.F_law_head.kp T.b_law_head (aa_cons (av 0) aa_nil)) (ag_tup rfl (ags_cons (ag_name 1 sc_law_store.nd) (ags_cons (ag_name 2 sc_law_store.nd) ags_nil))))
    (ass_cons (as_set 3 sc_law_store.nd (ae_callTy call_tuple_of abc_tup (aa_cons (ae_fz (ae_lc (own := [(("_law_k" : Str), 4)]) (tg := (.nm 4)) (by decide) rfl sc_law_store.nd (ai_range1 T.n_range (aa_cons (av 2) aa_nil)) (blkOk_by (own := [(("_law_k" : Str), 4)]) (N := N_law_store) (sc := defScope s_law_store) (by decide +kernel)) (fun _ _ _ _ _ => (pgt_name 4 sc_law_store.nd)) (fun _ _ _ _ _ => ats_nil) (fun _ _ _ _ _ => (ae_call (ok_law_disk T) (hr.mono (by decide)) T.m_law_disk T.F_law_disk.kp T.b_law_disk (aa_cons (av 0) (aa_cons (av 1) aa_nil)))))) aa_nil) T.n_tuple boot_tuple))
    (ass_one (as_ret (ae_tup (aa_cons (av 1) (aa_cons (av 3) (aa_cons (ae_call (ok_law_journal T) (hr.mono (by decide)) T.m_law_journal T.F_law_journal.kp T.b_law_journal (aa_cons (av 0) (aa_cons (av 1) (aa_cons (av 2) aa_nil)))) aa_nil))))))))) spec_law_store
def sp_byte_text : ASp := fun ds M Q => ∃ b : Nat, ds = [dn b] ∧ b < 256 ∧ Q (.str (byteT b)) M
def t_byte_text : RS := (aRet (aOp aAdd (aOp aIx (aC (.str ("0123456789abcdef" : Str))) (aOp aDiv (aVar 0) (aC (.int 16)))) (aOp aIx (aC (.str ("0123456789abcdef" : Str))) (aOp aMod (aVar 0) (aC (.int 16))))))
theorem len_byte_text : ∀ ds M Q, sp_byte_text ds M Q → ds.length = 1 := by
  rintro ds M Q ⟨b, rfl, _⟩
  rfl
theorem spec_byte_text : ∀ ds M Q, sp_byte_text ds M Q → t_byte_text (retD Q) (startA 1 ds) M := by
  rintro ds M Q ⟨b, rfl, hb, k⟩
  have e1 : (b : Int) / 16 = ((b / 16 : Nat) : Int) := (Int.natCast_ediv _ _).symm
  have e2 : (b : Int) % 16 = ((b % 16 : Nat) : Int) := (Int.natCast_emod _ _).symm
  have f1 : atI ("0123456789abcdef" : Str).cps.toList ((b / 16 : Nat) : Int) = some (figS.cps.toList.getD (b / 16) 0) := fig_at (by omega)
  have f2 : atI ("0123456789abcdef" : Str).cps.toList ((b % 16 : Nat) : Int) = some (figS.cps.toList.getD (b % 16) 0) := fig_at (by omega)
  have lf : ("0123456789abcdef" : Str).length ≤ sizeLine := le_line (by decide)
  decreasing_tactic
  rw [e1]
  ((repeat ((conv => whnf); simp only [lenA_r, itemsA_r, lstA_r, lstC_s, Option.map_some, atI_0, ixN_0, mup_same, mup_mup, true_and, and_true, List.map_cons, List.map_nil, List.length_cons, List.length_map, List.length_nil, List.set_cons_zero, List.set_cons_succ, List.cons_append, List.nil_append, List.getElem?_cons_zero, List.getElem?_cons_succ, f1])); (conv => whnf))
  decreasing_tactic
  rw [e2]
  ((repeat ((conv => whnf); simp only [lenA_r, itemsA_r, lstA_r, lstC_s, Option.map_some, atI_0, ixN_0, mup_same, mup_mup, true_and, and_true, List.map_cons, List.map_nil, List.length_cons, List.length_map, List.length_nil, List.set_cons_zero, List.set_cons_succ, List.cons_append, List.nil_append, List.getElem?_cons_zero, List.getElem?_cons_succ, f2])); (conv => whnf))
  refine ⟨le_line (show 1 + 1 ≤ 1000000 by decide), ?_⟩
  exact retEnd k
theorem ok_byte_text (T : Tx K mg) : FnA P w K mg base 1 T.f_byte_text T.d_byte_text [("byte" : Str)] sp_byte_text :=
  fnA T.F_byte_text sc_byte_text len_byte_text (fun cdv A outer s H E hr => by
    have hu1 := hu_of hr
    have hu64 := hr.units
    exact (ass_one (as_ret (ae_add (ae_ix hu1 (ae_gstr rfl T.c_FIGURES.choose_spec) (ae_div (av 0) ae_int)) (ae_ix hu1 (ae_gstr rfl T.c_FIGURES.choose_spec) (ae_mod (av 0) ae_int)))))) spec_byte_text
def sp_block_text : ASp := fun ds M Q => ∃ o : Option Blk, ds = [oD o] ∧ (∀ b, o = some b → b.length ≤ 16 ∧ ∀ x ∈ b, x < 256) ∧ Q (.str (oT o)) M
def tk_block_text_1 : RS := (aRet (aMth "str" amJoin (aC (.str ("" : Str))) (aCons (aFz (aLc (aiSeq (aVar 0)) (.nm 1) [1] aYes (aCall sp_byte_text (aCons (aVar 1) aNil)))) aNil)))
def t_block_text : RS := aSeq (aIfS (aB (aOp aIs (aVar 0) (aC .non))) (aRet (aC (.str ("-" : Str)))) aNext) (tk_block_text_1)
theorem len_block_text : ∀ ds M Q, sp_block_text ds M Q → ds.length = 1 := by
  rintro ds M Q ⟨b, rfl, _⟩
  rfl
theorem spec_block_text : ∀ ds M Q, sp_block_text ds M Q → t_block_text (retD Q) (startA 2 ds) M := by
  rintro ds M Q ⟨o, rfl, hb, k⟩
  cases o with
  | none =>
    decreasing_tactic
    exact retEnd k
  | some b =>
    obtain ⟨bl, bb⟩ := hb b rfl
    decreasing_tactic
    refine ⟨by first | trivial | rfl | decide, ?_⟩
    decreasing_tactic
    refine lcF (fun i => .str (byteT (b.getD i 0))) (fun _ => rfl) (le_line (show (b.map fun n => dn n).length ≤ 1000000 by rw [List.length_map]; exact Nat.le_trans bl (by decide))) (fun i d hi M' N hs q => ?_) ?_
    · rw [List.getElem?_map] at hi
      obtain ⟨x, hx, rfl⟩ := Option.map_eq_some_iff.mp hi
      have e : b.getD i 0 = x := by rw [List.getD_eq_getElem?_getD, hx]; rfl
      rw [e] at q
      refine ⟨_, rfl, ?_⟩
      decreasing_tactic
      exact ⟨x, rfl, bb x (List.mem_of_getElem? hx), q⟩
    · have e : (List.range (b.map fun n => dn n).length).map (fun i => Dv.str (byteT (b.getD i 0))) = (b.map byteT).map Dv.str := by
        rw [List.length_map, List.map_map]
        refine List.ext_getElem (by simp) fun i h1 h2 => ?_
        simp at h1
        simp [List.getD, h1]
      rw [e]
      have sz : ((b.map byteT).map (·.length)).sum + (b.map byteT).length * ("" : Str).length ≤ 16777216 := by
        have h2 := sum_le (ys := b.map byteT) (B := 2) fun y hy => by
          obtain ⟨x, _, rfl⟩ := List.mem_map.mp hy
          rw [len_byteT]
          exact Nat.le_refl _
        have h3 : ("" : Str).length = 0 := by decide
        rw [h3, Nat.mul_zero]
        rw [List.length_map] at h2
        omega
      decreasing_tactic
      refine ⟨b.map byteT, rfl, sz, ?_⟩
      exact retEnd k
theorem ok_block_text (T : Tx K mg) : FnA P w K mg base 2 T.f_block_text T.d_block_text [("block" : Str)] sp_block_text :=
  fnA T.F_block_text sc_block_text len_block_text (fun cdv A outer s H E hr => by
    have hu1 := hu_of hr
    have hu64 := hr.units
    exact (ass_cons (as_if (at_is (av 0) ae_non) (ass_one (as_ret ae_str)) ass_nil)
    (ass_one (as_ret (ae_join ae_str (aa_cons (ae_fz (ae_lc (own := [(("byte" : Str), 1)]) (tg := (.nm 1)) (by decide) rfl sc_block_text.nd (ai_seq (av 0)) (blkOk_by (own := [(("byte" : Str), 1)]) (N := N_block_text) (sc := defScope s_block_text) (by decide +kernel)) (fun _ _ _ _ _ => (pgt_name 1 sc_block_text.nd)) (fun _ _ _ _ _ => ats_nil) (fun _ _ _ _ _ => (ae_call (ok_byte_text T) (hr.mono (by decide)) T.m_byte_text T.F_byte_text.kp T.b_byte_text (aa_cons (av 1) aa_nil))))) aa_nil)))))) spec_block_text
def sp_disk_text : ASp := fun ds M Q => ∃ k : Disk, ∃ size rows : Nat, ds = [kD k] ∧ DiskOk k size rows ∧ size ≤ 16 ∧ rows ≤ 24 ∧ Q (.str (diskT k)) M
def tk_disk_text_1 : RS := (aRet (aMth "str" amJoin (aC (.str (" " : Str))) (aCons (aFz (aOp aAdd (aLst (aCons (aC (.str ("disk" : Str))) aNil)) (aLc (aiSeq (aVar 0)) (.nm 1) [1] aYes (aCall sp_block_text (aCons (aVar 1) aNil))))) aNil)))
def t_disk_text : RS := aSeq (aIfS (aB (aOp aIs (aVar 0) (aC .non))) (aRet (aC (.str ("lost" : Str)))) aNext) (tk_disk_text_1)
theorem len_disk_text : ∀ ds M Q, sp_disk_text ds M Q → ds.length = 1 := by
  rintro ds M Q ⟨b, _, _, rfl, _⟩
  rfl
theorem spec_disk_text : ∀ ds M Q, sp_disk_text ds M Q → t_disk_text (retD Q) (startA 2 ds) M := by
  rintro ds M Q ⟨k0, size, rows, rfl, ok, z2, r2, k⟩
  cases k0 with
  | none =>
    decreasing_tactic
    exact retEnd k
  | some bs =>
    obtain ⟨bl, bb⟩ := ok bs rfl
    have bw : ∀ o ∈ bs, ∀ b, o = some b → b.length ≤ 16 ∧ ∀ x ∈ b, x < 256 := fun o ho b hb => by
      obtain ⟨h1, h2⟩ := bb o ho b hb
      exact ⟨by rw [h1]; exact z2, h2⟩
    have sz := size_disk (bs := bs) (by omega) bw
    decreasing_tactic
    refine ⟨rfl, ?_⟩
    decreasing_tactic
    intro D hD
    decreasing_tactic
    intro E hE
    have lD : mup M D (.lst [.str ("disk" : Str)]) D = some (.lst [.str ("disk" : Str)]) := mup_same
    have s1 : HC.Sub M (mup M D (.lst [.str ("disk" : Str)])) := HC.Sub.new hD
    generalize mup M D (.lst [.str ("disk" : Str)]) = M1 at lD hE s1 ⊢
    refine lcW_inv (fun i M' => M' = mup M1 E (.lst ((bs.take i).map fun o => Dv.str (oT o)))) rfl (fun _ _ _ _ => rfl) ?_ ?_
    · rintro i d M' hi rfl
      rw [List.getElem?_map] at hi
      obtain ⟨o, ho, rfl⟩ := Option.map_eq_some_iff.mp hi
      have et : bs.take (i + 1) = bs.take i ++ [o] := by rw [List.take_add_one, ho]; rfl
      have lt : (bs.take i).length ≤ 24 := Nat.le_trans (List.length_take_le' _ _) (by omega)
      refine ⟨_, rfl, ?_⟩
      decreasing_tactic
      refine ⟨o, rfl, bw o (List.mem_of_getElem? ho), ?_⟩
      decreasing_tactic
      refine ⟨_, mup_same, lt_line (by rw [List.length_map]; omega), _, HC.Sub.refl _, ?_⟩
      rw [mup_mup, et, List.map_append]
      rfl
    · rintro M' rfl
      rw [List.length_map, List.take_length]
      have lD2 := look_new (x := .lst (bs.map fun o => Dv.str (oT o))) lD hE
      have lE : mup M1 E (.lst (bs.map fun o => Dv.str (oT o))) E = some (.lst (bs.map fun o => Dv.str (oT o))) := mup_same
      have s2 : HC.Sub M1 (mup M1 E (.lst (bs.map fun o => Dv.str (oT o)))) := HC.Sub.new hE
      generalize mup M1 E (.lst (bs.map fun o => Dv.str (oT o))) = M2 at lD2 lE s2 ⊢
      have b24 : (bs.map fun o => Dv.str (oT o)).length ≤ 24 := by rw [List.length_map]; omega
      decreasing_tactic
      refine ⟨_, _, lD2, lE, le_line (show 1 + _ ≤ 1000000 by omega), fun G hG => fz_new hG ?_⟩
      decreasing_tactic
      refine ⟨("disk" : Str) :: bs.map oT, by rw [List.map_cons, List.map_map]; rfl, Nat.le_trans sz (by decide), ?_⟩
      exact ⟨M, s1.trans s2, k⟩
theorem ok_disk_text (T : Tx K mg) : FnA P w K mg base 3 T.f_disk_text T.d_disk_text [("disk" : Str)] sp_disk_text :=
  fnA T.F_disk_text sc_disk_text len_disk_text (fun cdv A outer s H E hr => by
    have hu1 := hu_of hr
    have hu64 := hr.units
    exact (ass_cons (as_if (at_is (av 0) ae_non) (ass_one (as_ret ae_str)) ass_nil)
    (ass_one (as_ret (ae_join ae_str (aa_cons (ae_fz (ae_add (ae_lst (aa_cons ae_str aa_nil)) (ae_lc (own := [(("block" : Str), 1)]) (tg := (.nm 1)) (by decide) rfl sc_disk_text.nd (ai_seq (av 0)) (blkOk_by (own := [(("block" : Str), 1)]) (N := N_disk_text) (sc := defScope s_disk_text) (by decide +kernel)) (fun _ _ _ _ _ => (pgt_name 1 sc_disk_text.nd)) (fun _ _ _ _ _ => ats_nil) (fun _ _ _ _ _ => (ae_call (ok_block_text T) (hr.mono (by decide)) T.m_block_text T.F_block_text.kp T.b_block_text (aa_cons (av 1) aa_nil)))))) aa_nil)))))) spec_disk_text
def sp_note_text : ASp := fun ds M Q => ∃ n : Note, ds = [nD n] ∧ NtOk n ∧ Q (.str (noteT n)) M
def tk_note_text_1 : RS := (aRet (aMth "str" amJoin (aC (.str (" " : Str))) (aCons (aFz (aLst (aCons (aC (.str ("note" : Str))) (aCons (aFn acStr (aCons (aOp aIx (aVar 0) (aC (.int 1))) aNil)) (aCons (aFn acStr (aCons (aOp aIx (aVar 0) (aC (.int 2))) aNil)) (aCons (aCall sp_block_text (aCons (aOp aIx (aVar 0) (aC (.int 3))) aNil)) aNil)))))) aNil)))
def t_note_text : RS := aSeq (aIfS (aB (aOp aEq (aOp aIx (aVar 0) (aC (.int 0))) (aC (.str ("end" : Str))))) (aRet (aMth "str" amJoin (aC (.str (" " : Str))) (aCons (aFz (aOp aAdd (aLst (aCons (aC (.str ("end" : Str))) aNil)) (aLc (aiSeq (aFz (aSl (aVar 0) (aoS (aC (.int 1))) aoN))) (.nm 1) [1] aYes (aFn acStr (aCons (aVar 1) aNil))))) aNil))) aNext) (tk_note_text_1)
theorem len_note_text : ∀ ds M Q, sp_note_text ds M Q → ds.length = 1 := by
  rintro ds M Q ⟨b, rfl, _⟩
  rfl
theorem spec_note_text : ∀ ds M Q, sp_note_text ds M Q → t_note_text (retD Q) (startA 2 ds) M := by
  rintro ds M Q ⟨n, rfl, ok, k⟩
  have pB : Pl 9 (Dv.str ("block" : Str)) := by show PyData.canLay0 (.str ("block" : Str)) = true; decide +kernel
  have pE : Pl 9 (Dv.str ("end" : Str)) := by show PyData.canLay0 (.str ("end" : Str)) = true; decide +kernel
  have no : ¬ Dv.str ("block" : Str) = Dv.str ("end" : Str) := fun e => by injection e with e; exact absurd e (by decide +kernel)
  cases n with
  | block d r b =>
    obtain ⟨o1, o2, o3, o4⟩ := ok
    have sz := size_note (d := d) (r := r) (b := b) o1 o2 o3
    have l1 := log_num o1
    have l2 := log_num o2
    have i3 : atI [Dv.str ("block" : Str), dn d, dn r, bD b] 3 = some (oD (some b)) := rfl
    decreasing_tactic
    refine ⟨rfl, ?_⟩
    decreasing_tactic
    refine ⟨some b, rfl, fun b' e => (by cases e; exact ⟨o3, o4⟩), ?_⟩
    decreasing_tactic
    refine ⟨_, rfl, Nat.le_trans sz (by decide), ?_⟩
    exact retEnd k
  | fin a w m =>
    obtain ⟨o1, o2, o3⟩ := ok
    have sz := size_end (a := a) (w := w) (m := m) o1 o2 o3
    have l1 := log_num o1
    have l2 := log_num o2
    have l3 := log_num o3
    have nsL : ([a, w, m] : List Nat).length = 3 := rfl
    have nsO : ∀ x ∈ [a, w, m], x < 10000000000 := fun x hx => by
      simp only [List.mem_cons, List.not_mem_nil, or_false] at hx
      rcases hx with rfl | rfl | rfl <;> assumption
    decreasing_tactic
    refine ⟨rfl, ?_⟩
    decreasing_tactic
    intro D hD
    have lD : mup M D (.lst [.str ("end" : Str)]) D = some (.lst [.str ("end" : Str)]) := mup_same
    have s1 : HC.Sub M (mup M D (.lst [.str ("end" : Str)])) := HC.Sub.new hD
    generalize mup M D (.lst [.str ("end" : Str)]) = M1 at lD s1 ⊢
    have cE : cutA [Dv.str ("end" : Str), dn a, dn w, dn m] (some 1) none = ([a, w, m] : List Nat).map fun n => dn n := rfl
    decreasing_tactic
    rw [cE]
    decreasing_tactic
    intro E hE
    obtain ⟨ns, hns⟩ : ∃ ns : List Nat, ns = [a, w, m] := ⟨_, rfl⟩
    rw [← hns] at nsL nsO ⊢
    refine lcW_inv (fun i M' => M' = mup M1 E (.lst ((ns.take i).map fun (x : Nat) => Dv.str (strI (x : Int))))) rfl (fun _ _ _ _ => rfl) ?_ ?_
    · rintro i d M' hi rfl
      rw [List.getElem?_map] at hi
      obtain ⟨x, ho, rfl⟩ := Option.map_eq_some_iff.mp hi
      have et : ns.take (i + 1) = ns.take i ++ [x] := by rw [List.take_add_one, ho]; rfl
      have lt : (ns.take i).length ≤ 3 := Nat.le_trans (List.length_take_le' _ _) (by omega)
      have lx := log_num (nsO x (List.mem_of_getElem? ho))
      refine ⟨_, rfl, ?_⟩
      decreasing_tactic
      refine ⟨_, mup_same, lt_line (by rw [List.length_map]; omega), _, HC.Sub.refl _, ?_⟩
      rw [mup_mup, et, List.map_append]
      rfl
    · rintro M' rfl
      rw [List.length_map, List.take_length]
      have lD2 := look_new (x := .lst (ns.map fun (x : Nat) => Dv.str (strI (x : Int)))) lD hE
      have lE : mup M1 E (.lst (ns.map fun (x : Nat) => Dv.str (strI (x : Int)))) E = some (.lst (ns.map fun (x : Nat) => Dv.str (strI (x : Int)))) := mup_same
      have s2 : HC.Sub M1 (mup M1 E (.lst (ns.map fun (x : Nat) => Dv.str (strI (x : Int))))) := HC.Sub.new hE
      generalize mup M1 E (.lst (ns.map fun (x : Nat) => Dv.str (strI (x : Int)))) = M2 at lD2 lE s2 ⊢
      have b24 : (ns.map fun (x : Nat) => Dv.str (strI (x : Int))).length ≤ 3 := by rw [List.length_map]; omega
      decreasing_tactic
      refine ⟨_, _, lD2, lE, le_line (show 1 + _ ≤ 1000000 by omega), fun G hG => fz_new hG ?_⟩
      decreasing_tactic
      refine ⟨[("end" : Str), strI a, strI w, strI m], by rw [hns]; rfl, Nat.le_trans sz (by decide), ?_⟩
      exact ⟨M, s1.trans s2, k⟩
theorem ok_note_text (T : Tx K mg) : FnA P w K mg base 3 T.f_note_text T.d_note_text [("note" : Str)] sp_note_text :=
  fnA T.F_note_text sc_note_text len_note_text (fun cdv A outer s H E hr => by
    have hu1 := hu_of hr
    have hu64 := hr.units
    exact (ass_cons (as_if (at_eq hu64 (ae_ix hu1 (av 0) ae_int) ae_str) (ass_one (as_ret (ae_join ae_str (aa_cons (ae_fz (ae_add (ae_lst (aa_cons ae_str aa_nil)) (ae_lc (own := [(("number" : Str), 1)]) (tg := (.nm 1)) (by decide) rfl sc_note_text.nd (ai_seq (ae_fz (ae_slice (av 0) (ao_some ae_int) ao_none))) (blkOk_by (own := [(("number" : Str), 1)]) (N := N_note_text) (sc := defScope s_note_text) (by decide +kernel)) (fun _ _ _ _ _ => (pgt_name 1 sc_note_text.nd)) (fun _ _ _ _ _ => ats_nil) (fun _ _ _ _ _ => (ae_callTy call_str_int abc_str (aa_cons (av 1) aa_nil) T.n_str boot_str))))) aa_nil)))) ass_nil)
    (ass_one (as_ret (ae_join ae_str (aa_cons (ae_fz (ae_lst (aa_cons ae_str (aa_cons (ae_callTy call_str_int abc_str (aa_cons (ae_ix hu1 (av 0) ae_int) aa_nil) T.n_str boot_str) (aa_cons (ae_callTy call_str_int abc_str (aa_cons (ae_ix hu1 (av 0) ae_int) aa_nil) T.n_str boot_str) (aa_cons (ae_call (ok_block_text T) (hr.mono (by decide)) T.m_block_text T.F_block_text.kp T.b_block_text (aa_cons (ae_ix hu1 (av 0) ae_int) aa_nil)) aa_nil)))))) aa_nil)))))) spec_note_text
def sp_show_store : ASp := fun ds M Q => ∃ s : Store, ds = [s.d] ∧ s.Ok ∧ s.journal.length ≤ 10 ∧ Q (.str (storeT s)) M
def tk_show_store_4 : RS := (aRet (aMth "str" amJoin (aC (.str ("\n" : Str))) (aCons (aVar 4) aNil)))
def tk_show_store_3 : RS := aSeq (aDrop (aMth "list" amExtA (aVar 4) (aCons (aLc (aiSeq (aVar 3)) (.nm 7) [7] aYes (aCall sp_note_text (aCons (aVar 7) aNil))) aNil))) (tk_show_store_4)
def tk_show_store_2 : RS := aSeq (aDrop (aMth "list" amExtA (aVar 4) (aCons (aLc (aiSeq (aVar 2)) (.nm 6) [6] aYes (aCall sp_disk_text (aCons (aVar 6) aNil))) aNil))) (tk_show_store_3)
def tk_show_store_1 : RS := aSeq (aAsg (aLst (aCons (aMth "str" amJoin (aC (.str (" " : Str))) (aCons (aFz (aOp aAdd (aLst (aCons (aC (.str ("store" : Str))) aNil)) (aLc (aiSeq (aVar 1)) (.nm 5) [5] aYes (aFn acStr (aCons (aVar 5) aNil))))) aNil)) aNil)) (agName 4)) (tk_show_store_2)
def t_show_store : RS := aSeq (aAsg (aVar 0) (agTup 3 (agCons (agName 1) (agCons (agName 2) (agCons (agName 3) agNil))))) (tk_show_store_1)
theorem len_show_store : ∀ ds M Q, sp_show_store ds M Q → ds.length = 1 := by
  rintro ds M Q ⟨b, rfl, _⟩
  rfl
theorem spec_show_store : ∀ ds M Q, sp_show_store ds M Q → t_show_store (retD Q) (startA 8 ds) M := by
  rintro ds M Q ⟨s, rfl, ok, jl, k⟩
  have sz := size_head ok.head
  have szr := size_rows ok jl
  have many := ok.many_le
  show t_show_store (retD Q) (startA 8 [.tup [.tup (hdNs s.head |>.map fun n => dn n), .tup (s.disks.map kD), .tup (s.journal.map nD)]]) M
  have hO := hd_ok ok.head
  have hL : (hdNs s.head).length = 6 := rfl
  have eH : ([("store" : Str)] ++ (hdNs s.head).map fun (x : Nat) => strI (x : Int)) = [("store" : Str), strI s.head.par, strI s.head.size, strI s.head.rows, strI s.head.width, strI s.head.moved, strI s.head.spares] := rfl
  obtain ⟨ns, hns⟩ : ∃ ns, ns = hdNs s.head := ⟨_, rfl⟩
  rw [← hns] at hO hL eH ⊢
  decreasing_tactic
  refine ⟨rfl, ?_⟩
  decreasing_tactic
  intro D hD
  have lD : mup M D (.lst [.str ("store" : Str)]) D = some (.lst [.str ("store" : Str)]) := mup_same
  have s1 : HC.Sub M (mup M D (.lst [.str ("store" : Str)])) := HC.Sub.new hD
  generalize mup M D (.lst [.str ("store" : Str)]) = M1 at lD s1 ⊢
  decreasing_tactic
  intro E hE
  refine lcW_inv (fun i M' => M' = mup M1 E (.lst ((ns.take i).map fun (x : Nat) => Dv.str (strI (x : Int))))) rfl (fun _ _ _ _ => rfl) ?_ ?_
  · rintro i d M' hi rfl
    rw [List.getElem?_map] at hi
    obtain ⟨x, ho, rfl⟩ := Option.map_eq_some_iff.mp hi
    have et : ns.take (i + 1) = ns.take i ++ [x] := by rw [List.take_add_one, ho]; rfl
    have lt : (ns.take i).length ≤ 6 := Nat.le_trans (List.length_take_le' _ _) (by omega)
    have lx := log_num (hO x (List.mem_of_getElem? ho))
    refine ⟨_, rfl, ?_⟩
    decreasing_tactic
    refine ⟨_, mup_same, lt_line (by rw [List.length_map]; omega), _, HC.Sub.refl _, ?_⟩
    rw [mup_mup, et, List.map_append]
    rfl
  · rintro M' rfl
    rw [List.length_map, List.take_length]
    have lD2 := look_new (x := .lst (ns.map fun (x : Nat) => Dv.str (strI (x : Int)))) lD hE
    have lE : mup M1 E (.lst (ns.map fun (x : Nat) => Dv.str (strI (x : Int)))) E = some (.lst (ns.map fun (x : Nat) => Dv.str (strI (x : Int)))) := mup_same
    have s2 : HC.Sub M (mup M1 E (.lst (ns.map fun (x : Nat) => Dv.str (strI (x : Int))))) := s1.trans (HC.Sub.new hE)
    generalize mup M1 E (.lst (ns.map fun (x : Nat) => Dv.str (strI (x : Int)))) = M2 at lD2 lE s2 ⊢
    have b24 : (ns.map fun (x : Nat) => Dv.str (strI (x : Int))).length ≤ 6 := by rw [List.length_map]; omega
    decreasing_tactic
    refine ⟨_, _, lD2, lE, le_line (show 1 + _ ≤ 1000000 by omega), fun G hG => fz_new hG ?_⟩
    decreasing_tactic
    refine ⟨[("store" : Str)] ++ ns.map fun (x : Nat) => strI (x : Int), by rw [List.map_append, List.map_map]; rfl, by rw [eH]; exact Nat.le_trans sz (by decide), ?_⟩
    rw [eH, show Txt.join (" " : Str) [("store" : Str), strI s.head.par, strI s.head.size, strI s.head.rows, strI s.head.width, strI s.head.moved, strI s.head.spares] = headT s.head from rfl]
    clear lD2 lE lD s1 hE hD b24
    decreasing_tactic
    intro R hR
    have RM : M R = none := by
      cases e : M R with
      | none => rfl
      | some c => have := s2 _ _ e; rw [hR] at this; cases this
    have lR : mup M2 R (.lst [.str (headT s.head)]) R = some (.lst [.str (headT s.head)]) := mup_same
    have s3 : HC.Sub M (mup M2 R (.lst [.str (headT s.head)])) := s2.trans (HC.Sub.new hR)
    generalize mup M2 R (.lst [.str (headT s.head)]) = M3 at lR s3 ⊢
    clear s2 hR
    have dl : s.disks.length ≤ 11 := by omega
    have nts := nt_ok ok jl
    have z2 := ok.head.size2
    have r2 := ok.head.rows2
    decreasing_tactic
    intro F hF
    refine lcW_inv (fun i M' => M' = mup M3 F (.lst ((s.disks.take i).map fun x => Dv.str (diskT x)))) rfl (fun _ _ _ _ => rfl) ?_ ?_
    · rintro i d M' hi rfl
      rw [List.getElem?_map] at hi
      obtain ⟨x, ho, rfl⟩ := Option.map_eq_some_iff.mp hi
      have et : s.disks.take (i + 1) = s.disks.take i ++ [x] := by rw [List.take_add_one, ho]; rfl
      have lt : (s.disks.take i).length ≤ 11 := Nat.le_trans (List.length_take_le' _ _) (by omega)
      have hx := List.mem_of_getElem? ho
      refine ⟨_, rfl, ?_⟩
      decreasing_tactic
      refine ⟨x, s.head.size, s.head.rows, rfl, ok.disks x hx, z2, r2, ?_⟩
      decreasing_tactic
      refine ⟨_, mup_same, lt_line (by rw [List.length_map]; omega), _, HC.Sub.refl _, ?_⟩
      rw [mup_mup, et, List.map_append]
      rfl
    rintro M' rfl
    rw [List.length_map, List.take_length]
    have lR4 := look_new (x := .lst (s.disks.map fun x => Dv.str (diskT x))) lR hF
    have lF : mup M3 F (.lst (s.disks.map fun x => Dv.str (diskT x))) F = some (.lst (s.disks.map fun x => Dv.str (diskT x))) := mup_same
    have s4 : HC.Sub M (mup M3 F (.lst (s.disks.map fun x => Dv.str (diskT x)))) := s3.trans (HC.Sub.new hF)
    generalize mup M3 F (.lst (s.disks.map fun x => Dv.str (diskT x))) = M4 at lR4 lF s4 ⊢
    clear lR s3 hF
    have q4 : (s.disks.map fun x => Dv.str (diskT x)).length ≤ 11 := by rw [List.length_map]; omega
    decreasing_tactic
    ((repeat ((conv => whnf); simp only [lenA_r, itemsA_r, lstA_r, lstC_s, Option.map_some, atI_0, ixN_0, mup_same, mup_mup, true_and, and_true, List.map_cons, List.map_nil, List.length_cons, List.length_map, List.length_nil, List.set_cons_zero, List.set_cons_succ, List.cons_append, List.nil_append, List.getElem?_cons_zero, List.getElem?_cons_succ, lR4, lF])); (conv => whnf))
    have putR : ∀ (Mx : Ms) (c : Cell), HC.Sub M Mx → HC.Sub M (mup Mx R c) := fun Mx c h a d e => by
      rw [mup_ne (ne_of_new e RM)]
      exact h _ _ e
    intro G hG
    have lR5 : mup M4 R (.lst (Dv.str (headT s.head) :: s.disks.map fun x => Dv.str (diskT x))) R = some (.lst (Dv.str (headT s.head) :: s.disks.map fun x => Dv.str (diskT x))) := mup_same
    have s5 := putR M4 (.lst (Dv.str (headT s.head) :: s.disks.map fun x => Dv.str (diskT x))) s4
    have q5 : (Dv.str (headT s.head) :: s.disks.map fun x => Dv.str (diskT x)).length ≤ 12 := by rw [List.length_cons]; omega
    generalize mup M4 R (.lst (Dv.str (headT s.head) :: s.disks.map fun x => Dv.str (diskT x))) = M5 at lR5 s5 hG ⊢
    clear lR4 lF s4
    refine lcW_inv (fun i M' => M' = mup M5 G (.lst ((s.journal.take i).map fun x => Dv.str (noteT x)))) rfl (fun _ _ _ _ => rfl) ?_ ?_
    · rintro i d M' hi rfl
      rw [List.getElem?_map] at hi
      obtain ⟨x, ho, rfl⟩ := Option.map_eq_some_iff.mp hi
      have et : s.journal.take (i + 1) = s.journal.take i ++ [x] := by rw [List.take_add_one, ho]; rfl
      have lt : (s.journal.take i).length ≤ 11 := Nat.le_trans (List.length_take_le' _ _) (by omega)
      have hx := List.mem_of_getElem? ho
      refine ⟨_, rfl, ?_⟩
      decreasing_tactic
      refine ⟨x, rfl, nts x hx, ?_⟩
      decreasing_tactic
      refine ⟨_, mup_same, lt_line (by rw [List.length_map]; omega), _, HC.Sub.refl _, ?_⟩
      rw [mup_mup, et, List.map_append]
      rfl
    rintro M' rfl
    rw [List.length_map, List.take_length]
    have lR6 := look_new (x := .lst (s.journal.map fun x => Dv.str (noteT x))) lR5 hG
    have lG : mup M5 G (.lst (s.journal.map fun x => Dv.str (noteT x))) G = some (.lst (s.journal.map fun x => Dv.str (noteT x))) := mup_same
    have s6 : HC.Sub M (mup M5 G (.lst (s.journal.map fun x => Dv.str (noteT x)))) := s5.trans (HC.Sub.new hG)
    generalize mup M5 G (.lst (s.journal.map fun x => Dv.str (noteT x))) = M6 at lR6 lG s6 ⊢
    have q6 : (s.journal.map fun x => Dv.str (noteT x)).length ≤ 10 := by rw [List.length_map]; omega
    have eA : (Dv.str (headT s.head) :: s.disks.map fun x => Dv.str (diskT x)) ++ (s.journal.map fun x => Dv.str (noteT x)) = (rowsT s).map Dv.str := by
      unfold rowsT
      rw [List.map_cons, List.map_append, List.map_map, List.map_map]
      rfl
    decreasing_tactic
    ((repeat ((conv => whnf); simp only [lenA_r, itemsA_r, lstA_r, lstC_s, Option.map_some, atI_0, ixN_0, mup_same, mup_mup, true_and, and_true, List.map_cons, List.map_nil, List.length_cons, List.length_map, List.length_nil, List.set_cons_zero, List.set_cons_succ, List.cons_append, List.nil_append, List.getElem?_cons_zero, List.getElem?_cons_succ, lR6, lG])); (conv => whnf))
    decreasing_tactic
    have lR7 : mup M6 R (.lst (Dv.str (headT s.head) :: ((s.disks.map fun x => Dv.str (diskT x)) ++ (s.journal.map fun x => Dv.str (noteT x))))) R = some (.lst (Dv.str (headT s.head) :: ((s.disks.map fun x => Dv.str (diskT x)) ++ (s.journal.map fun x => Dv.str (noteT x))))) := mup_same
    have s7 := putR M6 (.lst (Dv.str (headT s.head) :: ((s.disks.map fun x => Dv.str (diskT x)) ++ (s.journal.map fun x => Dv.str (noteT x))))) s6
    generalize mup M6 R (.lst (Dv.str (headT s.head) :: ((s.disks.map fun x => Dv.str (diskT x)) ++ (s.journal.map fun x => Dv.str (noteT x))))) = M7 at lR7 s7 ⊢
    refine ⟨rfl, ?_⟩
    decreasing_tactic
    ((repeat ((conv => whnf); simp only [lenA_r, itemsA_r, lstA_r, lstC_s, Option.map_some, atI_0, ixN_0, mup_same, mup_mup, true_and, and_true, List.map_cons, List.map_nil, List.length_cons, List.length_map, List.length_nil, List.set_cons_zero, List.set_cons_succ, List.cons_append, List.nil_append, List.getElem?_cons_zero, List.getElem?_cons_succ, lR7])); (conv => whnf))
    refine ⟨rowsT s, eA, Nat.le_trans szr (by decide), ?_⟩
    exact ⟨M, s7, k⟩
theorem ok_show_store (T : Tx K mg) : FnA P w K mg base 4 T.f_show_store T.d_show_store [("store" : Str)] sp_show_store :=
  fnA T.F_show_store sc_show_store len_show_store (fun cdv A outer s H E hr => by
    have hu1 := hu_of hr
    have hu64 := hr.units
    exact (ass_cons (as_asg (av 0) (ag_tup rfl (ags_cons (ag_name 1 sc_show_store.nd) (ags_cons (ag_name 2 sc_show_store.nd) (ags_cons (ag_name 3 sc_show_store.nd) ags_nil)))))
    (ass_cons (as_set 4 sc_show_store.nd (ae_lst (aa_cons (ae_join ae_str (aa_cons (ae_fz (ae_add (ae_lst (aa_cons ae_str aa_nil)) (ae_lc (own := [(("number" : Str), 5)]) (tg := (.nm 5)) (by decide) rfl sc_show_store.nd (ai_seq (av 1)) (blkOk_by (own := [(("number" : Str), 5)]) (N := N_show_store) (sc := defScope s_show_store) (by decide +kernel)) (fun _ _ _ _ _ => (pgt_name 5 sc_show_store.nd)) (fun _ _ _ _ _ => ats_nil) (fun _ _ _ _ _ => (ae_callTy call_str_int abc_str (aa_cons (av 5) aa_nil) T.n_str boot_str))))) aa_nil)) aa_nil)))
    (ass_cons (as_expr (ae_extA (av 4) (aa_cons (ae_lc (own := [(("disk" : Str), 6)]) (tg := (.nm 6)) (by decide) rfl sc_show_store.nd (ai_seq (av 2)) (blkOk_by (own := [(("disk" : Str), 6)]) (N := N_show_store) (sc := defScope s_show_store) (by decide +kernel)) (fun _ _ _ _ _ => (pgt_name 6 sc_show_store.nd)) (fun _ _ _ _ _ => ats_nil) (fun _ _ _ _ _ => (ae_call (ok_disk_text T) (hr.mono (by decide)) T.m_disk_text T.F_disk_text.kp T.b_disk_text (aa_cons (av 6) aa_nil)))) aa_nil)))
    (ass_cons (as_expr (ae_extA (av 4) (aa_cons (ae_lc (own := [(("note" : Str), 7)]) (tg := (.nm 7)) (by decide) rfl sc_show_store.nd (ai_seq (av 3)) (blkOk_by (own := [(("note" : Str), 7)]) (N := N_show_store) (sc := defScope s_show_store) (by decide +kernel)) (fun _ _ _ _ _ => (pgt_name 7 sc_show_store.nd)) (fun _ _ _ _ _ => ats_nil) (fun _ _ _ _ _ => (ae_call (ok_note_text T) (hr.mono (by decide)) T.m_note_text T.F_note_text.kp T.b_note_text (aa_cons (av 7) aa_nil)))) aa_nil)))
    (ass_one (as_ret (ae_join ae_str (aa_cons (av 4) aa_nil))))))))) spec_show_store
def sp_law : ASp := fun ds M Q => ∃ ns : List Int, ds = [.rol (ns.map Dv.int)] ∧ ns.length ≤ 63 ∧ ∀ M', Q (.bl true) M'
theorem law_true (ns : List Int) (h : ns.length ≤ 63) : sp_law [.rol (ns.map Dv.int)] (fun _ => none) (fun d _ => d = .bl true) := ⟨ns, rfl, h, fun _ => rfl⟩
def tk_law_3 : RS := (aRet (aC (.bl true)))
def tk_law_2 : RS := aSeq (aFor (aiSeq (aFz (aOp aAdd (aVar 2) (aRev (aVar 2))))) (agName 3) (aSeq (aAsg (aCall sp_show_store (aCons (aVar 3) aNil)) (agName 4))
    (aIfS (aOr (aNot (aTru (aFn acIsi (aCons (aVar 4) (aCons (aC (.ty "str")) aNil))))) (aB (aOp aNe (aVar 4) (aMth "str" amJoin (aC (.str ("\n" : Str))) (aCons (aCall sp_law_rows (aCons (aVar 3) aNil)) aNil))))) (aRet (aC (.bl false))) aNext))) (tk_law_3)
def tk_law_1 : RS := aSeq (aAsg (aLc (aiR1 (aCons (aOp aAdd (aC (.int 3)) (aFn acMin2 (aCons (aC (.int 6)) (aCons (aFn acLen (aCons (aVar 0) aNil)) aNil)))) aNil)) (.nm 5) [5] aYes (aCall sp_law_store (aCons (aVar 1) aNil))) (agName 2)) (tk_law_2)
def t_law : RS := aSeq (aAsg (aCall sp_law_pot (aCons (aVar 0) aNil)) (agName 1)) (tk_law_1)
theorem len_law : ∀ ds M Q, sp_law ds M Q → ds.length = 1 := by
  rintro ds M Q ⟨ns, rfl, _⟩
  rfl
theorem spec_law : ∀ ds M Q, sp_law ds M Q → t_law (retD Q) (startA 6 ds) M := by
  rintro ds M Q ⟨ns, rfl, hl, k⟩
  have nsl : (ns.map Dv.int).length ≤ 63 := by rw [List.length_map]; exact hl
  decreasing_tactic
  refine ⟨ns, rfl, hl, fun p q M1 hd hs => ?_⟩
  decreasing_tactic
  intro D hD
  have DP := hd.nep hD
  have DQ := hd.neq hD
  refine lcW_inv (fun i M' => ∃ ss : List Store, DPot p q M' ∧ M' D = some (.lst (ss.map Store.d)) ∧ ss.length = i ∧ ∀ s ∈ ss, s.Ok ∧ s.journal.length ≤ 10) ⟨[], hd.put DP DQ, mup_same, rfl, fun s hs => nomatch hs⟩ (fun _ _ _ _ => trivial) ?_ ?_
  · rintro i d M2 hi ⟨ss, d2, l2, sl, so⟩
    obtain ⟨hi2, rfl⟩ := rangeA_get hi
    have i10 : i < 10 := by
      clear hi
      split at hi2 <;> omega
    refine ⟨_, rfl, ?_⟩
    decreasing_tactic
    refine ⟨p, q, rfl, d2, fun s M3 d3 b3 ok jl => ?_⟩
    have l3 := b3.at DP DQ l2
    decreasing_tactic
    refine ⟨_, l3, lt_line (by rw [List.length_map]; omega), _, HC.Sub.refl _, ss ++ [s], d3.put DP DQ, by rw [mup_same]; simp, by simp [sl], fun z hz => ?_⟩
    rcases List.mem_append.mp hz with h3 | h3
    · exact so z h3
    · rw [List.mem_singleton.mp h3]; exact ⟨ok, jl⟩
  rintro M2 ⟨ss, d2, l2, sl, so⟩
  rw [rangeA_len] at sl
  have s10 : ss.length ≤ 10 := by
    split at sl <;> omega
  clear sl hD hd hs
  have eL : (ss.map Store.d).length ≤ 10 := by rw [List.length_map]; exact s10
  decreasing_tactic
  ((repeat ((conv => whnf); simp only [lenA_r, itemsA_r, lstA_r, lstC_s, Option.map_some, atI_0, ixN_0, mup_same, mup_mup, true_and, and_true, List.map_cons, List.map_nil, List.length_cons, List.length_map, List.length_nil, List.set_cons_zero, List.set_cons_succ, List.cons_append, List.nil_append, List.getElem?_cons_zero, List.getElem?_cons_succ, l2])); (conv => whnf))
  intro E hE
  have lE : mup M2 E (.lst (ss.map Store.d).reverse) E = some (.lst (ss.map Store.d).reverse) := mup_same
  have l3 := look_new (x := .lst (ss.map Store.d).reverse) l2 hE
  have eR : (ss.map Store.d) ++ (ss.map Store.d).reverse = (ss ++ ss.reverse).map Store.d := by rw [List.map_append, List.map_reverse]
  have eL2 : (ss.map Store.d).reverse.length ≤ 10 := by rw [List.length_reverse]; exact eL
  generalize mup M2 E (.lst (ss.map Store.d).reverse) = M3 at lE l3 ⊢
  refine ⟨_, _, l3, lE, le_line (by omega), fun G hG => fz_new hG ?_⟩
  rw [eR]
  have so2 : ∀ s ∈ ss ++ ss.reverse, s.Ok ∧ s.journal.length ≤ 10 := fun s hs => by
    rcases List.mem_append.mp hs with h | h
    · exact so s h
    · exact so s (List.mem_reverse.mp h)
  generalize ss ++ ss.reverse = S at so2 ⊢
  clear so l2 d2 eL eL2 eR lE l3
  decreasing_tactic
  refine forW_inv (fun i ρ M' => ∃ x3 x4, ρ = [some (.rol (ns.map Dv.int)), some (.ref p), some (.ref D), x3, x4, none] ∧ True) ⟨none, none, rfl, trivial⟩ (fun _ _ _ _ _ => rfl) ?_ ?_
  · rintro i d ρ M4 hi ⟨x3, x4, rfl, _⟩
    rw [List.getElem?_map] at hi
    obtain ⟨s, ho, rfl⟩ := Option.map_eq_some_iff.mp hi
    obtain ⟨ok, jl⟩ := so2 s (List.mem_of_getElem? ho)
    have szr := size_rows ok jl
    have pT : Pl 9 (Dv.str (storeT s)) := lay_asc (asc_store s)
    decreasing_tactic
    refine ⟨s, rfl, ok, jl, ?_⟩
    decreasing_tactic
    refine ⟨rfl, ?_⟩
    decreasing_tactic
    refine ⟨s, rfl, ok, jl, ?_⟩
    decreasing_tactic
    refine ⟨rowsT s, rfl, Nat.le_trans szr (by decide), ?_⟩
    rw [show Txt.join ("\n" : Str) (rowsT s) = storeT s from rfl]
    decreasing_tactic
    exact wk_of ⟨_, _, rfl, trivial⟩
  · rintro ρ M4 ⟨x3, x4, rfl, _⟩
    decreasing_tactic
    exact retEnd (k _)
theorem ok_law (T : Tx K mg) : FnA P w K mg base 5 T.f_law T.d_law [("_law_script" : Str)] sp_law :=
  fnA T.F_law sc_law len_law (fun cdv A outer s H E hr => by
    have hu1 := hu_of hr
    have hu64 := hr.units
    exact (ass_cons (as_set 1 sc_law.nd (ae_call (ok_law_pot T) (hr.mono (by decide)) T.m_law_pot T.F_law_pot.kp T.b_law_pot (aa_cons (av 0) aa_nil)))
    (ass_cons (as_setLc 2 (own := [(("_law_k" : Str), 5)]) (tg := (.nm 5)) (by decide) rfl sc_law.nd rfl rfl (sw_true rfl rfl rfl (by decide +kernel)) (ai_range1 T.n_range (aa_cons (ae_add ae_int (ae_callB (call_min2 rfl) abc_min2 (aa_cons ae_int (aa_cons (ae_callB call_len abc_len (aa_cons (av 0) aa_nil) T.n_len boot_len) aa_nil)) T.n_min boot_min)) aa_nil)) (blkOk_by (own := [(("_law_k" : Str), 5)]) (N := N_law) (sc := defScope s_law) (by decide +kernel)) (fun _ _ _ _ _ => (pgt_name 5 sc_law.nd)) (fun _ _ _ _ _ => ats_nil) (fun _ _ _ _ _ => (ae_call (ok_law_store T) (hr.mono (by decide)) T.m_law_store T.F_law_store.kp T.b_law_store (aa_cons (av 1) aa_nil))))
    (ass_cons (as_for PassesOwn.never rfl (ai_seq (ae_fz (ae_add (av 2) (ae_rev (av 2))))) (ag_name 3 sc_law.nd) (ass_cons (as_set 4 sc_law.nd (ae_call (ok_show_store T) (hr.mono (by decide)) T.m_show_store T.F_show_store.kp T.b_show_store (aa_cons (av 3) aa_nil)))
    (ass_one (as_if (AW.pt (aw_or (at_not (at_tru (ae_callB call_isi abc_isi (aa_cons (av 4) (aa_cons (ae_gty rfl T.n_str boot_str) aa_nil)) T.n_isinstance boot_isinstance))) (aw_or1 (at_ne hu64 (av 4) (ae_join ae_str (aa_cons (ae_call (ok_law_rows T) (hr.mono (by decide)) T.m_law_rows T.F_law_rows.kp T.b_law_rows (aa_cons (av 3) aa_nil)) aa_nil)))))) (ass_one (as_ret ae_bl)) ass_nil))))
    (ass_one (as_ret ae_bl)))))) spec_law
end Law
namespace Law
open PySem L2 HC PyProof.Rows
set_option maxHeartbeats 4000000
theorem facts {l : PySem.W.OpenLaw} {w : World} {K : PySem.W.Frag} {h : Heap} {mg : Str → Option Value} {fa : Addr} (X : K.In h) (G : h.Ns mainGlobals mg) (hfa : mg "law" = some (.ref fa)) (c : SaysY faL fnL tsL exL w K) :
    ∃ fd : FuncData, (∀ (s : Shared) (v : Value), BindsTo s fd ⟨[v], []⟩ [(("_law_script" : Str), v)]) ∧ ∀ base : Heap, K.In base → base.Ns mainGlobals mg → FnA l.prog w K mg base 5 fa fd [("_law_script" : Str)] sp_law := by
  obtain ⟨d0, F0⟩ := c.fn_ 0 (x := ("_law_pot" : Str)) (st := s_law_pot)
  obtain ⟨d1, F1⟩ := c.fn_ 1 (x := ("_law_block_text" : Str)) (st := s_law_block_text)
  obtain ⟨d2, F2⟩ := c.fn_ 2 (x := ("_law_rows" : Str)) (st := s_law_rows)
  obtain ⟨d3, F3⟩ := c.fn_ 3 (x := ("_law_next" : Str)) (st := s_law_next)
  obtain ⟨d4, F4⟩ := c.fn_ 4 (x := ("_law_block" : Str)) (st := s_law_block)
  obtain ⟨d5, F5⟩ := c.fn_ 5 (x := ("_law_disk" : Str)) (st := s_law_disk)
  obtain ⟨d6, F6⟩ := c.fn_ 6 (x := ("_law_count" : Str)) (st := s_law_count)
  obtain ⟨d7, F7⟩ := c.fn_ 7 (x := ("_law_head" : Str)) (st := s_law_head)
  obtain ⟨d8, F8⟩ := c.fn_ 8 (x := ("_law_journal" : Str)) (st := s_law_journal)
  obtain ⟨d9, F9⟩ := c.fn_ 9 (x := ("_law_store" : Str)) (st := s_law_store)
  obtain ⟨d10, F10⟩ := c.fn_ 10 (x := ("byte_text" : Str)) (st := s_byte_text)
  obtain ⟨d11, F11⟩ := c.fn_ 11 (x := ("block_text" : Str)) (st := s_block_text)
  obtain ⟨d12, F12⟩ := c.fn_ 12 (x := ("disk_text" : Str)) (st := s_disk_text)
  obtain ⟨d13, F13⟩ := c.fn_ 13 (x := ("note_text" : Str)) (st := s_note_text)
  obtain ⟨d14, F14⟩ := c.fn_ 14 (x := ("show_store" : Str)) (st := s_show_store)
  obtain ⟨d15, FD⟩ := c.law_ 15 (x := "law") (st := s_law)
  have F15 := fun_ofD FD
  have e := hfa.symm.trans (c.glo X G 0 (x := ("law" : Str)))
  cases e
  let T : Tx K mg := {
    n_int := c.free X G 1 (x := ("int" : Str))
    n_isinstance := c.free X G 2 (x := ("isinstance" : Str))
    n_len := c.free X G 3 (x := ("len" : Str))
    n_min := c.free X G 4 (x := ("min" : Str))
    n_range := c.free X G 5 (x := ("range" : Str))
    n_str := c.free X G 6 (x := ("str" : Str))
    n_tuple := c.free X G 7 (x := ("tuple" : Str))
    c_FIGURES := c.str X G 8 (x := ("FIGURES" : Str)) (z := ("0123456789abcdef" : Str))
    f_law_pot := He.ga K ("_law_pot" : Str), d_law_pot := d0, F_law_pot := F0, m_law_pot := c.glo X G 9 (x := ("_law_pot" : Str)), b_law_pot := F0.binds (ps := [("_law_script" : Str)]) fun _ _ _ _ _ _ us hl => match us, hl with | [_], _ => rfl
    f_law_block_text := He.ga K ("_law_block_text" : Str), d_law_block_text := d1, F_law_block_text := F1, m_law_block_text := c.glo X G 10 (x := ("_law_block_text" : Str)), b_law_block_text := F1.binds (ps := [("_law_block_here" : Str)]) fun _ _ _ _ _ _ us hl => match us, hl with | [_], _ => rfl
    f_law_rows := He.ga K ("_law_rows" : Str), d_law_rows := d2, F_law_rows := F2, m_law_rows := c.glo X G 11 (x := ("_law_rows" : Str)), b_law_rows := F2.binds (ps := [("_law_store_here" : Str)]) fun _ _ _ _ _ _ us hl => match us, hl with | [_], _ => rfl
    f_law_next := He.ga K ("_law_next" : Str), d_law_next := d3, F_law_next := F3, m_law_next := c.glo X G 12 (x := ("_law_next" : Str)), b_law_next := F3.binds (ps := [("_law_pot_here" : Str), ("_law_many" : Str)]) fun _ _ _ _ _ _ us hl => match us, hl with | [_, _], _ => rfl
    f_law_block := He.ga K ("_law_block" : Str), d_law_block := d4, F_law_block := F4, m_law_block := c.glo X G 13 (x := ("_law_block" : Str)), b_law_block := F4.binds (ps := [("_law_pot_here" : Str), ("_law_size" : Str)]) fun _ _ _ _ _ _ us hl => match us, hl with | [_, _], _ => rfl
    f_law_disk := He.ga K ("_law_disk" : Str), d_law_disk := d5, F_law_disk := F5, m_law_disk := c.glo X G 14 (x := ("_law_disk" : Str)), b_law_disk := F5.binds (ps := [("_law_pot_here" : Str), ("_law_head_here" : Str)]) fun _ _ _ _ _ _ us hl => match us, hl with | [_, _], _ => rfl
    f_law_count := He.ga K ("_law_count" : Str), d_law_count := d6, F_law_count := F6, m_law_count := c.glo X G 15 (x := ("_law_count" : Str)), b_law_count := F6.binds (ps := [("_law_pot_here" : Str), ("_law_most" : Str), ("_law_great" : Str)]) fun _ _ _ _ _ _ us hl => match us, hl with | [_, _, _], _ => rfl
    f_law_head := He.ga K ("_law_head" : Str), d_law_head := d7, F_law_head := F7, m_law_head := c.glo X G 16 (x := ("_law_head" : Str)), b_law_head := F7.binds (ps := [("_law_pot_here" : Str)]) fun _ _ _ _ _ _ us hl => match us, hl with | [_], _ => rfl
    f_law_journal := He.ga K ("_law_journal" : Str), d_law_journal := d8, F_law_journal := F8, m_law_journal := c.glo X G 17 (x := ("_law_journal" : Str)), b_law_journal := F8.binds (ps := [("_law_pot_here" : Str), ("_law_head_here" : Str), ("_law_many" : Str)]) fun _ _ _ _ _ _ us hl => match us, hl with | [_, _, _], _ => rfl
    f_law_store := He.ga K ("_law_store" : Str), d_law_store := d9, F_law_store := F9, m_law_store := c.glo X G 18 (x := ("_law_store" : Str)), b_law_store := F9.binds (ps := [("_law_pot_here" : Str)]) fun _ _ _ _ _ _ us hl => match us, hl with | [_], _ => rfl
    f_byte_text := He.ga K ("byte_text" : Str), d_byte_text := d10, F_byte_text := F10, m_byte_text := c.glo X G 19 (x := ("byte_text" : Str)), b_byte_text := F10.binds (ps := [("byte" : Str)]) fun _ _ _ _ _ _ us hl => match us, hl with | [_], _ => rfl
    f_block_text := He.ga K ("block_text" : Str), d_block_text := d11, F_block_text := F11, m_block_text := c.glo X G 20 (x := ("block_text" : Str)), b_block_text := F11.binds (ps := [("block" : Str)]) fun _ _ _ _ _ _ us hl => match us, hl with | [_], _ => rfl
    f_disk_text := He.ga K ("disk_text" : Str), d_disk_text := d12, F_disk_text := F12, m_disk_text := c.glo X G 21 (x := ("disk_text" : Str)), b_disk_text := F12.binds (ps := [("disk" : Str)]) fun _ _ _ _ _ _ us hl => match us, hl with | [_], _ => rfl
    f_note_text := He.ga K ("note_text" : Str), d_note_text := d13, F_note_text := F13, m_note_text := c.glo X G 22 (x := ("note_text" : Str)), b_note_text := F13.binds (ps := [("note" : Str)]) fun _ _ _ _ _ _ us hl => match us, hl with | [_], _ => rfl
    f_show_store := He.ga K ("show_store" : Str), d_show_store := d14, F_show_store := F14, m_show_store := c.glo X G 23 (x := ("show_store" : Str)), b_show_store := F14.binds (ps := [("store" : Str)]) fun _ _ _ _ _ _ us hl => match us, hl with | [_], _ => rfl
    f_law := He.ga K ("law" : Str), d_law := d15, F_law := F15, m_law := c.glo X G 0 (x := ("law" : Str)), b_law := F15.binds (ps := [("_law_script" : Str)]) fun _ _ _ _ _ _ us hl => match us, hl with | [_], _ => rfl
  }
  exact ⟨_, fun s v => FunD.bindsA (ps := [("_law_script" : Str)]) FD (fun _ _ _ _ _ _ us hl => match us, hl with | [_], _ => rfl) s [v] rfl, fun base _ _ => ok_law T⟩
end Law
open PySem PySem.W PySem.Calls PyProof.Rows
set_option maxRecDepth 100000 in
set_option maxHeartbeats 0 in
theorem PySem.Challenge.cw_lostdisk_k80_shown_holds : PySem.Challenge.rw_lostdisk_k80_shown.Holds := by
  w_on; o_law
  refine HandSHeadRun.head_any (r := Law.RL) (q := view Law.RL.prog [18]) (H := Law.hkL) (ob := Law.obL) (M := 30000) (loose := Law.nmL) (d := HandSHeadRun.topDef Law.RL.prog 18) (kwd := []) Law.obL_eq
    (by kernel_rfl) (fun s => by kernel_rfl) Law.run (by kernel_rfl) (by kernel_rfl) (by kernel_rfl) (by rfl) (by first | assumption | decide +kernel) (by decide +kernel) ⟨rfl, rfl, rfl, rfl, rfl, by decide +kernel⟩ ?hw ?hc
  case hw => w_witness2
  case hc =>
    refine L2.walk_ofE (l := PySem.Challenge.rw_lostdisk_k80_shown) (n := 63) (k := 5) (x := ("_law_script" : Str)) (CX := L2.CX0) rfl (by decide) (by kernel_rfl) ⟨rfl, by decide, by decide⟩ ?F (fun _ _ _ _ z => z)
    intro w mg fa h Y G hmg0
    obtain ⟨K, KX, c⟩ := Y
    have hmg : mg ("law" : PySem.Str) = some (.ref fa) := by
      have e : (HandSHeadRun.topDef Law.RL.prog 18).name = ("law" : PySem.Str) := by kernel_rfl
      rw [← e]
      exact hmg0
    obtain ⟨fd, hb, hF⟩ := Law.facts (l := PySem.Challenge.rw_lostdisk_k80_shown) KX G hmg c
    exact ⟨K, fd, HC.cSp K Law.sp_law, KX, hb, fun H a ns hl hO hS => HC.law_end hl hO hS Law.law_true, hF⟩
