import PyProof.Rows.All
import Wide.All
import OpenK.AllK
import Wide.FinOn
import HandS.ForMost
import HandS.ForExc
import HandS.Wide
import HandS.IsInst
import HandS.TupAny
import HandS.TupMul
import HandS.Zip
import HandS.Walk
import HandS.Conv
import HandS.Codes
import HandS.TryOnly
import HandS.More
import HandS.TupLe
import HandS.Steps
import KE.GoesEnum
import KE.GoesZip
import HandS.Style
import PyProof.Rows.SeqMore
import HandS.CallLocal
import HandS.SortInts
import HandS.SortRule
import HandS.Deep
import HandS.SetKeys
import HandS.Iter
import HandS.Rev
import PyProof.EqAt
import HandS.CallSlots
import HandS.WordsExc
import HandS.ExcInitHot
import HandS.ExcField
import HandS.ExcIs
import HandS.ExcCtx
import KE.KExcIs
import PySem.Challenge.RW_lostdisk_k10_filled_by_the_first
set_option Elab.async false
set_option linter.all false
set_option maxRecDepth 100000
set_option maxHeartbeats 4000000
namespace HC
open PySem L2
inductive Dv where
  | non | bl (b : Bool) | int (i : Int) | str (x : Str) | ref (a : Addr) | ty (n : String)
  | tup (xs : List Dv)
  | rol (xs : List Dv)
  | tuc (xs : List Dv)
  | exc (c : Str) (f : Option Int)
inductive Cell where
  | lst (xs : List Dv)
  | dic (kvs : List (Key × Dv))
  | dit (kvs : List (List Key × Dv))
  | fdc (kvs : List (Key × Dv))
  | obj (C : Addr) (fs : List (Str × Dv))
abbrev Ms := Addr → Option Cell
def mup (M : Ms) (a : Addr) (c : Cell) : Ms := fun b => if b = a then some c else M b
theorem mup_same {M : Ms} {a : Addr} {c : Cell} : mup M a c a = some c := if_pos rfl
theorem mup_ne {M : Ms} {a b : Addr} {c : Cell} (h : b ≠ a) : mup M a c b = M b := if_neg h
theorem mup_mup {M : Ms} {a : Addr} {c d : Cell} : mup (mup M a c) a d = mup M a d := by
  funext b; unfold mup; split <;> rfl
theorem mup_self {M : Ms} {a : Addr} {c : Cell} (h : M a = some c) : mup M a c = M := by
  funext b; unfold mup; split
  · subst b; exact h.symm
  · rfl
theorem ne_of_new {M : Ms} {a p : Addr} {c : Cell} (h : M a = some c) (h' : M p = none) : a ≠ p := by
  intro e; subst e; rw [h] at h'; cases h'
def SqF (K : PySem.W.Frag) (H : Hp) (a : Addr) (xs : List V) : Prop := (∃ o, H a = some (.frz o (.lst xs))) ∨ SqL K (fun _ => none) a xs
theorem SqF.l {K : PySem.W.Frag} {H : Hp} {a : Addr} {xs : List V} (h : SqF K H a xs) : SqL K H a xs := by
  rcases h with ⟨o, h⟩ | h
  · exact .inl (.inr ⟨o, h⟩)
  · rcases h with (h | ⟨_, h⟩) | h
    · cases h
    · cases h
    · exact .inr h
def SqC (H : Hp) (a : Addr) (xs : List V) : Prop := ∃ o : Obj, H a = some (.frz o (.tup xs)) ∧ o.dict = none
theorem SqC.t {K : PySem.W.Frag} {H : Hp} {a : Addr} {xs : List V} (h : SqC H a xs) : SqT K H a xs := by
  obtain ⟨o, h, _⟩ := h
  exact .inl (.inr ⟨o, h⟩)
def SqX (K : PySem.W.Frag) (H : Hp) (a : Addr) (c : Str) (f : Option Int) : Prop := ∃ (C : Addr) (oe : Obj) (u : HO), PySem.W.nsIn K mainGlobals c = some (some (.ref C)) ∧ H a = some (.frz oe u) ∧ oe.cls = .ref C ∧ (∃ vs, oe.data = .fields vs) ∧
  match f with
  | none => oe.dict = none
  | some r => ∃ dx od, oe.dict = some dx ∧ H dx = some (.frz od (.xd [(("row" : Str), .int r)]))
mutual
def Rep (K : PySem.W.Frag) (H : Hp) : Dv → V → Prop
  | .non, v => v = .non
  | .bl b, v => v = .bl b
  | .int i, v => v = .int i
  | .str x, v => v = .str x
  | .ref a, v => v = .ref a
  | .ty n, v => v = .ty n
  | .tup ds, v => ∃ a vs, v = .ref a ∧ SqT K H a vs ∧ Reps K H ds vs
  | .rol ds, v => ∃ a vs, v = .ref a ∧ SqF K H a vs ∧ Reps K H ds vs
  | .tuc ds, v => ∃ a vs, v = .ref a ∧ SqC H a vs ∧ Reps K H ds vs
  | .exc c f, v => ∃ a, v = .ref a ∧ SqX K H a c f
def Reps (K : PySem.W.Frag) (H : Hp) : List Dv → List V → Prop
  | [], vs => vs = []
  | d :: ds, vs => ∃ v r, vs = v :: r ∧ Rep K H d v ∧ Reps K H ds r
end
structure Tp (K : PySem.W.Frag) (H H' : Hp) : Prop where
  t : ∀ a vs, SqT K H a vs → SqT K H' a vs
  f : ∀ a vs, SqF K H a vs → SqF K H' a vs
  c : ∀ a vs, SqC H a vs → SqC H' a vs
  d : ∀ a o u, H a = some (.frz o u) → H' a = some (.frz o u)
theorem Tp.refl {K : PySem.W.Frag} (H : Hp) : Tp K H H := ⟨fun _ _ h => h, fun _ _ h => h, fun _ _ h => h, fun _ _ _ h => h⟩
theorem Tp.trans {K : PySem.W.Frag} {H H1 H2 : Hp} (a : Tp K H H1) (b : Tp K H1 H2) : Tp K H H2 := ⟨fun x vs h => b.t x vs (a.t x vs h), fun x vs h => b.f x vs (a.f x vs h), fun x vs h => b.c x vs (a.c x vs h), fun x o u h => b.d x o u (a.d x o u h)⟩
def Soft : Option HO → Prop
  | none => True
  | some (.lst _) => True
  | some (.dK _) => True
  | some (.dT _) => True
  | some (.ins _ _ _) => True
  | _ => False
theorem Tp.put {K : PySem.W.Frag} {H : Hp} {a : Addr} {o : HO} (h : Soft (H a)) : Tp K H (upd H a o) := by
  refine ⟨fun b vs q => ?_, fun b vs q => ?_, fun b vs ⟨ob, q, hd⟩ => ⟨ob, (upd_ne (fun e => by subst e; rw [q] at h; exact h)).trans q, hd⟩, fun b o u q => (upd_ne (fun e => by subst e; rw [q] at h; exact h)).trans q⟩
  · rcases q with (q | ⟨ob, q⟩) | q
    · refine .inl (.inl ?_)
      rw [upd_ne]
      · exact q
      · intro e; subst e; rw [q] at h; exact h
    · refine .inl (.inr ⟨ob, ?_⟩)
      rw [upd_ne]
      · exact q
      · intro e; subst e; rw [q] at h; exact h
    · exact .inr q
  · rcases q with ⟨ob, q⟩ | q
    · refine .inl ⟨ob, ?_⟩
      rw [upd_ne]
      · exact q
      · intro e; subst e; rw [q] at h; exact h
    · exact .inr q
theorem SqX.mono {K : PySem.W.Frag} {H H' : Hp} {a : Addr} {c : Str} {f : Option Int} (h : SqX K H a c f) (t : Tp K H H') : SqX K H' a c f := by
  obtain ⟨C, oe, u, h1, h2, h3, h4, h5⟩ := h
  refine ⟨C, oe, u, h1, t.d _ _ _ h2, h3, h4, ?_⟩
  cases f with
  | none => exact h5
  | some r =>
    obtain ⟨dx, od, e, q⟩ := h5
    exact ⟨dx, od, e, t.d _ _ _ q⟩
section
variable {K : PySem.W.Frag} {H H' : Hp}
mutual
theorem Rep.mono (t : Tp K H H') : ∀ {d : Dv} {v : V}, Rep K H d v → Rep K H' d v
  | .non, _, h => by simpa only [Rep] using h
  | .bl _, _, h => by simpa only [Rep] using h
  | .int _, _, h => by simpa only [Rep] using h
  | .str _, _, h => by simpa only [Rep] using h
  | .ref _, _, h => by simpa only [Rep] using h
  | .ty _, _, h => by simpa only [Rep] using h
  | .tup ds, _, h => by
    simp only [Rep] at h ⊢
    obtain ⟨a, vs, e, q, r⟩ := h
    exact ⟨a, vs, e, t.t _ _ q, Reps.mono t r⟩
  | .rol ds, _, h => by
    simp only [Rep] at h ⊢
    obtain ⟨a, vs, e, q, r⟩ := h
    exact ⟨a, vs, e, t.f _ _ q, Reps.mono t r⟩
  | .tuc ds, _, h => by
    simp only [Rep] at h ⊢
    obtain ⟨a, vs, e, q, r⟩ := h
    exact ⟨a, vs, e, t.c _ _ q, Reps.mono t r⟩
  | .exc c f, _, h => by
    simp only [Rep] at h ⊢
    obtain ⟨a, e, q⟩ := h
    exact ⟨a, e, q.mono t⟩
theorem Reps.mono (t : Tp K H H') : ∀ {ds : List Dv} {vs : List V}, Reps K H ds vs → Reps K H' ds vs
  | [], _, h => by simpa only [Reps] using h
  | d :: ds, _, h => by
    simp only [Reps] at h ⊢
    obtain ⟨v, r, e, q, z⟩ := h
    exact ⟨v, r, e, Rep.mono t q, Reps.mono t z⟩
end
theorem Reps.nil : Reps K H [] [] := by simp only [Reps]
theorem Reps.cons {d : Dv} {v : V} {ds : List Dv} {vs : List V} (h : Rep K H d v) (r : Reps K H ds vs) : Reps K H (d :: ds) (v :: vs) := by
  simp only [Reps]
  exact ⟨v, vs, rfl, h, r⟩
theorem Reps.cons_inv {d : Dv} {ds : List Dv} {vs : List V} (h : Reps K H (d :: ds) vs) : ∃ v r, vs = v :: r ∧ Rep K H d v ∧ Reps K H ds r := by
  simpa only [Reps] using h
theorem Reps.nil_inv {vs : List V} (h : Reps K H [] vs) : vs = [] := by simpa only [Reps] using h
theorem Reps.length : ∀ {ds : List Dv} {vs : List V}, Reps K H ds vs → ds.length = vs.length
  | [], _, h => by rw [h.nil_inv]; rfl
  | d :: ds, _, h => by
    obtain ⟨v, r, rfl, _, z⟩ := h.cons_inv
    simp [Reps.length z]
theorem Reps.append : ∀ {ds es : List Dv} {vs ws : List V}, Reps K H ds vs → Reps K H es ws → Reps K H (ds ++ es) (vs ++ ws)
  | [], _, _, _, h, h' => by rw [h.nil_inv]; exact h'
  | d :: ds, _, _, _, h, h' => by
    obtain ⟨v, r, rfl, q, z⟩ := h.cons_inv
    exact Reps.cons q (Reps.append z h')
theorem Reps.get : ∀ {ds : List Dv} {vs : List V} {i : Nat} {d : Dv}, Reps K H ds vs → ds[i]? = some d → ∃ v, vs[i]? = some v ∧ Rep K H d v
  | [], _, _, _, _, e => by simp at e
  | d :: ds, _, 0, x, h, e => by
    obtain ⟨v, r, rfl, q, z⟩ := h.cons_inv
    simp at e; subst e
    exact ⟨v, rfl, q⟩
  | d :: ds, _, i + 1, x, h, e => by
    obtain ⟨v, r, rfl, q, z⟩ := h.cons_inv
    obtain ⟨w, h1, h2⟩ := Reps.get (i := i) z (by simpa using e)
    exact ⟨w, by simpa using h1, h2⟩
theorem Reps.take : ∀ {ds : List Dv} {vs : List V} (n : Nat), Reps K H ds vs → Reps K H (ds.take n) (vs.take n)
  | _, _, 0, _ => by simpa using Reps.nil
  | [], _, n + 1, h => by rw [h.nil_inv]; simpa using Reps.nil
  | d :: ds, _, n + 1, h => by
    obtain ⟨v, r, rfl, q, z⟩ := h.cons_inv
    simpa using Reps.cons q (Reps.take n z)
theorem Reps.drop : ∀ {ds : List Dv} {vs : List V} (n : Nat), Reps K H ds vs → Reps K H (ds.drop n) (vs.drop n)
  | _, _, 0, h => by simpa using h
  | [], _, n + 1, h => by rw [h.nil_inv]; simpa using Reps.nil
  | d :: ds, _, n + 1, h => by
    obtain ⟨v, r, rfl, q, z⟩ := h.cons_inv
    simpa using Reps.drop n z
theorem Reps.set : ∀ {ds : List Dv} {vs : List V} {d : Dv} {v : V} (i : Nat), Reps K H ds vs → Rep K H d v → Reps K H (ds.set i d) (vs.set i v)
  | [], _, _, _, _, h, _ => by rw [h.nil_inv]; simpa using Reps.nil
  | d :: ds, _, _, _, 0, h, q' => by
    obtain ⟨v, r, rfl, q, z⟩ := h.cons_inv
    simpa using Reps.cons q' z
  | d :: ds, _, _, _, i + 1, h, q' => by
    obtain ⟨v, r, rfl, q, z⟩ := h.cons_inv
    simpa using Reps.cons q (Reps.set i z q')
theorem Reps.eraseIdx : ∀ {ds : List Dv} {vs : List V} (i : Nat), Reps K H ds vs → Reps K H (ds.eraseIdx i) (vs.eraseIdx i)
  | [], _, _, h => by rw [h.nil_inv]; simpa using Reps.nil
  | d :: ds, _, 0, h => by
    obtain ⟨v, r, rfl, q, z⟩ := h.cons_inv
    simpa using z
  | d :: ds, _, i + 1, h => by
    obtain ⟨v, r, rfl, q, z⟩ := h.cons_inv
    simpa using Reps.cons q (Reps.eraseIdx i z)
theorem Reps.rev {ds : List Dv} {vs : List V} (h : Reps K H ds vs) : Reps K H ds.reverse vs.reverse := by
  induction ds generalizing vs with
  | nil => rw [h.nil_inv]; simpa using Reps.nil
  | cons d ds ih =>
    obtain ⟨v, r, rfl, q, z⟩ := h.cons_inv
    simpa using Reps.append (ih z) (Reps.cons q Reps.nil)
theorem Reps.ints : ∀ {ns : List Int} {vs : List V}, Reps K H (ns.map Dv.int) vs → vs = ns.map V.int
  | [], _, h => by simpa using h.nil_inv
  | n :: ns, _, h => by
    obtain ⟨v, r, rfl, q, z⟩ := Reps.cons_inv (d := .int n) (ds := ns.map Dv.int) (by simpa using h)
    have e : v = .int n := by simpa only [Rep] using q
    rw [e, Reps.ints z]; rfl
theorem Reps.of_ints : ∀ (ns : List Int), Reps K H (ns.map Dv.int) (ns.map V.int)
  | [] => by simpa using Reps.nil
  | n :: ns => Reps.cons (by simp only [Rep]) (Reps.of_ints ns)
theorem Reps.bools : ∀ {ns : List Bool} {vs : List V}, Reps K H (ns.map Dv.bl) vs → vs = ns.map V.bl
  | [], _, h => by simpa using h.nil_inv
  | n :: ns, _, h => by
    obtain ⟨v, r, rfl, q, z⟩ := Reps.cons_inv (d := .bl n) (ds := ns.map Dv.bl) (by simpa using h)
    have e : v = .bl n := by simpa only [Rep] using q
    rw [e, Reps.bools z]; rfl
theorem Reps.replicate {d : Dv} {v : V} (h : Rep K H d v) : ∀ (n : Nat), Reps K H (List.replicate n d) (List.replicate n v)
  | 0 => Reps.nil
  | n + 1 => Reps.cons h (Reps.replicate h n)
end
def RepC (K : PySem.W.Frag) (H : Hp) (a : Addr) : Cell → Prop
  | .lst ds => ∃ vs, H a = some (.lst vs) ∧ Reps K H ds vs
  | .dic kds => ∃ kvs, H a = some (.dK kvs) ∧ Paired (fun (p : Key × Dv) (q : Key × V) => p.1 = q.1 ∧ Rep K H p.2 q.2) kds kvs
  | .dit kds => ∃ kvs, H a = some (.dT kvs) ∧ Paired (fun (p : List Key × Dv) (q : List Key × V) => p.1 = q.1 ∧ Rep K H p.2 q.2) kds kvs
  | .fdc kds => ∃ kvs o, H a = some (.frz o (.dK kvs)) ∧ Paired (fun (p : Key × Dv) (q : Key × V) => p.1 = q.1 ∧ Rep K H p.2 q.2) kds kvs
  | .obj C fs => ∃ dx vs, H a = some (.ins C dx vs) ∧ Paired (fun (p : Str × Dv) (q : Str × V) => p.1 = q.1 ∧ Rep K H p.2 q.2) fs vs
def Cell.sf : Cell → Bool
  | .fdc _ => false
  | _ => true
def View (K : PySem.W.Frag) (M : Ms) (H : Hp) : Prop := ∀ a c, M a = some c → RepC K H a c
def Sub (M M' : Ms) : Prop := ∀ a c, M a = some c → M' a = some c
theorem Sub.refl (M : Ms) : Sub M M := fun _ _ h => h
theorem Sub.trans {M M1 M2 : Ms} (a : Sub M M1) (b : Sub M1 M2) : Sub M M2 := fun x c h => b x c (a x c h)
theorem Sub.new {M : Ms} {p : Addr} {c : Cell} (h : M p = none) : Sub M (mup M p c) := fun b d e => by
  rw [mup_ne (ne_of_new e h)]; exact e
theorem Sub.mut {M M' : Ms} {p : Addr} {c : Cell} (s : Sub M M') (h : M p = none) : Sub M (mup M' p c) := fun b d e => by
  rw [mup_ne (ne_of_new e h)]; exact s b d e
theorem Sub.free {M M' : Ms} (s : Sub M M') {p : Addr} (h : M' p = none) : M p = none := by
  cases q : M p with
  | none => rfl
  | some c => rw [s p c q] at h; cases h
theorem Sub.both {M M' : Ms} {p : Addr} {c : Cell} (s : Sub M M') : Sub (mup M p c) (mup M' p c) := fun b d e => by
  by_cases h : b = p
  · subst h; rw [mup_same] at e ⊢; exact e
  · rw [mup_ne h] at e ⊢; exact s b d e
section
variable {K : PySem.W.Frag} {M M' : Ms} {H H' : Hp} {a : Addr}
theorem View.sub (v : View K M' H) (s : Sub M M') : View K M H := fun a c e => v a c (s a c e)
theorem RepC.ne {c : Cell} (h : RepC K H a c) : H a ≠ none := by
  cases c with
  | lst ds => obtain ⟨vs, e, _⟩ := h; rw [e]; exact fun q => nomatch q
  | dic ds => obtain ⟨vs, e, _⟩ := h; rw [e]; exact fun q => nomatch q
  | dit ds => obtain ⟨vs, e, _⟩ := h; rw [e]; exact fun q => nomatch q
  | fdc ds => obtain ⟨vs, o, e, _⟩ := h; rw [e]; exact fun q => nomatch q
  | obj C ds => obtain ⟨dx, vs, e, _⟩ := h; rw [e]; exact fun q => nomatch q
theorem View.free (v : View K M H) (h : H a = none) : M a = none := by
  cases q : M a with
  | none => rfl
  | some c => exact ((v a c q).ne h).elim
theorem View.soft (v : View K M H) {c : Cell} (h : M a = some c) (hs : c.sf = true := by rfl) : Soft (H a) := by
  have r := v a c h
  cases c with
  | lst ds => obtain ⟨vs, e, _⟩ := r; rw [e]; trivial
  | dic ds => obtain ⟨vs, e, _⟩ := r; rw [e]; trivial
  | dit ds => obtain ⟨vs, e, _⟩ := r; rw [e]; trivial
  | fdc ds => cases hs
  | obj C ds => obtain ⟨dx, vs, e, _⟩ := r; rw [e]; trivial
theorem RepC.keep {c : Cell} (r : RepC K H a c) (t : Tp K H H') (e : H' a = H a) : RepC K H' a c := by
  cases c with
  | lst ds =>
    obtain ⟨vs, h, q⟩ := r
    exact ⟨vs, e.trans h, q.mono t⟩
  | dic ds =>
    obtain ⟨vs, h, q⟩ := r
    exact ⟨vs, e.trans h, Paired.mapP q fun _ _ z => ⟨z.1, z.2.mono t⟩⟩
  | dit ds =>
    obtain ⟨vs, h, q⟩ := r
    exact ⟨vs, e.trans h, Paired.mapP q fun _ _ z => ⟨z.1, z.2.mono t⟩⟩
  | fdc ds =>
    obtain ⟨vs, o, h, q⟩ := r
    exact ⟨vs, o, e.trans h, Paired.mapP q fun _ _ z => ⟨z.1, z.2.mono t⟩⟩
  | obj C ds =>
    obtain ⟨dx, vs, h, q⟩ := r
    exact ⟨dx, vs, e.trans h, Paired.mapP q fun _ _ z => ⟨z.1, z.2.mono t⟩⟩
theorem View.put {o : HO} {c : Cell} (v : View K M H) (hs : Soft (H a)) (r : RepC K (upd H a o) a c) : View K (mup M a c) (upd H a o) := fun b d e => by
  by_cases h : b = a
  · subst h; rw [mup_same] at e; cases e; exact r
  · rw [mup_ne h] at e
    exact (v b d e).keep (Tp.put hs) (upd_ne h)
theorem View.new {o : HO} (v : View K M H) (h : H a = none) : View K M (upd H a o) := fun b d e => by
  refine (v b d e).keep (Tp.put (by rw [h]; trivial)) (upd_ne ?_)
  intro z; subst z; exact (v b d e).ne h
theorem Tp.new {o : HO} (h : H a = none) : Tp K H (upd H a o) := Tp.put (by rw [h]; trivial)
end
abbrev Env' := List (Option Dv)
structure RepE (K : PySem.W.Frag) (H : Hp) (ρ : Env') (σ : L2.St) : Prop where
  len : ρ.length = σ.length
  at' : ∀ (i : Nat) (d : Dv), ρ[i]? = some (some d) → ∃ v, σ[i]? = some (some v) ∧ Rep K H d v
section
variable {K : PySem.W.Frag} {H H' : Hp} {ρ : Env'} {σ : L2.St}
theorem RepE.mono (r : RepE K H ρ σ) (t : Tp K H H') : RepE K H' ρ σ := ⟨r.len, fun i d e => let ⟨v, h, q⟩ := r.at' i d e; ⟨v, h, q.mono t⟩⟩
theorem RepE.set {d : Dv} {v : V} (r : RepE K H ρ σ) (i : Nat) (q : Rep K H d v) : RepE K H (ρ.set i (some d)) (σ.set i (some v)) := by
  refine ⟨by simp [r.len], fun j e h => ?_⟩
  by_cases hj : i = j
  · subst hj
    have hl : i < ρ.length := by
      have := (List.getElem?_eq_some_iff.mp h).1
      simpa using this
    rw [List.getElem?_set_self hl] at h
    cases h
    exact ⟨v, List.getElem?_set_self (by rw [← r.len]; exact hl), q⟩
  · rw [List.getElem?_set_ne hj] at h
    obtain ⟨w, h1, h2⟩ := r.at' j e h
    exact ⟨w, by rw [List.getElem?_set_ne hj]; exact h1, h2⟩
theorem RepE.drop (r : RepE K H ρ σ) (i : Nat) (x : Option V) : RepE K H (ρ.set i none) (σ.set i x) := by
  refine ⟨by simp [r.len], fun j e h => ?_⟩
  by_cases hj : i = j
  · subst hj
    have hl : i < ρ.length := by
      have := (List.getElem?_eq_some_iff.mp h).1
      simpa using this
    rw [List.getElem?_set_self hl] at h
    cases h
  · rw [List.getElem?_set_ne hj] at h
    obtain ⟨w, h1, h2⟩ := r.at' j e h
    exact ⟨w, by rw [List.getElem?_set_ne hj]; exact h1, h2⟩
def wipeA (ρ : Env') : List Nat → Env'
  | [] => ρ
  | v :: vs => (wipeA ρ vs).set v none
theorem RepE.wipe (r : RepE K H ρ σ) : ∀ (vs : List Nat), RepE K H (wipeA ρ vs) (wipe σ vs)
  | [] => r
  | v :: vs => (RepE.wipe r vs).drop v none
end
def SubE : Env' → Env' → Prop
  | [], [] => True
  | none :: r, _ :: r' => SubE r r'
  | some d :: r, y :: r' => y = some d ∧ SubE r r'
  | _, _ => False
theorem SubE.refl : ∀ (ρ : Env'), SubE ρ ρ
  | [] => True.intro
  | none :: r => SubE.refl r
  | some d :: r => ⟨rfl, SubE.refl r⟩
theorem SubE.rep {K : PySem.W.Frag} {H : Hp} : ∀ {ρ ρ' : Env'} {σ : L2.St}, SubE ρ ρ' → RepE K H ρ' σ → RepE K H ρ σ := fun {ρ ρ' σ} h r => by
  have len : ∀ {ρ ρ' : Env'}, SubE ρ ρ' → ρ.length = ρ'.length := by
    intro ρ
    induction ρ with
    | nil => intro ρ' h; cases ρ' with
      | nil => rfl
      | cons _ _ => exact h.elim
    | cons x r ih => intro ρ' h; cases ρ' with
      | nil => cases x <;> exact h.elim
      | cons y r' =>
        cases x with
        | none => simp [ih (show SubE r r' from h)]
        | some d => simp [ih (show SubE r r' from h.2)]
  have get : ∀ {ρ ρ' : Env'}, SubE ρ ρ' → ∀ (i : Nat) (d : Dv), ρ[i]? = some (some d) → ρ'[i]? = some (some d) := by
    intro ρ
    induction ρ with
    | nil => intro ρ' h i d e; simp at e
    | cons x r ih => intro ρ' h i d e; cases ρ' with
      | nil => cases x <;> exact h.elim
      | cons y r' =>
        cases x with
        | none =>
          cases i with
          | zero => simp at e
          | succ i => simpa using ih (show SubE r r' from h) i d (by simpa using e)
        | some f =>
          cases i with
          | zero => simp at e; subst e; simp [h.1]
          | succ i => simpa using ih (show SubE r r' from h.2) i d (by simpa using e)
  exact ⟨(len h).trans r.len, fun i d e => r.at' i d (get h i d e)⟩
def startA (n : Nat) (ds : List Dv) : Env' := ds.map some ++ List.replicate (n - ds.length) none
theorem repE_start {K : PySem.W.Frag} {H : Hp} {N : List Str} {ds : List Dv} {vs : List V} (h : Reps K H ds vs) : RepE K H (startA N.length ds) (L2.start N vs) := by
  have hl := h.length
  refine ⟨by simp [startA, L2.start, hl], fun i d e => ?_⟩
  unfold startA at e
  unfold L2.start
  by_cases hi : i < ds.length
  · rw [List.getElem?_append_left (by simpa using hi), List.getElem?_map] at e
    cases q : ds[i]? with
    | none => rw [q] at e; cases e
    | some d' =>
      rw [q] at e; cases e
      obtain ⟨v, h1, h2⟩ := h.get q
      refine ⟨v, ?_, h2⟩
      rw [List.getElem?_append_left (by simpa [← hl] using hi), List.getElem?_map, h1]; rfl
  · rw [List.getElem?_append_right (by simpa using hi), List.getElem?_replicate] at e
    split at e <;> cases e
abbrev DK := Dv → Ms → Prop
abbrev RE := Env' → Ms → DK → Prop
abbrev RT := Env' → Ms → (Bool → Ms → Prop) → Prop
abbrev RA := Env' → Ms → (List Dv → Ms → Prop) → Prop
structure Ends' where
  nx : Env' → Ms → Prop
  rt : DK
  bk : Env' → Ms → Prop := fun _ _ => False
  ct : Env' → Ms → Prop := fun _ _ => False
abbrev RS := Ends' → Env' → Ms → Prop
def wk (N : Env' → Ms → Prop) : Env' → Ms → Prop := fun ρ M => ∃ ρ' M', SubE ρ' ρ ∧ Sub M' M ∧ N ρ' M'
def wkM (N : Ms → Prop) : Ms → Prop := fun M => ∃ M', Sub M' M ∧ N M'
def onS {α : Type} (o : Option α) (Q : α → Prop) : Prop := match o with | some a => Q a | none => False
theorem onS_ex {α : Type} {o : Option α} {Q : α → Prop} (h : onS o Q) : ∃ a, o = some a ∧ Q a := by
  cases o with
  | none => exact h.elim
  | some a => exact ⟨a, rfl, h⟩
theorem onS_of {α : Type} {o : Option α} {Q : α → Prop} {a : α} (e : o = some a) (h : Q a) : onS o Q := by subst e; exact h
def onIf (b : Bool) (A B : Prop) : Prop := match b with | true => A | false => B
theorem onIf_dec {c A B : Prop} {inst : Decidable c} (h1 : c → A) (h2 : ¬ c → B) : onIf (@decide c inst) A B := by
  by_cases h : c
  · rw [show @decide c inst = true from decide_eq_true h]; exact h1 h
  · rw [show @decide c inst = false from decide_eq_false h]; exact h2 h
theorem onIf_ndec {c A B : Prop} {inst : Decidable c} (h1 : ¬ c → A) (h2 : c → B) : onIf (!@decide c inst) A B := by
  by_cases h : c
  · rw [show @decide c inst = true from decide_eq_true h]; exact h2 h
  · rw [show @decide c inst = false from decide_eq_false h]; exact h1 h
theorem onIf_b {b : Bool} {A B : Prop} (h1 : b = true → A) (h2 : b = false → B) : onIf b A B := by
  cases b
  · exact h2 rfl
  · exact h1 rfl
theorem onIf_T {b : Bool} {A B : Prop} (h : b = true) (q : A) : onIf b A B := by subst h; exact q
theorem onIf_F {b : Bool} {A B : Prop} (h : b = false) (q : B) : onIf b A B := by subst h; exact q
def onB (d : Dv) (Q : Bool → Prop) : Prop := match d with | .bl b => Q b | _ => False
theorem onB_ex {d : Dv} {Q : Bool → Prop} (h : onB d Q) : ∃ b, d = .bl b ∧ Q b := by
  cases d <;> first | exact h.elim | exact ⟨_, rfl, h⟩
def onI (d : Dv) (Q : Int → Prop) : Prop := match d with | .int b => Q b | _ => False
theorem onI_ex {d : Dv} {Q : Int → Prop} (h : onI d Q) : ∃ b, d = .int b ∧ Q b := by
  cases d <;> first | exact h.elim | exact ⟨_, rfl, h⟩
def onI2 (d f : Dv) (Q : Int → Int → Prop) : Prop := match d, f with | .int a, .int b => Q a b | _, _ => False
theorem onI2_ex {d f : Dv} {Q : Int → Int → Prop} (h : onI2 d f Q) : ∃ a b, d = .int a ∧ f = .int b ∧ Q a b := by
  cases d <;> first | exact h.elim | skip
  cases f <;> first | exact h.elim | exact ⟨_, _, rfl, rfl, h⟩
def LkV (K : PySem.W.Frag) (H : Hp) (Q : DK) (Q' : VK) : Prop := ∀ v H' d M', Tp K H H' → Rep K H' d v → View K M' H' → Q d M' → Q' v H'
def LkB (K : PySem.W.Frag) (H : Hp) (Q : Bool → Ms → Prop) (Q' : Bool → Hp → Prop) : Prop := ∀ b H' M', Tp K H H' → View K M' H' → Q b M' → Q' b H'
def LkA (K : PySem.W.Frag) (H : Hp) (Q : List Dv → Ms → Prop) (Q' : List V → Hp → Prop) : Prop := ∀ vs H' ds M', Tp K H H' → Reps K H' ds vs → View K M' H' → Q ds M' → Q' vs H'
def LkS (K : PySem.W.Frag) (H : Hp) (Q : Env' → Ms → Prop) (Q' : L2.St → Hp → Prop) : Prop := ∀ σ H' ρ M', Tp K H H' → RepE K H' ρ σ → View K M' H' → Q ρ M' → Q' σ H'
structure LkD (K : PySem.W.Frag) (H : Hp) (D : Ends') (D' : Ends) : Prop where
  nx : LkS K H D.nx D'.nx
  rt : LkV K H D.rt D'.rt
  bk : LkS K H D.bk D'.bk
  ct : LkS K H D.ct D'.ct
section
variable {K : PySem.W.Frag} {H H1 : Hp}
theorem LkV.up {Q : DK} {Q' : VK} (l : LkV K H Q Q') (t : Tp K H H1) : LkV K H1 Q Q' := fun v H' d M' t' => l v H' d M' (t.trans t')
theorem LkB.up {Q : Bool → Ms → Prop} {Q' : Bool → Hp → Prop} (l : LkB K H Q Q') (t : Tp K H H1) : LkB K H1 Q Q' := fun v H' M' t' => l v H' M' (t.trans t')
theorem LkA.up {Q : List Dv → Ms → Prop} {Q' : List V → Hp → Prop} (l : LkA K H Q Q') (t : Tp K H H1) : LkA K H1 Q Q' := fun v H' d M' t' => l v H' d M' (t.trans t')
theorem LkS.up {Q : Env' → Ms → Prop} {Q' : L2.St → Hp → Prop} (l : LkS K H Q Q') (t : Tp K H H1) : LkS K H1 Q Q' := fun v H' d M' t' => l v H' d M' (t.trans t')
theorem LkD.up {D : Ends'} {D' : Ends} (l : LkD K H D D') (t : Tp K H H1) : LkD K H1 D D' := ⟨l.nx.up t, l.rt.up t, l.bk.up t, l.ct.up t⟩
end
def cE (K : PySem.W.Frag) (t : RE) : TE := fun σ H Q' => ∃ ρ M Q, RepE K H ρ σ ∧ View K M H ∧ t ρ M Q ∧ LkV K H Q Q'
def cT (K : PySem.W.Frag) (t : RT) : TT := fun σ H Q' => ∃ ρ M Q, RepE K H ρ σ ∧ View K M H ∧ t ρ M Q ∧ LkB K H Q Q'
def cA (K : PySem.W.Frag) (t : RA) : TA := fun σ H Q' => ∃ ρ M Q, RepE K H ρ σ ∧ View K M H ∧ t ρ M Q ∧ LkA K H Q Q'
def cS (K : PySem.W.Frag) (t : RS) : TS := fun D' σ H => ∃ ρ M D, RepE K H ρ σ ∧ View K M H ∧ t D ρ M ∧ LkD K H D D'
def AE (X : Cx) (e : Expr) (t : RE) : Prop := PE X e (cE X.K t)
def AT (X : Cx) (e : Expr) (t : RT) : Prop := PT X e (cT X.K t)
def AW (X : Cx) (e : Expr) (t : RT) : Prop := PW X e (cT X.K t)
def AA (X : Cx) (es : List Expr) (t : RA) : Prop := PA X es (cA X.K t)
def AS (X : Cx) (st : Stmt) (t : RS) : Prop := PS X st (cS X.K t)
def ASs (X : Cx) (sts : List Stmt) (t : RS) : Prop := PSs X sts (cS X.K t)
theorem pe_imp {X : Cx} {e : Expr} {t t' : TE} (h : PE X e t) (f : ∀ σ H Q, t' σ H Q → t σ H Q) : PE X e t' := ⟨fun pins s σ H Q I q => h.run pins s σ H Q I (f _ _ _ q)⟩
theorem pt_imp {X : Cx} {e : Expr} {t t' : TT} (h : PT X e t) (f : ∀ σ H Q, t' σ H Q → t σ H Q) : PT X e t' := ⟨fun pins s σ H Q I q => h.run pins s σ H Q I (f _ _ _ q)⟩
theorem pw_imp {X : Cx} {e : Expr} {t t' : TT} (h : PW X e t) (f : ∀ σ H Q, t' σ H Q → t σ H Q) : PW X e t' := ⟨fun wh pins s σ H Q I q => h.run wh pins s σ H Q I (f _ _ _ q)⟩
theorem pa_imp {X : Cx} {e : List Expr} {t t' : TA} (h : PA X e t) (f : ∀ σ H Q, t' σ H Q → t σ H Q) : PA X e t' := ⟨fun pos pins s σ H Q I q => h.run pos pins s σ H Q I (f _ _ _ q)⟩
theorem ps_imp {X : Cx} {e : Stmt} {t t' : TS} (h : PS X e t) (f : ∀ D σ H, t' D σ H → t D σ H) : PS X e t' := ⟨fun pins s σ H D I q => h.run pins s σ H D I (f _ _ _ q)⟩
theorem pss_imp {X : Cx} {e : List Stmt} {t t' : TS} (h : PSs X e t) (f : ∀ D σ H, t' D σ H → t D σ H) : PSs X e t' := ⟨fun pins s σ H D I q => h.run pins s σ H D I (f _ _ _ q)⟩
section
variable {X : Cx} {a b c e : Expr} {ta tb tc te : RE} {pos : Pos}
def aC (d : Dv) : RE := fun _ M Q => Q d M
def aVar (i : Nat) : RE := fun ρ M Q => onS ρ[i]? fun o => onS o fun d => Q d M
theorem ae_c {d : Dv} {v : V} (h : PE X e (tC v)) (r : ∀ H, Rep X.K H d v) : AE X e (aC d) := pe_imp h fun σ H Q ⟨ρ, M, Q1, _, hv, q, k⟩ => k v H d M (Tp.refl H) (r H) hv q
theorem ae_int {i j pos} : AE X (.Constant (.int i) j pos) (aC (.int i)) := ae_c pe_int fun _ => by simp only [Rep]
theorem ae_bl {b j pos} : AE X (.Constant (.bool b) j pos) (aC (.bl b)) := ae_c pe_bl fun _ => by simp only [Rep]
theorem ae_non {j pos} : AE X (.Constant .none j pos) (aC .non) := ae_c pe_non fun _ => by simp only [Rep]
theorem ae_str {x j pos} : AE X (.Constant (.str x) j pos) (aC (.str x)) := ae_c pe_str fun _ => by simp only [Rep]
theorem av (i : Nat) {x : Str} (hN : X.N[i]? = some x := by rfl) (hv : Vis X.env.scope x := by first | exact Or.inl rfl | exact Or.inr (Or.inl rfl) | exact Or.inr (Or.inr rfl)) (hd : (x == ("__debug__" : Str)) = false := by decide)
    (hcd : (x == ("__classdict__" : Str)) = false := by decide) : AE X (.Name x pos) (aVar i) :=
  pe_imp (pe_var hN hv hd hcd) fun σ H Q ⟨ρ, M, Q1, hr, hv, q, k⟩ => by
    obtain ⟨o, e, q⟩ := onS_ex q
    obtain ⟨d, e', q⟩ := onS_ex q
    subst e'
    obtain ⟨v, h1, h2⟩ := hr.at' i d e
    exact ⟨v, h1, k v H d M (Tp.refl H) h2 hv q⟩
theorem ae_gint {x : Str} {i : Int} {t : Tok} (hg : Gl X x) (hm : X.mg x = some (.int i t)) (hd : (x == ("__debug__" : Str)) = false := by decide) : AE X (.Name x pos) (aC (.int i)) :=
  ae_c (pe_glob hg hm (v := .int i) ⟨_, rfl⟩ hd) fun _ => by simp only [Rep]
theorem ae_gty {x : Str} {n : String} (hg : Gl X x) (hm : X.mg x = none) (hv : bootBuiltins x = some (.type n)) (hn : x ≠ "__name__" := by decide) (hd : (x == ("__debug__" : Str)) = false := by decide) : AE X (.Name x pos) (aC (.ty n)) :=
  ae_c (pe_bltn hg hm hv (v := .ty n) rfl hn hd) fun _ => by simp only [Rep]
theorem seqE {K : PySem.W.Frag} {ρ : Env'} {σ : L2.St} {M : Ms} {H : Hp} {t : RE} {Q : DK} {Q' : VK} (hr : RepE K H ρ σ) (hv : View K M H) (h : t ρ M Q) (k : LkV K H Q Q') : cE K t σ H Q' := ⟨ρ, M, Q, hr, hv, h, k⟩
abbrev AR2 := Dv → Dv → Ms → DK → Prop
abbrev AR1 := Dv → Ms → DK → Prop
def Ab2 (K : PySem.W.Frag) (r : R2) (ar : AR2) : Prop := ∀ H M x y dx dy Q Q', Rep K H dx x → Rep K H dy y → View K M H → ar dx dy M Q → LkV K H Q Q' → r x y H Q'
def Ab1 (K : PySem.W.Frag) (r : V → Hp → VK → Prop) (ar : AR1) : Prop := ∀ H M x dx Q Q', Rep K H dx x → View K M H → ar dx M Q → LkV K H Q Q' → r x H Q'
def aOp (ar : AR2) (ta tb : RE) : RE := fun ρ M Q => ta ρ M fun x M1 => tb ρ M1 fun y M2 => ar x y M2 Q
def aUn (ar : AR1) (ta : RE) : RE := fun ρ M Q => ta ρ M fun x M1 => ar x M1 Q
theorem aop_imp {K : PySem.W.Frag} {r : R2} {ar : AR2} (h : Ab2 K r ar) : ∀ σ H Q, cE K (aOp ar ta tb) σ H Q → tOp r (cE K ta) (cE K tb) σ H Q := fun σ H Q' ⟨ρ, M, Q, hr, hv, q, k⟩ =>
  seqE hr hv q fun v H1 d M1 t1 r1 v1 q1 => seqE (hr.mono t1) v1 q1 fun v2 H2 d2 M2 t2 r2 v2' q2 => h H2 M2 v v2 d d2 Q Q' (r1.mono t2) r2 v2' q2 (k.up (t1.trans t2))
theorem ae_op {op : Operator} {r : R2} {ar : AR2} (ho : OpR X (binaryOp op) r) (h : Ab2 X.K r ar) (ha : AE X a ta) (hb : AE X b tb) : AE X (.BinOp a op b pos) (aOp ar ta tb) := pe_imp (pe_op ho ha hb) (aop_imp h)
theorem ae_un {op : UnaryOp} {r : V → Hp → VK → Prop} {ar : AR1} (ho : UnR X (unaryOp op) r) (h : Ab1 X.K r ar) (ha : AE X a ta) : AE X (.UnaryOp op a pos) (aUn ar ta) :=
  pe_imp (pe_un ho ha) fun σ H Q' ⟨ρ, M, Q, hr, hv, q, k⟩ => seqE hr hv q fun v H1 d M1 t1 r1 v1 q1 => h H1 M1 v d Q Q' r1 v1 q1 (k.up t1)
theorem ae_cmp {op : CmpOp} {r : R2} {ar : AR2} (ho : OpR X (compareOp op) r) (h : Ab2 X.K r ar) (ha : AE X a ta) (hb : AE X b tb) (hm : behindInMarks op b = false) : AE X (.Compare a [op] [b] pos) (aOp ar ta tb) := pe_imp (pe_cmpR ho ha hb hm) (aop_imp h)
def aB (t : RE) : RT := fun ρ M Q => t ρ M fun d M1 => onB d fun b => Q b M1
theorem tb_imp {K : PySem.W.Frag} {t : RE} : ∀ σ H Q, cT K (aB t) σ H Q → tB (cE K t) σ H Q := fun σ H Q' ⟨ρ, M, Q, hr, hv, q, k⟩ =>
  seqE hr hv q fun v H1 d M1 t1 r1 v1 q1 => by
    obtain ⟨b, e, q1⟩ := onB_ex q1
    exact ⟨b, by subst e; simpa only [Rep] using r1, k b H1 M1 t1 v1 q1⟩
theorem at_cmp {op : CmpOp} {r : R2} {ar : AR2} (ho : OpR X (compareOp op) r) (h : Ab2 X.K r ar) (ha : AE X a ta) (hb : AE X b tb) (hm : behindInMarks op b = false) : AT X (.Compare a [op] [b] pos) (aB (aOp ar ta tb)) :=
  pt_imp (pt_cmpR ho ha hb hm) fun σ H Q' h' => by
    obtain ⟨ρ, M, Q, hr, hv, q, k⟩ := h'
    exact aop_imp h σ H _ ⟨ρ, M, _, hr, hv, q, fun v H1 d M1 t1 r1 v1 q1 => by
      obtain ⟨b, e, q1⟩ := onB_ex q1
      exact ⟨b, by subst e; simpa only [Rep] using r1, k b H1 M1 t1 v1 q1⟩⟩
theorem at_val (h : AE X e te) (he : ∀ whole, isTrue e X.env whole = (do let v ← whole; standAt e.pos; holding [v] (truthy v)) := by intro _; rfl) : AT X e (aB te) := pt_imp (pt_val h he) tb_imp
def truA : Dv → Ms → Option Bool
  | .non, _ => some false
  | .bl b, _ => some b
  | .int i, _ => some (i != 0)
  | .tup xs, _ => some (!xs.isEmpty)
  | .rol xs, _ => some (!xs.isEmpty)
  | .ref a, M => match M a with | some (.lst xs) => some (!xs.isEmpty) | some (.dic xs) => some (!xs.isEmpty) | _ => none
  | _, _ => none
def aTru (t : RE) : RT := fun ρ M Q => t ρ M fun d M1 => onS (truA d M1) fun b => Q b M1
theorem Reps.isEmpty {K : PySem.W.Frag} {H : Hp} {ds : List Dv} {vs : List V} (h : Reps K H ds vs) : vs.isEmpty = ds.isEmpty := by
  have := h.length
  cases ds <;> cases vs <;> simp at this ⊢
theorem paired_isEmpty {α β : Type} {R : α → β → Prop} {l : List α} {m : List β} (h : Paired R l m) : m.isEmpty = l.isEmpty := by
  cases h <;> rfl
theorem truA_ok {K : PySem.W.Frag} {M : Ms} {H : Hp} {d : Dv} {v : V} {b : Bool} (r : Rep K H d v) (hv : View K M H) (h : truA d M = some b) : TruV K v H b := by
  cases d with
  | non => simp only [Rep] at r; subst r; simp only [truA, Option.some.injEq] at h; exact h.symm
  | bl k => simp only [Rep] at r; subst r; simp only [truA, Option.some.injEq] at h; exact h.symm
  | int i => simp only [Rep] at r; subst r; simp only [truA, Option.some.injEq] at h; exact h.symm
  | str i => simp [truA] at h
  | ty i => simp [truA] at h
  | tuc i => simp [truA] at h
  | exc i j => simp [truA] at h
  | tup ds =>
    simp only [Rep] at r
    obtain ⟨a, vs, rfl, q, z⟩ := r
    simp only [truA, Option.some.injEq] at h
    exact .inr (.inl ⟨vs, q, by rw [z.isEmpty]; exact h.symm⟩)
  | rol ds =>
    simp only [Rep] at r
    obtain ⟨a, vs, rfl, q, z⟩ := r
    simp only [truA, Option.some.injEq] at h
    exact .inl ⟨vs, q.l, by rw [z.isEmpty]; exact h.symm⟩
  | ref a =>
    simp only [Rep] at r; subst r
    simp only [truA] at h
    cases e : M a with
    | none => rw [e] at h; cases h
    | some c =>
      rw [e] at h
      cases c with
      | lst xs =>
        obtain ⟨vs, h1, h2⟩ := hv a _ e
        simp only [Option.some.injEq] at h
        exact .inl ⟨vs, .inl (.inl h1), by rw [h2.isEmpty]; exact h.symm⟩
      | dic xs =>
        obtain ⟨vs, h1, h2⟩ := hv a _ e
        simp only [Option.some.injEq] at h
        exact .inr (.inr ⟨vs, h1, by rw [paired_isEmpty h2]; exact h.symm⟩)
      | dit xs => cases h
      | fdc xs => cases h
      | obj C xs => cases h
theorem at_tru (h : AE X e te) (he : ∀ whole, isTrue e X.env whole = (do let v ← whole; standAt e.pos; holding [v] (truthy v)) := by intro _; rfl) : AT X e (aTru te) :=
  pt_imp (pt_truth h he) fun σ H Q' ⟨ρ, M, Q, hr, hv, q, k⟩ => seqE hr hv q fun v H1 d M1 t1 r1 v1 q1 => by
    obtain ⟨b, e, q1⟩ := onS_ex q1
    exact ⟨b, truA_ok r1 v1 e, k b H1 M1 t1 v1 q1⟩
def aAnd (t u : RT) : RT := fun ρ M Q => t ρ M fun b M1 => onIf b (u ρ M1 Q) (Q false M1)
def aOr (t u : RT) : RT := fun ρ M Q => t ρ M fun b M1 => onIf b (Q true M1) (u ρ M1 Q)
def aNot (t : RT) : RT := fun ρ M Q => t ρ M fun b M1 => Q (!b) M1
theorem seqT {K : PySem.W.Frag} {ρ : Env'} {σ : L2.St} {M : Ms} {H : Hp} {t : RT} {Q : Bool → Ms → Prop} {Q' : Bool → Hp → Prop} (hr : RepE K H ρ σ) (hv : View K M H) (h : t ρ M Q) (k : LkB K H Q Q') : cT K t σ H Q' := ⟨ρ, M, Q, hr, hv, h, k⟩
variable {tA tBb : RT} {rest : List Expr}
theorem AW.pt (h : AW X e tA) : AT X e tA := PW.pt h
theorem aw_and1 (ha : AT X a tA) : AW X (.BoolOp .And [a] pos) tA := pw_and1 ha
theorem aw_or1 (ha : AT X a tA) : AW X (.BoolOp .Or [a] pos) tA := pw_or1 ha
theorem aw_and (ha : AT X a tA) (hb : AW X (.BoolOp .And (b :: rest) pos) tBb) : AW X (.BoolOp .And (a :: b :: rest) pos) (aAnd tA tBb) :=
  pw_imp (pw_and ha hb) fun σ H Q' ⟨ρ, M, Q, hr, hv, q, k⟩ => seqT hr hv q fun b H1 M1 t1 v1 q1 => by
    cases b with
    | true => exact seqT (hr.mono t1) v1 q1 (k.up t1)
    | false => exact k _ _ _ t1 v1 q1
theorem aw_or (ha : AT X a tA) (hb : AW X (.BoolOp .Or (b :: rest) pos) tBb) : AW X (.BoolOp .Or (a :: b :: rest) pos) (aOr tA tBb) :=
  pw_imp (pw_or ha hb) fun σ H Q' ⟨ρ, M, Q, hr, hv, q, k⟩ => seqT hr hv q fun b H1 M1 t1 v1 q1 => by
    cases b with
    | false => exact seqT (hr.mono t1) v1 q1 (k.up t1)
    | true => exact k _ _ _ t1 v1 q1
theorem at_not (ha : AT X a tA) : AT X (.UnaryOp .Not a pos) (aNot tA) :=
  pt_imp (pt_not ha) fun σ H Q' ⟨ρ, M, Q, hr, hv, q, k⟩ => seqT hr hv q fun b H1 M1 t1 v1 q1 => k _ _ _ t1 v1 q1
def aAndV (t u : RE) : RE := fun ρ M Q => t ρ M fun x M1 => onB x fun b => onIf b (u ρ M1 Q) (Q (.bl false) M1)
def aOrV (t u : RE) : RE := fun ρ M Q => t ρ M fun x M1 => onB x fun b => onIf b (Q (.bl true) M1) (u ρ M1 Q)
def aNotV (t : RE) : RE := fun ρ M Q => t ρ M fun x M1 => onB x fun b => Q (.bl (!b)) M1
theorem rep_bl {K : PySem.W.Frag} {H : Hp} {b : Bool} : Rep K H (.bl b) (.bl b) := by simp only [Rep]
theorem rep_int {K : PySem.W.Frag} {H : Hp} {i : Int} : Rep K H (.int i) (.int i) := by simp only [Rep]
theorem rep_str {K : PySem.W.Frag} {H : Hp} {i : Str} : Rep K H (.str i) (.str i) := by simp only [Rep]
theorem rep_non {K : PySem.W.Frag} {H : Hp} : Rep K H .non .non := by simp only [Rep]
theorem rep_ref {K : PySem.W.Frag} {H : Hp} {a : Addr} : Rep K H (.ref a) (.ref a) := by simp only [Rep]
theorem rep_tup {K : PySem.W.Frag} {H : Hp} {a : Addr} {vs : List V} {ds : List Dv} (h : SqT K H a vs) (r : Reps K H ds vs) : Rep K H (.tup ds) (.ref a) := by
  simp only [Rep]; exact ⟨a, vs, rfl, h, r⟩
theorem ae_and1 (ha : AE X a ta) : AE X (.BoolOp .And [a] pos) ta := pe_one ha
theorem ae_or1 (ha : AE X a ta) : AE X (.BoolOp .Or [a] pos) ta := pe_one ha
theorem ae_and (ha : AE X a ta) (hb : AE X (.BoolOp .And (b :: rest) pos) tb) : AE X (.BoolOp .And (a :: b :: rest) pos) (aAndV ta tb) :=
  pe_imp (pe_and ha hb) fun σ H Q' ⟨ρ, M, Q, hr, hv, q, k⟩ => seqE hr hv q fun v H1 d M1 t1 r1 v1 q1 => by
    obtain ⟨b, e, q1⟩ := onB_ex q1
    subst e
    refine ⟨b, by simpa only [Rep] using r1, ?_⟩
    cases b with
    | true => exact seqE (hr.mono t1) v1 q1 (k.up t1)
    | false => exact k _ _ _ _ t1 rep_bl v1 q1
theorem ae_or (ha : AE X a ta) (hb : AE X (.BoolOp .Or (b :: rest) pos) tb) : AE X (.BoolOp .Or (a :: b :: rest) pos) (aOrV ta tb) :=
  pe_imp (pe_or ha hb) fun σ H Q' ⟨ρ, M, Q, hr, hv, q, k⟩ => seqE hr hv q fun v H1 d M1 t1 r1 v1 q1 => by
    obtain ⟨b, e, q1⟩ := onB_ex q1
    subst e
    refine ⟨b, by simpa only [Rep] using r1, ?_⟩
    cases b with
    | false => exact seqE (hr.mono t1) v1 q1 (k.up t1)
    | true => exact k _ _ _ _ t1 rep_bl v1 q1
theorem ae_not (ha : AE X a ta) : AE X (.UnaryOp .Not a pos) (aNotV ta) :=
  pe_imp (pe_not ha) fun σ H Q' ⟨ρ, M, Q, hr, hv, q, k⟩ => seqE hr hv q fun v H1 d M1 t1 r1 v1 q1 => by
    obtain ⟨b, e, q1⟩ := onB_ex q1
    subst e
    exact ⟨b, by simpa only [Rep] using r1, k _ _ _ _ t1 rep_bl v1 q1⟩
def aIf (t : RT) (ta tb : RE) : RE := fun ρ M Q => t ρ M fun b M1 => onIf b (ta ρ M1 Q) (tb ρ M1 Q)
theorem ae_if (hc : AT X c tA) (ha : AE X a ta) (hb : AE X b tb) : AE X (.IfExp c a b pos) (aIf tA ta tb) :=
  pe_imp (pe_ifExp hc ha hb) fun σ H Q' ⟨ρ, M, Q, hr, hv, q, k⟩ => seqT hr hv q fun b H1 M1 t1 v1 q1 => by
    cases b with
    | true => exact seqE (hr.mono t1) v1 q1 (k.up t1)
    | false => exact seqE (hr.mono t1) v1 q1 (k.up t1)
end
section
variable {X : Cx}
def arI (C : Int → Int → Prop) (g : Int → Int → Dv) : AR2 := fun x y M Q => onI2 x y fun i j => C i j ∧ Q (g i j) M
def arI0 (g : Int → Int → Dv) : AR2 := fun x y M Q => onI2 x y fun i j => Q (g i j) M
theorem ab_I {K : PySem.W.Frag} {C : Int → Int → Prop} {g : Int → Int → Int} : Ab2 K (rI C fun i j => .int (g i j)) (arI C fun i j => .int (g i j)) := fun H M x y dx dy Q Q' rx ry hv q0 k => by
  obtain ⟨i, j, e1, e2, hc, q⟩ := onI2_ex q0
  subst e1 e2
  exact ⟨i, j, by simpa only [Rep] using rx, by simpa only [Rep] using ry, hc, k _ _ _ _ (Tp.refl H) rep_int hv q⟩
theorem ab_I0 {K : PySem.W.Frag} {g : Int → Int → Int} : Ab2 K (rI0 fun i j => .int (g i j)) (arI0 fun i j => .int (g i j)) := fun H M x y dx dy Q Q' rx ry hv q0 k => by
  obtain ⟨i, j, e1, e2, q⟩ := onI2_ex q0
  subst e1 e2
  exact ⟨i, j, by simpa only [Rep] using rx, by simpa only [Rep] using ry, k _ _ _ _ (Tp.refl H) rep_int hv q⟩
theorem ab_B0 {K : PySem.W.Frag} {g : Int → Int → Bool} : Ab2 K (rI0 fun i j => .bl (g i j)) (arI0 fun i j => .bl (g i j)) := fun H M x y dx dy Q Q' rx ry hv q0 k => by
  obtain ⟨i, j, e1, e2, q⟩ := onI2_ex q0
  subst e1 e2
  exact ⟨i, j, by simpa only [Rep] using rx, by simpa only [Rep] using ry, k _ _ _ _ (Tp.refl H) rep_bl hv q⟩
theorem ab1_I {K : PySem.W.Frag} {g : Int → Int} : Ab1 K (rU fun i => .int (g i)) (fun x M Q => onI x fun i => Q (.int (g i)) M) := fun H M x dx Q Q' rx hv q0 k => by
  obtain ⟨i, e1, q⟩ := onI_ex q0
  subst e1
  exact ⟨i, by simpa only [Rep] using rx, k _ _ _ _ (Tp.refl H) rep_int hv q⟩
variable {a b : Expr} {ta tb : RE} {pos : Pos}
theorem div_wide {i j : Int} (h : 0 < j ∧ j < 1000000000000000000000000) : CDivW i j := by
  refine wide_div (b := 90) h.1 ?_ (by decide) (by decide)
  have e : (2 : Nat) ^ 90 = 1237940039285380274899124224 := by decide
  rw [e]
  omega
theorem ab_div {K : PySem.W.Frag} : Ab2 K (rI CDivW fun i j => .int (i / j)) (arI (fun _ j => 0 < j ∧ j < 1000000000000000000000000) fun i j => .int (i / j)) := fun H M x y dx dy Q Q' rx ry hv q0 k => by
  obtain ⟨i, j, e1, e2, hc, q⟩ := onI2_ex q0
  subst e1 e2
  exact ⟨i, j, by simpa only [Rep] using rx, by simpa only [Rep] using ry, div_wide hc, k _ _ _ _ (Tp.refl H) rep_int hv q⟩
def aSub := arI0 fun i j => .int (i - j)
def aXor := arI0 fun i j => .int (Builtin.bitXor i j)
def aBand := arI0 fun i j => .int (Builtin.bitAnd i j)
def aMod := arI (fun _ j => 0 < j) fun i j => .int (i % j)
def aDiv := arI (fun _ j => 0 < j ∧ j < 1000000000000000000000000) fun i j => .int (i / j)
def aPow := arI CPow fun i j => .int (i ^ j.toNat)
def aShl := arI CPow fun i j => .int (i * 2 ^ j.toNat)
def aShr := arI (fun _ j => 0 ≤ j) fun i j => .int (i / 2 ^ j.toNat)
def aLt := arI0 fun i j => .bl (decide (i < j))
def aLe := arI0 fun i j => .bl (decide (i ≤ j))
def aGt := arI0 fun i j => .bl (decide (j < i))
def aGe := arI0 fun i j => .bl (decide (j ≤ i))
def aNeg : AR1 := fun x M Q => onI x fun i => Q (.int (-i)) M
theorem ae_sub (ha : AE X a ta) (hb : AE X b tb) : AE X (.BinOp a .Sub b pos) (aOp aSub ta tb) := ae_op op_sub ab_I0 ha hb
theorem ae_xor (ha : AE X a ta) (hb : AE X b tb) : AE X (.BinOp a .BitXor b pos) (aOp aXor ta tb) := ae_op op_xor ab_I0 ha hb
theorem ae_band (ha : AE X a ta) (hb : AE X b tb) : AE X (.BinOp a .BitAnd b pos) (aOp aBand ta tb) := ae_op op_and ab_I0 ha hb
theorem ae_mod (ha : AE X a ta) (hb : AE X b tb) : AE X (.BinOp a .Mod b pos) (aOp aMod ta tb) := ae_op op_mod ab_I ha hb
theorem ae_div (ha : AE X a ta) (hb : AE X b tb) : AE X (.BinOp a .FloorDiv b pos) (aOp aDiv ta tb) := ae_op op_fdivW ab_div ha hb
theorem ae_pow (ha : AE X a ta) (hb : AE X b tb) : AE X (.BinOp a .Pow b pos) (aOp aPow ta tb) := ae_op op_pow ab_I ha hb
theorem ae_shl (ha : AE X a ta) (hb : AE X b tb) : AE X (.BinOp a .LShift b pos) (aOp aShl ta tb) := ae_op op_shl ab_I ha hb
theorem ae_shr (ha : AE X a ta) (hb : AE X b tb) : AE X (.BinOp a .RShift b pos) (aOp aShr ta tb) := ae_op op_shr ab_I ha hb
theorem ae_neg (ha : AE X a ta) : AE X (.UnaryOp .USub a pos) (aUn aNeg ta) := ae_un un_neg ab1_I ha
theorem ae_lt (ha : AE X a ta) (hb : AE X b tb) : AE X (.Compare a [.Lt] [b] pos) (aOp aLt ta tb) := ae_cmp op_lt ab_B0 ha hb (nomark _)
theorem ae_le (ha : AE X a ta) (hb : AE X b tb) : AE X (.Compare a [.LtE] [b] pos) (aOp aLe ta tb) := ae_cmp op_le ab_B0 ha hb (nomark _)
theorem ae_gt (ha : AE X a ta) (hb : AE X b tb) : AE X (.Compare a [.Gt] [b] pos) (aOp aGt ta tb) := ae_cmp op_gt ab_B0 ha hb (nomark _)
theorem ae_ge (ha : AE X a ta) (hb : AE X b tb) : AE X (.Compare a [.GtE] [b] pos) (aOp aGe ta tb) := ae_cmp op_ge ab_B0 ha hb (nomark _)
theorem at_lt (ha : AE X a ta) (hb : AE X b tb) : AT X (.Compare a [.Lt] [b] pos) (aB (aOp aLt ta tb)) := at_cmp op_lt ab_B0 ha hb (nomark _)
theorem at_le (ha : AE X a ta) (hb : AE X b tb) : AT X (.Compare a [.LtE] [b] pos) (aB (aOp aLe ta tb)) := at_cmp op_le ab_B0 ha hb (nomark _)
theorem at_gt (ha : AE X a ta) (hb : AE X b tb) : AT X (.Compare a [.Gt] [b] pos) (aB (aOp aGt ta tb)) := at_cmp op_gt ab_B0 ha hb (nomark _)
theorem at_ge (ha : AE X a ta) (hb : AE X b tb) : AT X (.Compare a [.GtE] [b] pos) (aB (aOp aGe ta tb)) := at_cmp op_ge ab_B0 ha hb (nomark _)
end
end HC
set_option maxHeartbeats 4000000
namespace HC
open PySem L2 PyProof.Rows
section
variable {X : Cx} {e : Expr} {es : List Expr} {te : RE} {t : RA} {pos : Pos}
def aNil : RA := fun _ M Q => Q [] M
def aCons (te : RE) (t : RA) : RA := fun ρ M Q => te ρ M fun d M1 => t ρ M1 fun ds M2 => Q (d :: ds) M2
theorem seqA {K : PySem.W.Frag} {ρ : Env'} {σ : L2.St} {M : Ms} {H : Hp} {t : RA} {Q : List Dv → Ms → Prop} {Q' : List V → Hp → Prop} (hr : RepE K H ρ σ) (hv : View K M H) (h : t ρ M Q) (k : LkA K H Q Q') : cA K t σ H Q' := ⟨ρ, M, Q, hr, hv, h, k⟩
theorem aa_nil : AA X [] aNil := pa_imp pa_nil fun σ H Q' ⟨ρ, M, Q, hr, hv, q, k⟩ => k [] H [] M (Tp.refl H) Reps.nil hv q
theorem aa_cons (ha : AE X e te) (hr : AA X es t) (hs : starEach (e :: es) X.env = (false, eval e X.env) :: starEach es X.env := by rfl) : AA X (e :: es) (aCons te t) :=
  pa_imp (pa_cons ha hr hs) fun σ H Q' ⟨ρ, M, Q, hr, hv, q, k⟩ => seqE hr hv q fun v H1 d M1 t1 r1 v1 q1 => seqA (hr.mono t1) v1 q1 fun vs H2 ds M2 t2 r2 v2 q2 => k (v :: vs) H2 (d :: ds) M2 (t1.trans t2) (Reps.cons (r1.mono t2) r2) v2 q2
def aTup (t : RA) : RE := fun ρ M Q => t ρ M fun ds M1 => ds.length ≤ sizeLine ∧ Q (.tup ds) M1
def aLst (t : RA) : RE := fun ρ M Q => t ρ M fun ds M1 => ds.length ≤ sizeLine ∧ ∀ p, M1 p = none → Q (.ref p) (mup M1 p (.lst ds))
theorem end_tup {K : PySem.W.Frag} {H : Hp} {M : Ms} {vs : List V} {ds : List Dv} {Q : DK} {Q' : VK} (r : Reps K H ds vs) (hv : View K M H) (q : Q (.tup ds) M) (k : LkV K H Q Q') : ∀ p, H p = none → Q' (.ref p) (upd H p (.tup vs)) := fun p hp =>
  k _ _ (.tup ds) M (Tp.new hp) (rep_tup (.inl (.inl upd_same)) (r.mono (Tp.new hp))) (hv.new hp) q
theorem end_lst {K : PySem.W.Frag} {H : Hp} {M : Ms} {vs : List V} {ds : List Dv} {Q : DK} {Q' : VK} (r : Reps K H ds vs) (hv : View K M H) (q : ∀ p, M p = none → Q (.ref p) (mup M p (.lst ds))) (k : LkV K H Q Q') : ∀ p, H p = none → Q' (.ref p) (upd H p (.lst vs)) := fun p hp =>
  k _ _ (.ref p) _ (Tp.new hp) rep_ref (hv.put (c := .lst ds) (by rw [hp]; trivial) ⟨vs, upd_same, r.mono (Tp.new hp)⟩) (q p (hv.free hp))
theorem ae_tup {x1} (h : AA X es t) : AE X (.Tuple es x1 pos) (aTup t) := pe_imp (pe_tup h) fun σ H Q' ⟨ρ, M, Q, hr, hv, q, k⟩ => seqA hr hv q fun vs H1 ds M1 t1 r1 v1 ⟨z, q1⟩ =>
  ⟨by rw [← r1.length]; exact z, end_tup r1 v1 q1 (k.up t1)⟩
theorem ae_lst (h : AA X es t) : AE X (.List es pos) (aLst t) := pe_imp (pe_lst h) fun σ H Q' ⟨ρ, M, Q, hr, hv, q, k⟩ => seqA hr hv q fun vs H1 ds M1 t1 r1 v1 ⟨z, q1⟩ =>
  ⟨by rw [← r1.length]; exact z, end_lst r1 v1 q1 (k.up t1)⟩
end
section
variable {X : Cx}
theorem opr_or {f : Value → Value → Sem Value} {r r' : R2} (h : OpR X f r) (h' : OpR X f r') : OpR X f (fun x y H Q => r x y H Q ∨ r' x y H Q) := by
  intro pins s σ H x y v u Q I rx ry q
  rcases q with q | q
  · exact h pins s σ H x y v u Q I rx ry q
  · exact h' pins s σ H x y v u Q I rx ry q
theorem rep_int_inv {K : PySem.W.Frag} {H : Hp} {i : Int} {v : V} (h : Rep K H (.int i) v) : v = .int i := by simpa only [Rep] using h
theorem rep_bl_inv {K : PySem.W.Frag} {H : Hp} {i : Bool} {v : V} (h : Rep K H (.bl i) v) : v = .bl i := by simpa only [Rep] using h
theorem rep_str_inv {K : PySem.W.Frag} {H : Hp} {i : Str} {v : V} (h : Rep K H (.str i) v) : v = .str i := by simpa only [Rep] using h
theorem rep_non_inv {K : PySem.W.Frag} {H : Hp} {v : V} (h : Rep K H .non v) : v = .non := by simpa only [Rep] using h
theorem rep_ref_inv {K : PySem.W.Frag} {H : Hp} {a : Addr} {v : V} (h : Rep K H (.ref a) v) : v = .ref a := by simpa only [Rep] using h
theorem rep_ty_inv {K : PySem.W.Frag} {H : Hp} {a : String} {v : V} (h : Rep K H (.ty a) v) : v = .ty a := by simpa only [Rep] using h
theorem rep_tup_inv {K : PySem.W.Frag} {H : Hp} {ds : List Dv} {v : V} (h : Rep K H (.tup ds) v) : ∃ a vs, v = .ref a ∧ SqT K H a vs ∧ Reps K H ds vs := by simpa only [Rep] using h
theorem rep_rol_inv {K : PySem.W.Frag} {H : Hp} {ds : List Dv} {v : V} (h : Rep K H (.rol ds) v) : ∃ a vs, v = .ref a ∧ SqF K H a vs ∧ Reps K H ds vs := by simpa only [Rep] using h
theorem view_lst {K : PySem.W.Frag} {M : Ms} {H : Hp} {a : Addr} {ds : List Dv} (hv : View K M H) (h : M a = some (.lst ds)) : ∃ vs, H a = some (.lst vs) ∧ Reps K H ds vs := hv a _ h
theorem rep_tuc_inv {K : PySem.W.Frag} {H : Hp} {ds : List Dv} {v : V} (h : Rep K H (.tuc ds) v) : ∃ a vs, v = .ref a ∧ SqC H a vs ∧ Reps K H ds vs := by simpa only [Rep] using h
theorem rep_exc_inv {K : PySem.W.Frag} {H : Hp} {c : Str} {f : Option Int} {v : V} (h : Rep K H (.exc c f) v) : ∃ a, v = .ref a ∧ SqX K H a c f := by simpa only [Rep] using h
theorem rep_exc {K : PySem.W.Frag} {H : Hp} {c : Str} {f : Option Int} {a : Addr} (h : SqX K H a c f) : Rep K H (.exc c f) (.ref a) := by simp only [Rep]; exact ⟨a, rfl, h⟩
def aAdd : AR2 := fun x y M Q => match x, y with
  | .int i, .int j => Q (.int (i + j)) M
  | .int i, .bl k => Q (.int (i + b2i k)) M
  | .str a, .str b => a.length + b.length ≤ sizeLine ∧ Q (.str (a ++ b)) M
  | .tup a, .tup b => a.length + b.length ≤ sizeLine ∧ Q (.tup (a ++ b)) M
  | .ref a, .ref b => ∃ xs ys, M a = some (.lst xs) ∧ M b = some (.lst ys) ∧ xs.length + ys.length ≤ sizeLine ∧ ∀ p, M p = none → Q (.ref p) (mup M p (.lst (xs ++ ys)))
  | _, _ => False
def rAddH (K : PySem.W.Frag) : R2 := fun x y H Q => (rI0 (fun i j => .int (i + j)) x y H Q ∨ (∃ i k, x = .int i ∧ y = .bl k ∧ Q (.int (i + b2i k)) H)) ∨ ((∃ i j, x = .str i ∧ y = .str j ∧ i.length + j.length ≤ sizeLine ∧ Q (.str (i ++ j)) H) ∨ (rCatA K x y H Q ∨ rCat x y H Q))
theorem op_addH : OpR X (binaryOp .Add) (rAddH X.K) := opr_or (opr_or op_add op_add_ib) (opr_or op_add_str (opr_or op_catA op_cat))
theorem ab_add {K : PySem.W.Frag} : Ab2 K (rAddH K) aAdd := by
  intro H M x y dx dy Q Q' rx ry hv q k
  cases dx <;> cases dy <;> first | exact q.elim | skip
  case int.int i j => exact .inl (.inl ⟨i, j, rep_int_inv rx, rep_int_inv ry, k _ _ _ _ (Tp.refl H) rep_int hv q⟩)
  case int.bl i j => exact .inl (.inr ⟨i, j, rep_int_inv rx, rep_bl_inv ry, k _ _ _ _ (Tp.refl H) rep_int hv q⟩)
  case str.str i j => exact .inr (.inl ⟨i, j, rep_str_inv rx, rep_str_inv ry, q.1, k _ _ _ _ (Tp.refl H) rep_str hv q.2⟩)
  case tup.tup ds es =>
    obtain ⟨a, vs, e1, s1, r1⟩ := rep_tup_inv rx
    obtain ⟨b, ws, e2, s2, r2⟩ := rep_tup_inv ry
    have l1 := r1.length
    have l2 := r2.length
    obtain ⟨z, q⟩ := q
    refine .inr (.inr (.inl ⟨a, b, vs, ws, e1, e2, s1, s2, by omega, fun h => ?_, fun _ h => ?_, fun _ _ => end_tup (r1.append r2) hv q k⟩))
    · subst h
      have : ds = [] := List.length_eq_zero_iff.mp l1
      subst this
      exact k _ _ _ _ (Tp.refl H) (rep_tup s2 r2) hv q
    · subst h
      have : es = [] := List.length_eq_zero_iff.mp l2
      subst this
      rw [List.append_nil] at q
      exact k _ _ _ _ (Tp.refl H) (rep_tup s1 r1) hv q
  case ref.ref a b =>
    obtain ⟨xs, ys, h1, h2, z, q⟩ := q
    obtain ⟨vs, e1, r1⟩ := view_lst hv h1
    obtain ⟨ws, e2, r2⟩ := view_lst hv h2
    have l1 := r1.length
    have l2 := r2.length
    exact .inr (.inr (.inr ⟨a, b, vs, ws, rep_ref_inv rx, rep_ref_inv ry, e1, e2, by omega, end_lst (r1.append r2) hv q k⟩))
variable {a b : Expr} {ta tb : RE} {pos : Pos}
theorem ae_add (ha : AE X a ta) (hb : AE X b tb) : AE X (.BinOp a .Add b pos) (aOp aAdd ta tb) := ae_op op_addH ab_add ha hb
theorem Reps.flat {K : PySem.W.Frag} {H : Hp} {ds : List Dv} {vs : List V} (h : Reps K H ds vs) : ∀ (n : Nat), Reps K H (List.replicate n ds).flatten (List.replicate n vs).flatten
  | 0 => Reps.nil
  | n + 1 => by
    rw [List.replicate_succ, List.replicate_succ, List.flatten_cons, List.flatten_cons]
    exact h.append (Reps.flat h n)
def aMul : AR2 := fun x y M Q => match x, y with
  | .int i, .int j => (CMul i j ∨ CMulW i j) ∧ Q (.int (i * j)) M
  | .ref a, .int k => ∃ xs, M a = some (.lst xs) ∧ k < 2 ^ 63 ∧ -(2 ^ 63) ≤ k ∧ xs.length * k.toNat ≤ sizeLine ∧ ∀ p, M p = none → Q (.ref p) (mup M p (.lst (List.replicate k.toNat xs).flatten))
  | .tup xs, .int k => xs ≠ [] ∧ -1000 ≤ k ∧ k ≤ 1000 ∧ xs.length ≤ 1000 ∧ Q (.tup (List.replicate k.toNat xs).flatten) M
  | _, _ => False
def rRepT1 (K : PySem.W.Frag) : R2 := fun x y H Q => ∃ l xs, x = .ref l ∧ y = .int 1 ∧ SqT K H l xs ∧ Q (.ref l) H
open PyProof.Rows in
theorem tuple_mulW1 (l : Addr) (items : Array Value) (n : Nat) (dd : Option Addr) (sl : Array (Option Value)) (u : Tok) :
    Meets (Builtin.«tuple.__mul__» ⟨[.ref l, .int 1 u], []⟩) (fun _ R s => s.heap.get? l = some { cls := .type "tuple", dict := dd, data := .seq items n, slots := sl } ∧
      R (.ok (.ret (Value.ref l))) s) :=
  .of_wp fun prog w A R s h => by
    obtain ⟨hp, g, d, tk, os⟩ := s
    obtain ⟨hl, h⟩ := h
    have f1 := AutoSeq1.idx_int
    have c1 : (items.isEmpty || (1 : Int) == 1) = true := by simp
    wp_walk using wpAny_loadPart' hl
    repeat (first
      | (refine wpAny_ite_false (decide_eq_false (by decide)) ?_; wp_walk using wpAny_loadPart' hl)
      | (refine wpAny_ite_true (decide_eq_true c1) ?_; wp_walk using wpAny_loadPart' hl))
    all_goals first | exact ⟨_, rfl, h⟩ | trace_state
theorem op_repT1 : OpR X (binaryOp .Mult) (rRepT1 X.K) := by
  intro pins s σ H x y v u Q I rx ry h
  obtain ⟨l, xs, rfl, rfl, hT, q⟩ := h
  cases rx
  obtain ⟨t, rfl⟩ := ry
  obtain ⟨its, r, ⟨⟨cls, dd, data, sl⟩, ho, hc, n, hd⟩, hs⟩ := I.tuple hT
  simp only at hc hd
  subst hc hd
  exact wpAny_binaryOp_repeat_ref (T := "tuple") (U := "int") (by decide) ⟨_, ho, rfl⟩ (fun s' => typeIs_int s' 1 t) noFill_tuple_mul F.fills_int_mul F.slot_int_rmul repeat_tuple F.slot_int_index.lookup
    (call_meets F.slot_int_rmul (typeIs_int s 1 t) F.entry_int_rmul (F.args_int_rmul_2 _ _) (int_rmul_tuple 1 t l its.toArray n dd sl)
      ⟨ho, rfl, ⟨_, ho, rfl⟩, call_meets F.slot_tuple_mul ⟨_, ho, rfl⟩ F.entry_tuple_mul (F.args_tuple_mul_2 _ _) (tuple_mulW1 l its.toArray n dd sl t) ⟨ho, ⟨.ref l, H, I, rfl, q⟩⟩⟩)
open PyProof.Rows in
theorem tuple_mulW0 (l : Addr) (items : Array Value) (n : Nat) (dd : Option Addr) (sl : Array (Option Value)) (x : Int) (u : Tok) (b0 : (decide (x < -(2 ^ 63)) || decide (x ≥ 2 ^ 63)) = false) (b1 : (items.isEmpty || x == 1) = false) (b2 : (decide (x ≤ 0) || items.isEmpty) = true) :
    Meets (Builtin.«tuple.__mul__» ⟨[.ref l, .int x u], []⟩) (fun _ R s => s.heap.get? l = some { cls := .type "tuple", dict := dd, data := .seq items n, slots := sl } ∧
      R (.ok (.ret (Value.ref s.heap.objs.size))) { s with heap := s.heap.push { cls := Value.type "tuple", data := Data.seq #[] }, toks := s.toks }) :=
  .of_wp fun prog w A R s h => by
    obtain ⟨hp, g, d, tk, os⟩ := s
    obtain ⟨hl, h⟩ := h
    have f1 := AutoSeq1.idx_int
    wp_walk using wpAny_loadPart' hl
    repeat (first
      | (refine wpAny_ite_false (decide_eq_false (ne_true_of_eq_false b0)) ?_; wp_walk using wpAny_loadPart' hl)
      | (refine wpAny_ite_false (decide_eq_false (ne_true_of_eq_false b1)) ?_; wp_walk using wpAny_loadPart' hl)
      | (refine wpAny_ite_true (decide_eq_true b2) ?_; wp_walk using wpAny_loadPart' hl))
    all_goals exact ⟨_, rfl, h⟩
def rRepT0 (K : PySem.W.Frag) : R2 := fun x y H Q => ∃ l k xs, x = .ref l ∧ y = .int k ∧ SqT K H l xs ∧ xs ≠ [] ∧ -1000 ≤ k ∧ k ≤ 0 ∧ ∀ p, H p = none → Q (.ref p) (upd H p (.tup []))
theorem op_repT0 : OpR X (binaryOp .Mult) (rRepT0 X.K) := by
  intro pins s σ H x y v u Q I rx ry h
  obtain ⟨l, k, xs, rfl, rfl, hT, hne, h1, h2, q⟩ := h
  cases rx
  obtain ⟨t, rfl⟩ := ry
  obtain ⟨its, r, ⟨⟨cls, dd, data, sl⟩, ho, hc, n, hd⟩, hs⟩ := I.tuple hT
  simp only at hc hd
  subst hc hd
  have he : its ≠ [] := by
    rintro rfl
    exact hne (List.eq_nil_of_length_eq_zero r.length)
  have hi : its.toArray.isEmpty = false := by
    cases its with
    | nil => exact absurd rfl he
    | cons a b => rfl
  have b0 : (decide (k < -(2 ^ 63)) || decide (k ≥ 2 ^ 63)) = false := by
    simp only [Bool.or_eq_false_iff, decide_eq_false_iff_not]
    omega
  have b1 : (its.toArray.isEmpty || k == 1) = false := by
    simp only [hi, Bool.false_or, beq_eq_false_iff_ne]
    omega
  have b2 : (decide (k ≤ 0) || its.toArray.isEmpty) = true := by simp [h2]
  refine wpAny_binaryOp_repeat_ref (T := "tuple") (U := "int") (by decide) ⟨_, ho, rfl⟩ (fun s' => typeIs_int s' k t) noFill_tuple_mul F.fills_int_mul F.slot_int_rmul repeat_tuple F.slot_int_index.lookup
    (call_meets F.slot_int_rmul (typeIs_int s k t) F.entry_int_rmul (F.args_int_rmul_2 _ _) (int_rmul_tuple k t l its.toArray n dd sl)
      ⟨ho, rfl, ⟨_, ho, rfl⟩, call_meets F.slot_tuple_mul ⟨_, ho, rfl⟩ F.entry_tuple_mul (F.args_tuple_mul_2 _ _) (tuple_mulW0 l its.toArray n dd sl k t b0 b1 b2) ⟨ho, ?_⟩⟩)
  refine ⟨.ref s.heap.objs.size, _, I.laid (t' := s.toks) (o := .tup []) (fun b ob z => Heap.get?_push_of_some _ z) (Nat.le_refl _) ?_, rfl, q _ (I.hok.fresh (Nat.le_refl _))⟩
  exact ⟨Nat.zero_le _, _, .nil, IsTup.new _ _⟩
def rMulH (K : PySem.W.Frag) : R2 := fun x y H Q => (rI CMul (fun i j => .int (i * j)) x y H Q ∨ rI CMulW (fun i j => .int (i * j)) x y H Q) ∨ (rRep x y H Q ∨ (rRepT1 K x y H Q ∨ (rRepT0 K x y H Q ∨ rRepT K x y H Q)))
theorem op_mulH : OpR X (binaryOp .Mult) (rMulH X.K) := opr_or (opr_or op_mul op_mulW) (opr_or op_rep (opr_or op_repT1 (opr_or op_repT0 op_repT)))
theorem ab_mul {K : PySem.W.Frag} : Ab2 K (rMulH K) aMul := by
  intro H M x y dx dy Q Q' rx ry hv q k
  cases dx <;> cases dy <;> first | exact q.elim | skip
  case int.int i j =>
    obtain ⟨c, q⟩ := q
    rcases c with c | c
    · exact .inl (.inl ⟨i, j, rep_int_inv rx, rep_int_inv ry, c, k _ _ _ _ (Tp.refl H) rep_int hv q⟩)
    · exact .inl (.inr ⟨i, j, rep_int_inv rx, rep_int_inv ry, c, k _ _ _ _ (Tp.refl H) rep_int hv q⟩)
  case tup.int ds n =>
    obtain ⟨hne, h1, h2, h3, q⟩ := q
    obtain ⟨a, vs, e1, s1, r1⟩ := rep_tup_inv rx
    have l1 := r1.length
    by_cases hn : n = 1
    · subst hn
      refine .inr (.inr (.inl ⟨a, vs, e1, rep_int_inv ry, s1, k _ _ _ _ (Tp.refl H) (rep_tup s1 ?_) hv q⟩))
      simpa using r1
    · by_cases h0 : n ≤ 0
      · have e0 : (List.replicate n.toNat ds).flatten = [] := by
          rw [Int.toNat_of_nonpos h0]; rfl
        rw [e0] at q
        refine .inr (.inr (.inr (.inl ⟨a, n, vs, e1, rep_int_inv ry, s1, fun z => hne (List.length_eq_zero_iff.mp (by rw [l1, z]; rfl)), h1, h0, end_tup .nil hv q k⟩)))
      refine .inr (.inr (.inr (.inr ⟨a, n, vs, e1, rep_int_inv ry, s1, fun z => hne (List.length_eq_zero_iff.mp (by rw [l1, z]; rfl)), by omega, h2, by omega, end_tup (r1.flat n.toNat) hv q k⟩)))
  case ref.int a n =>
    obtain ⟨xs, h1, h2, h3, z, q⟩ := q
    obtain ⟨vs, e1, r1⟩ := view_lst hv h1
    have l1 := r1.length
    exact .inr (.inl ⟨a, n, vs, rep_ref_inv rx, rep_int_inv ry, e1, h3, h2, by rw [← l1]; exact z, end_lst (r1.flat n.toNat) hv q k⟩)
theorem ae_mul (ha : AE X a ta) (hb : AE X b tb) : AE X (.BinOp a .Mult b pos) (aOp aMul ta tb) := ae_op op_mulH ab_mul ha hb
def Pl : Nat → Dv → Prop
  | _, .non => True
  | _, .int _ => True
  | _, .str x => PyData.canLay0 (.str x) = true
  | n + 1, .tup xs => ∀ d ∈ xs, Pl n d
  | n + 1, .rol xs => ∀ d ∈ xs, Pl n d
  | _, _ => False
def pyP : Nat → Dv → PyData
  | _, .int i => .int i
  | _, .str x => .str x
  | n + 1, .tup xs => .tuple (xs.map (pyP n))
  | n + 1, .rol xs => .list (xs.map (pyP n))
  | _, _ => .none
section
variable {K : PySem.W.Frag} {H : Hp}
theorem dpAll_of {n : Nat} (ih : ∀ d v, Pl n d → Rep K H d v → Dp K H v (pyP n d)) : ∀ {xs : List Dv} {vs : List V}, (∀ d ∈ xs, Pl n d) → Reps K H xs vs → DpAll K H vs (xs.map (pyP n))
  | [], _, _, r => by rw [r.nil_inv]; exact .nil
  | d :: xs, _, h, r => by
    obtain ⟨v, w, rfl, r1, r2⟩ := r.cons_inv
    exact .cons (ih d v (h d (by simp)) r1) (dpAll_of ih (fun e he => h e (by simp [he])) r2)
theorem dp_of : ∀ (n : Nat) (d : Dv) (v : V), Pl n d → Rep K H d v → Dp K H v (pyP n d)
  | 0, .non, v, _, r => by rw [rep_non_inv r]; exact .non
  | n + 1, .non, v, _, r => by rw [rep_non_inv r]; exact .non
  | 0, .int i, v, _, r => by rw [rep_int_inv r]; exact .int i
  | n + 1, .int i, v, _, r => by rw [rep_int_inv r]; exact .int i
  | 0, .str i, v, _, r => by rw [rep_str_inv r]; exact .str i
  | n + 1, .str i, v, _, r => by rw [rep_str_inv r]; exact .str i
  | n + 1, .tup xs, v, h, r => by
    obtain ⟨a, vs, e, s, z⟩ := rep_tup_inv r
    subst e
    exact .tup s (dpAll_of (dp_of n) h z)
  | n + 1, .rol xs, v, h, r => by
    obtain ⟨a, vs, e, s, z⟩ := rep_rol_inv r
    subst e
    exact .lst s.l (dpAll_of (dp_of n) h z)
theorem canLayAll_of {f : Dv → PyData} : ∀ {xs : List Dv}, (∀ d ∈ xs, (f d).canLay0 = true) → PyData.canLayAll0 (xs.map f) = true
  | [], _ => by simp [PyData.canLayAll0]
  | d :: xs, h => by
    have h1 := h d (by simp)
    have h2 := canLayAll_of fun e (he : e ∈ xs) => h e (List.mem_cons_of_mem _ he)
    simp [PyData.canLayAll0, h1, h2]
theorem canLay_pl : ∀ (n : Nat) (d : Dv), Pl n d → (pyP n d).canLay0 = true
  | 0, .non, _ => by simp [pyP, PyData.canLay0]
  | n + 1, .non, _ => by simp [pyP, PyData.canLay0]
  | 0, .int _, _ => by simp [pyP, PyData.canLay0]
  | n + 1, .int _, _ => by simp [pyP, PyData.canLay0]
  | 0, .str _, h => h
  | n + 1, .str _, h => h
  | n + 1, .tup xs, h => by
    simp only [pyP, PyData.canLay0]
    exact canLayAll_of fun d hd => canLay_pl n d (h d hd)
  | n + 1, .rol xs, h => by
    simp only [pyP, PyData.canLay0]
    exact canLayAll_of fun d hd => canLay_pl n d (h d hd)
theorem depthAll_of {f : Dv → PyData} {n : Nat} : ∀ {xs : List Dv}, (∀ d ∈ xs, (f d).depth ≤ n) → PyData.depthAll (xs.map f) ≤ n
  | [], _ => by simp [PyData.depthAll]
  | d :: xs, h => by
    have h1 := h d (by simp)
    have h2 := depthAll_of fun e he => h e (List.mem_cons_of_mem _ he)
    simp [PyData.depthAll]
    omega
theorem depth_pl : ∀ (n : Nat) (d : Dv), Pl n d → (pyP n d).depth ≤ n
  | 0, .non, _ => by simp [pyP, PyData.depth]
  | n + 1, .non, _ => by simp [pyP, PyData.depth]
  | 0, .int _, _ => by simp [pyP, PyData.depth]
  | n + 1, .int _, _ => by simp [pyP, PyData.depth]
  | 0, .str _, h => by simp [pyP, PyData.depth]
  | n + 1, .str _, h => by simp [pyP, PyData.depth]
  | n + 1, .tup xs, h => by
    simp only [pyP, PyData.depth]
    have := depthAll_of fun d hd => depth_pl n d (h d hd)
    omega
  | n + 1, .rol xs, h => by
    simp only [pyP, PyData.depth]
    have := depthAll_of fun d hd => depth_pl n d (h d hd)
    omega
theorem eqvAll_of {n : Nat} (ih : ∀ d e, Pl n d → Pl n e → (PyData.eqv (pyP n d) (pyP n e) = true ↔ d = e)) : ∀ {xs ys : List Dv}, (∀ d ∈ xs, Pl n d) → (∀ d ∈ ys, Pl n d) → (PyData.eqvAll (xs.map (pyP n)) (ys.map (pyP n)) = true ↔ xs = ys)
  | [], [], _, _ => by simp [PyData.eqvAll]
  | [], _ :: _, _, _ => by simp [PyData.eqvAll]
  | _ :: _, [], _, _ => by simp [PyData.eqvAll]
  | d :: xs, e :: ys, h, h' => by
    have h1 := ih d e (h d (by simp)) (h' e (by simp))
    have h2 := eqvAll_of ih (xs := xs) (ys := ys) (fun z hz => h z (by simp [hz])) fun z hz => h' z (by simp [hz])
    simp [PyData.eqvAll, h1, h2]
theorem eqv_pl : ∀ (n : Nat) (d e : Dv), Pl n d → Pl n e → (PyData.eqv (pyP n d) (pyP n e) = true ↔ d = e) := by
  intro n
  induction n with
  | zero =>
    intro d e hd he
    cases d <;> cases e <;> first | exact hd.elim | exact he.elim | simp [pyP, PyData.eqv]
  | succ n ih =>
    intro d e hd he
    cases d <;> cases e <;> first | exact hd.elim | exact he.elim | skip
    case tup.tup xs ys =>
      have := eqvAll_of ih (xs := xs) (ys := ys) hd he
      simp only [pyP, PyData.eqv, this, Dv.tup.injEq]
    case rol.rol xs ys =>
      have := eqvAll_of ih (xs := xs) (ys := ys) hd he
      simp only [pyP, PyData.eqv, this, Dv.rol.injEq]
    all_goals simp [pyP, PyData.eqv]
open Classical in
theorem eqv_dec (n : Nat) (d e : Dv) (hd : Pl n d) (he : Pl n e) : PyData.eqv (pyP n d) (pyP n e) = decide (d = e) := by
  by_cases h : d = e
  · rw [decide_eq_true h]; exact (eqv_pl n d e hd he).mpr h
  · rw [decide_eq_false h]
    cases q : PyData.eqv (pyP n d) (pyP n e) with
    | false => rfl
    | true => exact absurd ((eqv_pl n d e hd he).mp q) h
end
open Classical in
noncomputable def aEqB (x y : Dv) (M : Ms) (Q : Bool → Prop) : Prop := match x, y with
  | .bl a, .bl b => Q (a == b)
  | .ref a, .ref b => ∃ xs ys, M a = some (.lst xs) ∧ M b = some (.lst ys) ∧ (∀ d ∈ xs, Pl 8 d) ∧ (∀ d ∈ ys, Pl 8 d) ∧ Q (decide (xs = ys))
  | .ref a, .rol ys => ∃ xs, M a = some (.lst xs) ∧ Pl 9 (.rol xs) ∧ Pl 9 (.rol ys) ∧ Q (decide (xs = ys))
  | .rol xs, .ref b => ∃ ys, M b = some (.lst ys) ∧ Pl 9 (.rol xs) ∧ Pl 9 (.rol ys) ∧ Q (decide (xs = ys))
  | x, y => Pl 9 x ∧ Pl 9 y ∧ Q (decide (x = y))
noncomputable def aEq : AR2 := fun x y M Q => aEqB x y M fun b => Q (.bl b) M
noncomputable def aNe : AR2 := fun x y M Q => aEqB x y M fun b => Q (.bl (!b)) M
theorem shaped_of {d : PyData} (h1 : d.canLay0 = true) (h2 : d.depth ≤ 20) : SeqAt.shaped d = true := by
  unfold SeqAt.shaped
  rw [h1, Bool.true_and]
  exact decide_eq_true (by omega)
open Classical in
theorem aEqB_ok {K : PySem.W.Frag} {H : Hp} {M : Ms} {x y : V} {dx dy : Dv} {P : Bool → Prop} (rx : Rep K H dx x) (ry : Rep K H dy y) (hv : View K M H) (h : aEqB dx dy M P) :
    ∃ d e, Dp K H x d ∧ Dp K H y e ∧ SeqAt.shaped d = true ∧ SeqAt.shaped e = true ∧ P (PyData.eqv d e) := by
  have gen : Pl 9 dx → Pl 9 dy → P (decide (dx = dy)) → ∃ d e, Dp K H x d ∧ Dp K H y e ∧ SeqAt.shaped d = true ∧ SeqAt.shaped e = true ∧ P (PyData.eqv d e) := fun h1 h2 q => by
    have d1 := depth_pl 9 _ h1
    have d2 := depth_pl 9 _ h2
    exact ⟨_, _, dp_of 9 _ _ h1 rx, dp_of 9 _ _ h2 ry, shaped_of (canLay_pl _ _ h1) (by omega), shaped_of (canLay_pl _ _ h2) (by omega), by rw [eqv_dec 9 _ _ h1 h2]; exact q⟩
  unfold aEqB at h
  split at h
  · next a b =>
    rw [rep_bl_inv rx, rep_bl_inv ry]
    refine ⟨.bool a, .bool b, .bl a, .bl b, by rfl, by rfl, ?_⟩
    simp only [PyData.eqv]
    exact h
  · next a b =>
    obtain ⟨xs, ys, h1, h2, p1, p2, q⟩ := h
    obtain ⟨vs, e1, r1⟩ := view_lst hv h1
    obtain ⟨ws, e2, r2⟩ := view_lst hv h2
    rw [rep_ref_inv rx, rep_ref_inv ry]
    have c1 : PyData.canLay0 (.list (xs.map (pyP 8))) = true := by simp only [PyData.canLay0]; exact canLayAll_of fun d hd => canLay_pl 8 d (p1 d hd)
    have c2 : PyData.canLay0 (.list (ys.map (pyP 8))) = true := by simp only [PyData.canLay0]; exact canLayAll_of fun d hd => canLay_pl 8 d (p2 d hd)
    have z1 : PyData.depth (.list (xs.map (pyP 8))) ≤ 20 := by
      have := depthAll_of fun d hd => depth_pl 8 d (p1 d hd)
      simp only [PyData.depth]; omega
    have z2 : PyData.depth (.list (ys.map (pyP 8))) ≤ 20 := by
      have := depthAll_of fun d hd => depth_pl 8 d (p2 d hd)
      simp only [PyData.depth]; omega
    refine ⟨_, _, .lst (.inl (.inl e1)) (dpAll_of (dp_of 8) p1 r1), .lst (.inl (.inl e2)) (dpAll_of (dp_of 8) p2 r2), shaped_of c1 z1, shaped_of c2 z2, ?_⟩
    have e := eqvAll_of (eqv_pl 8) p1 p2
    have e' : PyData.eqv (.list (xs.map (pyP 8))) (.list (ys.map (pyP 8))) = decide (xs = ys) := by
      simp only [PyData.eqv]
      by_cases q : xs = ys
      · rw [decide_eq_true q]; exact e.mpr q
      · rw [decide_eq_false q]
        cases w : PyData.eqvAll (xs.map (pyP 8)) (ys.map (pyP 8)) with
        | false => rfl
        | true => exact absurd (e.mp w) q
    rw [e']; exact q
  · next a ys =>
    obtain ⟨xs, h1, p1, p2, q⟩ := h
    obtain ⟨vs, e1, r1⟩ := view_lst hv h1
    rw [rep_ref_inv rx]
    have d1 := depth_pl 9 _ p1
    have d2 := depth_pl 9 _ p2
    have eq : decide (Dv.rol xs = Dv.rol ys) = decide (xs = ys) := by simp only [Dv.rol.injEq]
    refine ⟨pyP 9 (.rol xs), _, ?_, dp_of 9 _ _ p2 ry, shaped_of (canLay_pl _ _ p1) (by omega), shaped_of (canLay_pl _ _ p2) (by omega), by rw [eqv_dec 9 _ _ p1 p2, eq]; exact q⟩
    show Dp K H (.ref a) (.list (xs.map (pyP 8)))
    exact .lst (.inl (.inl e1)) (dpAll_of (dp_of 8) p1 r1)
  · next xs b =>
    obtain ⟨ys, h1, p1, p2, q⟩ := h
    obtain ⟨vs, e1, r1⟩ := view_lst hv h1
    rw [rep_ref_inv ry]
    have d1 := depth_pl 9 _ p1
    have d2 := depth_pl 9 _ p2
    have eq : decide (Dv.rol xs = Dv.rol ys) = decide (xs = ys) := by simp only [Dv.rol.injEq]
    refine ⟨_, pyP 9 (.rol ys), dp_of 9 _ _ p1 rx, ?_, shaped_of (canLay_pl _ _ p1) (by omega), shaped_of (canLay_pl _ _ p2) (by omega), by rw [eqv_dec 9 _ _ p1 p2, eq]; exact q⟩
    show Dp K H (.ref b) (.list (ys.map (pyP 8)))
    exact .lst (.inl (.inl e1)) (dpAll_of (dp_of 8) p2 r1)
  · exact gen h.1 h.2.1 h.2.2
theorem ab_eq {K : PySem.W.Frag} : Ab2 K (rEqD K) aEq := fun H M x y dx dy Q Q' rx ry hv q k => by
  obtain ⟨d, e, h1, h2, h3, h4, q⟩ := aEqB_ok rx ry hv q
  exact ⟨d, e, h1, h2, h3, h4, k _ _ _ _ (Tp.refl H) rep_bl hv q⟩
theorem ab_ne {K : PySem.W.Frag} : Ab2 K (rNeD K) aNe := fun H M x y dx dy Q Q' rx ry hv q k => by
  obtain ⟨d, e, h1, h2, h3, h4, q⟩ := aEqB_ok rx ry hv q
  exact ⟨d, e, h1, h2, h3, h4, k _ _ _ _ (Tp.refl H) rep_bl hv q⟩
theorem ae_eq (hu : X.A.units + 64 < cLine) (ha : AE X a ta) (hb : AE X b tb) : AE X (.Compare a [.Eq] [b] pos) (aOp aEq ta tb) := ae_cmp (op_eqD hu) ab_eq ha hb (nomark _)
theorem ae_ne (hu : X.A.units + 64 < cLine) (ha : AE X a ta) (hb : AE X b tb) : AE X (.Compare a [.NotEq] [b] pos) (aOp aNe ta tb) := ae_cmp (op_neD hu) ab_ne ha hb (nomark _)
theorem at_eq (hu : X.A.units + 64 < cLine) (ha : AE X a ta) (hb : AE X b tb) : AT X (.Compare a [.Eq] [b] pos) (aB (aOp aEq ta tb)) := at_cmp (op_eqD hu) ab_eq ha hb (nomark _)
theorem at_ne (hu : X.A.units + 64 < cLine) (ha : AE X a ta) (hb : AE X b tb) : AT X (.Compare a [.NotEq] [b] pos) (aB (aOp aNe ta tb)) := at_cmp (op_neD hu) ab_ne ha hb (nomark _)
end
end HC
set_option maxHeartbeats 4000000
namespace HC
open PySem L2
abbrev RG := Dv → Env' → Ms → (Env' → Ms → Prop) → Prop
abbrev RGs := List Dv → Env' → Ms → (Env' → Ms → Prop) → Prop
def cG (K : PySem.W.Frag) (t : RG) : TG := fun v σ H Q' => ∃ d ρ M Q, Rep K H d v ∧ RepE K H ρ σ ∧ View K M H ∧ t d ρ M Q ∧ LkS K H Q Q'
def cGs (K : PySem.W.Frag) (t : RGs) : TGs := fun vs σ H Q' => ∃ ds ρ M Q, Reps K H ds vs ∧ RepE K H ρ σ ∧ View K M H ∧ t ds ρ M Q ∧ LkS K H Q Q'
def AG (X : Cx) (e : Expr) (t : RG) : Prop := PG X e (cG X.K t)
def AGs (X : Cx) (es : List Expr) (t : RGs) : Prop := PGs X es (cGs X.K t)
theorem pg_imp {X : Cx} {e : Expr} {t t' : TG} (h : PG X e t) (f : ∀ v σ H Q, t' v σ H Q → t v σ H Q) : PG X e t' := ⟨fun pins s σ H v u Q I r q => h.run pins s σ H v u Q I r (f _ _ _ _ q)⟩
theorem pgs_imp {X : Cx} {e : List Expr} {t t' : TGs} (h : PGs X e t) (f : ∀ v σ H Q, t' v σ H Q → t v σ H Q) : PGs X e t' := ⟨fun pins s σ H v u Q I r q => h.run pins s σ H v u Q I r (f _ _ _ _ q)⟩
theorem pg_or {X : Cx} {e : Expr} {t t' : TG} (h : PG X e t) (h' : PG X e t') : PG X e (fun v σ H Q => t v σ H Q ∨ t' v σ H Q) := ⟨fun pins s σ H v u Q I r q => q.elim (fun q => h.run pins s σ H v u Q I r q) (fun q => h'.run pins s σ H v u Q I r q)⟩
section
variable {X : Cx} {pos : Pos} {e : Expr} {es : List Expr}
def agName (i : Nat) : RG := fun d ρ M Q => Q (ρ.set i (some d)) M
theorem ag_name (i : Nat) {x : Str} (hN : X.N.Nodup) (hi : X.N[i]? = some x := by rfl) (hx : Loc X.env.scope x := by first | exact .inl rfl | exact .inr rfl) (hf : X.fn x = true ∨ X.env.scope.names.lookup x = some .local := by first | exact .inl rfl | exact .inr rfl) : AG X (.Name x pos) (agName i) :=
  pg_imp (pg_name hN hi hx hf) fun v σ H Q' ⟨d, ρ, M, Q, rd, hr, hv, q, k⟩ => k _ _ _ _ (Tp.refl H) (hr.set i rd) hv q
def agNil : RGs := fun ds ρ M Q => ds = [] ∧ Q ρ M
def agCons (t : RG) (u : RGs) : RGs := fun ds ρ M Q => match ds with
  | [] => False
  | d :: r => t d ρ M fun ρ1 M1 => u r ρ1 M1 Q
theorem ags_nil : AGs X [] agNil := pgs_imp pgs_nil fun v σ H Q' ⟨d, ρ, M, Q, rd, hr, hv, ⟨e, q⟩, k⟩ => by
  subst e
  exact ⟨rd.nil_inv, k _ _ _ _ (Tp.refl H) hr hv q⟩
theorem ags_cons {t : RG} {u : RGs} (h1 : AG X e t) (h2 : AGs X es u) (hs : (assignEach (e :: es) X.env).map (·.2) = assign e X.env :: (assignEach es X.env).map (·.2) := by rfl) : AGs X (e :: es) (agCons t u) :=
  pgs_imp (pgs_cons h1 h2 hs) fun vs σ H Q' ⟨ds, ρ, M, Q, rd, hr, hv, q, k⟩ => by
    cases ds with
    | nil => exact q.elim
    | cons d r =>
      obtain ⟨v, vr, e1, r1, r2⟩ := rd.cons_inv
      exact ⟨v, vr, e1, d, ρ, M, _, r1, hr, hv, q, fun σ1 H1 ρ1 M1 t1 hr1 hv1 q1 => ⟨r, ρ1, M1, Q, r2.mono t1, hr1, hv1, q1, k.up t1⟩⟩
def itemsA : Dv → Ms → Option (List Dv)
  | .tup ds, _ => some ds
  | .rol ds, _ => some ds
  | .tuc ds, _ => some ds
  | .ref a, M => match M a with | some (.lst ds) => some ds | _ => none
  | _, _ => none
theorem itemsA_ok {K : PySem.W.Frag} {M : Ms} {H : Hp} {d : Dv} {v : V} {ds : List Dv} (r : Rep K H d v) (hv : View K M H) (h : itemsA d M = some ds) : ∃ a vs, v = .ref a ∧ (SqT K H a vs ∨ SqL K H a vs) ∧ Reps K H ds vs := by
  cases d with
  | tup es =>
    cases h
    obtain ⟨a, vs, e, s, z⟩ := (show ∃ a vs, v = .ref a ∧ SqT K H a vs ∧ Reps K H ds vs by simpa only [Rep] using r)
    exact ⟨a, vs, e, .inl s, z⟩
  | rol es =>
    cases h
    obtain ⟨a, vs, e, s, z⟩ := (show ∃ a vs, v = .ref a ∧ SqF K H a vs ∧ Reps K H ds vs by simpa only [Rep] using r)
    exact ⟨a, vs, e, .inr s.l, z⟩
  | exc _ _ => cases h
  | tuc es =>
    cases h
    obtain ⟨a, vs, e, s, z⟩ := (show ∃ a vs, v = .ref a ∧ SqC H a vs ∧ Reps K H ds vs by simpa only [Rep] using r)
    exact ⟨a, vs, e, .inl s.t, z⟩
  | ref a =>
    have e : v = .ref a := by simpa only [Rep] using r
    simp only [itemsA] at h
    cases q : M a with
    | none => rw [q] at h; cases h
    | some c =>
      rw [q] at h
      cases c with
      | dic _ => cases h
      | dit _ => cases h
      | fdc _ => cases h
      | obj _ _ => cases h
      | lst es =>
        cases h
        obtain ⟨vs, h1, h2⟩ := hv a _ q
        exact ⟨a, vs, e, .inr (.inl (.inl h1)), h2⟩
  | non => cases h
  | bl _ => cases h
  | int _ => cases h
  | str _ => cases h
  | ty _ => cases h
def agTup (n : Nat) (t : RGs) : RG := fun d ρ M Q => onS (itemsA d M) fun ds => ds.length = n ∧ t ds ρ M Q
theorem ag_tup {k : Nat} {t : RGs} {n : Nat} (hc : X.calm = true) (h : AGs X es t) (hn : (assignEach es X.env).length = n := by rfl) (hst : (assignEach es X.env).findIdx? (·.1) = none := by rfl) : AG X (.Tuple es k pos) (agTup n t) :=
  pg_imp (pg_or (pg_tup hc h hn hst) (pg_lst hc h hn hst)) fun v σ H Q' ⟨d, ρ, M, Q, rd, hr, hv, q, k⟩ => by
    obtain ⟨ds, e, hl, q⟩ := onS_ex q
    obtain ⟨a, vs, e1, s, z⟩ := itemsA_ok rd hv e
    rcases s with s | s
    · exact .inl ⟨a, vs, e1, s, by rw [← z.length]; exact hl, ds, ρ, M, Q, z, hr, hv, q, k⟩
    · exact .inr ⟨a, vs, e1, s, by rw [← z.length]; exact hl, ds, ρ, M, Q, z, hr, hv, q, k⟩
end
section
variable {X : Cx} {pos : Pos} {a b c e tg : Expr} {te : RE} {st : Stmt} {sts rest : List Stmt} {t u : RS} {tc : RT} {g : RG}
theorem seqS {K : PySem.W.Frag} {ρ : Env'} {σ : L2.St} {M : Ms} {H : Hp} {t : RS} {D : Ends'} {D' : Ends} (hr : RepE K H ρ σ) (hv : View K M H) (h : t D ρ M) (k : LkD K H D D') : cS K t D' σ H := ⟨ρ, M, D, hr, hv, h, k⟩
def aNext : RS := fun D ρ M => D.nx ρ M
def aSeq (t u : RS) : RS := fun D ρ M => t { D with nx := u D } ρ M
theorem next_imp {K : PySem.W.Frag} : ∀ D σ H, cS K aNext D σ H → tNext D σ H := fun D' σ H ⟨ρ, M, D, hr, hv, q, k⟩ => k.nx _ _ _ _ (Tp.refl H) hr hv q
theorem as_pass : AS X (.Pass pos) aNext := ps_imp ps_pass next_imp
theorem ass_nil : ASs X [] aNext := pss_imp pss_nil next_imp
theorem ass_cons (h1 : AS X st t) (h2 : ASs X rest u) : ASs X (st :: rest) (aSeq t u) :=
  pss_imp (pss_cons h1 h2) fun D' σ H ⟨ρ, M, D, hr, hv, q, k⟩ => seqS (D := { D with nx := u D }) hr hv q ⟨fun σ1 H1 ρ1 M1 t1 r1 v1 q1 => seqS r1 v1 q1 (k.up t1), k.rt, k.bk, k.ct⟩
theorem ass_one (h : AS X st t) : ASs X [st] t := pss_one h
def aBrk : RS := fun D ρ M => D.bk ρ M
def aCnt : RS := fun D ρ M => D.ct ρ M
theorem as_brk : AS X (.Break pos) aBrk := ps_imp ps_break fun D' σ H ⟨ρ, M, D, hr, hv, q, k⟩ => k.bk _ _ _ _ (Tp.refl H) hr hv q
theorem as_cnt : AS X (.Continue pos) aCnt := ps_imp ps_continue fun D' σ H ⟨ρ, M, D, hr, hv, q, k⟩ => k.ct _ _ _ _ (Tp.refl H) hr hv q
def aDrop (te : RE) : RS := fun D ρ M => te ρ M fun _ M1 => D.nx ρ M1
theorem as_expr (h : AE X e te) (hs : swapsWith e none pos.line X.env = pure false := by rfl) : AS X (.Expr e pos) (aDrop te) := ps_imp (ps_expr h hs) fun D' σ H ⟨ρ, M, D, hr, hv, q, k⟩ => seqE hr hv q fun v H1 d M1 t1 r1 v1 q1 => k.nx _ _ _ _ t1 (hr.mono t1) v1 q1
def aRet (te : RE) : RS := fun D ρ M => te ρ M D.rt
theorem as_ret (h : AE X e te) : AS X (.Return (some e) pos) (aRet te) := ps_imp (ps_ret h) fun D' σ H ⟨ρ, M, D, hr, hv, q, k⟩ => seqE hr hv q k.rt
def aRetN : RS := fun D _ M => D.rt .non M
theorem as_retN : AS X (.Return none pos) aRetN := ps_imp ps_retN fun D' σ H ⟨ρ, M, D, hr, hv, q, k⟩ => k.rt _ _ _ _ (Tp.refl H) (by simp only [Rep]) hv q
def aIfS (tc : RT) (t u : RS) : RS := fun D ρ M => tc ρ M fun b M1 => onIf b (t D ρ M1) (u D ρ M1)
theorem as_if {as bs : List Stmt} (hc : AT X c tc) (h1 : ASs X as t) (h2 : ASs X bs u) : AS X (.If c as bs pos) (aIfS tc t u) :=
  ps_imp (ps_if hc h1 h2) fun D' σ H ⟨ρ, M, D, hr, hv, q, k⟩ => seqT hr hv q fun b H1 M1 t1 v1 q1 => by
    cases b with
    | true => exact seqS (hr.mono t1) v1 q1 (k.up t1)
    | false => exact seqS (hr.mono t1) v1 q1 (k.up t1)
def aAsg (te : RE) (g : RG) : RS := fun D ρ M => te ρ M fun d M1 => g d ρ M1 D.nx
theorem as_asg (he : AE X e te) (hg : AG X tg g) (hs : swapsWithSole [tg] e pos.line X.env = pure false := by rfl) (hw : swappedStores [tg] e X.env = pure none := by rfl)
    (h1 : (assignEach [tg] X.env).map (·.2) = [assign tg X.env] := by rfl) : AS X (.Assign [tg] e pos) (aAsg te g) :=
  ps_imp (ps_asg he hg hs hw h1) fun D' σ H ⟨ρ, M, D, hr, hv, q, k⟩ => seqE hr hv q fun v H1 d M1 t1 r1 v1 q1 => ⟨d, ρ, M1, D.nx, r1, hr.mono t1, v1, q1, k.nx.up t1⟩
theorem asg_name_imp {K : PySem.W.Frag} {i : Nat} {te' : TE} (h : ∀ σ H Q, cE K te σ H Q → te' σ H Q) : ∀ D σ H, cS K (aAsg te (agName i)) D σ H → tAsg te' (gName i) D σ H := fun D' σ H ⟨ρ, M, D, hr, hv, q, k⟩ =>
  h _ _ _ (seqE hr hv q fun v H1 d M1 t1 r1 v1 q1 => k.nx _ _ _ _ t1 ((hr.mono t1).set i r1) v1 q1)
theorem as_set (i : Nat) {x : Str} {pos' : Pos} (hN : X.N.Nodup) (he : AE X e te) (hi : X.N[i]? = some x := by rfl) (hx : Loc X.env.scope x := by first | exact .inl rfl | exact .inr rfl) (hs : swapsWith e (some (.Name x pos')) pos.line X.env = pure false := by rfl) (hf : X.fn x = true ∨ X.env.scope.names.lookup x = some .local := by first | exact .inl rfl | exact .inr rfl) :
    AS X (.Assign [.Name x pos'] e pos) (aAsg te (agName i)) := ps_imp (ps_set hN hi hx he hs hf) (asg_name_imp fun _ _ _ q => q)
def aPar (i j : Nat) (ta : RA) : RS := fun D ρ M => ta ρ M fun ds M1 => match ds with
  | [d, f] => D.nx ((ρ.set i (some d)).set j (some f)) M1
  | _ => False
theorem as_par (i j : Nat) {x y : Str} {ta : RA} {px py pt : Pos} {kt k2 pt2} (hc : X.calm = true) (hN : X.N.Nodup) (ha : AA X [a, b] ta) (hi : X.N[i]? = some x := by rfl) (hj : X.N[j]? = some y := by rfl) (hij : i ≠ j := by decide)
    (hx : X.env.scope.names.lookup x = some .local := by rfl) (hy : X.env.scope.names.lookup y = some .local := by rfl)
    (hw : swappedStores [.Tuple [.Name x px, .Name y py] kt pt] (.Tuple [a, b] k2 pt2) X.env = pure (some [x, y]) := by rfl)
    (hs : swapsWithSole [.Tuple [.Name x px, .Name y py] kt pt] (.Tuple [a, b] k2 pt2) pos.line X.env = pure false := by rfl) :
    AS X (.Assign [.Tuple [.Name x px, .Name y py] kt pt] (.Tuple [a, b] k2 pt2) pos) (aPar i j ta) :=
  ps_imp (ps_par hc hN hi hj hij hx hy ha hw hs) fun D' σ H ⟨ρ, M, D, hr, hv, q, k⟩ => ⟨ρ, M, _, hr, hv, q, fun vs H1 ds M1 t1 r1 v1 q1 => by
    match ds, r1, q1 with
    | [d, f], r1, q1 =>
      obtain ⟨v, _, e1, z1, r2⟩ := r1.cons_inv
      obtain ⟨w, _, e2, z2, r3⟩ := r2.cons_inv
      have e3 := r3.nil_inv
      subst e1 e2 e3
      exact ⟨v, w, rfl, k.nx _ _ _ _ t1 (((hr.mono t1).set i z1).set j z2) v1 q1⟩⟩
def aWhile (tc : RT) (tb : RS) : RS := fun D ρ M => ∃ W : Nat → Env' → Ms → Prop, (∃ m, W m ρ M) ∧ ∀ m ρ M, W m ρ M → tc ρ M fun b M1 => onIf b (tb { D with nx := wk fun ρ M => ∃ m', m' < m ∧ W m' ρ M, ct := wk fun ρ M => ∃ m', m' < m ∧ W m' ρ M, bk := D.nx } ρ M1) (D.nx ρ M1)
theorem as_while {body : List Stmt} (hp : PassesOwn (model X.prog X.w) X.A X.env X.xe) (hc : AT X c tc) (hb : ASs X body t) : AS X (.While c body [] pos) (aWhile tc t) :=
  ps_imp (ps_while hp hc hb) fun D' σ H h => by
    obtain ⟨ρ, M, D, hr, hv, ⟨W, ⟨m, w0⟩, turn⟩, k⟩ := h
    refine ⟨fun m σ1 H1 => ∃ ρ1 M1, Tp X.K H H1 ∧ RepE X.K H1 ρ1 σ1 ∧ View X.K M1 H1 ∧ W m ρ1 M1, ⟨m, ρ, M, Tp.refl H, hr, hv, w0⟩, ?_⟩
    rintro m σ1 H1 ⟨ρ1, M1, t1, hr1, hv1, w1⟩
    refine seqT hr1 hv1 (turn m ρ1 M1 w1) fun b H2 M2 t2 v2 q2 => ?_
    cases b with
    | false => exact k.nx _ _ _ _ (t1.trans t2) (hr1.mono t2) v2 q2
    | true =>
      refine ⟨fun σ3 H3 => ∃ ρ3 M3, Tp X.K H H3 ∧ RepE X.K H3 ρ3 σ3 ∧ View X.K M3 H3 ∧ ∃ m', m' < m ∧ W m' ρ3 M3, ?_, ?_⟩
      · rintro σ3 H3 ⟨ρ3, M3, t3, r3, v3, m', hm, w3⟩
        exact ⟨m', hm, ρ3, M3, t3, r3, v3, w3⟩
      · exact seqS (hr1.mono t2) v2 q2 ⟨fun σ3 H3 ρ3 M3 t3 r3 v3 ⟨ρ4, M4, se, sm, q3⟩ => ⟨ρ4, M4, (t1.trans t2).trans t3, se.rep r3, v3.sub sm, q3⟩, k.rt.up (t1.trans t2), k.nx.up (t1.trans t2), fun σ3 H3 ρ3 M3 t3 r3 v3 ⟨ρ4, M4, se, sm, q3⟩ => ⟨ρ4, M4, (t1.trans t2).trans t3, se.rep r3, v3.sub sm, q3⟩⟩
end
abbrev RI := Env' → Ms → (List Dv → (Ms → Prop) → Ms → Prop) → Prop
structure IW (K : PySem.W.Frag) (J : It) (ds : List Dv) (keep : Ms → Prop) (H0 : Hp) : Prop where
  go : ∀ i H M, i < ds.length → Tp K H0 H → View K M H → keep M → J.go i H
  stop : ∀ H M, Tp K H0 H → View K M H → keep M → J.stop ds.length H
  yld : ∀ i H M x H', i < ds.length → Tp K H0 H → View K M H → keep M → J.yld i H x H' → ∃ d, ds[i]? = some d ∧ Tp K H H' ∧ Rep K H' d x ∧ View K M H' ∧ (∀ a, H a ≠ none → H' a = H a)
def cI (K : PySem.W.Frag) (ai : RI) : TI := fun σ H R => ∃ ρ M Q, RepE K H ρ σ ∧ View K M H ∧ ai ρ M Q ∧ ∀ J H' ds keep M', Tp K H H' → View K M' H' → Q ds keep M' → IW K J ds keep H' → R J H'
def AI (X : Cx) (tg iter : Expr) (ai : RI) : Prop := PI X tg iter (cI X.K ai)
theorem pi_imp {X : Cx} {tg e : Expr} {t t' : TI} (h : PI X tg e t) (f : ∀ σ H Q, t' σ H Q → t σ H Q) : PI X tg e t' := ⟨fun pins s σ H Q I q => h.run pins s σ H Q I (f _ _ _ q)⟩
def forW0 (keep : Ms → Prop) (g : RG) (tb : RS) (D : Ends') : List Dv → Env' → Ms → Prop
  | [], ρ, M => keep M ∧ D.nx ρ M
  | d :: ds, ρ, M => keep M ∧ ∃ N : Env' → Ms → Prop, (∀ ρ1 M1, N ρ1 M1 → forW0 keep g tb D ds ρ1 M1) ∧ g d ρ M fun ρ1 M1 => tb { D with nx := wk N, ct := wk N, bk := D.nx } ρ1 M1
@[irreducible] def forW (keep : Ms → Prop) (g : RG) (tb : RS) (D : Ends') (ds : List Dv) (ρ : Env') (M : Ms) : Prop := forW0 keep g tb D ds ρ M
theorem forW_eqn {keep : Ms → Prop} {g : RG} {tb : RS} {D : Ends'} {ρ : Env'} {M : Ms} : forW keep g tb D [] ρ M = (keep M ∧ D.nx ρ M) := by unfold forW; rfl
theorem forW_eqc {keep : Ms → Prop} {g : RG} {tb : RS} {D : Ends'} {d : Dv} {ds : List Dv} {ρ : Env'} {M : Ms} : forW keep g tb D (d :: ds) ρ M = (keep M ∧ ∃ N : Env' → Ms → Prop, (∀ ρ1 M1, N ρ1 M1 → forW keep g tb D ds ρ1 M1) ∧ g d ρ M fun ρ1 M1 => tb { D with nx := wk N, ct := wk N, bk := D.nx } ρ1 M1) := by unfold forW; rfl
def aFor (ai : RI) (g : RG) (tb : RS) : RS := fun D ρ M => ai ρ M fun ds keep M1 => forW keep g tb D ds ρ M1
section
variable {X : Cx} {pos : Pos} {tg iter : Expr} {ai : RI} {g : RG} {t : RS}
theorem drop_cons {α : Type} {l : List α} {i : Nat} {d : α} (h : l[i]? = some d) : l.drop i = d :: l.drop (i + 1) := by
  have hl := (List.getElem?_eq_some_iff.mp h).1
  rw [List.drop_eq_getElem_cons hl]
  have : l[i] = d := (List.getElem?_eq_some_iff.mp h).2
  rw [this]
theorem as_for {body : List Stmt} (hp : PassesOwn (model X.prog X.w) X.A X.env X.xe) (hc : X.calm = true) (hi : AI X tg iter ai) (hg : AG X tg g) (hb : ASs X body t)
    (hs : ∀ x, foldedSetIterable iter X.env x = pure x := by intro _; rfl) : AS X (.For tg iter body [] pos) (aFor ai g t) :=
  ps_imp (ps_for hp hc hi hg hb hs) fun D' σ H h => by
    obtain ⟨ρ, M, D, hr, hv, q, k⟩ := h
    refine ⟨ρ, M, _, hr, hv, q, fun J H1 ds keep M1 t1 v1 q1 iw => ?_⟩
    refine ⟨fun i m σ2 H2 => m = ds.length - i ∧ i ≤ ds.length ∧ ∃ ρ2 M2, Tp X.K H1 H2 ∧ RepE X.K H2 ρ2 σ2 ∧ View X.K M2 H2 ∧ forW keep g t D (ds.drop i) ρ2 M2, ⟨ds.length, by simp, Nat.zero_le _, ρ, M1, Tp.refl _, hr.mono t1, v1, by simpa using q1⟩, ?_⟩
    rintro i m σ2 H2 ⟨rfl, hi', ρ2, M2, t2, r2, v2, q2⟩
    by_cases hlt : i < ds.length
    · rw [drop_cons (List.getElem?_eq_getElem hlt), forW_eqc] at q2
      obtain ⟨kp, Nx, hN, q2⟩ := q2
      refine .inr ⟨iw.go i H2 M2 hlt t2 v2 kp, fun σ3 H3 => ∃ ρ3 M3, Tp X.K H1 H3 ∧ RepE X.K H3 ρ3 σ3 ∧ View X.K M3 H3 ∧ Nx ρ3 M3, ?_, ?_⟩
      · rintro σ3 H3 ⟨ρ3, M3, t3, r3, v3, q3⟩
        exact ⟨ds.length - (i + 1), by omega, rfl, hlt, ρ3, M3, t3, r3, v3, hN _ _ q3⟩
      · intro x H3 hy
        obtain ⟨d, hd, t3, rd, v3, _⟩ := iw.yld i H2 M2 x H3 hlt t2 v2 kp hy
        have e : d = ds[i] := by rw [List.getElem?_eq_getElem hlt] at hd; exact (Option.some.inj hd).symm
        subst e
        refine ⟨_, ρ2, M2, _, rd, r2.mono t3, v3, q2, fun σ4 H4 ρ4 M4 t4 r4 v4 q4 => ?_⟩
        have tt := t2.trans (t3.trans t4)
        refine seqS r4 v4 q4 ⟨fun σ5 H5 ρ5 M5 t5 r5 v5 ⟨ρ6, M6, se, sm, q5⟩ => ⟨ρ6, M6, tt.trans t5, se.rep r5, v5.sub sm, q5⟩, k.rt.up (t1.trans tt), k.nx.up (t1.trans tt), fun σ5 H5 ρ5 M5 t5 r5 v5 ⟨ρ6, M6, se, sm, q5⟩ => ⟨ρ6, M6, tt.trans t5, se.rep r5, v5.sub sm, q5⟩⟩
    · have e : i = ds.length := by omega
      subst e
      rw [List.drop_length, forW_eqn] at q2
      exact .inl ⟨iw.stop H2 M2 t2 v2 q2.1, k.nx _ _ _ _ (t1.trans t2) r2 v2 q2.2⟩
theorem forW_inv {keep : Ms → Prop} {D : Ends'} {ds : List Dv} {ρ : Env'} {M : Ms} (P : Nat → Env' → Ms → Prop) (h0 : P 0 ρ M) (hk : ∀ i ρ M, i ≤ ds.length → P i ρ M → keep M)
    (hs : ∀ i d ρ M, ds[i]? = some d → P i ρ M → g d ρ M fun ρ1 M1 => t { D with nx := wk (P (i + 1)), ct := wk (P (i + 1)), bk := D.nx } ρ1 M1) (hd : ∀ ρ M, P ds.length ρ M → D.nx ρ M) : forW keep g t D ds ρ M := by
  have main : ∀ (n i : Nat), i + n = ds.length → ∀ ρ M, P i ρ M → forW keep g t D (ds.drop i) ρ M := by
    intro n
    induction n with
    | zero =>
      intro i hi ρ M p
      have e : i = ds.length := by omega
      subst e
      rw [List.drop_length, forW_eqn]
      exact ⟨hk _ _ _ (Nat.le_refl _) p, hd _ _ p⟩
    | succ n ih =>
      intro i hi ρ M p
      have hlt : i < ds.length := by omega
      rw [drop_cons (List.getElem?_eq_getElem hlt), forW_eqc]
      exact ⟨hk _ _ _ (by omega) p, P (i + 1), fun ρ1 M1 p1 => ih (i + 1) (by omega) ρ1 M1 p1, hs i _ ρ M (List.getElem?_eq_getElem hlt) p⟩
  simpa using main ds.length 0 (by omega) ρ M h0
theorem forW_cons {keep : Ms → Prop} {D : Ends'} {d : Dv} {ds : List Dv} {ρ : Env'} {M : Ms} (hk : keep M) (h : g d ρ M fun ρ1 M1 => t { D with nx := wk (forW keep g t D ds), ct := wk (forW keep g t D ds), bk := D.nx } ρ1 M1) : forW keep g t D (d :: ds) ρ M := by rw [forW_eqc]; exact ⟨hk, _, fun _ _ z => z, h⟩
theorem forW_nil {keep : Ms → Prop} {D : Ends'} {ρ : Env'} {M : Ms} (hk : keep M) (h : D.nx ρ M) : forW keep g t D [] ρ M := by rw [forW_eqn]; exact ⟨hk, h⟩
end
end HC
set_option maxHeartbeats 4000000
namespace HC
open PySem L2
inductive Tg where
  | nm (i : Nat)
  | tp (ts : List Tg)
mutual
def Tg.g (K : PySem.W.Frag) : Tg → TG
  | .nm i => gName i
  | .tp ts => fun v σ H Q => gTup K ts.length (Tg.gs K ts) v σ H Q ∨ gLst K ts.length (Tg.gs K ts) v σ H Q
def Tg.gs (K : PySem.W.Frag) : List Tg → TGs
  | [] => gNil
  | t :: ts => gCons (Tg.g K t) (Tg.gs K ts)
end
mutual
def Tg.put : Tg → Dv → Env' → Ms → Option Env'
  | .nm i, d, ρ, _ => some (ρ.set i (some d))
  | .tp ts, d, ρ, M => match itemsA d M with
    | some ds => Tg.puts ts ds ρ M
    | none => none
def Tg.puts : List Tg → List Dv → Env' → Ms → Option Env'
  | [], [], ρ, _ => some ρ
  | t :: ts, d :: ds, ρ, M => (Tg.put t d ρ M).bind fun ρ1 => Tg.puts ts ds ρ1 M
  | _, _, _, _ => none
end
mutual
def Tg.slots : Tg → List Nat
  | .nm i => [i]
  | .tp ts => Tg.slotss ts
def Tg.slotss : List Tg → List Nat
  | [] => []
  | t :: ts => Tg.slots t ++ Tg.slotss ts
end
theorem wipe_set_not : ∀ {vs : List Nat} {σ : L2.St} {i : Nat} {x : Option V}, i ∉ vs → wipe (σ.set i x) vs = (wipe σ vs).set i x
  | [], _, _, _, _ => rfl
  | v :: vs, σ, i, x, h => by
    have h1 : i ≠ v := fun e => h (by simp [e])
    have h2 : i ∉ vs := fun e => h (by simp [e])
    show (wipe (σ.set i x) vs).set v none = ((wipe σ vs).set v none).set i x
    rw [wipe_set_not h2, List.set_comm _ _ h1]
theorem wipe_set : ∀ {vs : List Nat} {σ : L2.St} {i : Nat} {x : Option V}, i ∈ vs → wipe (σ.set i x) vs = wipe σ vs
  | v :: vs, σ, i, x, h => by
    show (wipe (σ.set i x) vs).set v none = (wipe σ vs).set v none
    by_cases h2 : i ∈ vs
    · rw [wipe_set h2]
    · have e : i = v := by
        rcases List.mem_cons.mp h with e | e
        · exact e
        · exact absurd e h2
      subst e
      rw [wipe_set_not h2, List.set_set]
theorem wipe_wipe {vs : List Nat} {σ : L2.St} : ∀ {ws : List Nat}, (∀ i ∈ ws, i ∈ vs) → wipe (wipe σ ws) vs = wipe σ vs
  | [], _ => rfl
  | w :: ws, h => by
    show wipe ((wipe σ ws).set w none) vs = wipe σ vs
    rw [wipe_set (h w (by simp)), wipe_wipe fun i hi => h i (by simp [hi])]
theorem puts_len {M : Ms} : ∀ {ts : List Tg} {ds : List Dv} {ρ ρ' : Env'}, Tg.puts ts ds ρ M = some ρ' → ds.length = ts.length
  | [], [], _, _, _ => rfl
  | [], d :: ds, _, _, h => by simp [Tg.puts] at h
  | t :: ts, [], _, _, h => by simp [Tg.puts] at h
  | t :: ts, d :: ds, ρ, ρ', h => by
    simp only [Tg.puts] at h
    cases e : Tg.put t d ρ M with
    | none => rw [e] at h; cases h
    | some ρ1 =>
      rw [e] at h
      simp only [Option.bind_some] at h
      simp [puts_len h]
section
variable {K : PySem.W.Frag} {M : Ms} {H : Hp} {vs : List Nat}
mutual
theorem Tg.ok : ∀ {t : Tg} {d : Dv} {v : V} {ρ ρ' : Env'} {σ : L2.St} {Q : L2.St → Hp → Prop}, Rep K H d v → RepE K H ρ σ → View K M H → Tg.put t d ρ M = some ρ' → (∀ i ∈ Tg.slots t, i ∈ vs) → (∀ σ', RepE K H ρ' σ' → wipe σ' vs = wipe σ vs → Q σ' H) → Tg.g K t v σ H Q
  | .nm i, d, v, ρ, ρ', σ, Q, rd, hr, hv, h, hs, k => by
    simp only [Tg.put, Option.some.injEq] at h
    subst h
    simp only [Tg.g, gName]
    exact k _ (hr.set i rd) (wipe_set (hs i (by simp [Tg.slots])))
  | .tp ts, d, v, ρ, ρ', σ, Q, rd, hr, hv, h, hs, k => by
    simp only [Tg.put] at h
    cases e : itemsA d M with
    | none => rw [e] at h; cases h
    | some ds =>
      rw [e] at h
      obtain ⟨a, xs, e1, s, z⟩ := itemsA_ok rd hv e
      have main := Tg.oks z hr hv h (fun i hi => hs i (by simpa [Tg.slots] using hi)) k
      simp only [Tg.g]
      rcases s with s | s
      · exact .inl ⟨a, xs, e1, s, by rw [← z.length]; exact main.1, main.2⟩
      · exact .inr ⟨a, xs, e1, s, by rw [← z.length]; exact main.1, main.2⟩
theorem Tg.oks : ∀ {ts : List Tg} {ds : List Dv} {xs : List V} {ρ ρ' : Env'} {σ : L2.St} {Q : L2.St → Hp → Prop}, Reps K H ds xs → RepE K H ρ σ → View K M H → Tg.puts ts ds ρ M = some ρ' → (∀ i ∈ Tg.slotss ts, i ∈ vs) → (∀ σ', RepE K H ρ' σ' → wipe σ' vs = wipe σ vs → Q σ' H) →
    ds.length = ts.length ∧ Tg.gs K ts xs σ H Q
  | [], [], xs, ρ, ρ', σ, Q, rd, hr, hv, h, hs, k => by
    simp only [Tg.puts, Option.some.injEq] at h
    subst h
    refine ⟨rfl, ?_⟩
    simp only [Tg.gs, gNil]
    exact ⟨rd.nil_inv, k _ hr rfl⟩
  | [], d :: ds, _, _, _, _, _, _, _, _, h, _, _ => by simp [Tg.puts] at h
  | t :: ts, [], _, _, _, _, _, _, _, _, h, _, _ => by simp [Tg.puts] at h
  | t :: ts, d :: ds, xs, ρ, ρ', σ, Q, rd, hr, hv, h, hs, k => by
    simp only [Tg.puts] at h
    cases e : Tg.put t d ρ M with
    | none => rw [e] at h; cases h
    | some ρ1 =>
      rw [e] at h
      simp only [Option.bind_some] at h
      obtain ⟨v, r, e1, r1, r2⟩ := rd.cons_inv
      have hs1 : ∀ i ∈ Tg.slots t, i ∈ vs := fun i hi => hs i (by simp [Tg.slotss, hi])
      have hs2 : ∀ i ∈ Tg.slotss ts, i ∈ vs := fun i hi => hs i (by simp [Tg.slotss, hi])
      have hl : ds.length = ts.length := puts_len h
      refine ⟨by simp [hl], ?_⟩
      simp only [Tg.gs, gCons]
      exact ⟨v, r, e1, Tg.ok r1 hr hv e hs1 fun σ1 hr1 w1 => (Tg.oks r2 hr1 hv h hs2 fun σ2 hr2 w2 => k σ2 hr2 (w2.trans w1)).2⟩
end
end
abbrev RTs := RT
def aYes : RT := fun _ M Q => Q true M
def ATs (X : Cx) (ifs : List Expr) (t : RT) : Prop := PTs X ifs (cT X.K t)
theorem pts_imp {X : Cx} {e : List Expr} {t t' : TT} (h : PTs X e t) (f : ∀ σ H Q, t' σ H Q → t σ H Q) : PTs X e t' := ⟨fun pins s σ H Q I q => h.run pins s σ H Q I (f _ _ _ q)⟩
theorem ats_nil {X : Cx} : ATs X [] aYes := pts_imp pts_nil fun σ H Q' ⟨ρ, M, Q, hr, hv, q, k⟩ => k _ _ _ (Tp.refl H) hv q
theorem ats_one {X : Cx} {c : Expr} {t : RT} (h : AT X c t) : ATs X [c] t := pts_one h
def lcT (tg : Tg) (own : List Nat) (tt : RT) (te : RE) (ρ : Env') (D : Addr) (d : Dv) (N : Ms → Prop) (M : Ms) : Prop :=
  ∃ ρ', Tg.put tg d (wipeA ρ own) M = some ρ' ∧ tt ρ' M fun b M2 => onIf b (te ρ' M2 fun y M3 => ∃ acc, M3 D = some (.lst acc) ∧ acc.length < sizeLine ∧ wkM N (mup M3 D (.lst (acc ++ [y])))) (wkM N M2)
def lcW0 (keep : Ms → Prop) (tg : Tg) (own : List Nat) (tt : RT) (te : RE) (ρ : Env') (D : Addr) (Q : Ms → Prop) : List Dv → Ms → Prop
  | [], M => keep M ∧ Q M
  | d :: ds, M => keep M ∧ ∃ N : Ms → Prop, (∀ M1, N M1 → lcW0 keep tg own tt te ρ D Q ds M1) ∧ lcT tg own tt te ρ D d N M
@[irreducible] def lcW (keep : Ms → Prop) (tg : Tg) (own : List Nat) (tt : RT) (te : RE) (ρ : Env') (D : Addr) (Q : Ms → Prop) (ds : List Dv) (M : Ms) : Prop := lcW0 keep tg own tt te ρ D Q ds M
theorem lcW_eqn {keep : Ms → Prop} {tg : Tg} {own : List Nat} {tt : RT} {te : RE} {ρ : Env'} {D : Addr} {Q : Ms → Prop} {M : Ms} : lcW keep tg own tt te ρ D Q [] M = (keep M ∧ Q M) := by unfold lcW; rfl
theorem lcW_eqc {keep : Ms → Prop} {tg : Tg} {own : List Nat} {tt : RT} {te : RE} {ρ : Env'} {D : Addr} {Q : Ms → Prop} {d : Dv} {ds : List Dv} {M : Ms} : lcW keep tg own tt te ρ D Q (d :: ds) M = (keep M ∧ ∃ N : Ms → Prop, (∀ M1, N M1 → lcW keep tg own tt te ρ D Q ds M1) ∧ lcT tg own tt te ρ D d N M) := by unfold lcW; rfl
def aLc (ai : RI) (tg : Tg) (own : List Nat) (tt : RT) (te : RE) : RE := fun ρ M Q => ai ρ M fun ds keep M1 => ∀ D, M1 D = none → lcW keep tg own tt te ρ D (Q (.ref D)) ds (mup M1 D (.lst []))
section
variable {X : Cx} {pos : Pos} {target iter elt : Expr} {ifs : List Expr} {ai : RI} {tt : RT} {te : RE}
theorem lc_imp {K : PySem.W.Frag} {tg : Tg} {own : List Nat} (hsl : ∀ i ∈ Tg.slots tg, i ∈ own) : ∀ σ H Q, cE K (aLc ai tg own tt te) σ H Q → tLc (cI K ai) (Tg.g K tg) (cT K tt) (cE K te) own σ H Q := fun σ H Q' h => by
  obtain ⟨ρ, M, Q, hr, hv, q, k⟩ := h
  refine ⟨ρ, M, _, hr, hv, q, fun J H1 ds keep M1 t1 v1 q1 iw D hD => ?_⟩
  have q2 := q1 D (v1.free hD)
  have tD : Tp K H1 (upd H1 D (.lst [])) := Tp.new hD
  refine ⟨fun i m H2 => m = ds.length - i ∧ i ≤ ds.length ∧ ∃ M2, Tp K H1 H2 ∧ View K M2 H2 ∧ lcW keep tg own tt te ρ D (Q (.ref D)) (ds.drop i) M2, ⟨ds.length, by simp, Nat.zero_le _, _, tD, v1.put (c := .lst []) (by rw [hD]; trivial) ⟨[], upd_same, Reps.nil⟩, by simpa using q2⟩, ?_⟩
  rintro i m H2 ⟨rfl, hi', M2, t2, v2, w2⟩
  by_cases hlt : i < ds.length
  · rw [drop_cons (List.getElem?_eq_getElem hlt), lcW_eqc] at w2
    obtain ⟨kp, Nx, hN, w2⟩ := w2
    refine .inr ⟨iw.go i H2 M2 hlt t2 v2 kp, fun H3 => ∃ M3, Tp K H1 H3 ∧ View K M3 H3 ∧ Nx M3, ?_, ?_⟩
    · rintro H3 ⟨M3, t3, v3, n3⟩
      exact ⟨ds.length - (i + 1), by omega, rfl, hlt, M3, t3, v3, hN _ n3⟩
    · intro x H3 hy
      obtain ⟨d, hd, t3, rd, v3, _⟩ := iw.yld i H2 M2 x H3 hlt t2 v2 kp hy
      have e : d = ds[i] := by rw [List.getElem?_eq_getElem hlt] at hd; exact (Option.some.inj hd).symm
      subst e
      obtain ⟨ρ', hput, w3⟩ := w2
      have tt3 : Tp K H1 H3 := t2.trans t3
      refine Tg.ok rd ((hr.mono (t1.trans tt3)).wipe own) v3 hput hsl fun σ3 hr3 hw => ⟨hw.trans (wipe_wipe fun _ z => z), ?_⟩
      refine seqT hr3 v3 w3 fun b H4 M4 t4 v4 w4 => ?_
      cases b with
      | false =>
        obtain ⟨M6, sm, w4⟩ := w4
        exact ⟨M6, tt3.trans t4, v4.sub sm, w4⟩
      | true =>
        refine seqE (hr3.mono t4) v4 w4 fun y H5 dy M5 t5 r5 v5 w5 => ?_
        obtain ⟨acc, ha, hz, M6, sm, n5⟩ := w5
        obtain ⟨vs, e5, z5⟩ := v5 D _ ha
        refine ⟨vs, e5, by rw [← z5.length]; exact hz, M6, ((tt3.trans t4).trans t5).trans (Tp.put (v5.soft ha)), View.sub (M' := mup M5 D (.lst (acc ++ [dy]))) (v5.put (c := .lst (acc ++ [dy])) (v5.soft ha) ⟨vs ++ [y], upd_same, ?_⟩) sm, n5⟩
        exact ((z5.append (Reps.cons r5 Reps.nil)).mono (Tp.put (v5.soft ha)))
  · have e : i = ds.length := by omega
    subst e
    rw [List.drop_length, lcW_eqn] at w2
    exact .inl ⟨iw.stop H2 M2 t2 v2 w2.1, k _ _ _ _ (t1.trans t2) (by simp only [Rep]) v2 w2.2⟩
theorem ae_lc {own : List (Str × Nat)} {tg : Tg} {scope : Scope} (hsl : ∀ i ∈ Tg.slots tg, i ∈ own.map (·.2)) (hc : X.calm = true) (hN : X.N.Nodup) (hi : AI X target iter ai) (ok : BlkOk X.N X.env.scope scope own)
    (hg : ∀ (s : Shared) (H : Hp) (C : Addr) (cl : List (Str × Addr)) (fp : List Addr), PG (X.blk s H scope (compEnvC scope cl C X.env) fp) target (Tg.g X.K tg)) (ht : ∀ (s : Shared) (H : Hp) (C : Addr) (cl : List (Str × Addr)) (fp : List Addr), ATs (X.blk s H scope (compEnvC scope cl C X.env) fp) ifs tt)
    (he : ∀ (s : Shared) (H : Hp) (C : Addr) (cl : List (Str × Addr)) (fp : List Addr), AE (X.blk s H scope (compEnvC scope cl C X.env) fp) elt te) (hs : ∀ x, foldedSetIterable iter X.env x = pure x := by intro _; rfl) :
    AE X (.ListComp elt [⟨target, iter, ifs, 0⟩] scope pos) (aLc ai tg (own.map (·.2)) tt te) := pe_imp (pe_lc (tt := cT X.K tt) (te := cE X.K te) hc hN hi ok hg ht he hs) (lc_imp hsl)
theorem as_setLc (i : Nat) {y : Str} {py spos : Pos} {own : List (Str × Nat)} {tg : Tg} {scope : Scope} (hsl : ∀ i ∈ Tg.slots tg, i ∈ own.map (·.2)) (hc : X.calm = true) (hN : X.N.Nodup) (hy : X.N[i]? = some y) (hyl : X.env.scope.names.lookup y = some .local)
    (hsw : swapsWith (.ListComp elt [⟨target, iter, ifs, 0⟩] scope pos) (some (.Name y py)) spos.line X.env = pure true) (hi : AI X target iter ai) (ok : BlkOk X.N X.env.scope scope own)
    (hg : ∀ (s : Shared) (H : Hp) (C : Addr) (cl : List (Str × Addr)) (fp : List Addr), PG (X.blk s H scope (compEnvC scope cl C X.env) fp) target (Tg.g X.K tg)) (ht : ∀ (s : Shared) (H : Hp) (C : Addr) (cl : List (Str × Addr)) (fp : List Addr), ATs (X.blk s H scope (compEnvC scope cl C X.env) fp) ifs tt)
    (he : ∀ (s : Shared) (H : Hp) (C : Addr) (cl : List (Str × Addr)) (fp : List Addr), AE (X.blk s H scope (compEnvC scope cl C X.env) fp) elt te) (hs : ∀ x, foldedSetIterable iter X.env x = pure x := by intro _; rfl) :
    AS X (.Assign [.Name y py] (.ListComp elt [⟨target, iter, ifs, 0⟩] scope pos) spos) (aAsg (aLc ai tg (own.map (·.2)) tt te) (agName i)) := ps_imp (ps_setLc (tt := cT X.K tt) (te := cE X.K te) hc hN hy hyl hsw hi ok hg ht he hs) (asg_name_imp (lc_imp hsl))
end
end HC
set_option maxHeartbeats 4000000
namespace HC
open PySem L2 PyProof.Rows
section
variable {X : Cx} {a b c e : Expr} {ta tb tc te : RE} {pos : Pos} {K : PySem.W.Frag}
def isNon : Dv → Bool
  | .non => true
  | _ => false
theorem isNon_ok {H : Hp} {d : Dv} {v : V} (r : Rep K H d v) : decide (v = .non) = isNon d := by
  cases d with
  | non => rw [rep_non_inv r]; rfl
  | bl _ => rw [rep_bl_inv r]; rfl
  | int _ => rw [rep_int_inv r]; rfl
  | str _ => rw [rep_str_inv r]; rfl
  | ref _ => rw [rep_ref_inv r]; rfl
  | ty _ => rw [rep_ty_inv r]; rfl
  | tup _ => obtain ⟨a, vs, e, _⟩ := rep_tup_inv r; rw [e]; rfl
  | rol _ => obtain ⟨a, vs, e, _⟩ := rep_rol_inv r; rw [e]; rfl
  | tuc _ => obtain ⟨a, vs, e, _⟩ := rep_tuc_inv r; rw [e]; rfl
  | exc _ _ => obtain ⟨a, e, _⟩ := rep_exc_inv r; rw [e]; rfl
def aIsB (x y : Dv) (Q : Bool → Prop) : Prop := match y with
  | .non => Q (isNon x)
  | .bl b => match x with | .bl a => Q (a == b) | _ => False
  | _ => False
def aIs : AR2 := fun x y M Q => aIsB x y fun b => Q (.bl b) M
def aIsNot : AR2 := fun x y M Q => aIsB x y fun b => Q (.bl (!b)) M
def rIsH : R2 := fun x y H Q => (y = .non ∧ Q (.bl (decide (x = .non))) H) ∨ (∃ a b, x = .bl a ∧ y = .bl b ∧ Q (.bl (decide (a = b))) H)
def rIsNotH : R2 := fun x y H Q => (y = .non ∧ Q (.bl (!decide (x = .non))) H) ∨ (∃ a b, x = .bl a ∧ y = .bl b ∧ Q (.bl (!decide (a = b))) H)
theorem ab_is : Ab2 K rIsH aIs := by
  intro H M x y dx dy Q Q' rx ry hv q k
  cases dy <;> first | exact q.elim | skip
  case non => exact .inl ⟨rep_non_inv ry, by rw [isNon_ok rx]; exact k _ _ _ _ (Tp.refl H) rep_bl hv q⟩
  case bl b =>
    cases dx <;> first | exact q.elim | skip
    case bl a =>
      refine .inr ⟨a, b, rep_bl_inv rx, rep_bl_inv ry, ?_⟩
      have e : decide (a = b) = (a == b) := by cases a <;> cases b <;> rfl
      rw [e]
      exact k _ _ _ _ (Tp.refl H) rep_bl hv q
theorem ab_isnot : Ab2 K rIsNotH aIsNot := by
  intro H M x y dx dy Q Q' rx ry hv q k
  cases dy <;> first | exact q.elim | skip
  case non => exact .inl ⟨rep_non_inv ry, by rw [isNon_ok rx]; exact k _ _ _ _ (Tp.refl H) rep_bl hv q⟩
  case bl b =>
    cases dx <;> first | exact q.elim | skip
    case bl a =>
      refine .inr ⟨a, b, rep_bl_inv rx, rep_bl_inv ry, ?_⟩
      have e : decide (a = b) = (a == b) := by cases a <;> cases b <;> rfl
      rw [e]
      exact k _ _ _ _ (Tp.refl H) rep_bl hv q
theorem op_isH : OpR X (compareOp .Is) rIsH := opr_or op_isN op_is_bl
theorem op_isnotH : OpR X (compareOp .IsNot) rIsNotH := opr_or op_notN op_isnot_bl
theorem ae_is (ha : AE X a ta) (hb : AE X b tb) : AE X (.Compare a [.Is] [b] pos) (aOp aIs ta tb) := ae_cmp op_isH ab_is ha hb (nomark _)
theorem ae_isnot (ha : AE X a ta) (hb : AE X b tb) : AE X (.Compare a [.IsNot] [b] pos) (aOp aIsNot ta tb) := ae_cmp op_isnotH ab_isnot ha hb (nomark _)
theorem at_is (ha : AE X a ta) (hb : AE X b tb) : AT X (.Compare a [.Is] [b] pos) (aB (aOp aIs ta tb)) := at_cmp op_isH ab_is ha hb (nomark _)
theorem at_isnot (ha : AE X a ta) (hb : AE X b tb) : AT X (.Compare a [.IsNot] [b] pos) (aB (aOp aIsNot ta tb)) := at_cmp op_isnotH ab_isnot ha hb (nomark _)
def aChain (r r' : AR2) (ta tb tc : RE) : RE := fun ρ M Q => ta ρ M fun x M1 => tb ρ M1 fun y M2 => r x y M2 fun z M3 => onB z fun k => onIf k (tc ρ M3 fun w M4 => r' y w M4 Q) (Q (.bl false) M3)
theorem chain_imp {r r' : R2} {ar ar' : AR2} (h : Ab2 K r ar) (h' : Ab2 K r' ar') : ∀ σ H Q, cE K (aChain ar ar' ta tb tc) σ H Q → tChain r r' (cE K ta) (cE K tb) (cE K tc) σ H Q := fun σ H Q' ⟨ρ, M, Q, hr, hv, q, k⟩ =>
  seqE hr hv q fun v H1 d M1 t1 r1 v1 q1 => seqE (hr.mono t1) v1 q1 fun v2 H2 d2 M2 t2 r2 v2' q2 => h H2 M2 v v2 d d2 _ _ (r1.mono t2) r2 v2' q2 fun z H3 dz M3 t3 r3 v3 q3 => by
    obtain ⟨kk, e, q3⟩ := onB_ex q3
    subst e
    refine ⟨kk, rep_bl_inv r3, ?_⟩
    have t23 := t1.trans (t2.trans t3)
    cases kk with
    | false => exact k _ _ _ _ t23 rep_bl v3 q3
    | true => exact seqE (hr.mono t23) v3 q3 fun w H4 dw M4 t4 r4 v4 q4 => h' H4 M4 _ _ _ _ Q Q' (r2.mono (t3.trans t4)) r4 v4 q4 (k.up (t23.trans t4))
theorem ae_chain {op op' : CmpOp} {r r' : R2} {ar ar' : AR2} (ho : OpR X (compareOp op) r) (ho' : OpR X (compareOp op') r') (h : Ab2 X.K r ar) (h' : Ab2 X.K r' ar') (ha : AE X a ta) (hb : AE X b tb) (hc : AE X c tc)
    (p : ∀ {r r' : R2} {ta tb tc : TE}, OpR X (compareOp op) r → OpR X (compareOp op') r' → PE X a ta → PE X b tb → PE X c tc → PE X (.Compare a [op, op'] [b, c] pos) (tChain r r' ta tb tc)) : AE X (.Compare a [op, op'] [b, c] pos) (aChain ar ar' ta tb tc) :=
  pe_imp (p ho ho' ha hb hc) (chain_imp h h')
def keyD : Dv → Option Key
  | .int i => some (.inl i)
  | .str x => some (.inr x)
  | _ => none
def keysD : List Dv → Option (List Key)
  | [] => some []
  | d :: ds => (keyD d).bind fun k => (keysD ds).map fun r => k :: r
def getK {κ : Type} [DecidableEq κ] (kvs : List (κ × Dv)) (k : κ) : Option Dv := (kvs.find? fun kv => decide (kv.1 = k)).map (·.2)
def dgetA (M : Ms) (a : Addr) (y : Dv) : Option (Option Dv) := match M a with
  | some (.dic kvs) => (keyD y).map fun k => getK kvs k
  | some (.dit kvs) => match y with | .tup ds => (keysD ds).map fun k => getK kvs k | _ => none
  | _ => none
theorem keyD_ok {H : Hp} {d : Dv} {v : V} {k : Key} (r : Rep K H d v) (h : keyD d = some k) : v = kV k := by
  cases d <;> first | cases h | skip
  case int i => exact rep_int_inv r
  case str x => exact rep_str_inv r
theorem keysD_ok {H : Hp} : ∀ {ds : List Dv} {vs : List V} {ks : List Key}, Reps K H ds vs → keysD ds = some ks → vs = ks.map kV
  | [], _, _, r, h => by cases h; rw [r.nil_inv]; rfl
  | d :: ds, _, ks, r, h => by
    obtain ⟨v, w, rfl, r1, r2⟩ := r.cons_inv
    simp only [keysD] at h
    cases e : keyD d with
    | none => rw [e] at h; cases h
    | some k =>
      rw [e] at h
      cases e2 : keysD ds with
      | none => rw [e2] at h; cases h
      | some r' =>
        rw [e2] at h
        simp only [Option.bind_some, Option.map_some, Option.some.injEq] at h
        subst h
        rw [keyD_ok r1 e, keysD_ok r2 e2]; rfl
theorem getK_ok {κ : Type} [DecidableEq κ] {H : Hp} : ∀ {kds : List (κ × Dv)} {kvs : List (κ × V)} {k : κ}, Paired (fun (p : κ × Dv) (q : κ × V) => p.1 = q.1 ∧ Rep K H p.2 q.2) kds kvs →
    (getK kds k = none ∧ valV kvs k = none) ∨ ∃ d v, getK kds k = some d ∧ valV kvs k = some v ∧ Rep K H d v
  | _, _, _, .nil => .inl ⟨rfl, rfl⟩
  | (k1, d) :: kds, (k2, v) :: kvs, k, .cons ⟨e, r⟩ t => by
    have e' : k1 = k2 := e
    subst e'
    by_cases h : k1 = k
    · refine .inr ⟨d, v, ?_, ?_, r⟩
      · simp [getK, h]
      · simp [valV, h]
    · rcases getK_ok (k := k) t with ⟨h1, h2⟩ | ⟨d', v', h1, h2, h3⟩
      · refine .inl ⟨?_, ?_⟩
        · simp only [getK, List.find?_cons, h, decide_false]; exact h1
        · simp only [valV, List.find?_cons, h, decide_false]; exact h2
      · refine .inr ⟨d', v', ?_, ?_, h3⟩
        · simp only [getK, List.find?_cons, h, decide_false]; exact h1
        · simp only [valV, List.find?_cons, h, decide_false]; exact h2
theorem ix_dict (hu : X.A.units + 1 < cLine) : IxR X (fun x y H Q => ∃ a v, x = .ref a ∧ DGet H a y (some v) ∧ Q v H) := by
  intro value slice pins s σ H x y v u Q I rx ry h hs
  obtain ⟨a, w, rfl, g, q⟩ := h
  obtain rfl : v = Value.ref a := rx
  have hT := dict_typeIs I g
  unfold subscriptTail
  refine wpAny_bind ?_
  rw [getitemInPython_of_ne hT.not_modules]
  refine wpAny_bind (wpAny_specialOf hT PySem.F.slot_dict_getitem.lookup ?_)
  have fin : wpAny (model X.prog X.w) X.A (subscripted slice false (.ref a) u) (fun r s₃ => wpAny (model X.prog X.w) X.A (letTemporaryGo value (.ref a) r >>= fun _ => pure r) (EP X pins σ Q) X.xe s₃) X.xe s := by
    rw [hs]
    exact wpAny_operating (wpAny_mono (d_getItem hu I g ry fun w' s3 I3 rw' => (⟨w, H, I3, rw', q⟩ : EP X pins σ Q w' s3)) (fun r s₃ h₃ => wpAny_bind (wpAny_letTemporaryGo (wpAny_pure h₃))) fun _ _ x => x)
  first
    | exact wpAny_pure (wpAny_bind fin)
    | exact wpAny_bind (wpAny_pure (wpAny_bind fin))
    | exact wpAny_bind fin
def rIxH (K : PySem.W.Frag) : R2 := fun x y H Q => rIx K x y H Q ∨ (∃ a v, x = .ref a ∧ DGet H a y (some v) ∧ Q v H)
theorem ix_H (hu : X.A.units + 1 < cLine) : IxR X (rIxH X.K) := IxR.or ix_seq (ix_dict hu)
def aIx : AR2 := fun x y M Q => match x with
  | .tup xs => onI y fun i => onS (atI xs i) fun d => Q d M
  | .rol xs => onI y fun i => onS (atI xs i) fun d => Q d M
  | .str z => onI y fun i => z.length ≤ sizeLine ∧ onS (atI z.cps.toList i) fun c => Q (.str ⟨#[c]⟩) M
  | .ref a => match M a with
    | some (.lst xs) => onI y fun i => onS (atI xs i) fun d => Q d M
    | some (.dic kvs) => onS (keyD y) fun k => onS (getK kvs k) fun d => Q d M
    | _ => False
  | _ => False
theorem atI_rep {H : Hp} {ds : List Dv} {vs : List V} {i : Int} {d : Dv} (r : Reps K H ds vs) (h : atI ds i = some d) : ∃ v, atI vs i = some v ∧ Rep K H d v := by
  unfold atI at h ⊢
  rw [r.length] at h
  cases e : ixN vs.length i with
  | none => rw [e] at h; cases h
  | some j =>
    rw [e] at h
    simp only [Option.bind_some] at h ⊢
    exact r.get h
theorem ab_ix : Ab2 K (rIxH K) aIx := by
  intro H M x y dx dy Q Q' rx ry hv q k
  cases dx <;> first | exact q.elim | skip
  case tup xs =>
    obtain ⟨i, e, q4⟩ := onI_ex q
    obtain ⟨d, h, q5⟩ := onS_ex q4
    subst e
    obtain ⟨a, vs, e1, s, r⟩ := rep_tup_inv rx
    obtain ⟨v, h1, h2⟩ := atI_rep r h
    exact .inl (.inr (.inl ⟨a, vs, i, v, e1, rep_int_inv ry, s, h1, k _ _ _ _ (Tp.refl H) h2 hv q5⟩))
  case rol xs =>
    obtain ⟨i, e, q4⟩ := onI_ex q
    obtain ⟨d, h, q5⟩ := onS_ex q4
    subst e
    obtain ⟨a, vs, e1, s, r⟩ := rep_rol_inv rx
    obtain ⟨v, h1, h2⟩ := atI_rep r h
    exact .inl (.inl ⟨a, vs, i, v, e1, rep_int_inv ry, s.l, h1, k _ _ _ _ (Tp.refl H) h2 hv q5⟩)
  case str z =>
    obtain ⟨i, e, hl, q4⟩ := onI_ex q
    obtain ⟨c, h, q5⟩ := onS_ex q4
    subst e
    exact .inl (.inr (.inr ⟨z, i, c, rep_str_inv rx, rep_int_inv ry, hl, h, k _ _ _ _ (Tp.refl H) rep_str hv q5⟩))
  case ref a =>
    simp only [aIx] at q
    split at q
    · next xs e =>
      obtain ⟨i, e1, q4⟩ := onI_ex q
      obtain ⟨d, h, q5⟩ := onS_ex q4
      subst e1
      obtain ⟨vs, e2, r⟩ := view_lst hv e
      obtain ⟨v, h1, h2⟩ := atI_rep r h
      exact .inl (.inl ⟨a, vs, i, v, rep_ref_inv rx, rep_int_inv ry, .inl (.inl e2), h1, k _ _ _ _ (Tp.refl H) h2 hv q5⟩)
    · next kvs e =>
      obtain ⟨kk, e1, q⟩ := onS_ex q
      obtain ⟨d, h, q⟩ := onS_ex q
      obtain ⟨vs, e2, r⟩ := (show ∃ kvs', H a = some (.dK kvs') ∧ Paired (fun (p : Key × Dv) (q : Key × V) => p.1 = q.1 ∧ Rep K H p.2 q.2) kvs kvs' from hv a _ e)
      rcases getK_ok (k := kk) r with ⟨h1, _⟩ | ⟨d', v, h1, h2, h3⟩
      · rw [h1] at h; cases h
      · rw [h1] at h; cases h
        exact .inr ⟨a, v, rep_ref_inv rx, .inl ⟨vs, kk, .inl e2, keyD_ok ry e1, h2.symm⟩, k _ _ _ _ (Tp.refl H) h3 hv q⟩
    · exact q.elim
theorem ae_ix (hu : X.A.units + 1 < cLine) (ha : AE X a ta) (hb : AE X b tb) (hs : PlainIx b := by exact fun _ _ => rfl) : AE X (.Subscript a b pos) (aOp aIx ta tb) := pe_imp (pe_ix (ix_H hu) ha hb hs) (aop_imp ab_ix)
abbrev RO := Env' → Ms → (Option Int → Ms → Prop) → Prop
def cO (K : PySem.W.Frag) (t : RO) : TO := fun σ H Q' => ∃ ρ M Q, RepE K H ρ σ ∧ View K M H ∧ t ρ M Q ∧ ∀ o H' M', Tp K H H' → View K M' H' → Q o M' → Q' o H'
def AO (X : Cx) (e : Option Expr) (t : RO) : Prop := PO X e (cO X.K t)
theorem po_imp {e : Option Expr} {t t' : TO} (h : PO X e t) (f : ∀ σ H Q, t' σ H Q → t σ H Q) : PO X e t' := ⟨fun pins s σ H Q I q => h.run pins s σ H Q I (f _ _ _ q)⟩
def aoN : RO := fun _ M Q => Q none M
def aoS (t : RE) : RO := fun ρ M Q => t ρ M fun d M1 => onI d fun i => Q (some i) M1
theorem ao_none : AO X none aoN := po_imp po_none fun σ H Q' ⟨ρ, M, Q, hr, hv, q, k⟩ => k _ _ _ (Tp.refl H) hv q
theorem ao_some (h : AE X e te) : AO X (some e) (aoS te) := po_imp (po_some h) fun σ H Q' ⟨ρ, M, Q, hr, hv, q, k⟩ => seqE hr hv q fun v H1 d M1 t1 r1 v1 q1 => by
  obtain ⟨i, e, q1⟩ := onI_ex q1
  subst e
  exact ⟨i, rep_int_inv r1, k _ _ _ t1 v1 q1⟩
def cutA (xs : List Dv) (lo hi : Option Int) : List Dv := (xs.drop (HT.sIx xs.length 0 lo)).take (HT.sIx xs.length xs.length hi - HT.sIx xs.length 0 lo)
def lstC : Option Cell → Option (List Dv)
  | some (.lst xs) => some xs
  | _ => none
theorem lstC_eq {o : Option Cell} {xs : List Dv} (h : lstC o = some xs) : o = some (.lst xs) := by
  cases o with
  | none => cases h
  | some c => cases c <;> first | (cases h; done) | (cases h; rfl)
abbrev ASl := Dv → Option Int → Option Int → Ms → DK → Prop
def aSl (te : RE) (tl th : RO) : RE := fun ρ M Q => te ρ M fun x M1 => tl ρ M1 fun lo M2 => th ρ M2 fun hi M3 => match x with
  | .tup xs => Q (.tup (cutA xs lo hi)) M3
  | .str z => z.length ≤ sizeLine ∧ Q (.str (cutS z lo hi)) M3
  | .rol xs => ∀ p, M3 p = none → Q (.ref p) (mup M3 p (.lst (cutA xs lo hi)))
  | .ref a => onS (lstC (M3 a)) fun xs => ∀ p, M3 p = none → Q (.ref p) (mup M3 p (.lst (cutA xs lo hi)))
  | _ => False
theorem cutA_rep {H : Hp} {ds : List Dv} {vs : List V} (r : Reps K H ds vs) (lo hi : Option Int) : Reps K H (cutA ds lo hi) (cutV vs lo hi) := by
  unfold cutA cutV
  rw [r.length]
  exact (r.drop _).take _
theorem ae_slice {tl th : RO} {lo hi : Option Expr} {p2 : Pos} (he : AE X e te) (hl : AO X lo tl) (hh : AO X hi th) : AE X (.Subscript e (.Slice lo hi none p2) pos) (aSl te tl th) :=
  pe_imp (pe_slice (SlR.or sl_list (SlR.or sl_tupA sl_str)) he hl hh) fun σ H Q' h => by
    obtain ⟨ρ, M, Q, hr, hv, q, k⟩ := h
    refine seqE hr hv q fun v H1 d M1 t1 r1 v1 q1 => ?_
    refine ⟨ρ, M1, _, hr.mono t1, v1, q1, fun lo H2 M2 t2 v2 q2 => ⟨ρ, M2, _, hr.mono (t1.trans t2), v2, q2, fun hi H3 M3 t3 v3 q3 => ?_⟩⟩
    have rd := r1.mono (t2.trans t3)
    have k3 := k.up (t1.trans (t2.trans t3))
    cases d <;> first | exact q3.elim | skip
    case tup xs =>
      obtain ⟨a, vs, e, s, r⟩ := rep_tup_inv rd
      refine .inr (.inl ⟨a, vs, e, s, fun hw => k3 _ _ _ _ (Tp.refl H3) (rep_tup s ?_) v3 q3, fun _ => end_tup (cutA_rep r lo hi) v3 q3 k3⟩)
      have l := r.length
      unfold cutA
      rw [l, hw.1, hw.2]
      simpa [← l] using r
    case str z => exact .inr (.inr ⟨z, rep_str_inv rd, q3.1, k3 _ _ _ _ (Tp.refl H3) rep_str v3 q3.2⟩)
    case rol xs =>
      obtain ⟨a, vs, e, s, r⟩ := rep_rol_inv rd
      exact .inl ⟨a, vs, e, s.l, end_lst (cutA_rep r lo hi) v3 q3 k3⟩
    case ref a =>
      obtain ⟨xs, h1, q4⟩ := onS_ex q3
      replace h1 := lstC_eq h1
      obtain ⟨vs, e, r⟩ := view_lst v3 h1
      exact .inl ⟨a, vs, rep_ref_inv rd, .inl (.inl e), end_lst (cutA_rep r lo hi) v3 q4 k3⟩
abbrev ARC := List Dv → Ms → DK → Prop
def AbC (K : PySem.W.Frag) (r : List V → Hp → VK → Prop) (ar : ARC) : Prop := ∀ H M vs ds Q Q', Reps K H ds vs → View K M H → ar ds M Q → LkV K H Q Q' → r vs H Q'
def aFn (ar : ARC) (t : RA) : RE := fun ρ M Q => t ρ M fun ds M1 => ar ds M1 Q
variable {x : Str} {bid T : String} {r : List V → Hp → VK → Prop} {ar : ARC} {p : Pos} {es : List Expr} {t : RA}
theorem afn_imp (h : AbC K r ar) : ∀ σ H Q, cE K (aFn ar t) σ H Q → tCB r (cA K t) σ H Q := fun σ H Q' ⟨ρ, M, Q, hr, hv, q, k⟩ =>
  seqA hr hv q fun vs H1 ds M1 t1 r1 v1 q1 => h H1 M1 vs ds Q Q' r1 v1 q1 (k.up t1)
theorem ae_callB (hc : CallR X (.builtin bid) r) (h : AbC X.K r ar) (ha : AA X (e :: es) t) (hm : X.mg x = none) (hv : bootBuiltins x = some (.builtin bid)) (hg : Gl X x := by rfl) (hn : x ≠ "__name__" := by decide) (hdb : (x == ("__debug__" : Str)) = false := by decide)
    (he : starEach (e :: es) X.env = (false, eval e X.env) :: starEach es X.env := by rfl) (hpl : (backTo pos (starEach es X.env)).any (·.1) = false := by rfl) : AE X (.Call (.Name x p) (e :: es) [] pos) (aFn ar t) := pe_imp (pe_callB hc hg hm hv ha hn hdb he hpl) (afn_imp h)
theorem ae_callTy (hc : CallR X (.type T) r) (h : AbC X.K r ar) (ha : AA X (e :: es) t) (hm : X.mg x = none) (hv : bootBuiltins x = some (.type T)) (hg : Gl X x := by rfl) (hn : x ≠ "__name__" := by decide) (hdb : (x == ("__debug__" : Str)) = false := by decide)
    (he : starEach (e :: es) X.env = (false, eval e X.env) :: starEach es X.env := by rfl) (hpl : (backTo pos (starEach es X.env)).any (·.1) = false := by rfl) : AE X (.Call (.Name x p) (e :: es) [] pos) (aFn ar t) := pe_imp (pe_callTy hc hg hm hv ha hn hdb he hpl) (afn_imp h)
theorem callr_or {f : Value} {r r' : List V → Hp → VK → Prop} (h : CallR X f r) (h' : CallR X f r') : CallR X f (fun xs H Q => r xs H Q ∨ r' xs H Q) := CallR.or h h'
theorem reps1 {H : Hp} {d : Dv} {vs : List V} (h : Reps K H [d] vs) : ∃ v, vs = [v] ∧ Rep K H d v := by
  obtain ⟨v, r, e, h1, h2⟩ := h.cons_inv
  rw [h2.nil_inv] at e
  exact ⟨v, e, h1⟩
theorem reps2 {H : Hp} {d d' : Dv} {vs : List V} (h : Reps K H [d, d'] vs) : ∃ v v', vs = [v, v'] ∧ Rep K H d v ∧ Rep K H d' v' := by
  obtain ⟨v, r, e, h1, h2⟩ := h.cons_inv
  obtain ⟨v', e', h3⟩ := reps1 h2
  rw [e'] at e
  exact ⟨v, v', e, h1, h3⟩
def lenA (d : Dv) (M : Ms) : Option Nat := match d with
  | .str z => some z.length
  | d => (itemsA d M).map List.length
def acLen : ARC := fun ds M Q => match ds with
  | [d] => onS (lenA d M) fun n => (match d with | .str z => z.length ≤ sizeLine | _ => True) ∧ Q (.int (n : Int)) M
  | _ => False
theorem abc_len : AbC K (fun xs H Q => ∃ x n, xs = [x] ∧ LenV K x H n ∧ Q (.int n) H) acLen := by
  intro H M vs ds Q Q' r hv q k
  match ds, q with
  | [d], q =>
    obtain ⟨n, h, hz, q⟩ := onS_ex q
    obtain ⟨v, e, rd⟩ := reps1 r
    refine ⟨v, n, e, ?_, k _ _ _ _ (Tp.refl H) rep_int hv q⟩
    cases d with
    | str z =>
      rw [rep_str_inv rd]
      cases h
      exact ⟨hz, rfl⟩
    | tup xs =>
      obtain ⟨a, ws, e1, s, z⟩ := rep_tup_inv rd
      rw [e1]
      cases h
      exact .inr ⟨ws, s, z.length⟩
    | exc _ _ => cases h
    | tuc xs =>
      obtain ⟨a, ws, e1, s, z⟩ := rep_tuc_inv rd
      rw [e1]
      cases h
      exact .inr ⟨ws, s.t, z.length⟩
    | rol xs =>
      obtain ⟨a, ws, e1, s, z⟩ := rep_rol_inv rd
      rw [e1]
      cases h
      exact .inl ⟨ws, s.l, z.length⟩
    | ref a =>
      rw [rep_ref_inv rd]
      simp only [lenA, itemsA] at h
      cases e1 : M a with
      | none => rw [e1] at h; cases h
      | some c =>
        rw [e1] at h
        cases c with
        | lst xs =>
          obtain ⟨ws, e2, z⟩ := view_lst hv e1
          cases h
          exact .inl ⟨ws, .inl (.inl e2), z.length⟩
        | dic _ => cases h
        | dit _ => cases h
        | fdc _ => cases h
        | obj _ _ => cases h
    | non => cases h
    | bl _ => cases h
    | int _ => cases h
    | ty _ => cases h
def acAbs : ARC := fun ds M Q => match ds with | [.int i] => Q (.int (if i < 0 then -i else i)) M | _ => False
theorem abc_abs : AbC K (fun xs H Q => ∃ i, xs = [.int i] ∧ Q (.int (if i < 0 then -i else i)) H) acAbs := by
  intro H M vs ds Q Q' r hv q k
  match ds, q with
  | [.int i], q =>
    obtain ⟨v, e, rd⟩ := reps1 r
    exact ⟨i, by rw [e, rep_int_inv rd], k _ _ _ _ (Tp.refl H) rep_int hv q⟩
def acInt : ARC := fun ds M Q => match ds with | [.int i] => Q (.int i) M | [.bl b] => Q (.int (if b then 1 else 0)) M | _ => False
theorem abc_int : AbC K (fun xs H Q => (∃ i, xs = [.int i] ∧ Q (.int i) H) ∨ ∃ k, xs = [.bl k] ∧ Q (.int (if k then 1 else 0)) H) acInt := by
  intro H M vs ds Q Q' r hv q k
  match ds, q with
  | [.int i], q =>
    obtain ⟨v, e, rd⟩ := reps1 r
    exact .inl ⟨i, by rw [e, rep_int_inv rd], k _ _ _ _ (Tp.refl H) rep_int hv q⟩
  | [.bl i], q =>
    obtain ⟨v, e, rd⟩ := reps1 r
    exact .inr ⟨i, by rw [e, rep_bl_inv rd], k _ _ _ _ (Tp.refl H) rep_int hv q⟩
def lstA (d : Dv) (M : Ms) : Option (List Dv) := match d with
  | .rol xs => some xs
  | .ref a => match M a with | some (.lst xs) => some xs | _ => none
  | _ => none
theorem lstA_ok {M : Ms} {H : Hp} {d : Dv} {v : V} {ds : List Dv} (r : Rep K H d v) (hv : View K M H) (h : lstA d M = some ds) : ∃ a vs, v = .ref a ∧ SqL K H a vs ∧ Reps K H ds vs := by
  cases d with
  | rol es =>
    cases h
    obtain ⟨a, vs, e, s, z⟩ := rep_rol_inv r
    exact ⟨a, vs, e, s.l, z⟩
  | ref a =>
    simp only [lstA] at h
    cases q : M a with
    | none => rw [q] at h; cases h
    | some c =>
      rw [q] at h
      cases c with
      | dic _ => cases h
      | dit _ => cases h
      | fdc _ => cases h
      | obj _ _ => cases h
      | lst es =>
        cases h
        obtain ⟨vs, h1, h2⟩ := view_lst hv q
        exact ⟨a, vs, rep_ref_inv r, .inl (.inl h1), h2⟩
  | tup _ => cases h
  | tuc _ => cases h
  | exc _ _ => cases h
  | non => cases h
  | bl _ => cases h
  | int _ => cases h
  | str _ => cases h
  | ty _ => cases h
def acSum : ARC := fun ds M Q => match ds with | [d] => ∃ ns : List Int, lstA d M = some (ns.map Dv.int) ∧ Q (.int ns.sum) M | _ => False
theorem abc_sum : AbC K (rSum K) acSum := by
  intro H M vs ds Q Q' r hv q k
  match ds, q with
  | [d], ⟨ns, h, q⟩ =>
    obtain ⟨v, e, rd⟩ := reps1 r
    obtain ⟨a, ws, e1, s, z⟩ := lstA_ok rd hv h
    rw [z.ints] at s
    exact ⟨a, ns, by rw [e, e1], s, k _ _ _ _ (Tp.refl H) rep_int hv q⟩
def acAll : ARC := fun ds M Q => match ds with | [d] => ∃ ns : List Bool, lstA d M = some (ns.map Dv.bl) ∧ Q (.bl (ns.all id)) M | _ => False
def acAny : ARC := fun ds M Q => match ds with | [d] => ∃ ns : List Bool, lstA d M = some (ns.map Dv.bl) ∧ Q (.bl (ns.any id)) M | _ => False
theorem abc_all : AbC K (rAll K) acAll := by
  intro H M vs ds Q Q' r hv q k
  match ds, q with
  | [d], ⟨ns, h, q⟩ =>
    obtain ⟨v, e, rd⟩ := reps1 r
    obtain ⟨a, ws, e1, s, z⟩ := lstA_ok rd hv h
    rw [z.bools] at s
    exact ⟨a, ns, by rw [e, e1], s, k _ _ _ _ (Tp.refl H) rep_bl hv q⟩
theorem abc_any : AbC K (rAny K) acAny := by
  intro H M vs ds Q Q' r hv q k
  match ds, q with
  | [d], ⟨ns, h, q⟩ =>
    obtain ⟨v, e, rd⟩ := reps1 r
    obtain ⟨a, ws, e1, s, z⟩ := lstA_ok rd hv h
    rw [z.bools] at s
    exact ⟨a, ns, by rw [e, e1], s, k _ _ _ _ (Tp.refl H) rep_bl hv q⟩
def acMax2 : ARC := fun ds M Q => match ds with | [.int i, .int j] => Q (.int (if j > i then j else i)) M | _ => False
def acMin2 : ARC := fun ds M Q => match ds with | [.int i, .int j] => Q (.int (if j < i then j else i)) M | _ => False
theorem abc_max2 : AbC K (fun xs H Q => ∃ i j, xs = [.int i, .int j] ∧ Q (.int (if j > i then j else i)) H) acMax2 := by
  intro H M vs ds Q Q' r hv q k
  match ds, q with
  | [.int i, .int j], q =>
    obtain ⟨v, w, e, r1, r2⟩ := reps2 r
    exact ⟨i, j, by rw [e, rep_int_inv r1, rep_int_inv r2], k _ _ _ _ (Tp.refl H) rep_int hv q⟩
theorem abc_min2 : AbC K (fun xs H Q => ∃ i j, xs = [.int i, .int j] ∧ Q (.int (if j < i then j else i)) H) acMin2 := by
  intro H M vs ds Q Q' r hv q k
  match ds, q with
  | [.int i, .int j], q =>
    obtain ⟨v, w, e, r1, r2⟩ := reps2 r
    exact ⟨i, j, by rw [e, rep_int_inv r1, rep_int_inv r2], k _ _ _ _ (Tp.refl H) rep_int hv q⟩
def acTup : ARC := fun ds M Q => match ds with | [d] => onS (itemsA d M) fun xs => Q (.tup xs) M | _ => False
def acLst : ARC := fun ds M Q => match ds with | [d] => onS (itemsA d M) fun xs => ∀ p, M p = none → Q (.ref p) (mup M p (.lst xs)) | _ => False
theorem abc_tup : AbC K (fun xs H Q => ∃ p ys, xs = [.ref p] ∧ ((SqL K H p ys ∧ ∀ l, H l = none → Q (.ref l) (upd H l (.tup ys))) ∨ (SqT K H p ys ∧ Q (.ref p) H))) acTup := by
  intro H M vs ds Q Q' r hv q k
  match ds, q with
  | [d], q =>
    obtain ⟨xs, h, q⟩ := onS_ex q
    obtain ⟨v, e, rd⟩ := reps1 r
    obtain ⟨a, ws, e1, s, z⟩ := itemsA_ok rd hv h
    subst e1
    rcases s with s | s
    · exact ⟨a, ws, e, .inr ⟨s, k _ _ _ _ (Tp.refl H) (rep_tup s z) hv q⟩⟩
    · exact ⟨a, ws, e, .inl ⟨s, end_tup z hv q k⟩⟩
theorem abc_lst : AbC K (fun xs H Q => ∃ p ys, xs = [.ref p] ∧ (SqL K H p ys ∨ SqT K H p ys) ∧ ∀ l, H l = none → Q (.ref l) (upd H l (.lst ys))) acLst := by
  intro H M vs ds Q Q' r hv q k
  match ds, q with
  | [d], q =>
    obtain ⟨xs, h, q⟩ := onS_ex q
    obtain ⟨v, e, rd⟩ := reps1 r
    obtain ⟨a, ws, e1, s, z⟩ := itemsA_ok rd hv h
    subst e1
    exact ⟨a, ws, e, s.symm, end_lst z hv q k⟩
end
end HC
set_option maxHeartbeats 4000000
namespace HC
open PySem L2 PyProof.Rows
section
variable {X : Cx} {a b c e o : Expr} {ta tb tc te to : RE} {pos apos cpos p : Pos} {K : PySem.W.Frag} {es : List Expr} {t : RA}
def tyN : Dv → Ms → Option String
  | .non, _ => some "NoneType"
  | .bl _, _ => some "bool"
  | .int _, _ => some "int"
  | .str _, _ => some "str"
  | .tup _, _ => some "tuple"
  | .rol _, _ => some "list"
  | .tuc _, _ => some "tuple"
  | .ref a, M => match M a with | some (.lst _) => some "list" | some (.dic _) => some "dict" | some (.dit _) => some "dict" | _ => none
  | .ty _, _ => none
  | .exc _ _, _ => none
theorem tyN_ok {M : Ms} {H : Hp} {d : Dv} {v : V} {T : String} (r : Rep K H d v) (hv : View K M H) (h : tyN d M = some T) : TyX K H v (.type T) := by
  cases d with
  | non => cases h; rw [rep_non_inv r]; exact .base .non
  | bl b => cases h; rw [rep_bl_inv r]; exact .base (.bl b)
  | int b => cases h; rw [rep_int_inv r]; exact .base (.int b)
  | str b => cases h; rw [rep_str_inv r]; exact .base (.str b)
  | ty b => cases h
  | tup ds =>
    cases h
    obtain ⟨a, vs, e, s, _⟩ := rep_tup_inv r
    rw [e]
    rcases s with (s | ⟨o, s⟩) | ⟨o, its, n, h1, h2, _⟩
    · exact .base (.tup s)
    · exact .fTuple s
    · exact .kTuple h1 h2
  | rol ds =>
    cases h
    obtain ⟨a, vs, e, s, _⟩ := rep_rol_inv r
    rw [e]
    rcases s.l with (s | ⟨o, s⟩) | ⟨o, its, n, h1, h2, _⟩
    · exact .base (.lst s)
    · exact .base (.frz s)
    · exact .kList h1 h2
  | exc _ _ => cases h
  | tuc ds =>
    cases h
    obtain ⟨a, vs, e, ⟨o, s, _⟩, _⟩ := rep_tuc_inv r
    rw [e]
    exact .fTuple s
  | ref a =>
    rw [rep_ref_inv r]
    simp only [tyN] at h
    cases q : M a with
    | none => rw [q] at h; cases h
    | some c =>
      rw [q] at h
      have rc := hv a c q
      cases c with
      | lst xs => cases h; obtain ⟨vs, e, _⟩ := rc; exact .base (.lst e)
      | dic xs => cases h; obtain ⟨vs, e, _⟩ := rc; exact .base (.dK e)
      | dit xs => cases h; obtain ⟨vs, e, _⟩ := rc; exact .base (.dT e)
      | fdc xs => cases h
      | obj C xs => cases h
def acIsi : ARC := fun ds M Q => match ds with | [d, .ty n] => onS (tyN d M) fun T => ∃ b, kitB T n = some b ∧ Q (.bl b) M | _ => False
theorem abc_isi : AbC K (rIsi K) acIsi := by
  intro H M vs ds Q Q' r hv q k
  match ds, q with
  | [d, .ty n], q =>
    obtain ⟨T, h1, b, h2, q⟩ := onS_ex q
    obtain ⟨v, w, e, r1, r2⟩ := reps2 r
    rw [rep_ty_inv r2] at e
    exact ⟨v, .ty n, .type T, .type n, b, e, .ty n, tyN_ok r1 hv h1, kit_ty h2, k _ _ _ _ (Tp.refl H) rep_bl hv q⟩
theorem kit_ii : kitB "int" "int" = some true := by decide +kernel
theorem kit_ib : kitB "int" "bool" = some false := by decide +kernel
theorem kit_it : kitB "int" "tuple" = some false := by decide +kernel
theorem kit_is : kitB "int" "str" = some false := by decide +kernel
theorem kit_bi : kitB "bool" "int" = some true := by decide +kernel
theorem kit_bb : kitB "bool" "bool" = some true := by decide +kernel
theorem kit_bt : kitB "bool" "tuple" = some false := by decide +kernel
theorem kit_bs : kitB "bool" "str" = some false := by decide +kernel
theorem kit_ti : kitB "tuple" "int" = some false := by decide +kernel
theorem kit_tb : kitB "tuple" "bool" = some false := by decide +kernel
theorem kit_tt : kitB "tuple" "tuple" = some true := by decide +kernel
theorem kit_ts : kitB "tuple" "str" = some false := by decide +kernel
theorem kit_si : kitB "str" "int" = some false := by decide +kernel
theorem kit_sb : kitB "str" "bool" = some false := by decide +kernel
theorem kit_st : kitB "str" "tuple" = some false := by decide +kernel
theorem kit_ss : kitB "str" "str" = some true := by decide +kernel
theorem kit_ni : kitB "NoneType" "int" = some false := by decide +kernel
theorem kit_nb : kitB "NoneType" "bool" = some false := by decide +kernel
theorem kit_nt : kitB "NoneType" "tuple" = some false := by decide +kernel
theorem kit_ns : kitB "NoneType" "str" = some false := by decide +kernel
theorem kit_li : kitB "list" "int" = some false := by decide +kernel
theorem kit_lb : kitB "list" "bool" = some false := by decide +kernel
theorem kit_lt : kitB "list" "tuple" = some false := by decide +kernel
theorem kit_ls : kitB "list" "str" = some false := by decide +kernel
abbrev ARM := Dv → List Dv → Ms → DK → Prop
def AbM (K : PySem.W.Frag) (r : V → List V → Hp → VK → Prop) (ar : ARM) : Prop := ∀ H M x dx vs ds Q Q', Rep K H dx x → Reps K H ds vs → View K M H → ar dx ds M Q → LkV K H Q Q' → r x vs H Q'
def tyM (T : String) : Dv → Ms → Prop := fun d M => match d with
  | .str _ => T = "str"
  | .rol _ => T = "list"
  | .ref a => match M a with | some (.lst _) => T = "list" | some (.dic _) => T = "dict" | some (.dit _) => T = "dict" | _ => False
  | _ => False
theorem tyM_ok {M : Ms} {H : Hp} {d : Dv} {v : V} {T : String} (r : Rep K H d v) (hv : View K M H) (h : tyM T d M) : tyV K T v H := by
  cases d <;> first | exact h.elim | skip
  case str z => rw [rep_str_inv r]; exact h
  case rol z =>
    obtain ⟨a, vs, e, s, _⟩ := rep_rol_inv r
    rw [e]; exact .inl ⟨h, vs, s.l⟩
  case ref a =>
    rw [rep_ref_inv r]
    simp only [tyM] at h
    cases q : M a with
    | none => rw [q] at h; exact h.elim
    | some c =>
      rw [q] at h
      have rc := hv a c q
      cases c with
      | lst xs => obtain ⟨vs, e, _⟩ := rc; exact .inl ⟨h, vs, .inl (.inl e)⟩
      | dic xs => obtain ⟨vs, e, _⟩ := rc; exact .inr (.inr (.inl ⟨h, .inl ⟨vs, e⟩⟩))
      | dit xs => obtain ⟨vs, e, _⟩ := rc; exact .inr (.inr (.inl ⟨h, .inr ⟨vs, e⟩⟩))
      | fdc xs => exact h.elim
      | obj C xs => exact h.elim
def aMth (T : String) (ar : ARM) (to : RE) (t : RA) : RE := fun ρ M Q => to ρ M fun x M1 => tyM T x M1 ∧ t ρ M1 fun ds M2 => ar x ds M2 Q
variable {T name mid : String} {nm : Str} {r : V → List V → Hp → VK → Prop} {ar : ARM}
theorem mth_imp (h : AbM K r ar) : ∀ σ H Q, cE K (aMth T ar to t) σ H Q → tBM K T r (cE K to) (cA K t) σ H Q := fun σ H Q' ⟨ρ, M, Q, hr, hv, q, k⟩ =>
  seqE hr hv q fun v H1 d M1 t1 r1 v1 ⟨ht, q1⟩ => ⟨tyM_ok r1 v1 ht, seqA (hr.mono t1) v1 q1 fun vs H2 ds M2 t2 r2 v2 q2 => h H2 M2 v d vs ds Q Q' (r1.mono t2) r2 v2 q2 (k.up (t1.trans t2))⟩
theorem ae_bm (pa : PlainAttrs T) (slot : Slot T nm mid) (hty : typeOf (.builtin mid) = pure (.type "method_descriptor")) (hm : MtR X mid r) (h : AbM X.K r ar) (ho : AE X o to) (ha : AA X (e :: es) t)
    (hbase : attributeBase o nm X.env (eval o X.env) = eval o X.env := by rfl)
    (hfew : ((backTo cpos (starEach (e :: es) X.env)).all (fun x => !x.1) && (backToKw cpos (keywordEach [] X.env)).all (fun x => x.1.isSome)
      && decide ((e :: es).length + ([] : List Keyword).length + (if ([] : List Keyword).isEmpty then 0 else 1) < 30)) = true := by rfl)
    (hline : (apos.endLine == cpos.line) = true := by rfl) (hs : starEach (e :: es) X.env = (false, eval e X.env) :: starEach es X.env := by rfl) (hplain : (backTo cpos (starEach es X.env)).any (·.1) = false := by rfl) :
    AE X (.Call (.Attribute o nm apos) (e :: es) [] cpos) (aMth T ar to t) := pe_imp (pe_bm pa slot hty hm ho ha hbase hfew hline hs hplain) (mth_imp h)
def amApp : ARM := fun x ds M Q => match x, ds with
  | .ref l, [d] => onS (lstC (M l)) fun xs => xs.length < sizeLine ∧ Q .non (mup M l (.lst (xs ++ [d])))
  | _, _ => False
theorem end_wr {H : Hp} {M : Ms} {l : Addr} {xs ys : List Dv} {vs : List V} {Q : DK} {Q' : VK} {d : Dv} {v : V} (hv : View K M H) (hl : M l = some (.lst xs)) (r : Reps K H ys vs) (rd : Rep K H d v) (q : Q d (mup M l (.lst ys))) (k : LkV K H Q Q') : Q' v (upd H l (.lst vs)) :=
  k _ _ d _ (Tp.put (hv.soft hl)) (rd.mono (Tp.put (hv.soft hl))) (hv.put (c := .lst ys) (hv.soft hl) ⟨vs, upd_same, r.mono (Tp.put (hv.soft hl))⟩) q
theorem abm_app : AbM K rAppend amApp := by
  intro H M x dx vs ds Q Q' rx rd hv q k
  match dx, ds, q with
  | .ref l, [d], q =>
    obtain ⟨xs, h1, hz, q⟩ := onS_ex q
    replace h1 := lstC_eq h1
    obtain ⟨v, e, r1⟩ := reps1 rd
    obtain ⟨ws, e2, z⟩ := view_lst hv h1
    exact ⟨l, ws, v, rep_ref_inv rx, e, e2, by rw [← z.length]; exact hz, end_wr hv h1 (z.append (Reps.cons r1 Reps.nil)) rep_non q k⟩
def amPop : ARM := fun x ds M Q => match x, ds with
  | .ref l, [.int i] => onS (lstC (M l)) fun xs => (0 ≤ i ∧ i < 4611686018427387904) ∧ onS xs[i.toNat]? fun d => Q d (mup M l (.lst (xs.eraseIdx i.toNat)))
  | _, _ => False
theorem seqIndex_nat {k n : Nat} (h : k < n) : seqIndex? (k : Int) n = some k := by
  have := (ixN_seq (n := n) (i := (k : Int)) (j := k) (by unfold ixN; rw [if_pos (by omega), if_pos (by omega), Int.toNat_natCast])).1
  exact this
theorem abm_pop : AbM K rPopAt amPop := by
  intro H M x dx vs ds Q Q' rx rd hv q k
  match dx, ds, q with
  | .ref l, [.int i], q =>
    obtain ⟨xs, h1, ⟨h0, hb⟩, q⟩ := onS_ex q
    obtain ⟨d, hd, q5⟩ := onS_ex q
    replace h1 := lstC_eq h1
    obtain ⟨kk, hk⟩ : ∃ kk, i.toNat = kk := ⟨_, rfl⟩
    rw [hk] at hd q5
    obtain ⟨v, e, r1⟩ := reps1 rd
    rw [rep_int_inv r1] at e
    obtain ⟨ws, e2, z⟩ := view_lst hv h1
    obtain ⟨w, hw, rw'⟩ := z.get hd
    have hl := (List.getElem?_eq_some_iff.mp hw).1
    have ei : i = (kk : Int) := by omega
    subst ei
    exact ⟨l, ws, kk, kk, w, rep_ref_inv rx, e, e2, by omega, by omega, seqIndex_nat hl, hw, end_wr hv h1 (z.eraseIdx kk) rw' q5 k⟩
def amExt : ARM := fun x ds M Q => match x, ds with
  | .ref l, [.ref m] => onS (lstC (M l)) fun xs => onS (lstC (M m)) fun ys => xs.length + ys.length ≤ sizeLine ∧ Q .non (mup M l (.lst (xs ++ ys)))
  | _, _ => False
theorem abm_ext : AbM K rExtend amExt := by
  intro H M x dx vs ds Q Q' rx rd hv q k
  match dx, ds, q with
  | .ref l, [.ref m], q =>
    obtain ⟨xs, h1, q⟩ := onS_ex q
    obtain ⟨ys, h2, hz, q⟩ := onS_ex q
    replace h1 := lstC_eq h1
    replace h2 := lstC_eq h2
    obtain ⟨v, e, r1⟩ := reps1 rd
    rw [rep_ref_inv r1] at e
    obtain ⟨ws, e2, z⟩ := view_lst hv h1
    obtain ⟨us, e3, z3⟩ := view_lst hv h2
    have l1 := z.length
    have l3 := z3.length
    exact ⟨l, m, ws, us, rep_ref_inv rx, e, e2, e3, by omega, end_wr hv h1 (z.append z3) rep_non q k⟩
theorem ae_append (ho : AE X o to) (ha : AA X [e] t) (hline : (apos.endLine == cpos.line) = true := by rfl) (hbase : attributeBase o "append" X.env (eval o X.env) = eval o X.env := by rfl)
    (hfew : ((backTo cpos (starEach [e] X.env)).all (fun x => !x.1) && (backToKw cpos (keywordEach [] X.env)).all (fun x => x.1.isSome)
      && decide (([e] : List Expr).length + ([] : List Keyword).length + (if ([] : List Keyword).isEmpty then 0 else 1) < 30)) = true := by rfl)
    (hs : starEach [e] X.env = (false, eval e X.env) :: starEach [] X.env := by rfl) (hplain : (backTo cpos (starEach [] X.env)).any (·.1) = false := by rfl) :
    AE X (.Call (.Attribute o "append" apos) [e] [] cpos) (aMth "list" amApp to t) := ae_bm PySem.F.plainAttrs_list PySem.F.slot_list_append PySem.F.type_list_append mt_append abm_app ho ha hbase hfew hline hs hplain
theorem ae_popAt (ho : AE X o to) (ha : AA X [e] t) (hline : (apos.endLine == cpos.line) = true := by rfl) (hbase : attributeBase o "pop" X.env (eval o X.env) = eval o X.env := by rfl)
    (hfew : ((backTo cpos (starEach [e] X.env)).all (fun x => !x.1) && (backToKw cpos (keywordEach [] X.env)).all (fun x => x.1.isSome)
      && decide (([e] : List Expr).length + ([] : List Keyword).length + (if ([] : List Keyword).isEmpty then 0 else 1) < 30)) = true := by rfl)
    (hs : starEach [e] X.env = (false, eval e X.env) :: starEach [] X.env := by rfl) (hplain : (backTo cpos (starEach [] X.env)).any (·.1) = false := by rfl) :
    AE X (.Call (.Attribute o "pop" apos) [e] [] cpos) (aMth "list" amPop to t) := ae_bm PySem.F.plainAttrs_list PySem.F.slot_list_pop PySem.F.type_list_pop mt_popAt abm_pop ho ha hbase hfew hline hs hplain
theorem ae_extend (ho : AE X o to) (ha : AA X [e] t) (hline : (apos.endLine == cpos.line) = true := by rfl) (hbase : attributeBase o "extend" X.env (eval o X.env) = eval o X.env := by rfl)
    (hfew : ((backTo cpos (starEach [e] X.env)).all (fun x => !x.1) && (backToKw cpos (keywordEach [] X.env)).all (fun x => x.1.isSome)
      && decide (([e] : List Expr).length + ([] : List Keyword).length + (if ([] : List Keyword).isEmpty then 0 else 1) < 30)) = true := by rfl)
    (hs : starEach [e] X.env = (false, eval e X.env) :: starEach [] X.env := by rfl) (hplain : (backTo cpos (starEach [] X.env)).any (·.1) = false := by rfl) :
    AE X (.Call (.Attribute o "extend" apos) [e] [] cpos) (aMth "list" amExt to t) := ae_bm PySem.F.plainAttrs_list PySem.F.slot_list_extend PySem.F.type_list_extend mt_extend abm_ext ho ha hbase hfew hline hs hplain
abbrev ASet := Dv → Dv → Dv → Ms → (Ms → Prop) → Prop
def putA {κ : Type} [DecidableEq κ] (kvs : List (κ × Dv)) (k : κ) (v : Dv) : List (κ × Dv) :=
  if (kvs.any fun kv => decide (kv.1 = k)) = true then kvs.map (fun kv => if kv.1 = k then (kv.1, v) else kv) else kvs ++ [(k, v)]
def asSet : ASet := fun x i v M Q => match x with
  | .ref a => match M a with
    | some (.lst xs) => onI i fun k => onS (ixN xs.length k) fun j => Q (mup M a (.lst (xs.set j v)))
    | some (.dic kvs) => onS (keyD i) fun k => kvs.length < sizeLine ∧ Q (mup M a (.dic (putA kvs k v)))
    | _ => False
  | _ => False
def rSetH : V → V → V → Hp → (Hp → Prop) → Prop := fun o i v H Q => rSetL o i v H Q ∨ ∃ a H', o = .ref a ∧ DPut H a i v H' ∧ Q H'
theorem set_H (hu : X.A.units + 1 < cLine) : PSet X rSetH := by
  intro pins s σ H o i v ov iv u Q I ro ri rv h
  rcases h with h | ⟨a, H', rfl, g, q⟩
  · exact set_list pins s σ H o i v ov iv u Q I ro ri rv h
  · obtain rfl : ov = Value.ref a := ro
    exact d_setItem hu I g ri rv fun s' I' => ⟨H', I', q⟩
abbrev KP (K : PySem.W.Frag) (H : Hp) (κ : Type) : List (κ × Dv) → List (κ × V) → Prop := Paired (fun (p : κ × Dv) (q : κ × V) => p.1 = q.1 ∧ Rep K H p.2 q.2)
theorem kp_any {H : Hp} {κ : Type} [DecidableEq κ] {k : κ} : ∀ {kds : List (κ × Dv)} {kvs : List (κ × V)}, KP K H κ kds kvs → (kds.any fun kv => decide (kv.1 = k)) = (kvs.any fun kv => decide (kv.1 = k))
  | _, _, .nil => rfl
  | (k1, d) :: kds, (k2, v) :: kvs, .cons ⟨e, r⟩ t => by
    have e' : k1 = k2 := e
    subst e'
    simp only [List.any_cons]
    rw [kp_any t]
theorem kp_map {H : Hp} {κ : Type} [DecidableEq κ] {k : κ} {d : Dv} {v : V} (rd : Rep K H d v) : ∀ {kds : List (κ × Dv)} {kvs : List (κ × V)}, KP K H κ kds kvs → KP K H κ (kds.map (fun kv => if kv.1 = k then (kv.1, d) else kv)) (kvs.map (fun kv => if kv.1 = k then (kv.1, v) else kv))
  | _, _, .nil => .nil
  | (k1, d1) :: kds, (k2, v1) :: kvs, .cons ⟨e, r⟩ t => by
    have e' : k1 = k2 := e
    subst e'
    rw [List.map_cons, List.map_cons]
    refine .cons ?_ (kp_map rd t)
    by_cases h : k1 = k
    · simpa [h] using rd
    · simpa [h] using r
theorem kp_app {H : Hp} {κ : Type} : ∀ {kds es : List (κ × Dv)} {kvs fs : List (κ × V)}, KP K H κ kds kvs → KP K H κ es fs → KP K H κ (kds ++ es) (kvs ++ fs)
  | _, _, _, _, .nil, h => h
  | _, _, _, _, .cons r t, h => .cons r (kp_app t h)
theorem kp_put {H : Hp} {κ : Type} [DecidableEq κ] {k : κ} {d : Dv} {v : V} (rd : Rep K H d v) {kds : List (κ × Dv)} {kvs : List (κ × V)} (h : KP K H κ kds kvs) : KP K H κ (putA kds k d) (putK kvs k v) := by
  unfold putA putK
  rw [kp_any h]
  split
  · exact kp_map rd h
  · exact kp_app h (.cons ⟨rfl, rd⟩ .nil)
theorem kp_mono {H H' : Hp} {κ : Type} {kds : List (κ × Dv)} {kvs : List (κ × V)} (h : KP K H κ kds kvs) (t : Tp K H H') : KP K H' κ kds kvs := Paired.mapP h fun _ _ z => ⟨z.1, z.2.mono t⟩
theorem kp_len {H : Hp} {κ : Type} {kds : List (κ × Dv)} {kvs : List (κ × V)} (h : KP K H κ kds kvs) : kds.length = kvs.length := Paired.length h
def agSub (to ti : RE) (s : ASet) : RG := fun d ρ M Q => to ρ M fun x M1 => ti ρ M1 fun i M2 => s x i d M2 fun M3 => Q ρ M3
theorem ag_sub {i : Expr} {ti : RE} (hu : X.A.units + 1 < cLine) (ho : AE X o to) (hi : AE X i ti)
    (ha : ∀ v, assign (.Subscript o i pos) X.env v = (do
      let ov ← holding [v] (eval o X.env)
      let iv ← holding [v, ov] (eval i X.env)
      standAt pos
      holding [v, ov, iv] (setItem ov iv v)
      release [v, ov, iv] []) := by intro _; rfl) : AG X (.Subscript o i pos) (agSub to ti asSet) :=
  pg_imp (pg_sub ho hi (set_H hu) ha) fun v σ H Q' h => by
    obtain ⟨d, ρ, M, Q, rd, hr, hv, q, k⟩ := h
    refine seqE hr hv q fun x H1 dx M1 t1 r1 v1 q1 => seqE (hr.mono t1) v1 q1 fun iv H2 di M2 t2 r2 v2 q2 => ?_
    have t12 := t1.trans t2
    have rx := r1.mono t2
    have rd2 := rd.mono t12
    cases dx <;> first | exact q2.elim | skip
    case ref a =>
      simp only [asSet] at q2
      cases e : M2 a with
      | none => rw [e] at q2; exact q2.elim
      | some c =>
        rw [e] at q2
        cases c with
        | lst xs =>
          obtain ⟨kk, e1, q4⟩ := onI_ex q2
          obtain ⟨j, hj, q5⟩ := onS_ex q4
          subst e1
          obtain ⟨vs, e2, z⟩ := view_lst v2 e
          refine .inl ⟨a, vs, kk, j, rep_ref_inv rx, rep_int_inv r2, e2, by rw [← z.length]; exact hj, ?_⟩
          exact k _ _ _ _ (t12.trans (Tp.put (v2.soft e))) (hr.mono (t12.trans (Tp.put (v2.soft e)))) (v2.put (c := .lst (xs.set j d)) (v2.soft e) ⟨vs.set j v, upd_same, (z.set j rd2).mono (Tp.put (v2.soft e))⟩) q5
        | dic kds =>
          obtain ⟨kk, e1, hz, q2⟩ := onS_ex q2
          obtain ⟨kvs, e2, z⟩ := (show ∃ kvs', H2 a = some (.dK kvs') ∧ KP X.K H2 Key kds kvs' from v2 a _ e)
          refine .inr ⟨a, upd H2 a (.dK (putK kvs kk v)), rep_ref_inv rx, .inl ⟨kvs, kk, e2, keyD_ok r2 e1, by rw [← kp_len z]; exact hz, rfl⟩, ?_⟩
          exact k _ _ _ _ (t12.trans (Tp.put (v2.soft e))) (hr.mono (t12.trans (Tp.put (v2.soft e)))) (v2.put (c := .dic (putA kds kk d)) (v2.soft e) ⟨_, upd_same, kp_mono (kp_put rd2 z) (Tp.put (v2.soft e))⟩) q2
        | dit _ => exact q2.elim
        | fdc _ => exact q2.elim
        | obj _ _ => exact q2.elim
end
end HC
set_option maxHeartbeats 200000
namespace HC
open PySem L2 PyProof.Rows
section
variable {X : Cx} {a b c e o tg : Expr} {ta tb tc te to : RE} {pos apos cpos p tpos : Pos} {K : PySem.W.Frag} {es : List Expr} {t : RA}
def on1 (ds : List Dv) (Q : Dv → Prop) : Prop := match ds with | [d] => Q d | _ => False
theorem on1_ex {ds : List Dv} {Q : Dv → Prop} (h : on1 ds Q) : ∃ d, ds = [d] ∧ Q d := by
  match ds, h with
  | [d], h => exact ⟨d, rfl, h⟩
def on2 (ds : List Dv) (Q : Dv → Dv → Prop) : Prop := match ds with | [d, f] => Q d f | _ => False
theorem on2_ex {ds : List Dv} {Q : Dv → Dv → Prop} (h : on2 ds Q) : ∃ d f, ds = [d, f] ∧ Q d f := by
  match ds, h with
  | [d, f], h => exact ⟨d, f, rfl, h⟩
def on3 (ds : List Dv) (Q : Dv → Dv → Dv → Prop) : Prop := match ds with | [d, f, g] => Q d f g | _ => False
theorem on3_ex {ds : List Dv} {Q : Dv → Dv → Dv → Prop} (h : on3 ds Q) : ∃ d f g, ds = [d, f, g] ∧ Q d f g := by
  match ds, h with
  | [d, f, g], h => exact ⟨d, f, g, rfl, h⟩
def aiSeq (te : RE) : RI := fun ρ M Q => te ρ M fun d M1 => onS (itemsA d M1) fun ds => Q ds (fun M => itemsA d M = some ds) M1
theorem pi_seq {tl : TE} (hl : PE X e tl) : PI X tg e (fun σ H R => tl σ H fun x H1 => ∃ a, x = .ref a ∧ ((∃ xs, SqL X.K H1 a xs) ∧ R (Itl X.K a) H1 ∨ (∃ xs, SqT X.K H1 a xs) ∧ R (Itt X.K a) H1)) := by
  refine ⟨fun pins s σ H R I h => ?_⟩
  refine thn (hl.run pins s σ H _ I h) fun v s1 ⟨x, H1, I1, r1, q1⟩ => ?_
  obtain ⟨a, e, ⟨⟨xs, hq⟩, q⟩ | ⟨⟨xs, hq⟩, q⟩⟩ := q1
  · subst e
    cases r1
    obtain ⟨its, rv, p, hz⟩ := I1.list hq
    refine wpAny_pyIter_list p.isList ?_
    refine ⟨s1.heap.objs.size, [s1.heap.objs.size], _, _, H1, rfl, I1.kept (t' := s1.toks) fun b o e => Heap.get?_push_of_some _ e, turn_list a _, ⟨_, Heap.get?_push_size _ rfl, rfl, rfl⟩, fun b hb => ?_, q⟩
    have e : b = s1.heap.objs.size := by simpa using hb
    subst e
    exact I1.fpOk (Nat.le_refl _) (I1.hok.fresh (Nat.le_refl _))
  · subst e
    cases r1
    obtain ⟨its, rv, p, hz⟩ := I1.tuple hq
    refine wpAny_pyIter_tuple (show s1.heap.IsTuple a its.toArray from p) ?_
    refine ⟨s1.heap.objs.size, [s1.heap.objs.size], _, _, H1, rfl, I1.kept (t' := s1.toks) fun b o e => Heap.get?_push_of_some _ e, turn_tuple a _, ⟨_, Heap.get?_push_size _ rfl, rfl, rfl⟩, fun b hb => ?_, q⟩
    have e : b = s1.heap.objs.size := by simpa using hb
    subst e
    exact I1.fpOk (Nat.le_refl _) (I1.hok.fresh (Nat.le_refl _))
theorem items_stand {H1 : Hp} {M1 : Ms} {d : Dv} {v : V} {ds : List Dv} (r : Rep K H1 d v) (hv : View K M1 H1) (h : itemsA d M1 = some ds) :
    ∃ a vs, v = .ref a ∧ Reps K H1 ds vs ∧ ((SqT K H1 a vs ∧ ∀ H, Tp K H1 H → SqT K H a vs) ∨ (SqL K H1 a vs ∧ ∀ H M, Tp K H1 H → View K M H → itemsA d M = some ds → ∃ ws, SqL K H a ws ∧ Reps K H ds ws)) := by
  cases d <;> first | cases h; done | skip
  case tup es =>
    cases h
    obtain ⟨a, vs, e, s, z⟩ := rep_tup_inv r
    exact ⟨a, vs, e, z, .inl ⟨s, fun H t => t.t _ _ s⟩⟩
  case rol es =>
    cases h
    obtain ⟨a, vs, e, s, z⟩ := rep_rol_inv r
    exact ⟨a, vs, e, z, .inr ⟨s.l, fun H M t _ _ => ⟨vs, (t.f _ _ s).l, z.mono t⟩⟩⟩
  case tuc es =>
    cases h
    obtain ⟨a, vs, e, s, z⟩ := rep_tuc_inv r
    exact ⟨a, vs, e, z, .inl ⟨s.t, fun H t => t.t _ _ s.t⟩⟩
  case ref a =>
    simp only [itemsA] at h
    cases q : M1 a with
    | none => rw [q] at h; cases h
    | some c =>
      rw [q] at h
      cases c with
      | dic _ => cases h
      | dit _ => cases h
      | fdc _ => cases h
      | obj _ _ => cases h
      | lst es =>
        cases h
        obtain ⟨vs, h1, h2⟩ := view_lst hv q
        refine ⟨a, vs, rep_ref_inv r, h2, .inr ⟨.inl (.inl h1), fun H M t v' hk => ?_⟩⟩
        simp only [itemsA] at hk
        cases q' : M a with
        | none => rw [q'] at hk; cases hk
        | some c' =>
          rw [q'] at hk
          cases c' with
          | dic _ => cases hk
          | dit _ => cases hk
          | fdc _ => cases hk
          | obj _ _ => cases hk
          | lst es' =>
            cases hk
            obtain ⟨ws, h3, h4⟩ := view_lst v' q'
            exact ⟨ws, .inl (.inl h3), h4⟩
theorem iw_list {a : Addr} {ds : List Dv} {keep : Ms → Prop} {H1 : Hp} (h : ∀ H M, Tp K H1 H → View K M H → keep M → ∃ ws, SqL K H a ws ∧ Reps K H ds ws) : IW K (Itl K a) ds keep H1 where
  go := fun i H M hi t v k => by
    obtain ⟨ws, s, z⟩ := h H M t v k
    obtain ⟨w, hw, _⟩ := z.get (List.getElem?_eq_getElem hi)
    exact ⟨ws, w, s, hw⟩
  stop := fun H M t v k => by
    obtain ⟨ws, s, z⟩ := h H M t v k
    exact ⟨ws, s, by rw [← z.length]; exact Nat.le_refl _⟩
  yld := fun i H M x H' hi t v k y => by
    obtain ⟨ws, s, z⟩ := h H M t v k
    obtain ⟨w, hw, rw'⟩ := z.get (List.getElem?_eq_getElem hi)
    obtain ⟨e, y2⟩ := y
    subst e
    have := y2 ws s
    rw [hw] at this
    cases this
    exact ⟨_, List.getElem?_eq_getElem hi, Tp.refl _, rw', v, fun _ _ => rfl⟩
theorem iw_tup {a : Addr} {ds : List Dv} {vs : List V} {keep : Ms → Prop} {H1 : Hp} (z0 : Reps K H1 ds vs) (h : ∀ H, Tp K H1 H → SqT K H a vs) : IW K (Itt K a) ds keep H1 where
  go := fun i H M hi t v k => by
    obtain ⟨w, hw, _⟩ := z0.get (List.getElem?_eq_getElem hi)
    exact ⟨vs, w, h H t, hw⟩
  stop := fun H M t v k => ⟨vs, h H t, by rw [← z0.length]; exact Nat.le_refl _⟩
  yld := fun i H M x H' hi t v k y => by
    obtain ⟨w, hw, rw'⟩ := (z0.mono t).get (List.getElem?_eq_getElem hi)
    obtain ⟨e, y2⟩ := y
    subst e
    have := y2 vs (h _ t)
    rw [hw] at this
    cases this
    exact ⟨_, List.getElem?_eq_getElem hi, Tp.refl _, rw', v, fun _ _ => rfl⟩
theorem ai_seq (h : AE X e te) : AI X tg e (aiSeq te) := pi_imp (pi_seq h) fun σ H R ⟨ρ, M, Q, hr, hv, q, k⟩ => seqE hr hv q fun v H1 d M1 t1 r1 v1 q1 => by
  obtain ⟨ds, hi, q1⟩ := onS_ex q1
  obtain ⟨a, vs, e1, z, hs⟩ := items_stand r1 v1 hi
  refine ⟨a, e1, ?_⟩
  rcases hs with ⟨s, hs⟩ | ⟨s, hs⟩
  · exact .inr ⟨⟨vs, s⟩, k _ H1 ds _ M1 t1 v1 q1 (iw_tup z hs)⟩
  · exact .inl ⟨⟨vs, s⟩, k _ H1 ds _ M1 t1 v1 q1 (iw_list hs)⟩
def rangeA (lo : Int) (n : Nat) : List Dv := (List.range n).map fun (i : Nat) => Dv.int (lo + (i : Int))
theorem iw_range {lo : Int} {n : Nat} {keep : Ms → Prop} {H1 : Hp} : IW K (Itr lo n) (rangeA lo n) keep H1 where
  go := fun i H M hi t v k => by
    have h : i < n := by simpa [rangeA] using hi
    exact h
  stop := fun H M t v k => by simp [rangeA, Itr]
  yld := fun i H M x H' hi t v k y => by
    obtain ⟨e, y2⟩ := y
    subst e y2
    refine ⟨.int (lo + (i : Int)), ?_, Tp.refl _, rep_int, v, fun _ _ => rfl⟩
    have : i < n := by simpa [rangeA] using hi
    simp [rangeA, this]
def aiR1 (t : RA) : RI := fun ρ M Q => t ρ M fun ds M1 => on1 ds fun d => onI d fun j => (-(2 ^ 62) ≤ j ∧ j < 2 ^ 62) ∧ Q (rangeA 0 j.toNat) (fun _ => True) M1
def aiR2 (t : RA) : RI := fun ρ M Q => t ρ M fun ds M1 => on2 ds fun d f => onI2 d f fun i j => (-(2 ^ 62) ≤ i ∧ i < 2 ^ 62 ∧ -(2 ^ 62) ≤ j ∧ j < 2 ^ 62) ∧ Q (rangeA i (j - i).toNat) (fun _ => True) M1
theorem ai_range1 (hm : X.mg "range" = none) (ha : AA X [a] t) (hg : Gl X "range" := by rfl) (hs : starEach [a] X.env = [(false, eval a X.env)] := by rfl) : AI X tg (.Call (.Name "range" p) [a] [] pos) (aiR1 t) :=
  pi_imp (pi_range1 hg hm ha hs) fun σ H R ⟨ρ, M, Q, hr, hv, q, k⟩ => seqA hr hv q fun vs H1 ds M1 t1 r1 v1 q1 => by
    obtain ⟨d, e0, q4⟩ := on1_ex q1
    obtain ⟨j, e3, h1, q5⟩ := onI_ex q4
    subst e0 e3
    obtain ⟨v, e, rd⟩ := reps1 r1
    exact ⟨j, by rw [e, rep_int_inv rd], h1.1, h1.2, k _ H1 _ _ M1 t1 v1 q5 iw_range⟩
theorem ai_range2 (hm : X.mg "range" = none) (ha : AA X [a, b] t) (hg : Gl X "range" := by rfl) (hs : starEach [a, b] X.env = [(false, eval a X.env), (false, eval b X.env)] := by rfl) (hs2 : starEach [b] X.env = [(false, eval b X.env)] := by rfl) : AI X tg (.Call (.Name "range" p) [a, b] [] pos) (aiR2 t) :=
  pi_imp (pi_range2 hg hm ha hs hs2) fun σ H R ⟨ρ, M, Q, hr, hv, q, k⟩ => seqA hr hv q fun vs H1 ds M1 t1 r1 v1 q1 => by
    obtain ⟨d, f, e0, q4⟩ := on2_ex q1
    obtain ⟨i, j, e3, e4, h1, q5⟩ := onI2_ex q4
    subst e0 e3 e4
    obtain ⟨v, w, e, rd, rd2⟩ := reps2 r1
    exact ⟨i, j, by rw [e, rep_int_inv rd, rep_int_inv rd2], h1, k _ H1 _ _ M1 t1 v1 q5 iw_range⟩
def rangeC (lo c : Int) (n : Nat) : List Dv := (List.range n).map fun (i : Nat) => Dv.int (lo + (i : Int) * c)
theorem iw_rangeC {lo c : Int} {n : Nat} {keep : Ms → Prop} {H1 : Hp} : IW K (Itc lo c n) (rangeC lo c n) keep H1 where
  go := fun i H M hi t v k => by
    have h : i < n := by simpa [rangeC] using hi
    exact h
  stop := fun H M t v k => by simp [rangeC, Itc]
  yld := fun i H M x H' hi t v k y => by
    obtain ⟨e, y2⟩ := y
    subst e y2
    refine ⟨.int (lo + (i : Int) * c), ?_, Tp.refl _, rep_int, v, fun _ _ => rfl⟩
    have : i < n := by simpa [rangeC] using hi
    simp [rangeC, this]
def aiR3 (t : RA) : RI := fun ρ M Q => t ρ M fun ds M1 => on3 ds fun d f g => onI2 d f fun i j => onI g fun c => ∃ n : Nat, RgC i j c n ∧ Q (rangeC i c n) (fun _ => True) M1
theorem ai_range3 (hm : X.mg "range" = none) (ha : AA X [a, b, c] t) (hg : Gl X "range" := by rfl) (hs : starEach [a, b, c] X.env = (false, eval a X.env) :: starEach [b, c] X.env := by rfl) (hpl : (backTo pos (starEach [b, c] X.env)).any (·.1) = false := by rfl) : AI X tg (.Call (.Name "range" p) [a, b, c] [] pos) (aiR3 t) :=
  pi_imp (pi_range3 hg hm ha hs hpl) fun σ H R ⟨ρ, M, Q, hr, hv, q, k⟩ => seqA hr hv q fun vs H1 ds M1 t1 r1 v1 q1 => by
    obtain ⟨d, f, g, e0, q4⟩ := on3_ex q1
    obtain ⟨i, j, e3, e4, q6⟩ := onI2_ex q4
    obtain ⟨c, e5, n, h1, q5⟩ := onI_ex q6
    subst e0 e3 e4 e5
    obtain ⟨v, r, e, rd, r2⟩ := r1.cons_inv
    obtain ⟨w, w', e', rd2, rd3⟩ := reps2 r2
    exact ⟨i, j, c, n, by rw [e, e', rep_int_inv rd, rep_int_inv rd2, rep_int_inv rd3], h1, k _ H1 _ _ M1 t1 v1 q5 iw_rangeC⟩
def pairD (x y : Dv) : Dv := .tup [x, y]
theorem rep_pair {H : Hp} {T : Addr} {x y : V} {d f : Dv} (hn : H T = none) (r1 : Rep K H d x) (r2 : Rep K H f y) : Rep K (upd H T (.tup [x, y])) (pairD d f) (.ref T) :=
  rep_tup (.inl (.inl upd_same)) (Reps.cons (r1.mono (Tp.new hn)) (Reps.cons (r2.mono (Tp.new hn)) Reps.nil))
def enumD (ds : List Dv) : List Dv := (List.range ds.length).zipWith (fun (i : Nat) d => pairD (.int (i : Int)) d) ds
theorem enumD_len (ds : List Dv) : (enumD ds).length = ds.length := by simp [enumD]
theorem enumD_get {ds : List Dv} {i : Nat} {d : Dv} (h : ds[i]? = some d) : (enumD ds)[i]? = some (pairD (.int (i : Int)) d) := by
  have hl := (List.getElem?_eq_some_iff.mp h).1
  have he : ds[i] = d := (List.getElem?_eq_some_iff.mp h).2
  simp [enumD, List.getElem?_zipWith, h, hl, he]
theorem iw_enum {a : Addr} {ds : List Dv} {keep : Ms → Prop} {H1 : Hp} (h : ∀ H M, Tp K H1 H → View K M H → keep M → ∃ ws, SqL K H a ws ∧ Reps K H ds ws) : IW K (Ite K a) (enumD ds) keep H1 where
  go := fun i H M hi t v k => by
    rw [enumD_len] at hi
    obtain ⟨ws, s, z⟩ := h H M t v k
    obtain ⟨w, hw, _⟩ := z.get (List.getElem?_eq_getElem hi)
    exact ⟨ws, w, s, hw⟩
  stop := fun H M t v k => by
    obtain ⟨ws, s, z⟩ := h H M t v k
    exact ⟨ws, s, by rw [enumD_len, ← z.length]; exact Nat.le_refl _⟩
  yld := fun i H M x H' hi t v k y => by
    rw [enumD_len] at hi
    obtain ⟨ws, s, z⟩ := h H M t v k
    obtain ⟨w, hw, rw'⟩ := z.get (List.getElem?_eq_getElem hi)
    obtain ⟨T, x', e, hn, e2, y2⟩ := y
    subst e e2
    have := y2 ws s
    rw [hw] at this
    cases this
    exact ⟨_, enumD_get (List.getElem?_eq_getElem hi), Tp.new hn, rep_pair hn rep_int rw', v.new hn, fun a ha => upd_ne fun q => ha (q ▸ hn)⟩
def aiEnumL (t : RA) : RI := fun ρ M Q => t ρ M fun ds M1 => match ds with | [d] => ∃ xs, lstA d M1 = some xs ∧ Q (enumD xs) (fun M => lstA d M = some xs) M1 | _ => False
theorem lstA_items {d : Dv} {M : Ms} {xs : List Dv} (h : lstA d M = some xs) : itemsA d M = some xs := by
  cases d <;> first | cases h; done | exact h
theorem lst_stand {H1 : Hp} {M1 : Ms} {d : Dv} {v : V} {ds : List Dv} (r : Rep K H1 d v) (hv : View K M1 H1) (h : lstA d M1 = some ds) :
    ∃ a vs, v = .ref a ∧ Reps K H1 ds vs ∧ (SqL K H1 a vs ∧ ∀ H M, Tp K H1 H → View K M H → lstA d M = some ds → ∃ ws, SqL K H a ws ∧ Reps K H ds ws) := by
  cases d <;> first | cases h; done | skip
  case rol es =>
    cases h
    obtain ⟨a, vs, e, s, z⟩ := rep_rol_inv r
    exact ⟨a, vs, e, z, s.l, fun H M t _ _ => ⟨vs, (t.f _ _ s).l, z.mono t⟩⟩
  case ref a =>
    obtain ⟨a', vs, e, s, z⟩ := lstA_ok r hv h
    have e2 := rep_ref_inv r
    rw [e2] at e
    cases e
    refine ⟨a, vs, e2, z, s, fun H M t v' hk => ?_⟩
    obtain ⟨b, ws, e3, s3, z3⟩ := lstA_ok (d := .ref a) (v := .ref a) rep_ref v' hk
    cases e3
    exact ⟨ws, s3, z3⟩
theorem ai_enumL {elts : List Expr} {kk : Nat} (hm : X.mg "enumerate" = none) (ha : AA X [e] t) (hg : Gl X "enumerate" := by rfl) (hs : starEach [e] X.env = [(false, eval e X.env)] := by rfl) : AI X (.Tuple elts kk tpos) (.Call (.Name "enumerate" p) [e] [] pos) (aiEnumL t) :=
  pi_imp (pi_enum hg hm ha hs) fun σ H R ⟨ρ, M, Q, hr, hv, q, k⟩ => seqA hr hv q fun vs H1 ds M1 t1 r1 v1 q1 => by
    match ds, r1, q1 with
    | [d], r1, ⟨xs, h1, q1⟩ =>
      obtain ⟨v, e, rd⟩ := reps1 r1
      obtain ⟨a, ws, e1, z, s, hs⟩ := lst_stand rd v1 h1
      exact ⟨a, ws, by rw [e, e1], s, k _ H1 _ _ M1 t1 v1 q1 (iw_enum hs)⟩
def zipD (xs ys : List Dv) : List Dv := xs.zipWith pairD ys
theorem zipD_get {xs ys : List Dv} {i : Nat} {x y : Dv} (h : xs[i]? = some x) (h' : ys[i]? = some y) : (zipD xs ys)[i]? = some (pairD x y) := by simp [zipD, List.getElem?_zipWith, h, h']
theorem zipD_len (xs ys : List Dv) : (zipD xs ys).length = min xs.length ys.length := by simp [zipD]
theorem iw_zipL {a b : Addr} {xs ys : List Dv} {keep : Ms → Prop} {H1 : Hp} (h : ∀ H M, Tp K H1 H → View K M H → keep M → (∃ ws, SqL K H a ws ∧ Reps K H xs ws) ∧ ∃ ws, SqL K H b ws ∧ Reps K H ys ws) : IW K (Itz K a b) (zipD xs ys) keep H1 where
  go := fun i H M hi t v k => by
    rw [zipD_len] at hi
    obtain ⟨⟨ws, s, z⟩, us, s2, z2⟩ := h H M t v k
    obtain ⟨w, hw, _⟩ := z.get (i := i) (List.getElem?_eq_getElem (by omega))
    obtain ⟨u, hu, _⟩ := z2.get (i := i) (List.getElem?_eq_getElem (by omega))
    exact ⟨ws, us, w, u, s, s2, hw, hu⟩
  stop := fun H M t v k => by
    obtain ⟨⟨ws, s, z⟩, us, s2, z2⟩ := h H M t v k
    exact ⟨ws, us, s, s2, by rw [zipD_len, ← z.length, ← z2.length]; omega⟩
  yld := fun i H M x H' hi t v k y => by
    rw [zipD_len] at hi
    obtain ⟨⟨ws, s, z⟩, us, s2, z2⟩ := h H M t v k
    obtain ⟨w, hw, rw'⟩ := z.get (i := i) (List.getElem?_eq_getElem (by omega))
    obtain ⟨u, hu, ru⟩ := z2.get (i := i) (List.getElem?_eq_getElem (by omega))
    obtain ⟨T, x', z', e, hn, e2, y2, y3⟩ := y
    subst e e2
    have q1 := y2 ws s
    have q2 := y3 us s2
    rw [hw] at q1
    rw [hu] at q2
    cases q1
    cases q2
    exact ⟨_, zipD_get (List.getElem?_eq_getElem (by omega)) (List.getElem?_eq_getElem (by omega)), Tp.new hn, rep_pair hn rw' ru, v.new hn, fun a ha => upd_ne fun q => ha (q ▸ hn)⟩
theorem iw_zipT {a b : Addr} {xs ys : List Dv} {vs us : List V} {keep : Ms → Prop} {H1 : Hp} (z0 : Reps K H1 xs vs) (z1 : Reps K H1 ys us) (h : ∀ H, Tp K H1 H → SqT K H a vs) (h' : ∀ H, Tp K H1 H → SqT K H b us) : IW K (RZ.ItzT K a b) (zipD xs ys) keep H1 where
  go := fun i H M hi t v k => by
    rw [zipD_len] at hi
    obtain ⟨w, hw, _⟩ := z0.get (i := i) (List.getElem?_eq_getElem (by omega))
    obtain ⟨u, hu, _⟩ := z1.get (i := i) (List.getElem?_eq_getElem (by omega))
    exact ⟨vs, us, w, u, h H t, h' H t, hw, hu⟩
  stop := fun H M t v k => ⟨vs, us, h H t, h' H t, by rw [zipD_len, ← z0.length, ← z1.length]; omega⟩
  yld := fun i H M x H' hi t v k y => by
    rw [zipD_len] at hi
    obtain ⟨w, hw, rw'⟩ := (z0.mono t).get (i := i) (List.getElem?_eq_getElem (by omega))
    obtain ⟨u, hu, ru⟩ := (z1.mono t).get (i := i) (List.getElem?_eq_getElem (by omega))
    obtain ⟨T, x', z', e, hn, e2, y2, y3⟩ := y
    subst e e2
    have q1 := y2 vs (h _ t)
    have q2 := y3 us (h' _ t)
    rw [hw] at q1
    rw [hu] at q2
    cases q1
    cases q2
    exact ⟨_, zipD_get (List.getElem?_eq_getElem (by omega)) (List.getElem?_eq_getElem (by omega)), Tp.new hn, rep_pair hn rw' ru, v.new hn, fun a ha => upd_ne fun q => ha (q ▸ hn)⟩
def aiZip (t : RA) : RI := fun ρ M Q => t ρ M fun ds M1 => match ds with
  | [.tup xs, .tup ys] => Q (zipD xs ys) (fun _ => True) M1
  | [d, f] => onS (lstA d M1) fun xs => onS (lstA f M1) fun ys => Q (zipD xs ys) (fun M => lstA d M = some xs ∧ lstA f M = some ys) M1
  | _ => False
theorem ai_zip {elts : List Expr} {kk : Nat} (hm : X.mg "zip" = none) (ha : AA X [a, b] t) (hg : Gl X "zip" := by rfl) (hs : starEach [a, b] X.env = (false, eval a X.env) :: starEach [b] X.env := by rfl) (hpl : (backTo pos (starEach [b] X.env)).any (·.1) = false := by rfl) : AI X (.Tuple elts kk tpos) (.Call (.Name "zip" p) [a, b] [] pos) (aiZip t) :=
  pi_imp (RZ.pi_zipA hg hm ha hs hpl) fun σ H R ⟨ρ, M, Q, hr, hv, q, k⟩ => seqA hr hv q fun vs H1 ds M1 t1 r1 v1 q1 => by
    split at q1
    · next xs ys =>
      obtain ⟨v, w, e, rd, rd2⟩ := reps2 r1
      obtain ⟨a, us, e1, s, z⟩ := rep_tup_inv rd
      obtain ⟨b, ws, e2, s2, z2⟩ := rep_tup_inv rd2
      exact ⟨a, b, us, ws, by rw [e, e1, e2], .inr ⟨s, s2, k _ H1 _ _ M1 t1 v1 q1 (iw_zipT z z2 (fun H t => t.t _ _ s) fun H t => t.t _ _ s2)⟩⟩
    · next d f _ =>
      obtain ⟨xs, h1, q1⟩ := onS_ex q1
      obtain ⟨ys, h2, q1⟩ := onS_ex q1
      obtain ⟨v, w, e, rd, rd2⟩ := reps2 r1
      obtain ⟨a, us, e1, z, s, hs⟩ := lst_stand rd v1 h1
      obtain ⟨b, ws, e2, z2, s2, hs2⟩ := lst_stand rd2 v1 h2
      exact ⟨a, b, us, ws, by rw [e, e1, e2], .inl ⟨s, s2, k _ H1 _ _ M1 t1 v1 q1 (iw_zipL fun H M t v k => ⟨hs H M t v k.1, hs2 H M t v k.2⟩)⟩⟩
    · exact q1.elim
end
end HC
set_option maxHeartbeats 1000000
namespace HC
open PySem PySem.Spec L2 PyProof.Rows
theorem meets_enum_newB {v : Value} {o : Obj} {H : Heap → Prop} (B : Begins v o H) :
    Meets (Builtin.«enumerate.__new__» ⟨[.type "enumerate", v], []⟩) (fun _ R s => H s.heap ∧
      R (.ok (.ret (.ref (s.heap.push o).objs.size))) { s with heap := (s.heap.push o).push { cls := .type "enumerate", data := .fields #[.none, .bool false, .ref s.heap.objs.size, rawInt 0, .none, .none] } }) :=
  .of_wp fun prog w A R s h => by
    obtain ⟨hp, g, d, tk, os⟩ := s; obtain ⟨h1, h⟩ := h
    have hsub := sub_enumerate
    have q1 : ∀ {A' : Around} {E : Value → Shared → Prop} {Q : Value → Shared → Prop}, Q (.ref hp.objs.size) ⟨hp.push o, g, d, tk, os⟩ → wpAny (model prog w) A' (pyIter v) Q E ⟨hp, g, d, tk, os⟩ :=
      fun q => B.iter prog w _ _ ⟨hp, g, d, tk, os⟩ _ h1 q
    wp_walk using q1
    refine wpAny_stack_any fun st => wpAny_pure ?_
    split
    · rename_i c _ _ _ _ _
      cases (c == Value.type "enumerate")
      · wp_walk using q1
        exact ⟨_, rfl, h⟩
      · wp_walk using q1
        exact ⟨_, rfl, h⟩
    · wp_walk using q1
      exact ⟨_, rfl, h⟩
section
variable {prog : Program} {w : World} {A : Around} {E : Value → Shared → Prop} {s : Shared}
theorem call_enum_B {v : Value} {o : Obj} {H : Heap → Prop} {Q : Value → Shared → Prop} (B : Begins v o H) (h1 : H s.heap)
    (h : ∀ h', IsEnum h' (s.heap.objs.size + 1) s.heap.objs.size 0 .none → h'.get? s.heap.objs.size = some o → h'.objs.size = s.heap.objs.size + 2 →
      (∀ b o, s.heap.get? b = some o → h'.get? b = some o) → Q (.ref (s.heap.objs.size + 1)) { s with heap := h' }) :
    wpAny (model prog w) A (call (.type "enumerate") [v]) Q E s := by
  refine callType_new F.called_enumerate (by decide) (F.typeCall_enumerate_1 _) (F.newCall_enumerate_1 _) (fun obj => F.args_object_init_2 obj _) F.entry_enumerate_new
    (meets_enum_newB B) ⟨h1, ?_⟩
  have hz : (s.heap.push o).objs.size = s.heap.objs.size + 1 := Heap.size_push ..
  show _ ∧ _
  rw [hz]
  have he : IsEnum ((s.heap.push o).push { cls := .type "enumerate", data := .fields #[.none, .bool false, .ref s.heap.objs.size, rawInt 0, .none, .none] }) (s.heap.objs.size + 1) s.heap.objs.size 0 .none := by
    have := Heap.get?_push_size (s.heap.push o) (o := { cls := .type "enumerate", data := .fields #[.none, .bool false, .ref s.heap.objs.size, rawInt 0, .none, .none] }) rfl
    rw [hz] at this; exact this
  refine ⟨⟨_, he, rfl⟩, h _ he (Heap.get?_push_of_some _ (Heap.get?_push_size _ B.free)) (by rw [Heap.size_push, hz]) fun b o x => Heap.get?_push_of_some _ (Heap.get?_push_of_some _ x)⟩
end
def IteT (K : PySem.W.Frag) (a : Addr) : It :=
  ⟨fun i H => ∃ (xs : List V) (x : V), SqT K H a xs ∧ xs[i]? = some x, fun i H v H' => ∃ T x, v = .ref T ∧ H T = none ∧ H' = upd H T (.tup [.int (i : Nat), x]) ∧ ∀ xs, SqT K H a xs → xs[i]? = some x, fun i H => ∃ xs : List V, SqT K H a xs ∧ xs.length = i⟩
theorem turn_enumT {P : Program} {w : World} {K : PySem.W.Frag} {elts : List Expr} {kk : Nat} {tpos : Pos} (a e it : Addr) :
    Turn P w K (.Tuple elts kk tpos) (IteT K a) [e, it] e (fun i h => (∃ old, IsEnum h e it ((i : Nat) : Int) old) ∧ h.IsTupleIter it a i ∧ e ≠ it) where
  mem := by simp
  obj := fun i h st b hb => by
    obtain ⟨⟨old, he⟩, ⟨o, ho, hc, hd⟩, _⟩ := st
    have e' : b = e ∨ b = it := by simpa using hb
    rcases e' with z | z
    · rw [z]; exact ⟨_, he, fun v q => nomatch q⟩
    · rw [z]; exact ⟨o, ho, fun v q => by rw [hd] at q; cases q⟩
  keep := fun i h h' st k => let ⟨⟨old, he⟩, hi, hne⟩ := st; ⟨⟨old, k e (by simp) _ he⟩, hi.at fun o q => k it (by simp) o q, hne⟩
  item := by
    intro X hP hw hK hc i pins s σ H E I hf st hg
    subst hP hw hK
    obtain ⟨⟨old, he⟩, hit, hne⟩ := st
    obtain ⟨xs, x, hq, hx⟩ := hg
    obtain ⟨its, rv, p, hz⟩ := I.tuple hq
    obtain ⟨u, hu, ru⟩ := rv.get hx
    have hel : e < s.heap.objs.size := Heap.lt_size he
    have hil : it < s.heap.objs.size := by obtain ⟨_, q, _⟩ := hit; exact Heap.lt_size q
    have nae : e ≠ a := by
      intro q
      obtain ⟨o, ho, hcl, _⟩ := p
      rw [← q] at ho
      have := he.symm.trans ho
      cases this
      injection hcl with hc'
      exact absurd hc' (by decide)
    have nai : a ≠ it := by
      intro q
      obtain ⟨o, ho, hcl, _⟩ := p
      obtain ⟨o2, ho2, hc2, _⟩ := hit
      rw [q, ho2] at ho
      cases ho
      rw [hc2] at hcl
      injection hcl with hc'
      exact absurd hc' (by decide)
    have hil2 : i < its.toArray.size := by
      have := (List.getElem?_eq_some_iff.mp hu).1
      simpa using this
    refine wpAny_pyNext_enum_itemC (Draws.tuple (A := X.A.in1) (show X.A.in1.handled = none from I.ok.hd hc) it a nai its.toArray) he ⟨hit, p⟩ hil2 hne (by simp [hne, nae]) fun x' h' tk hx' ho hst' hT hsz hk => ?_
    obtain ⟨hit', _⟩ := hst'
    have ex : x' = u := by
      have h1 : its.toArray[i]? = some u := by simpa using hu
      rw [h1] at hx'
      exact (Option.some.inj hx').symm
    subst ex
    refine ⟨_, rfl, wpAny_letOwnedTupleGo_enum (s := { s with heap := h', toks := tk + 1 }) ho fun h'' he' sb => ?_⟩
    have hT2 : h''.get? s.heap.objs.size = some { cls := .type "tuple", data := .seq #[.int i tk, x'] } := (sb.2 _ (Nat.ne_of_gt hel)).trans hT
    have new : ObjOk X.prog X.w (upd H s.heap.objs.size (.tup [.int (i : Nat), x])) h'' s.heap.objs.size (.tup [.int (i : Nat), x]) :=
      ⟨by show 2 ≤ sizeLine; decide, [.int i tk, x'], .cons ⟨_, rfl⟩ (.cons ru .nil), ⟨_, hT2, rfl, _, rfl⟩⟩
    have I1 : Inv X pins σ (upd H s.heap.objs.size (.tup [.int (i : Nat), x])) { s with heap := h'', toks := tk + 1 } :=
      I.turnedNew (ch := [e, it]) (fun b ob hb q => (sb.2 b (fun z => hb (by simp [z]))).trans (hk b ob (fun z => hb (by simp [z])) (fun z => hb (by simp [z])) q)) hf (Nat.le_refl _) new
    refine ⟨.ref s.heap.objs.size, _, I1, rfl, ⟨_, x, rfl, I.hok.fresh (Nat.le_refl _), rfl, fun ys hy => by rw [I.tuple_inj hy hq]; exact hx⟩, ⟨⟨x', ?_⟩, hit'.at fun o q => (sb.2 it (Ne.symm hne)).trans q, hne⟩, fun b hb => ?_⟩
    · have e1 : ((i + 1 : Nat) : Int) = (i : Int) + 1 := by omega
      rw [e1]; exact he'
    · have hb' : b < s.heap.objs.size := by
        have e' : b = e ∨ b = it := by simpa using hb
        rcases e' with z | z
        · rw [z]; exact hel
        · rw [z]; exact hil
      rw [upd_ne (Nat.ne_of_lt hb')]
      exact (hf b hb).1
  done := by
    intro X hP hw hK hc i pins s σ H E I hf st hg
    subst hP hw hK
    obtain ⟨⟨old, he⟩, hit, hne⟩ := st
    obtain ⟨xs, hq, hx⟩ := hg
    obtain ⟨its, rv, p, hz⟩ := I.tuple hq
    obtain ⟨f0, f1, f2, f3, f4, f5⟩ := hf it (by simp)
    have hl := rv.length
    have nai : a ≠ it := by
      intro q
      obtain ⟨o, ho, hcl, _⟩ := p
      obtain ⟨o2, ho2, hc2, _⟩ := hit
      rw [q, ho2] at ho
      cases ho
      rw [hc2] at hcl
      injection hcl with hc'
      exact absurd hc' (by decide)
    have hst : (fun i (h : Heap) => h.IsTupleIter it a i ∧ h.IsTuple a its.toArray) its.toArray.size s.heap := ⟨by
      have e2 : its.toArray.size = i := by simp; omega
      rw [e2]; exact hit, p⟩
    refine wpAny_pyNext_enum_endD (Draws.tuple (prog := X.prog) (w := X.w) (A := X.A.in1) (show X.A.in1.handled = none from I.ok.hd hc) it a nai its.toArray) he hst fun h' eb => ⟨rfl, I.turned (t' := s.toks) (fun b o hb q => eb b o hb q) f0 f1 f3 f4 f5⟩
  self := fun A i s Q E st h => let ⟨⟨_, he⟩, _⟩ := st; wpAny_pyIter_enum he h
def iEnumA (K : PySem.W.Frag) (ta : TA) : TI := fun σ H R => ta σ H fun vs H1 => ∃ a xs, vs = [.ref a] ∧ ((SqL K H1 a xs ∧ R (Ite K a) H1) ∨ (SqT K H1 a xs ∧ R (IteT K a) H1))
theorem pi_enumA {X : Cx} {e : Expr} {ta : TA} {p pos tpos : Pos} {elts : List Expr} {kk : Nat} (hg : Gl X "enumerate") (hm : X.mg "enumerate" = none) (ha : PA X [e] ta) (hs : starEach [e] X.env = [(false, eval e X.env)] := by rfl) :
    PI X (.Tuple elts kk tpos) (.Call (.Name "enumerate" p) [e] [] pos) (iEnumA X.K ta) := by
  refine ⟨fun pins s σ H R I h => ?_⟩
  refine Call_ (ld_blt I hg hm boot_enumerate (PyProof.Rows.callWith_type1 (thn (ha.run pos pins s σ H _ I h) fun us s1 ⟨vs, H1, I1, r1, q1⟩ => ?_) hs rfl))
  obtain ⟨a, xs, ex, q1⟩ := q1
  subst ex
  cases r1 with
  | cons r rr =>
    cases rr
    cases r
    rcases q1 with ⟨hq, q⟩ | ⟨hq, q⟩
    · obtain ⟨its, rv, p', hz⟩ := I1.list hq
      refine call_enumerate_list p'.isList fun h' he hit hsz hk => wpAny_pyIter_enum he ?_
      have I2 : Inv X pins σ H1 { s1 with heap := h' } := I1.kept (t' := s1.toks) hk
      refine ⟨s1.heap.objs.size + 1, [s1.heap.objs.size + 1, s1.heap.objs.size], _, _, H1, rfl, I2, turn_enum a (s1.heap.objs.size + 1) s1.heap.objs.size, ⟨⟨.none, he⟩, hit, Nat.succ_ne_self _⟩, fun b hb => ?_, q⟩
      have e' : b = s1.heap.objs.size + 1 ∨ b = s1.heap.objs.size := by simpa using hb
      have hle : s1.heap.objs.size ≤ b := by
        rcases e' with z | z
        · rw [z]; exact Nat.le_add_right _ _
        · rw [z]; exact Nat.le_refl _
      exact I1.fpOk hle (I1.hok.fresh hle)
    · obtain ⟨its, rv, p', hz⟩ := I1.tuple hq
      refine call_enum_B (begins_tuple a its.toArray) (show s1.heap.IsTuple a its.toArray from p') fun h' he hit hsz hk => wpAny_pyIter_enum he ?_
      have I2 : Inv X pins σ H1 { s1 with heap := h' } := I1.kept (t' := s1.toks) hk
      refine ⟨s1.heap.objs.size + 1, [s1.heap.objs.size + 1, s1.heap.objs.size], _, _, H1, rfl, I2, turn_enumT a (s1.heap.objs.size + 1) s1.heap.objs.size, ⟨⟨.none, he⟩, ⟨_, hit, rfl, rfl⟩, Nat.succ_ne_self _⟩, fun b hb => ?_, q⟩
      have e' : b = s1.heap.objs.size + 1 ∨ b = s1.heap.objs.size := by simpa using hb
      have hle : s1.heap.objs.size ≤ b := by
        rcases e' with z | z
        · rw [z]; exact Nat.le_add_right _ _
        · rw [z]; exact Nat.le_refl _
      exact I1.fpOk hle (I1.hok.fresh hle)
section
variable {X : Cx} {e : Expr} {t : RA} {K : PySem.W.Frag} {p pos tpos : Pos}
theorem iw_enumT {a : Addr} {ds : List Dv} {vs : List V} {keep : Ms → Prop} {H1 : Hp} (z0 : Reps K H1 ds vs) (h : ∀ H, Tp K H1 H → SqT K H a vs) : IW K (IteT K a) (enumD ds) keep H1 where
  go := fun i H M hi t v k => by
    rw [enumD_len] at hi
    obtain ⟨w, hw, _⟩ := z0.get (List.getElem?_eq_getElem hi)
    exact ⟨vs, w, h H t, hw⟩
  stop := fun H M t v k => ⟨vs, h H t, by rw [enumD_len, ← z0.length]⟩
  yld := fun i H M x H' hi t v k y => by
    rw [enumD_len] at hi
    obtain ⟨w, hw, rw'⟩ := (z0.mono t).get (List.getElem?_eq_getElem hi)
    obtain ⟨T, x', e, hn, e2, y2⟩ := y
    subst e e2
    have := y2 vs (h _ t)
    rw [hw] at this
    cases this
    exact ⟨_, enumD_get (List.getElem?_eq_getElem hi), Tp.new hn, rep_pair hn rep_int rw', v.new hn, fun a ha => upd_ne fun q => ha (q ▸ hn)⟩
def aiEnum (t : RA) : RI := fun ρ M Q => t ρ M fun ds M1 => on1 ds fun d => onS (itemsA d M1) fun xs => Q (enumD xs) (fun M => itemsA d M = some xs) M1
theorem ai_enum {elts : List Expr} {kk : Nat} (hm : X.mg "enumerate" = none) (ha : AA X [e] t) (hg : Gl X "enumerate" := by rfl) (hs : starEach [e] X.env = [(false, eval e X.env)] := by rfl) : AI X (.Tuple elts kk tpos) (.Call (.Name "enumerate" p) [e] [] pos) (aiEnum t) :=
  pi_imp (pi_enumA hg hm ha hs) fun σ H R ⟨ρ, M, Q, hr, hv, q, k⟩ => seqA hr hv q fun vs H1 ds M1 t1 r1 v1 q1 => by
    obtain ⟨d, e0, q4⟩ := on1_ex q1
    obtain ⟨xs, h1, q5⟩ := onS_ex q4
    subst e0
    obtain ⟨v, e, rd⟩ := reps1 r1
    obtain ⟨a, ws, e1, z, hs⟩ := items_stand rd v1 h1
    rcases hs with ⟨s, hs⟩ | ⟨s, hs⟩
    · exact ⟨a, ws, by rw [e, e1], .inr ⟨s, k _ H1 _ _ M1 t1 v1 q5 (iw_enumT z hs)⟩⟩
    · exact ⟨a, ws, by rw [e, e1], .inl ⟨s, k _ H1 _ _ M1 t1 v1 q5 (iw_enum hs)⟩⟩
end
end HC
set_option maxHeartbeats 1000000
namespace HC
open PySem PySem.Spec L2 PyProof.Rows
def RowIt (k : Bool) (h : Heap) (it a : Addr) (i : Nat) : Prop := match k with | true => h.IsTupleIter it a i | false => h.IsListIter it a i
def RowAt (k : Bool) (h : Heap) (a : Addr) (items : Array Value) : Prop := match k with | true => h.IsTuple a items | false => h.IsList a items
def RowV (k : Bool) (K : PySem.W.Frag) (H : Hp) (a : Addr) (xs : List V) : Prop := match k with | true => SqT K H a xs | false => SqL K H a xs
def RowO (k : Bool) (a : Addr) : Obj := match k with
  | true => { cls := .type "tuple_iterator", data := .fields #[.ref a, .int 0 0] }
  | false => { cls := .type "list_iterator", data := .fields #[.ref a, .int 0 0] }
theorem row_draws {prog : Program} {w : World} {A : Around} (hh : A.handled = none) (k : Bool) (it a : Addr) (hne : a ≠ it) (items : Array Value) :
    Draws prog w A it [it, a] items.size (fun i v => items[i]? = some v) (fun i h => RowIt k h it a i ∧ RowAt k h a items) := by
  cases k
  · exact Draws.list hh it a hne items
  · exact Draws.tuple hh it a hne items
theorem row_begins (k : Bool) (a : Addr) (items : Array Value) : Begins (.ref a) (RowO k a) fun h => RowAt k h a items := by
  cases k
  · exact begins_list a items
  · exact begins_tuple a items
theorem RowIt.keep {k : Bool} {h h' : Heap} {it a : Addr} {i : Nat} (r : RowIt k h it a i) (q : ∀ o, h.get? it = some o → h'.get? it = some o) : RowIt k h' it a i := by
  cases k
  · exact Heap.IsListIter.at (h := h) r q
  · exact Heap.IsTupleIter.at (h := h) r q
theorem RowIt.first {k : Bool} {h : Heap} {it a : Addr} (q : h.get? it = some (RowO k a)) : RowIt k h it a 0 := by
  cases k
  · exact ⟨_, q, rfl, rfl⟩
  · exact ⟨_, q, rfl, rfl⟩
theorem RowIt.ob {k : Bool} {h : Heap} {it a : Addr} {i : Nat} (r : RowIt k h it a i) : ∃ o ar, h.get? it = some o ∧ o.data = .fields ar := by
  cases k
  · obtain ⟨o, e, _, d⟩ := r; exact ⟨o, _, e, d⟩
  · obtain ⟨o, e, _, d⟩ := r; exact ⟨o, _, e, d⟩
theorem row_inv {X : Cx} {pins : List (Addr × Obj)} {σ : L2.St} {H : Hp} {s : Shared} {a : Addr} {xs : List V} {k : Bool} (I : Inv X pins σ H s) (h : RowV k X.K H a xs) : ∃ its : List Value, Vals xs its ∧ RowAt k s.heap a its.toArray := by
  cases k
  · obtain ⟨its, r, p, _⟩ := I.list h
    exact ⟨its, r, p.isList⟩
  · obtain ⟨its, r, p, _⟩ := I.tuple h
    exact ⟨its, r, p⟩
theorem row_inj {X : Cx} {pins : List (Addr × Obj)} {σ : L2.St} {H : Hp} {s : Shared} {a : Addr} {xs ys : List V} {k : Bool} (I : Inv X pins σ H s) (h : RowV k X.K H a xs) (h' : RowV k X.K H a ys) : xs = ys := by
  cases k
  · exact I.list_inj h h'
  · exact I.tuple_inj h h'
theorem RowAt.lt {k : Bool} {h : Heap} {a : Addr} {items : Array Value} (r : RowAt k h a items) : a < h.objs.size := by
  cases k
  · obtain ⟨o, e, _⟩ := r; exact Heap.lt_size e
  · obtain ⟨o, e, _⟩ := r; exact Heap.lt_size e
abbrev zH2 (h : Heap) (o1 o2 : Obj) : Heap := (h.push o1).push o2
abbrev zH3 (h : Heap) (o1 o2 : Obj) : Heap := (zH2 h o1 o2).push { cls := .type "tuple", data := .seq #[.ref h.objs.size, .ref (h.push o1).objs.size] }
abbrev zH4 (h : Heap) (o1 o2 : Obj) : Heap := (zH3 h o1 o2).push { cls := .type "tuple", data := .seq #[.none, .none] }
abbrev zH5 (h : Heap) (o1 o2 : Obj) : Heap := (zH4 h o1 o2).push { cls := .type "zip", data := .fields #[.none, .bool false, .bool false, .ref (zH2 h o1 o2).objs.size, .ref (zH3 h o1 o2).objs.size] }
theorem meets_zip_newB {v1 v2 : Value} {o1 o2 : Obj} {P1 P2 : Heap → Prop} (B1 : Begins v1 o1 P1) (B2 : Begins v2 o2 P2) :
    Meets (Builtin.«zip.__new__» ⟨[.type "zip", v1, v2], []⟩) (fun _ R s => P1 s.heap ∧ P2 s.heap ∧
      R (.ok (.ret (.ref (zH4 s.heap o1 o2).objs.size))) { s with heap := zH5 s.heap o1 o2 }) :=
  .of_wp fun prog w A R s hyp => by
    obtain ⟨hp, g, d, tk, os⟩ := s
    obtain ⟨f1, f2, hyp⟩ := hyp
    have hsub := sub_zip
    have g1 : ∀ {A' : Around} {E : Value → Shared → Prop} {Q : Value → Shared → Prop}, Q (.ref hp.objs.size) ⟨hp.push o1, g, d, tk, os⟩ → wpAny (model prog w) A' (pyIter v1) Q E ⟨hp, g, d, tk, os⟩ :=
      fun q => B1.iter prog w _ _ ⟨hp, g, d, tk, os⟩ _ f1 q
    have g2 : ∀ {A' : Around} {E : Value → Shared → Prop} {Q : Value → Shared → Prop}, Q (.ref (hp.push o1).objs.size) ⟨(hp.push o1).push o2, g, d, tk, os⟩ → wpAny (model prog w) A' (pyIter v2) Q E ⟨hp.push o1, g, d, tk, os⟩ :=
      fun q => B2.iter prog w _ _ ⟨hp.push o1, g, d, tk, os⟩ _ (B2.keeps _ _ f2 fun b o e => Heap.get?_push_of_some _ e) q
    wp_walk using g1, g2
    exact ⟨_, rfl, hyp⟩
section
variable {prog : Program} {w : World} {A : Around} {E : Value → Shared → Prop} {s : Shared}
theorem call_zip_B {v1 v2 : Value} {o1 o2 : Obj} {P1 P2 : Heap → Prop} {Q : Value → Shared → Prop} (B1 : Begins v1 o1 P1) (B2 : Begins v2 o2 P2) (f1 : P1 s.heap) (f2 : P2 s.heap)
    (go : ∀ h', IsZip h' (s.heap.objs.size + 4) (s.heap.objs.size + 2) (s.heap.objs.size + 3) .none → IsPair h' (s.heap.objs.size + 2) (.ref s.heap.objs.size) (.ref (s.heap.objs.size + 1)) →
      IsPair h' (s.heap.objs.size + 3) .none .none → h'.get? s.heap.objs.size = some o1 → h'.get? (s.heap.objs.size + 1) = some o2 →
      (∀ c o, s.heap.get? c = some o → h'.get? c = some o) → Q (.ref (s.heap.objs.size + 4)) { s with heap := h' }) :
    wpAny (model prog w) A (call (.type "zip") [v1, v2]) Q E s := by
  refine callType_new F.called_zip (by decide) (F.typeCall_zip_2 _ _) (F.newCall_zip_2 _ _) (fun obj => F.args_object_init_3 obj _ _) F.entry_zip_new
    (meets_zip_newB B1 B2) ⟨f1, f2, ?_⟩
  have up : ∀ {h : Heap} {o' : Obj} {c : Addr} {o : Obj}, h.get? c = some o → (h.push o').get? c = some o := fun e => Heap.get?_push_of_some _ e
  have e1 : (s.heap.push o1).objs.size = s.heap.objs.size + 1 := Heap.size_push ..
  have e2 : (zH2 s.heap o1 o2).objs.size = s.heap.objs.size + 2 := (Heap.size_push ..).trans (by rw [e1])
  have e3 : (zH3 s.heap o1 o2).objs.size = s.heap.objs.size + 3 := (Heap.size_push ..).trans (by rw [e2])
  have e4 : (zH4 s.heap o1 o2).objs.size = s.heap.objs.size + 4 := (Heap.size_push ..).trans (by rw [e3])
  have a1 : (zH5 s.heap o1 o2).get? s.heap.objs.size = some o1 := up (up (up (up (Heap.get?_push_size _ B1.free))))
  have a2 : (zH5 s.heap o1 o2).get? (s.heap.push o1).objs.size = some o2 := up (up (up (Heap.get?_push_size _ B2.free)))
  have a3 : (zH5 s.heap o1 o2).get? (zH2 s.heap o1 o2).objs.size = some _ := up (up (Heap.get?_push_size _ rfl))
  have a4 : (zH5 s.heap o1 o2).get? (zH3 s.heap o1 o2).objs.size = some _ := up (Heap.get?_push_size _ rfl)
  have a5 : (zH5 s.heap o1 o2).get? (zH4 s.heap o1 o2).objs.size = some _ := Heap.get?_push_size _ rfl
  show _ ∧ _
  refine ⟨⟨_, a5, rfl⟩, ?_⟩
  rw [e1] at a2 a3
  rw [e2] at a3 a5
  rw [e3] at a4 a5
  rw [e4] at a5 ⊢
  exact go _ a5 a3 a4 a1 a2 fun c o e => up (up (up (up (up e))))
end
def ItzM (k m : Bool) (K : PySem.W.Frag) (a b : Addr) : It :=
  ⟨fun i H => ∃ (xs ys : List V) (x y : V), RowV k K H a xs ∧ RowV m K H b ys ∧ xs[i]? = some x ∧ ys[i]? = some y,
    fun i H v H' => ∃ T x y, v = .ref T ∧ H T = none ∧ H' = upd H T (.tup [x, y]) ∧ (∀ xs, RowV k K H a xs → xs[i]? = some x) ∧ ∀ ys, RowV m K H b ys → ys[i]? = some y,
    fun i H => ∃ xs ys : List V, RowV k K H a xs ∧ RowV m K H b ys ∧ i = min xs.length ys.length⟩
theorem turn_zipM {P : Program} {w : World} {K : PySem.W.Frag} {elts : List Expr} {kk : Nat} {tpos : Pos} {k m : Bool} {a b z TI TO i1 i2 : Addr} (S : ZipSep2 z TI TO i1 i2 [i1, a] [i2, b]) (na : a ≠ i1) (nb : b ≠ i2) :
    Turn P w K (.Tuple elts kk tpos) (ItzM k m K a b) [z, TI, TO, i1, i2] z (fun i h => IsZip h z TI TO .none ∧ IsPair h TI (.ref i1) (.ref i2) ∧ (∃ x y, IsPair h TO x y) ∧ RowIt k h i1 a i ∧ RowIt m h i2 b i) where
  mem := List.mem_cons_self ..
  obj := fun i h st c hc => by
    obtain ⟨r1, r2, ⟨x, y, r3⟩, t1, t2⟩ := st
    obtain ⟨o1, _, q1, d1⟩ := t1.ob
    obtain ⟨o2, _, q2, d2⟩ := t2.ob
    simp only [List.mem_cons, List.not_mem_nil, or_false] at hc
    rcases hc with rfl | rfl | rfl | rfl | rfl
    · exact ⟨_, r1, fun v e => nomatch e⟩
    · exact ⟨_, r2, fun v e => nomatch e⟩
    · exact ⟨_, r3, fun v e => nomatch e⟩
    · exact ⟨o1, q1, fun v e => by rw [d1] at e; cases e⟩
    · exact ⟨o2, q2, fun v e => by rw [d2] at e; cases e⟩
  keep := fun i h h' st kp => by
    obtain ⟨r1, r2, ⟨x, y, r3⟩, t1, t2⟩ := st
    exact ⟨kp z (by simp) _ r1, kp TI (by simp) _ r2, ⟨x, y, kp TO (by simp) _ r3⟩, t1.keep fun o e => kp i1 (by simp) o e, t2.keep fun o e => kp i2 (by simp) o e⟩
  item := by
    intro X hP hw hK hc i pins s σ H E I hf st hg
    subst hP hw hK
    obtain ⟨r1, r2, ⟨x0, y0, r3⟩, t1, t2⟩ := st
    obtain ⟨xs, ys, x, y, qa, qb, hx, hy⟩ := hg
    obtain ⟨us, va, pa⟩ := row_inv I qa
    obtain ⟨ws, vb, pb⟩ := row_inv I qb
    obtain ⟨u, hu, ru⟩ := va.get hx
    obtain ⟨v, hv, rv⟩ := vb.get hy
    have hh : X.A.in1.handled = none := I.ok.hd hc
    have lu : i < us.toArray.size := by
      have := (List.getElem?_eq_some_iff.mp hu).1
      simpa using this
    have lv : i < ws.toArray.size := by
      have := (List.getElem?_eq_some_iff.mp hv).1
      simpa using this
    refine wpAny_pyNext_zipD2_item S (row_draws hh k i1 a na us.toArray) (row_draws hh m i2 b nb ws.toArray) r1 r2 r3 ⟨t1, pa⟩ ⟨t2, pb⟩ lu lv fun x1 x2 h1 tk y1 y2 z1 p1 w1 w2 hT hsz same => ?_
    have e1 : x1 = u := by
      have e : us.toArray[i]? = some u := by simpa using hu
      rw [e] at y1
      exact (Option.some.inj y1).symm
    have e2 : x2 = v := by
      have e : ws.toArray[i]? = some v := by simpa using hv
      rw [e] at y2
      exact (Option.some.inj y2).symm
    subst e1 e2
    have lz : z < s.heap.objs.size := Heap.lt_size r1
    refine ⟨_, rfl, wpAny_letOwnedTupleGo_zip (s := { s with heap := h1, toks := tk }) z1 fun h2 z2 sb => ?_⟩
    have hT2 : h2.get? s.heap.objs.size = some { cls := .type "tuple", data := .seq #[x1, x2] } := (sb.2 _ (Nat.ne_of_gt lz)).trans hT
    have new : ObjOk X.prog X.w (upd H s.heap.objs.size (.tup [x, y])) h2 s.heap.objs.size (.tup [x, y]) :=
      ⟨show 2 ≤ sizeLine by decide, [x1, x2], .cons ru (.cons rv .nil), ⟨_, hT2, rfl, _, rfl⟩⟩
    have I1 : Inv X pins σ (upd H s.heap.objs.size (.tup [x, y])) { s with heap := h2, toks := tk } :=
      I.turnedNew (ch := [z, TI, TO, i1, i2]) (fun c o out e => by
        simp only [List.mem_cons, List.not_mem_nil, or_false, not_or] at out
        obtain ⟨c1, c2, c3, c4, c5⟩ := out
        exact (sb.2 c c1).trans (same c o c1 c3 c4 c5 e)) hf (Nat.le_refl _) new
    have sz : ∀ c, c ∈ [z, TI, TO, i1, i2] → c < s.heap.objs.size := fun c hcm => by
      obtain ⟨_, _, q1, _⟩ := t1.ob
      obtain ⟨_, _, q2, _⟩ := t2.ob
      simp only [List.mem_cons, List.not_mem_nil, or_false] at hcm
      rcases hcm with rfl | rfl | rfl | rfl | rfl
      · exact lz
      · exact Heap.lt_size r2
      · exact Heap.lt_size r3
      · exact Heap.lt_size q1
      · exact Heap.lt_size q2
    refine ⟨.ref s.heap.objs.size, _, I1, rfl, ⟨_, x, y, rfl, I.hok.fresh (Nat.le_refl _), rfl, fun l hl => by rw [row_inj I hl qa]; exact hx, fun l hl => by rw [row_inj I hl qb]; exact hy⟩,
      ⟨z2, (sb.2 _ S.TIz).trans (same _ _ S.TIz S.TITO S.TIi1 S.TIi2 r2), ⟨x1, x2, (sb.2 _ S.TOz).trans p1⟩, w1.1.keep fun o e => (sb.2 _ S.zi1.symm).trans e, w2.1.keep fun o e => (sb.2 _ S.zi2.symm).trans e⟩, fun c hcm => ?_⟩
    rw [upd_ne (Nat.ne_of_lt (sz c hcm))]
    exact (hf c hcm).1
  done := by
    intro X hP hw hK hc i pins s σ H E I hf st hg
    subst hP hw hK
    obtain ⟨r1, r2, ⟨x0, y0, r3⟩, t1, t2⟩ := st
    obtain ⟨xs, ys, qa, qb, hi⟩ := hg
    obtain ⟨us, va, pa⟩ := row_inv I qa
    obtain ⟨ws, vb, pb⟩ := row_inv I qb
    have hh : X.A.in1.handled = none := I.ok.hd hc
    have l1 : us.toArray.size = xs.length := by rw [List.size_toArray]; exact va.length.symm
    have l2 : ws.toArray.size = ys.length := by rw [List.size_toArray]; exact vb.length.symm
    refine wpAny_pyNext_zipD2_end S (row_draws hh k i1 a na us.toArray) (row_draws hh m i2 b nb ws.toArray) r1 r2 r3 ⟨t1, pa⟩ ⟨t2, pb⟩ (by omega) (by omega) (by omega) fun h1 tk same => ⟨rfl, I.turnedL (t' := tk) (ch := [z, TI, TO, i1, i2]) (fun c o out e => ?_) hf⟩
    simp only [List.mem_cons, List.not_mem_nil, or_false, not_or] at out
    obtain ⟨c1, c2, c3, c4, c5⟩ := out
    exact same c o c1 c3 c4 c5 e
  self := fun A i s Q E st h => wpAny_pyIter_zip st.1 h
def iZipM (K : PySem.W.Frag) (ta : TA) : TI := fun σ H R => ta σ H fun vs H1 => ∃ a b xs ys k m, vs = [.ref a, .ref b] ∧ RowV k K H1 a xs ∧ RowV m K H1 b ys ∧ R (ItzM k m K a b) H1
theorem off {n i j : Nat} (h : i ≠ j) : n + i ≠ n + j := fun e => h (Nat.add_left_cancel e)
theorem offL {n i b : Nat} (h : b < n) : n + i ≠ b := fun e => Nat.lt_irrefl n (Nat.lt_of_le_of_lt (Nat.le_add_right n i) (e ▸ h))
theorem out2 {x y z : Nat} (h : x ≠ y) (k : x ≠ z) : x ∉ [y, z] := fun e => by
  rcases List.mem_cons.mp e with e | e
  · exact h e
  · exact k (List.mem_singleton.mp e)
theorem sepN {n a b : Nat} (ha : a < n) (hb : b < n) : ZipSep2 (n + 4) (n + 2) (n + 3) n (n + 1) [n, a] [n + 1, b] where
  TIz := off (by decide)
  TOz := off (by decide)
  TITO := off (by decide)
  TIi1 := off (j := 0) (by decide)
  mem1 := List.mem_cons_self ..
  zf1 := out2 (off (j := 0) (by decide)) (offL ha)
  Tf1 := out2 (off (j := 0) (by decide)) (offL ha)
  TIi2 := off (by decide)
  mem2 := List.mem_cons_self ..
  zf2 := out2 (off (by decide)) (offL hb)
  Tf2 := out2 (off (by decide)) (offL hb)
  sep1_2 := out2 (off (i := 0) (by decide)) (offL (i := 0) hb)
  sep2_1 := out2 (off (j := 0) (by decide)) (offL ha)
theorem pi_zipM {X : Cx} {e e2 : Expr} {ta : TA} {p pos tpos : Pos} {elts : List Expr} {kk : Nat} (hg : Gl X "zip") (hm : X.mg "zip" = none) (ha : PA X [e, e2] ta)
    (hs : starEach [e, e2] X.env = (false, eval e X.env) :: starEach [e2] X.env := by rfl) (hpl : (backTo pos (starEach [e2] X.env)).any (·.1) = false := by rfl) :
    PI X (.Tuple elts kk tpos) (.Call (.Name "zip" p) [e, e2] [] pos) (iZipM X.K ta) := by
  refine ⟨fun pins s σ H R I hyp => ?_⟩
  refine Call_ (ld_blt I hg hm boot_zip (callWith_type1 (thn (ha.run pos pins s σ H _ I hyp) fun us s1 got => ?_) hs hpl))
  obtain ⟨vs, H1, I1, rel, a, b, xs, ys, k, m, rfl, qa, qb, q⟩ := got
  cases rel with
  | cons r rr =>
  cases rr with
  | cons r' rr =>
  cases rr
  cases r
  cases r'
  obtain ⟨us1, va, pa⟩ := row_inv I1 qa
  obtain ⟨us2, vb, pb⟩ := row_inv I1 qb
  refine call_zip_B (row_begins k a us1.toArray) (row_begins m b us2.toArray) pa pb fun h' z1 z2 z3 z4 z5 same => wpAny_pyIter_zip z1 ?_
  have I2 : Inv X pins σ H1 { s1 with heap := h' } := I1.kept (t' := s1.toks) same
  have free : ∀ c, c ∈ [s1.heap.objs.size + 4, s1.heap.objs.size + 2, s1.heap.objs.size + 3, s1.heap.objs.size, s1.heap.objs.size + 1] → FpOk X pins H1 c := fun c hcm => by
    have up : s1.heap.objs.size ≤ c := by
      simp only [List.mem_cons, List.not_mem_nil, or_false] at hcm
      rcases hcm with rfl | rfl | rfl | rfl | rfl
      · exact Nat.le_add_right _ _
      · exact Nat.le_add_right _ _
      · exact Nat.le_add_right _ _
      · exact Nat.le_refl _
      · exact Nat.le_add_right _ _
    exact I1.fpOk up (I1.hok.fresh up)
  have la := pa.lt
  have lb := pb.lt
  exact ⟨_, _, _, _, H1, rfl, I2, turn_zipM (sepN la lb) (Nat.ne_of_lt la) (Nat.ne_of_lt (Nat.lt_succ_of_lt lb)), ⟨z1, z2, ⟨_, _, z3⟩, RowIt.first z4, RowIt.first z5⟩, free, q⟩
section
variable {X : Cx} {a b : Expr} {t : RA} {K : PySem.W.Frag} {p pos tpos : Pos}
theorem iw_zipM {k m : Bool} {a b : Addr} {xs ys : List Dv} {keep : Ms → Prop} {H1 : Hp} (hyp : ∀ H M, Tp K H1 H → View K M H → keep M → (∃ ws, RowV k K H a ws ∧ Reps K H xs ws) ∧ ∃ ws, RowV m K H b ws ∧ Reps K H ys ws) : IW K (ItzM k m K a b) (zipD xs ys) keep H1 where
  go := fun i H M hi t v kp => by
    rw [zipD_len] at hi
    obtain ⟨⟨ws, s, z⟩, us, s2, z2⟩ := hyp H M t v kp
    obtain ⟨w, hw, _⟩ := z.get (i := i) (List.getElem?_eq_getElem (by omega))
    obtain ⟨u, hu, _⟩ := z2.get (i := i) (List.getElem?_eq_getElem (by omega))
    exact ⟨ws, us, w, u, s, s2, hw, hu⟩
  stop := fun H M t v kp => by
    obtain ⟨⟨ws, s, z⟩, us, s2, z2⟩ := hyp H M t v kp
    exact ⟨ws, us, s, s2, by rw [zipD_len, ← z.length, ← z2.length]⟩
  yld := fun i H M x H' hi t v kp y => by
    rw [zipD_len] at hi
    obtain ⟨⟨ws, s, z⟩, us, s2, z2⟩ := hyp H M t v kp
    obtain ⟨w, hw, rw'⟩ := z.get (i := i) (List.getElem?_eq_getElem (by omega))
    obtain ⟨u, hu, ru⟩ := z2.get (i := i) (List.getElem?_eq_getElem (by omega))
    obtain ⟨T, x', z', e, hn, e2, y2, y3⟩ := y
    subst e e2
    have q1 := y2 ws s
    have q2 := y3 us s2
    rw [hw] at q1
    rw [hu] at q2
    cases q1
    cases q2
    exact ⟨_, zipD_get (List.getElem?_eq_getElem (by omega)) (List.getElem?_eq_getElem (by omega)), Tp.new hn, rep_pair hn rw' ru, v.new hn, fun a ha => upd_ne fun q => ha (q ▸ hn)⟩
theorem row_stand {H1 : Hp} {M1 : Ms} {d : Dv} {v : V} {ds : List Dv} (r : Rep K H1 d v) (hv : View K M1 H1) (h : itemsA d M1 = some ds) :
    ∃ k a vs, v = .ref a ∧ RowV k K H1 a vs ∧ ∀ H M, Tp K H1 H → View K M H → itemsA d M = some ds → ∃ ws, RowV k K H a ws ∧ Reps K H ds ws := by
  obtain ⟨a, vs, e, z, hs⟩ := items_stand r hv h
  rcases hs with ⟨s, hs⟩ | ⟨s, hs⟩
  · exact ⟨true, a, vs, e, s, fun H M t _ _ => ⟨vs, hs H t, z.mono t⟩⟩
  · exact ⟨false, a, vs, e, s, fun H M t w kp => hs H M t w kp⟩
def aiZipX (t : RA) : RI := fun ρ M Q => t ρ M fun ds M1 => on2 ds fun d f => onS (itemsA d M1) fun xs => onS (itemsA f M1) fun ys => Q (zipD xs ys) (fun M => itemsA d M = some xs ∧ itemsA f M = some ys) M1
theorem ai_zipX {elts : List Expr} {kk : Nat} (hm : X.mg "zip" = none) (ha : AA X [a, b] t) (hg : Gl X "zip" := by rfl) (hs : starEach [a, b] X.env = (false, eval a X.env) :: starEach [b] X.env := by rfl) (hpl : (backTo pos (starEach [b] X.env)).any (·.1) = false := by rfl) : AI X (.Tuple elts kk tpos) (.Call (.Name "zip" p) [a, b] [] pos) (aiZipX t) :=
  pi_imp (pi_zipM hg hm ha hs hpl) fun σ H R ⟨ρ, M, Q, hr, hv, q, k⟩ => seqA hr hv q fun vs H1 ds M1 t1 r1 v1 q1 => by
    obtain ⟨d, f, e0, q2⟩ := on2_ex q1
    obtain ⟨xs, h1, q3⟩ := onS_ex q2
    obtain ⟨ys, h2, q4⟩ := onS_ex q3
    subst e0
    obtain ⟨v, w, e, rd, rd2⟩ := reps2 r1
    obtain ⟨k1, a, us, e1, s, hs⟩ := row_stand rd v1 h1
    obtain ⟨k2, b, ws, e2, s2, hs2⟩ := row_stand rd2 v1 h2
    exact ⟨a, b, us, ws, k1, k2, by rw [e, e1, e2], s, s2, k _ H1 _ _ M1 t1 v1 q4 (iw_zipM fun H M t v kp => ⟨hs H M t v kp.1, hs2 H M t v kp.2⟩)⟩
end
end HC
set_option maxHeartbeats 4000000
namespace HC
open PySem L2 PyProof.Rows
section
variable {X : Cx} {a b c e o tg : Expr} {ta tb tc te to : RE} {pos apos cpos p tpos : Pos} {K : PySem.W.Frag} {es : List Expr} {t : RA}
abbrev AXK := Value → List (Str × Dv) → Ms → Prop
abbrev ASp := List Dv → Ms → DK → Prop
def cSp (K : PySem.W.Frag) (asp : ASp) : Sp := fun vs H Q' _ => ∃ ds M Q, Reps K H ds vs ∧ View K M H ∧ asp ds M Q ∧ LkV K H Q Q'
abbrev FnA (P : Program) (w : World) (K : PySem.W.Frag) (mg : Str → Option Value) (base : Heap) (k : Nat) (f : Addr) (fd : FuncData) (ps : List Str) (asp : ASp) : Prop := FnOk P w K mg base CX0 k f fd ps (cSp K asp)
def aCall (asp : ASp) (t : RA) : RE := fun ρ M Q => t ρ M fun ds M1 => asp ds M1 Q
theorem acall_imp {asp : ASp} : ∀ σ H Q, cE K (aCall asp t) σ H Q → tCall (cSp K asp) [] E0 (cA K t) σ H Q := fun σ H Q' ⟨ρ, M, Q, hr, hv, q, k⟩ => seqA hr hv q fun vs H1 ds M1 t1 r1 v1 q1 =>
  ⟨ds, M1, Q, by rw [List.append_nil]; exact r1, v1, q1, k.up t1⟩
variable {x : Str} {f : Addr} {fd : FuncData} {ps : List Str} {asp : ASp} {k : Nat}
theorem ae_call (F : FnA X.prog X.w X.K X.mg X.base k f fd ps asp) (hr : Room k X.A) (hm : X.mg x = some (.ref f)) (hk : PySem.W.keepIn X.K (.ref f) = true) (hb : Binds X.K fd ps []) (ha : AA X (e :: es) t) (hg : Gl X x := by rfl)
    (hdb : (x == ("__debug__" : Str)) = false := by decide) (he : starEach (e :: es) X.env = (false, eval e X.env) :: starEach es X.env := by rfl) (hpl : (backTo pos (starEach es X.env)).any (·.1) = false := by rfl) : AE X (.Call (.Name x p) (e :: es) [] pos) (aCall asp t) :=
  pe_imp (pe_call F hr hg hm hk hb .nil pass0 ha hdb he hpl) acall_imp
theorem ae_call0 (F : FnA X.prog X.w X.K X.mg X.base k f fd ps asp) (hr : Room k X.A) (hm : X.mg x = some (.ref f)) (hk : PySem.W.keepIn X.K (.ref f) = true) (hb : Binds X.K fd ps []) (hg : Gl X x := by rfl)
    (hdb : (x == ("__debug__" : Str)) = false := by decide) : AE X (.Call (.Name x p) [] [] pos) (aCall asp aNil) :=
  pe_imp (pe_call0 F hr hg hm hk hb .nil pass0 hdb) fun σ H Q' ⟨ρ, M, Q, hr, hv, q, k⟩ => ⟨[], M, Q, Reps.nil, hv, q, k⟩
abbrev BX (P : Program) (w : World) (K : PySem.W.Frag) (mg : Str → Option Value) (base : Heap) (N : List Str) (qual : Str) (st : Stmt) (f : Addr) (cdv : Value) (A : Around) (outer : List Env) (s : Shared) (H : Hp) (E : XK) : Cx := (cxOf CX0 P w K mg base N qual (defScope st) f cdv A outer s H E).nox
def retD (Q : DK) : Ends' := { nx := fun _ M' => ∃ M'', Sub M'' M' ∧ Q .non M'', rt := fun d M' => ∃ M'', Sub M'' M' ∧ Q d M'' }
theorem fnA {P : Program} {w : World} {mg : Str → Option Value} {base : Heap} {qual : Str} {st : Stmt} {N : List Str} {t : RS} (F : Fun K x qual st f fd) (S : FnScope N ps (defScope st)) (len : ∀ ds M Q, asp ds M Q → ds.length = ps.length)
    (body : ∀ (cdv : Value) (A : Around) (outer : List Env) (s : Shared) (H : Hp) (E : XK), Room k (A.deeper (envOfC qual (defScope st) s.heap.objs.size f cdv)) → ASs (BX P w K mg base N qual st f cdv A outer s H E) (defBody st) t)
    (spec : ∀ ds M Q, asp ds M Q → t (retD Q) (startA N.length ds) M) : FnA P w K mg base (k + 1) f fd ps asp := by
  refine F.ok S (fun vs H Q' E ⟨ds, M, Q, r, _, q, _⟩ => by rw [← r.length]; exact len ds M Q q) fun cdv A outer s H vs Q' E hr ⟨ds, M, Q, r, hv, q, kk⟩ => ?_
  refine ⟨_, body cdv A outer s H E hr, startA N.length ds, M, retD Q, repE_start r, hv, spec ds M Q q, ?_, ?_, ?_, ?_⟩
  · rintro σ H' ρ M' tp _ v ⟨M'', sb, q'⟩
    exact kk _ _ _ M'' tp rep_non (v.sub sb) q'
  · rintro v H' d M' tp rd vv ⟨M'', sb, q'⟩
    exact kk _ _ _ M'' tp rd (vv.sub sb) q'
  · rintro _ _ _ _ _ _ _ h
    exact h.elim
  · rintro _ _ _ _ _ _ _ h
    exact h.elim
end
end HC
namespace HC
open PySem L2 PyProof.Rows
section
variable {X : Cx} {a b c e : Expr} {ta tb tc te : RE} {pos : Pos}
theorem ae_chain2 {op op' : CmpOp} {r r' : R2} {ar ar' : AR2} (ho : OpR X (compareOp op) r) (ho' : OpR X (compareOp op') r') (h : Ab2 X.K r ar) (h' : Ab2 X.K r' ar') (ha : AE X a ta) (hb : AE X b tb) (hc : AE X c tc) (hm : lastMarks [op, op'] [b, c] = false := by with_unfolding_all rfl) : AE X (.Compare a [op, op'] [b, c] pos) (aChain ar ar' ta tb tc) :=
  pe_imp (pe_chain ho ho' ha hb hc hm) (chain_imp h h')
theorem at_chain2 {op op' : CmpOp} {r r' : R2} {ar ar' : AR2} (ho : OpR X (compareOp op) r) (ho' : OpR X (compareOp op') r') (h : Ab2 X.K r ar) (h' : Ab2 X.K r' ar') (ha : AE X a ta) (hb : AE X b tb) (hc : AE X c tc) (hm : lastMarks [op, op'] [b, c] = false := by with_unfolding_all rfl) : AT X (.Compare a [op, op'] [b, c] pos) (aB (aChain ar ar' ta tb tc)) :=
  pt_imp (pt_chain ho ho' ha hb hc hm) fun σ H Q' h0 => by
    obtain ⟨ρ, M, Q, hr, hv, q, k⟩ := h0
    exact chain_imp h h' σ H _ ⟨ρ, M, _, hr, hv, q, fun v H1 d M1 t1 r1 v1 q1 => by
      obtain ⟨b, e, q1⟩ := onB_ex q1
      exact ⟨b, by subst e; exact rep_bl_inv r1, k b H1 M1 t1 v1 q1⟩⟩
theorem pgt_name (i : Nat) {x : Str} (hN : X.N.Nodup) (hi : X.N[i]? = some x := by rfl) (hx : Loc X.env.scope x := by first | exact .inl rfl | exact .inr rfl) (hf : X.fn x = true ∨ X.env.scope.names.lookup x = some .local := by first | exact .inr rfl | exact .inl rfl) : PG X (.Name x pos) (Tg.g X.K (.nm i)) := by
  have h := pg_name (pos := pos) hN hi hx hf
  have e : Tg.g X.K (.nm i) = gName i := by simp only [Tg.g]
  rw [e]; exact h
def PGTs (X : Cx) (es : List Expr) (ts : List Tg) : Prop := PGs X es (Tg.gs X.K ts) ∧ (assignEach es X.env).length = ts.length
theorem pgts_nil : PGTs X [] [] := by
  refine ⟨?_, rfl⟩
  have e : Tg.gs X.K [] = gNil := by simp only [Tg.gs]
  rw [e]; exact pgs_nil
theorem pgts_cons {es : List Expr} {t : Tg} {ts : List Tg} (h : PG X e (Tg.g X.K t)) (hs : PGTs X es ts) (he : (assignEach (e :: es) X.env).map (·.2) = assign e X.env :: (assignEach es X.env).map (·.2) := by rfl) : PGTs X (e :: es) (t :: ts) := by
  refine ⟨?_, ?_⟩
  · have q : Tg.gs X.K (t :: ts) = gCons (Tg.g X.K t) (Tg.gs X.K ts) := by simp only [Tg.gs]
    rw [q]; exact pgs_cons h hs.1 he
  · have := congrArg List.length he
    simp only [List.length_map, List.length_cons] at this
    rw [this, hs.2]; rfl
theorem pgt_tup {es : List Expr} {ts : List Tg} {k : Nat} (hc : X.calm = true) (h : PGTs X es ts) (hst : (assignEach es X.env).findIdx? (·.1) = none := by rfl) : PG X (.Tuple es k pos) (Tg.g X.K (.tp ts)) := by
  have e : Tg.g X.K (.tp ts) = fun v σ H Q => gTup X.K ts.length (Tg.gs X.K ts) v σ H Q ∨ gLst X.K ts.length (Tg.gs X.K ts) v σ H Q := by simp only [Tg.g]
  rw [e]
  exact pg_or (pg_tup hc h.1 h.2 hst) (pg_lst hc h.1 h.2 hst)
end
end HC
namespace HC
open PySem L2 PyProof.Rows
theorem law_end {K : PySem.W.Frag} {H : Hp} {a : Addr} {ns : List Int} {sp : ASp} {E : XK} (hl : ns.length ≤ 63) (hO : Only H) (hS : SqL K H a (ns.map V.int)) (h : ∀ ns : List Int, ns.length ≤ 63 → sp [.rol (ns.map Dv.int)] (fun _ => none) (fun d _ => d = .bl true)) :
    cSp K sp [.ref a] H (fun v _ => v = .bl true) E := by
  have hF : SqF K H a (ns.map V.int) := by
    rcases hS with (q | ⟨o, q⟩) | q
    · rcases hO a with z | ⟨o, xs, z⟩
      · rw [q] at z; cases z
      · rw [q] at z; cases z
    · exact .inl ⟨o, q⟩
    · exact .inr (.inr q)
  refine ⟨[.rol (ns.map Dv.int)], fun _ => none, fun d _ => d = .bl true, Reps.cons ?_ Reps.nil, (fun a c e => nomatch e : View K (fun _ => none) H), h ns hl, ?_⟩
  · simp only [Rep]
    exact ⟨a, _, rfl, hF, Reps.of_ints ns⟩
  · rintro v H' d M' _ r _ rfl
    exact rep_bl_inv r
end HC
namespace HC
open PySem L2
theorem subE_nil : SubE [] [] = True := rfl
theorem subE_none (r : Env') (x : Option Dv) (r' : Env') : SubE (none :: r) (x :: r') = SubE r r' := by cases x <;> rfl
theorem subE_some (d : Dv) (r : Env') (y : Option Dv) (r' : Env') : SubE (some d :: r) (y :: r') = (y = some d ∧ SubE r r') := by cases y <;> rfl
theorem sub_iff (M M' : Ms) : Sub M M' = ∀ a c, M a = some c → M' a = some c := rfl
section
variable {M : Ms} {p : Addr} {xs : List Dv}
theorem lenA_l (h : M p = some (.lst xs)) : lenA (.ref p) M = some xs.length := by simp [lenA, itemsA, h]
theorem itemsA_l (h : M p = some (.lst xs)) : itemsA (.ref p) M = some xs := by simp [itemsA, h]
theorem lstA_l (h : M p = some (.lst xs)) : lstA (.ref p) M = some xs := by simp [lstA, h]
theorem lstC_l (h : M p = some (.lst xs)) : lstC (M p) = some xs := by simp [lstC, h]
theorem itemsA_r : itemsA (.ref p) M = lstC (M p) := by
  simp only [itemsA, lstC] <;> (cases M p with
    | none => rfl
    | some c => cases c <;> rfl)
theorem lenA_r : lenA (.ref p) M = (lstC (M p)).map List.length := by simp only [lenA, itemsA_r]
theorem lstA_r : lstA (.ref p) M = lstC (M p) := itemsA_r
theorem lstC_s : lstC (some (.lst xs)) = some xs := rfl
theorem tyM_list (h : M p = some (.lst xs)) : tyM "list" (.ref p) M := by simp [tyM, h]
theorem tyM_dict {kvs : List (Key × Dv)} (h : M p = some (.dic kvs)) : tyM "dict" (.ref p) M := by simp [tyM, h]
theorem retEnd {Q : DK} {d : Dv} {M : Ms} (h : Q d M) : (retD Q).rt d M := ⟨M, Sub.refl M, h⟩
theorem retSub {Q : DK} {d : Dv} {M M' : Ms} (s : Sub M M') (h : Q d M) : (retD Q).rt d M' := ⟨M, s, h⟩
theorem atI_0 {α : Type} (x : α) (xs : List α) : atI (x :: xs) 0 = some x := by simp [atI, ixN]
theorem ixN_0 (n : Nat) (h : 0 < n) : ixN n 0 = some 0 := by simp [ixN, h]
theorem atI_nat {α : Type} {xs : List α} {i : Nat} {x : α} (h : xs[i]? = some x) : atI xs (i : Int) = some x := by
  have hl := (List.getElem?_eq_some_iff.mp h).1
  have he : xs[i] = x := (List.getElem?_eq_some_iff.mp h).2
  simp [atI, ixN, hl, he]
theorem ixN_nat {n i : Nat} (h : i < n) : ixN n (i : Int) = some i := by simp [ixN, h]
end
theorem dec_T {p : Prop} {inst : Decidable p} (h : p) : @decide p inst = true := decide_eq_true h
theorem dec_F {p : Prop} {inst : Decidable p} (h : ¬ p) : @decide p inst = false := decide_eq_false h
theorem lt_line {n : Nat} (h : n < 1000000) : n < sizeLine := Nat.lt_trans h (by decide)
theorem le_line {n : Nat} (h : n ≤ 1000000) : n ≤ sizeLine := Nat.le_trans h (by decide)
abbrev dn (n : Nat) : Dv := .int (n : Int)
section
variable {M : Ms} {D p : Addr} {ρ : Env'} {keep : Ms → Prop} {tg : Tg} {own : List Nat} {tt : RT} {te : RE} {Q : Ms → Prop} {N : Ms → Prop}
theorem keep_ne {xs : List Dv} {c : Cell} (h : M p = some (.lst xs)) (hD : M D = none) : itemsA (.ref p) (mup M D c) = some xs := by
  rw [itemsA_r, mup_ne (ne_of_new h hD), h]; rfl
theorem keepL_ne {xs : List Dv} {c : Cell} (h : M p = some (.lst xs)) (hD : M D = none) : lstA (.ref p) (mup M D c) = some xs := keep_ne h hD
theorem lcEnd {acc : List Dv} {y : Dv} (h : acc.length < sizeLine ∧ N (mup M D (.lst (acc ++ [y])))) : ∃ acc', (mup M D (.lst acc)) D = some (.lst acc') ∧ acc'.length < sizeLine ∧ wkM N (mup (mup M D (.lst acc)) D (.lst (acc' ++ [y]))) :=
  ⟨acc, mup_same, h.1, _, Sub.refl _, by rw [mup_mup]; exact h.2⟩
theorem lcW_inv {ds : List Dv} (P : Nat → Ms → Prop) (h0 : P 0 M) (hk : ∀ i M, i ≤ ds.length → P i M → keep M) (hs : ∀ i d M, ds[i]? = some d → P i M → lcT tg own tt te ρ D d (P (i + 1)) M) (hd : ∀ M, P ds.length M → Q M) : lcW keep tg own tt te ρ D Q ds M := by
  have main : ∀ (n i : Nat), i + n = ds.length → ∀ M, P i M → lcW keep tg own tt te ρ D Q (ds.drop i) M := by
    intro n
    induction n with
    | zero =>
      intro i hi M p
      have e : i = ds.length := by omega
      subst e
      rw [List.drop_length, lcW_eqn]
      exact ⟨hk _ _ (Nat.le_refl _) p, hd _ p⟩
    | succ n ih =>
      intro i hi M p
      have hlt : i < ds.length := by omega
      rw [drop_cons (List.getElem?_eq_getElem hlt), lcW_eqc]
      exact ⟨hk _ _ (by omega) p, P (i + 1), fun M1 p1 => ih (i + 1) (by omega) M1 p1, hs i _ M (List.getElem?_eq_getElem hlt) p⟩
  simpa using main ds.length 0 (by omega) M h0
theorem lcW_idx {ds : List Dv} (f : Nat → Dv) (hk : ∀ acc, keep (mup M D (.lst acc))) (hl : ds.length ≤ sizeLine)
    (ht : ∀ i d, ds[i]? = some d → ∀ (acc : List Dv) (N : Ms → Prop), acc.length < sizeLine ∧ N (mup M D (.lst (acc ++ [f i]))) → lcT tg own tt te ρ D d N (mup M D (.lst acc)))
    (q : Q (mup M D (.lst ((List.range ds.length).map f)))) : lcW keep tg own tt te ρ D Q ds (mup M D (.lst [])) := by
  refine lcW_inv (fun i M' => M' = mup M D (.lst ((List.range i).map f))) rfl (fun i M' _ e => by subst e; exact hk _) (fun i d M' hd e => ?_) fun M' e => by subst e; exact q
  subst e
  have hi := (List.getElem?_eq_some_iff.mp hd).1
  refine ht i d hd _ _ ⟨by simp; omega, ?_⟩
  rw [List.range_succ, List.map_append]
  rfl
theorem rangeA_get {lo : Int} {n i : Nat} {d : Dv} (h : (rangeA lo n)[i]? = some d) : i < n ∧ d = .int (lo + (i : Int)) := by
  unfold rangeA at h
  rw [List.getElem?_map] at h
  by_cases hi : i < n
  · rw [List.getElem?_range hi] at h
    simp at h
    exact ⟨hi, h.symm⟩
  · rw [List.getElem?_eq_none (by simpa using hi)] at h
    cases h
theorem rangeA_len {lo : Int} {n : Nat} : (rangeA lo n).length = n := by simp [rangeA]
theorem enumD_get' {ds : List Dv} {i : Nat} {d : Dv} (h : (enumD ds)[i]? = some d) : ∃ f, ds[i]? = some f ∧ d = pairD (dn i) f := by
  have hi := (List.getElem?_eq_some_iff.mp h).1
  rw [enumD_len] at hi
  have := enumD_get (List.getElem?_eq_getElem hi)
  rw [this] at h
  exact ⟨_, List.getElem?_eq_getElem hi, (Option.some.inj h).symm⟩
theorem zipD_get' {xs ys : List Dv} {i : Nat} {d : Dv} (h : (zipD xs ys)[i]? = some d) : ∃ x y, xs[i]? = some x ∧ ys[i]? = some y ∧ d = pairD x y := by
  have hi := (List.getElem?_eq_some_iff.mp h).1
  rw [zipD_len] at hi
  have h1 : i < xs.length := by omega
  have h2 : i < ys.length := by omega
  have := zipD_get (List.getElem?_eq_getElem h1) (List.getElem?_eq_getElem h2)
  rw [this] at h
  exact ⟨_, _, List.getElem?_eq_getElem h1, List.getElem?_eq_getElem h2, (Option.some.inj h).symm⟩
theorem atI_some {α : Type} {xs : List α} {v : Int} (h0 : 0 ≤ v) (h1 : v < xs.length) : ∃ d, d ∈ xs ∧ atI xs v = some d := by
  obtain ⟨n, rfl⟩ := Int.eq_ofNat_of_zero_le h0
  have hn : n < xs.length := by omega
  exact ⟨xs[n], List.getElem_mem hn, atI_nat (List.getElem?_eq_getElem hn)⟩
theorem dn_inj {a b : Nat} : dn a = dn b ↔ a = b := by
  constructor
  · intro h
    injection h with h
    omega
  · rintro rfl; rfl
end
theorem mup_comm {M : Ms} {a b : Addr} {c d : Cell} (h : a ≠ b) : mup (mup M a c) b d = mup (mup M b d) a c := by
  funext x
  unfold mup
  by_cases h1 : x = a
  · subst h1; simp [h]
  · simp [h1]
theorem mup_none {M : Ms} {a q : Addr} {c : Cell} (h : mup M a c q = none) : q ≠ a ∧ M q = none := by
  by_cases e : q = a
  · subst e; rw [mup_same] at h; cases h
  · rw [mup_ne e] at h; exact ⟨e, h⟩
theorem wk_of {N : Env' → Ms → Prop} {ρ : Env'} {M : Ms} (h : N ρ M) : wk N ρ M := ⟨ρ, M, SubE.refl ρ, Sub.refl M, h⟩
theorem pot_new {M : Ms} {p q : Addr} {c c2 l : Cell} (hq : mup M p c q = none) : Sub (mup M p c2) (mup (mup (mup M p c) q l) p c2) := by
  obtain ⟨h1, h2⟩ := mup_none hq
  rw [mup_comm h1, mup_mup]
  exact Sub.new (by rw [mup_ne h1]; exact h2)
def PotAt (M0 : Ms) (p : Addr) (pot : List Int) (M' : Ms) : Prop := M' p = some (.lst (pot.map Dv.int)) ∧ ∀ c, Sub (mup M0 p c) (mup M' p c)
theorem PotAt.first {M0 : Ms} {p : Addr} {pot : List Int} : PotAt M0 p pot (mup M0 p (.lst (pot.map Dv.int))) := ⟨mup_same, fun c => by rw [mup_mup]; exact Sub.refl _⟩
theorem PotAt.sub {M0 M1 M2 : Ms} {p : Addr} {pot : List Int} (h : PotAt M0 p pot M1) (s : Sub M1 M2) : PotAt M0 p pot M2 :=
  ⟨s p _ h.1, fun c => (h.2 c).trans (Sub.both s)⟩
theorem PotAt.new {M0 M1 : Ms} {p q : Addr} {pot : List Int} {l : Cell} (h : PotAt M0 p pot M1) (hq : M1 q = none) : PotAt M0 p pot (mup M1 q l) := h.sub (Sub.new hq)
theorem PotAt.put {M0 M1 : Ms} {p : Addr} {pot pot2 : List Int} (h : PotAt M0 p pot M1) : PotAt M0 p pot2 (mup M1 p (.lst (pot2.map Dv.int))) :=
  ⟨mup_same, fun c => by rw [mup_mup]; exact h.2 c⟩
theorem PotAt.fin {M0 M1 : Ms} {p : Addr} {pot : List Int} (h : PotAt M0 p pot M1) : Sub (mup M0 p (.lst (pot.map Dv.int))) M1 := by
  have := h.2 (.lst (pot.map Dv.int))
  rw [mup_self h.1] at this
  exact this
end HC
set_option maxHeartbeats 1000000
namespace HC
open PySem L2 PyProof.Rows
section
variable {X : Cx} {pos : Pos} {K : PySem.W.Frag}
def aPairs : List (RE × RE) → Env' → Ms → (List (Dv × Dv) → Ms → Prop) → Prop
  | [], _, M, Q => Q [] M
  | (tk, tv) :: r, ρ, M, Q => tk ρ M fun x M1 => tv ρ M1 fun y M2 => aPairs r ρ M2 fun ps M3 => Q ((x, y) :: ps) M3
def keysP : List (Dv × Dv) → Option (List (Key × Dv))
  | [] => some []
  | (x, y) :: r => (keyD x).bind fun k => (keysP r).map fun z => (k, y) :: z
def mergeA (kds more : List (Key × Dv)) : List (Key × Dv) := more.foldl (fun acc kv => putA acc kv.1 kv.2) kds
def aDisp (ts : List (RE × RE)) : RE := fun ρ M Q => ∀ p, M p = none → aPairs ts ρ (mup M p (.dic [])) fun ps M2 => M2 p = some (.dic []) ∧ onS (keysP ps) fun kds => kds.length ≤ 15 ∧ Q (.ref p) (mup M2 p (.dic (mergeA [] kds)))
def ADs (X : Cx) (pos : Pos) (keys : List (Option Expr)) (values : List Expr) (ts : List (RE × RE)) : Prop := PPs X pos keys values (ts.map fun z => (cE X.K z.1, cE X.K z.2))
theorem app_nil : ADs X pos [] [] [] := pps_nil
theorem app_cons {k v : Expr} {ks : List (Option Expr)} {vs : List Expr} {tk tv : RE} {ts : List (RE × RE)} (hk : AE X k tk) (hv : AE X v tv) (hr : ADs X pos ks vs ts) : ADs X pos (some k :: ks) (v :: vs) ((tk, tv) :: ts) := pps_cons hk hv hr
abbrev RP (K : PySem.W.Frag) (H : Hp) : List (Dv × Dv) → List (V × V) → Prop := Paired fun p q => Rep K H p.1 q.1 ∧ Rep K H p.2 q.2
theorem rp_mono {H H' : Hp} {dps : List (Dv × Dv)} {ps : List (V × V)} (h : RP K H dps ps) (t : Tp K H H') : RP K H' dps ps := Paired.mapP h fun _ _ z => ⟨z.1.mono t, z.2.mono t⟩
theorem pairs_ok : ∀ {ts : List (RE × RE)} {ρ : Env'} {σ : L2.St} {M : Ms} {H : Hp} {Q : List (Dv × Dv) → Ms → Prop} {Q' : List (V × V) → Hp → Prop}, RepE K H ρ σ → View K M H → aPairs ts ρ M Q →
    (∀ ps H' dps M', Tp K H H' → RP K H' dps ps → View K M' H' → Q dps M' → Q' ps H') → tPairs (ts.map fun z => (cE K z.1, cE K z.2)) σ H Q'
  | [], _, _, _, H, _, _, _, hv, q, k => k [] H [] _ (Tp.refl H) .nil hv q
  | (tk, tv) :: ts, _, _, _, _, _, _, hr, hv, q, k => seqE hr hv q fun x H1 dx M1 t1 r1 v1 q1 => seqE (hr.mono t1) v1 q1 fun y H2 dy M2 t2 r2 v2 q2 =>
    pairs_ok (hr.mono (t1.trans t2)) v2 q2 fun ps H3 dps M3 t3 rp v3 q3 => k _ H3 ((dx, dy) :: dps) M3 ((t1.trans t2).trans t3) (.cons ⟨r1.mono (t2.trans t3), r2.mono t3⟩ rp) v3 q3
theorem keysP_ok {H : Hp} : ∀ {dps : List (Dv × Dv)} {ps : List (V × V)} {kds : List (Key × Dv)}, RP K H dps ps → keysP dps = some kds → ∃ kvs : List (Key × V), ps = kvs.map (fun kv => (kV kv.1, kv.2)) ∧ KP K H Key kds kvs
  | [], _, _, r, h => by cases r; cases h; exact ⟨[], rfl, .nil⟩
  | (x, y) :: dps, _, kds, r, h => by
    cases r with
    | @cons a b as bs r1 r2 =>
    obtain ⟨v, w⟩ := b
    rw [keysP] at h
    cases e : keyD x with
    | none => rw [e] at h; cases h
    | some kk =>
      rw [e] at h
      cases e2 : keysP dps with
      | none => rw [e2] at h; cases h
      | some z =>
        rw [e2] at h
        cases h
        obtain ⟨kvs, e3, r3⟩ := keysP_ok r2 e2
        have e4 : v = kV kk := keyD_ok r1.1 e
        exact ⟨(kk, w) :: kvs, by rw [e3, e4]; rfl, .cons ⟨rfl, r1.2⟩ r3⟩
theorem merge_ok {H : Hp} : ∀ {kds : List (Key × Dv)} {kvs : List (Key × V)} {k0 : List (Key × Dv)} {v0 : List (Key × V)}, KP K H Key kds kvs → KP K H Key k0 v0 → KP K H Key (mergeA k0 kds) (mergeK v0 kvs)
  | _, _, _, _, .nil, z => z
  | (k1, d1) :: kds, (k2, v1) :: kvs, k0, v0, .cons ⟨e, r⟩ t, z => by
    have e' : k1 = k2 := e
    subst e'
    exact merge_ok (k0 := putA k0 k1 d1) (v0 := putK v0 k1 v1) t (kp_put r z)
theorem ae_disp {keys : List (Option Expr)} {values : List Expr} {ts : List (RE × RE)} (h : ADs X pos keys values ts) (hall : keys.all (·.isSome) = true) (hl : keys.length = values.length) (h0 : keys ≠ [])
    (h15 : keys.length ≤ 15) : AE X (.Dict keys values pos) (aDisp ts) :=
  pe_imp (pe_disp h hall hl h0 h15) fun σ H Q' ⟨ρ, M, Q, hr, hv, q, k⟩ p hp => by
    have t0 : Tp X.K H (upd H p (.dK [])) := Tp.new hp
    have v0 : View X.K (mup M p (.dic [])) (upd H p (.dK [])) := hv.put (c := .dic []) (by rw [hp]; trivial) ⟨[], upd_same, .nil⟩
    refine pairs_ok (hr.mono t0) v0 (q p (hv.free hp)) fun ps H2 dps M2 t2 rp v2 q2 => ?_
    obtain ⟨e, q3⟩ := q2
    obtain ⟨kds, ek, hlen, q4⟩ := onS_ex q3
    obtain ⟨kvs0, eh, z0⟩ := v2 _ _ e
    cases z0
    obtain ⟨kvs, ep, zk⟩ := keysP_ok rp ek
    have tp : Tp X.K H2 (upd H2 p (.dK (mergeK [] kvs))) := Tp.put (v2.soft e)
    exact ⟨eh, kvs, ep, by rw [← kp_len zk]; exact hlen, k _ _ _ _ ((t0.trans t2).trans tp) rep_ref (v2.put (c := .dic (mergeA [] kds)) (v2.soft e) ⟨_, upd_same, kp_mono (merge_ok zk .nil) tp⟩) q4⟩
def aDnew : RE := fun _ M Q => ∀ p, M p = none → Q (.ref p) (mup M p (.dic []))
theorem ae_dnew : AE X (.Dict [] [] pos) aDnew := pe_imp pe_dnewK fun σ H Q' ⟨ρ, M, Q, hr, hv, q, k⟩ p hp =>
  k _ _ _ _ (Tp.new hp) rep_ref (hv.put (c := .dic []) (by rw [hp]; trivial) ⟨[], upd_same, .nil⟩) (q p (hv.free hp))
end
end HC
set_option maxHeartbeats 1000000
namespace HC
open PySem L2 PyProof.Rows
theorem onIf_decT {c A B : Prop} {inst : Decidable c} (h : c) (q : A) : onIf (@decide c inst) A B := by rw [decide_eq_true h]; exact q
theorem onIf_decF {c A B : Prop} {inst : Decidable c} (h : ¬ c) (q : B) : onIf (@decide c inst) A B := by rw [decide_eq_false h]; exact q
theorem onIf_ndecT {c A B : Prop} {inst : Decidable c} (h : ¬ c) (q : A) : onIf (!@decide c inst) A B := by rw [decide_eq_false h]; exact q
theorem onIf_ndecF {c A B : Prop} {inst : Decidable c} (h : c) (q : B) : onIf (!@decide c inst) A B := by rw [decide_eq_true h]; exact q
theorem look_new {M : Ms} {p r : Addr} {c x : Cell} (h : M p = some c) (hr : M r = none) : mup M r x p = some c := by rw [mup_ne (ne_of_new h hr)]; exact h
theorem CMul_l {i j : Int} (h : -18446744073709551616 < i ∧ i < 18446744073709551616) : CMul i j ∨ CMulW i j := .inl (.inl h)
theorem CMul_r {i j : Int} (h : -18446744073709551616 < j ∧ j < 18446744073709551616) : CMul i j ∨ CMulW i j := .inl (.inr h)
theorem inv_frz {X : Cx} {pins : List (Addr × Obj)} {σ : L2.St} {H : Hp} {s : Shared} {a : Addr} {xs : List V} (I : Inv X pins σ H s) (h : H a = some (.lst xs)) : ∃ o, Inv X pins σ (upd H a (.frz o (.lst xs))) s := by
  obtain ⟨z, its, n, r, e⟩ := I.hok a _ h
  have ne : ∀ {b : Addr} {u : HO}, H b = some u → u ≠ .lst xs → b ≠ a := fun {b u} q hu e' => by
    subst e'; rw [h] at q; cases q; exact hu rfl
  refine ⟨{ cls := .type "list", data := .seq its.toArray n }, I.un (h' := s.heap) (t' := s.toks) ⟨fun b o q n hb hx => q, fun b o q n _ _ => ⟨o.slots, q⟩, fun b o q n hx => ?_, fun b o q _ => ⟨o, q⟩, fun b ys q => ?_, fun b o u q => ?_, fun b ps q => ⟨#[], ?_⟩⟩ fun b u (q : upd H a (.frz { cls := .type "list", data := .seq its.toArray n } (.lst xs)) b = some u) => ?_⟩
  · rw [upd_ne]
    · exact n
    · intro e'; subst e'; rw [h] at n; cases n
  · rw [upd_ne (ne q (fun z => nomatch z))]; exact q
  · rw [upd_ne (ne q (fun z => nomatch z))]; exact q
  · rw [upd_ne (ne q (fun z => nomatch z))]; simpa using q
  · by_cases hb : b = a
    · subst hb
      rw [upd_same] at q
      cases q
      exact ⟨e, z, its, n, r, e⟩
    · rw [upd_ne hb] at q
      exact (I.hok b u q).stay (fun _ _ _ q => q) (fun c q => by rw [upd_ne (ne q (fun z => nomatch z))]; exact q) (fun c ys q => by rw [upd_ne (ne q (fun z => nomatch z))]; exact q)
theorem pe_frz {X : Cx} {e : Expr} {t : TE} (h : PE X e t) : PE X e (fun σ H Q => t σ H (fun v H' => Q v H' ∨ ∃ a xs, v = .ref a ∧ H' a = some (.lst xs) ∧ ∀ o, Q v (upd H' a (.frz o (.lst xs))))) :=
  ⟨fun pins s σ H Q I q => thn (h.run pins s σ H _ I q) fun u s' ⟨v, H', I', r, q'⟩ => by
    rcases q' with q' | ⟨a, xs, e, hl, q'⟩
    · exact ⟨v, H', I', r, q'⟩
    · obtain ⟨o, I2⟩ := inv_frz I' hl
      exact ⟨v, _, I2, r, q' o⟩⟩
theorem ps_frz {X : Cx} {st : Stmt} {t : TS} (h : PS X st t) : PS X st (fun D σ H => t { D with nx := fun σ' H' => D.nx σ' H' ∨ ∃ a xs, H' a = some (.lst xs) ∧ ∀ o, D.nx σ' (upd H' a (.frz o (.lst xs))) } σ H) :=
  ⟨fun pins s σ H D I q => thn (h.run pins s σ H _ I q) fun f s' r => by
    cases f with
    | next =>
      obtain ⟨σ', H', I', q'⟩ := r
      rcases q' with q' | ⟨a, xs, hl, q'⟩
      · exact ⟨σ', H', I', q'⟩
      · obtain ⟨o, I2⟩ := inv_frz I' hl
        exact ⟨σ', _, I2, q' o⟩
    | brk => exact r
    | cont => exact r
    | ret u => exact r⟩
def fzK (d : Dv) (M : Ms) (Q : DK) : Prop := match d with
  | .ref a => onS (lstC (M a)) fun xs => ∃ M', M' a = none ∧ Sub M' M ∧ Q (.rol xs) M'
  | d => Q d M
def aFz (te : RE) : RE := fun ρ M Q => te ρ M fun d M1 => fzK d M1 Q
theorem fz_rep {K : PySem.W.Frag} {H : Hp} {a : Addr} {xs : List Dv} {vs : List V} {o : Obj} (hs : Soft (H a)) (r : Reps K H xs vs) : Rep K (upd H a (.frz o (.lst vs))) (.rol xs) (.ref a) := by
  simp only [Rep]
  exact ⟨a, vs, rfl, .inl ⟨o, upd_same⟩, r.mono (Tp.put hs)⟩
theorem fz_view {K : PySem.W.Frag} {H : Hp} {M M' : Ms} {a : Addr} {o : HO} (v : View K M H) (hs : Soft (H a)) (h0 : M' a = none) (s : Sub M' M) : View K M' (upd H a o) := fun b c e => by
  have hb : b ≠ a := fun z => by subst z; rw [h0] at e; cases e
  exact (v b c (s b c e)).keep (Tp.put hs) (upd_ne hb)
theorem fzK_val {d : Dv} {M : Ms} {Q : DK} (h : fzK d M Q) : (∃ a xs M', d = .ref a ∧ M a = some (.lst xs) ∧ M' a = none ∧ Sub M' M ∧ Q (.rol xs) M') ∨ Q d M := by
  cases d with
  | ref a =>
    obtain ⟨xs, e, M', h0, s, q⟩ := onS_ex h
    exact .inl ⟨a, xs, M', rfl, lstC_eq e, h0, s, q⟩
  | _ => exact .inr h
theorem fz_new {M : Ms} {p : Addr} {xs : List Dv} {Q : DK} (h : M p = none) (q : Q (.rol xs) M) : fzK (.ref p) (mup M p (.lst xs)) Q := onS_of (a := xs) (by rw [mup_same]; rfl) ⟨M, h, Sub.new h, q⟩
def mdel (M : Ms) (a : Addr) : Ms := fun b => if b = a then none else M b
theorem mdel_same {M : Ms} {a : Addr} : mdel M a a = none := if_pos rfl
theorem mdel_ne {M : Ms} {a b : Addr} (h : b ≠ a) : mdel M a b = M b := if_neg h
theorem mdel_sub {M : Ms} {a : Addr} : Sub (mdel M a) M := fun b c e => by
  by_cases h : b = a
  · subst h; rw [mdel_same] at e; cases e
  · rw [mdel_ne h] at e; exact e
theorem mdel_of {M M' : Ms} {a : Addr} (s : Sub M M') (h : M a = none) : Sub M (mdel M' a) := fun b c e => by
  rw [mdel_ne (ne_of_new e h)]; exact s b c e
theorem fz_del {M : Ms} {p : Addr} {xs : List Dv} {Q : DK} (h : M p = some (.lst xs)) (q : Q (.rol xs) (mdel M p)) : fzK (.ref p) M Q := onS_of (a := xs) (by rw [h]; rfl) ⟨_, mdel_same, mdel_sub, q⟩
theorem fz_sub {M M' : Ms} {p : Addr} {xs : List Dv} {Q : DK} (h : M p = some (.lst xs)) (h0 : M' p = none) (s : Sub M' M) (q : Q (.rol xs) M') : fzK (.ref p) M Q := onS_of (a := xs) (by rw [h]; rfl) ⟨_, h0, s, q⟩
section
variable {X : Cx} {e : Expr} {te : RE} {st : Stmt}
theorem ae_fz (h : AE X e te) : AE X e (aFz te) := pe_imp (pe_frz h) fun σ H Q' ⟨ρ, M, Q, hr, hv, q, k⟩ => seqE hr hv q fun v H1 d M1 t1 r1 v1 q1 => by
  rcases fzK_val q1 with ⟨a, xs, M', rfl, e1, h0, s, q2⟩ | q2
  · obtain ⟨vs, h1, h2⟩ := view_lst v1 e1
    have hs := v1.soft e1
    exact .inr ⟨a, vs, rep_ref_inv r1, h1, fun o => by
      rw [rep_ref_inv r1]
      exact k _ _ (.rol xs) M' (t1.trans (Tp.put hs)) (fz_rep hs h2) (fz_view v1 hs h0 s) q2⟩
  · exact .inl (k _ _ _ _ t1 r1 v1 q2)
theorem repE_swap {K : PySem.W.Frag} {H H' : Hp} {ρ : Env'} {σ : L2.St} {i : Nat} {d d' : Dv} (hi : ρ[i]? = some (some d)) (r : RepE K H ρ σ) (t : Tp K H H') (f : ∀ v, Rep K H d v → Rep K H' d' v) : RepE K H' (ρ.set i (some d')) σ := by
  refine ⟨by rw [← r.len]; simp, fun j x e => ?_⟩
  have hl : i < ρ.length := (List.getElem?_eq_some_iff.mp hi).1
  by_cases hj : i = j
  · subst hj
    rw [List.getElem?_set_self hl] at e
    cases e
    obtain ⟨v, h1, h2⟩ := r.at' i d hi
    exact ⟨v, h1, f v h2⟩
  · rw [List.getElem?_set_ne hj] at e
    obtain ⟨v, h1, h2⟩ := r.at' j x e
    exact ⟨v, h1, h2.mono t⟩
theorem as_fzset {i : Nat} {x : Str} (hi : X.N[i]? = some x) (h : AS X st (aAsg te (agName i))) : AS X st (aAsg (aFz te) (agName i)) :=
  ⟨fun pins s σ H D' I h' => by
    obtain ⟨ρ, M, D, hr, hv, q, k⟩ := h'
    have hl : i < ρ.length := by
      rw [hr.len, I.len]
      exact (List.getElem?_eq_some_iff.mp hi).1
    refine (ps_frz h).run pins s σ H D' I ⟨ρ, M, { D with nx := fun ρ' M' => match ρ'[i]? with | some (some d) => fzK d M' fun d' M2 => D.nx (ρ'.set i (some d')) M2 | _ => False }, hr, hv, ?_, ?_, k.rt, k.bk, k.ct⟩
    · have q' : te ρ M fun d M1 => fzK d M1 fun d' M2 => D.nx (ρ.set i (some d')) M2 := q
      have e : (fun d M1 => match (ρ.set i (some d))[i]? with | some (some d2) => fzK d2 M1 fun d' M2 => D.nx ((ρ.set i (some d)).set i (some d')) M2 | _ => False) = fun d M1 => fzK d M1 fun d' M2 => D.nx (ρ.set i (some d')) M2 := by
        funext d M1
        rw [List.getElem?_set_self hl]
        simp only [List.set_set]
      show te ρ M (fun d M1 => match (ρ.set i (some d))[i]? with | some (some d2) => fzK d2 M1 fun d' M2 => D.nx ((ρ.set i (some d)).set i (some d')) M2 | _ => False)
      rw [e]; exact q'
    · rintro σ1 H1 ρ1 M1 t1 r1 v1 q1
      replace q1 : (match ρ1[i]? with | some (some d) => fzK d M1 fun d' M2 => D.nx (ρ1.set i (some d')) M2 | _ => False) := q1
      split at q1
      · next d hd =>
        rcases fzK_val q1 with ⟨a, xs, M', rfl, e1, h0, s, q2⟩ | q2
        · obtain ⟨vs, h1, h2⟩ := view_lst v1 e1
          have hs := v1.soft e1
          exact .inr ⟨a, vs, h1, fun o => k.nx _ _ _ M' (t1.trans (Tp.put hs)) (repE_swap hd r1 (Tp.put hs) fun v rv => by rw [rep_ref_inv rv]; exact fz_rep hs h2) (fz_view v1 hs h0 s) q2⟩
        · exact .inl (k.nx _ _ _ _ t1 (repE_swap hd r1 (Tp.refl H1) fun v rv => rv) v1 q2)
      · exact q1.elim⟩
theorem lcFk_opt {keep : Ms → Prop} {tg : Tg} {own : List Nat} {tt : RT} {ρ : Env'} {Q : DK} {M : Ms} {ds : List Dv} (g : Nat → Option Dv) (hk : ∀ M', Sub M M' → keep M') (hl : ds.length ≤ sizeLine)
    (ht : ∀ i d, ds[i]? = some d → ∀ (M' : Ms) (N : Option Dv → Ms → Prop), Sub M M' → N (g i) M' → ∃ ρ', Tg.put tg d (wipeA ρ own) M' = some ρ' ∧ tt ρ' M' fun b M2 => onIf b (te ρ' M2 fun y M3 => N (some y) M3) (N none M2))
    (q : Q (.rol ((List.range ds.length).filterMap g)) M) : ∀ D, M D = none → lcW keep tg own tt te ρ D (fun M' => fzK (.ref D) M' Q) ds (mup M D (.lst [])) := fun D hD => by
  have len : ∀ i, ((List.range i).filterMap g).length ≤ i := fun i => by
    have := List.length_filterMap_le g (List.range i)
    simpa using this
  refine lcW_inv (fun i M' => M' = mup M D (.lst ((List.range i).filterMap g))) rfl (fun i M' _ e => by subst e; exact hk _ (Sub.new hD)) (fun i d M' hd e => ?_) fun M' e => ?_
  · subst e
    have hi := (List.getElem?_eq_some_iff.mp hd).1
    obtain ⟨ρ', h1, h2⟩ := ht i d hd (mup M D (.lst ((List.range i).filterMap g))) (fun o M3 => match o with
      | some y => ∃ acc, M3 D = some (.lst acc) ∧ acc.length < sizeLine ∧ wkM (fun M' => M' = mup M D (.lst ((List.range (i + 1)).filterMap g))) (mup M3 D (.lst (acc ++ [y])))
      | none => wkM (fun M' => M' = mup M D (.lst ((List.range (i + 1)).filterMap g))) M3) (Sub.new hD) (by
        cases e : g i with
        | some y =>
          refine ⟨_, mup_same, ?_, _, Sub.refl _, ?_⟩
          · have := len i; omega
          · rw [mup_mup, List.range_succ, List.filterMap_append]
            simp [e]
        | none =>
          refine ⟨_, Sub.refl _, ?_⟩
          rw [List.range_succ, List.filterMap_append]
          simp [e])
    exact ⟨ρ', h1, h2⟩
  · subst e
    refine onS_of (a := (List.range ds.length).filterMap g) (by rw [mup_same]; rfl) ⟨M, hD, Sub.new hD, q⟩
theorem lcFk {keep : Ms → Prop} {tg : Tg} {own : List Nat} {ρ : Env'} {Q : DK} {M : Ms} {ds : List Dv} (f : Nat → Dv) (hk : ∀ M', Sub M M' → keep M') (hl : ds.length ≤ sizeLine)
    (ht : ∀ i d, ds[i]? = some d → ∀ (M' : Ms) (N : Dv → Ms → Prop), Sub M M' → N (f i) M' → ∃ ρ', Tg.put tg d (wipeA ρ own) M' = some ρ' ∧ te ρ' M' N)
    (q : Q (.rol ((List.range ds.length).map f)) M) : ∀ D, M D = none → lcW keep tg own aYes te ρ D (fun M' => fzK (.ref D) M' Q) ds (mup M D (.lst [])) :=
  lcFk_opt (fun i => some (f i)) hk hl (fun i d hd M' N hs hn => by
    obtain ⟨ρ', h1, h2⟩ := ht i d hd M' (fun y M3 => N (some y) M3) hs hn
    exact ⟨ρ', h1, h2⟩) (by rw [List.filterMap_eq_map']; exact q)
theorem lcF_opt {keep : Ms → Prop} {tg : Tg} {own : List Nat} {tt : RT} {ρ : Env'} {Q : DK} {M : Ms} {ds : List Dv} (g : Nat → Option Dv) (hk : ∀ M, keep M) (hl : ds.length ≤ sizeLine)
    (ht : ∀ i d, ds[i]? = some d → ∀ (M' : Ms) (N : Option Dv → Ms → Prop), Sub M M' → N (g i) M' → ∃ ρ', Tg.put tg d (wipeA ρ own) M' = some ρ' ∧ tt ρ' M' fun b M2 => onIf b (te ρ' M2 fun y M3 => N (some y) M3) (N none M2))
    (q : Q (.rol ((List.range ds.length).filterMap g)) M) : ∀ D, M D = none → lcW keep tg own tt te ρ D (fun M' => fzK (.ref D) M' Q) ds (mup M D (.lst [])) :=
  lcFk_opt g (fun _ _ => hk _) hl ht q
theorem lcF {keep : Ms → Prop} {tg : Tg} {own : List Nat} {ρ : Env'} {Q : DK} {M : Ms} {ds : List Dv} (f : Nat → Dv) (hk : ∀ M, keep M) (hl : ds.length ≤ sizeLine)
    (ht : ∀ i d, ds[i]? = some d → ∀ (M' : Ms) (N : Dv → Ms → Prop), Sub M M' → N (f i) M' → ∃ ρ', Tg.put tg d (wipeA ρ own) M' = some ρ' ∧ te ρ' M' N)
    (q : Q (.rol ((List.range ds.length).map f)) M) : ∀ D, M D = none → lcW keep tg own aYes te ρ D (fun M' => fzK (.ref D) M' Q) ds (mup M D (.lst [])) :=
  lcF_opt (fun i => some (f i)) hk hl (fun i d hd M' N hs hn => by
    obtain ⟨ρ', h1, h2⟩ := ht i d hd M' (fun y M3 => N (some y) M3) hs hn
    exact ⟨ρ', h1, h2⟩) (by rw [List.filterMap_eq_map']; exact q)
end
end HC
set_option maxHeartbeats 1000000
namespace HC
open PySem L2 PyProof.Rows
section
variable {X : Cx} {a b e : Expr} {ta tb te : RE} {pos p pos2 p2 : Pos} {K : PySem.W.Frag}
theorem reps_range {H : Hp} {lo hi : Int} : Reps K H (rangeA lo (hi - lo).toNat) (rgV lo hi) := by
  have h := Reps.of_ints (K := K) (H := H) ((List.range (hi - lo).toNat).map fun (i : Nat) => lo + (i : Int))
  simpa [rangeA, rgV, List.map_map, Function.comp_def] using h
def RgA (a b : Int) : Prop := -4611686018427387904 ≤ a ∧ a < 4611686018427387904 ∧ -4611686018427387904 ≤ b ∧ b < 4611686018427387904 ∧ b - a ≤ 16777216
theorem RgA.ok {a b : Int} (h : RgA a b) : RgOk a b := by
  obtain ⟨h1, h2, h3, h4, h5⟩ := h
  have e1 : (2 : Int) ^ 62 = 4611686018427387904 := by decide
  have e2 : (2 : Nat) ^ 24 = 16777216 := by decide
  refine ⟨?_, ?_, ?_, ?_, ?_⟩
  · rw [e1]; exact h1
  · rw [e1]; exact h2
  · rw [e1]; exact h3
  · rw [e1]; exact h4
  · rw [e2]; omega
def aLstR1 (ta : RE) : RE := fun ρ M Q => ta ρ M fun d M1 => onI d fun n => (-4611686018427387904 ≤ n ∧ n ≤ 16777216) ∧ ∀ q, M1 q = none → Q (.ref q) (mup M1 q (.lst (rangeA 0 n.toNat)))
def aLstR2 (ta tb : RE) : RE := fun ρ M Q => ta ρ M fun d M1 => tb ρ M1 fun f M2 => onI2 d f fun i j => (-4611686018427387904 ≤ i ∧ i < 4611686018427387904 ∧ -4611686018427387904 ≤ j ∧ j < 4611686018427387904 ∧ j - i ≤ 16777216) ∧ ∀ q, M2 q = none → Q (.ref q) (mup M2 q (.lst (rangeA i (j - i).toNat)))
theorem ae_listR1 (hc : X.calm = true) (hm : X.mg "list" = none) (hr : X.mg "range" = none) (ha : AE X a ta) (hg : Gl X "list" := by rfl) (hg2 : Gl X "range" := by rfl) (na : starEach [a] X.env = (false, eval a X.env) :: starEach [] X.env := by rfl)
    (nb : starEach [.Call (.Name "range" p2) [a] [] pos2] X.env = (false, eval (.Call (.Name "range" p2) [a] [] pos2) X.env) :: starEach [] X.env := by rfl) :
    AE X (.Call (.Name "list" p) [.Call (.Name "range" p2) [a] [] pos2] [] pos) (aLstR1 ta) :=
  pe_imp (pe_listRg hc hg hm (prg_1 hg2 hr ha na) nb) fun σ H Q' ⟨ρ, M, Q, hr, hv, q, k⟩ => seqE hr hv q fun v H1 d M1 t1 r1 v1 q1 => by
    obtain ⟨n, e, ⟨h1, h2⟩, q2⟩ := onI_ex q1
    subst e
    refine ⟨n, rep_int_inv r1, RgA.ok ⟨by omega, by omega, h1, by omega, by omega⟩, ?_⟩
    have r := reps_range (K := X.K) (H := H1) (lo := 0) (hi := n)
    rw [Int.sub_zero] at r
    exact end_lst r v1 q2 (k.up t1)
theorem ae_listR2 (hc : X.calm = true) (hm : X.mg "list" = none) (hr : X.mg "range" = none) (ha : AE X a ta) (hb : AE X b tb) (hg : Gl X "list" := by rfl) (hg2 : Gl X "range" := by rfl) (na : starEach [a, b] X.env = (false, eval a X.env) :: starEach [b] X.env := by rfl)
    (nc : starEach [b] X.env = (false, eval b X.env) :: starEach [] X.env := by rfl) (hp : (backTo pos2 (starEach [b] X.env)).any (·.1) = false := by rfl)
    (nb : starEach [.Call (.Name "range" p2) [a, b] [] pos2] X.env = (false, eval (.Call (.Name "range" p2) [a, b] [] pos2) X.env) :: starEach [] X.env := by rfl) :
    AE X (.Call (.Name "list" p) [.Call (.Name "range" p2) [a, b] [] pos2] [] pos) (aLstR2 ta tb) :=
  pe_imp (pe_listRg hc hg hm (prg_2 hg2 hr ha hb na nc hp) nb) fun σ H Q' ⟨ρ, M, Q, hr, hv, q, k⟩ => seqE hr hv q fun v H1 d M1 t1 r1 v1 q1 => seqE (hr.mono t1) v1 q1 fun w H2 f M2 t2 r2 v2 q2 => by
    obtain ⟨i, j, e, e', ⟨h1, h2, h3, h4, h5⟩, q3⟩ := onI2_ex q2
    subst e e'
    exact ⟨i, j, rep_int_inv (r1.mono t2), rep_int_inv r2, RgA.ok ⟨h1, h2, h3, h4, h5⟩, end_lst reps_range v2 q3 (k.up (t1.trans t2))⟩
end
section
variable {X : Cx} {e : Expr} {te : RE} {K : PySem.W.Frag}
def aRev (te : RE) : RE := fun ρ M Q => te ρ M fun d M1 => onS (lstA d M1) fun xs => ∀ p, M1 p = none → Q (.ref p) (mup M1 p (.lst xs.reverse))
theorem ae_rev {k : Nat} {p1 p2 p3 pos : Pos} (he : AE X e te) : AE X (.Subscript e (.Slice none none (some (.UnaryOp .USub (.Constant (.int 1) k p1) p2)) p3) pos) (aRev te) :=
  pe_imp (pe_revL he) fun σ H Q' ⟨ρ, M, Q, hr, hv, q, k⟩ => seqE hr hv q fun v H1 d M1 t1 r1 v1 q1 => by
    obtain ⟨xs, e, q2⟩ := onS_ex q1
    obtain ⟨a, vs, e1, s, z⟩ := lstA_ok r1 v1 e
    exact ⟨a, vs, e1, s, end_lst z.rev v1 q2 (k.up t1)⟩
end
section
variable {tt : RT} {te : RE}
theorem map_idx {ds : List Dv} {β : Type} (f : Dv → β) : (List.range ds.length).map (fun i => f (ds.getD i .non)) = ds.map f := by
  refine List.ext_getElem (by simp) fun i h1 h2 => ?_
  simp at h1 h2
  simp [h1, List.getD]
theorem lcM {keep : Ms → Prop} {tg : Tg} {own : List Nat} {ρ : Env'} {Q : DK} {M : Ms} {ds : List Dv} (f : Dv → Dv) (hk : ∀ M, keep M) (hl : ds.length ≤ sizeLine)
    (ht : ∀ d ∈ ds, ∀ (M' : Ms) (N : Dv → Ms → Prop), Sub M M' → N (f d) M' → ∃ ρ', Tg.put tg d (wipeA ρ own) M' = some ρ' ∧ te ρ' M' N)
    (q : Q (.rol (ds.map f)) M) : ∀ D, M D = none → lcW keep tg own aYes te ρ D (fun M' => fzK (.ref D) M' Q) ds (mup M D (.lst [])) :=
  lcF (fun i => f (ds.getD i .non)) hk hl (fun i d hd M' N hs hn => by
    have e : ds.getD i .non = d := by simp [List.getD, hd]
    rw [e] at hn
    exact ht d (List.mem_of_getElem? hd) M' N hs hn) (by rw [map_idx]; exact q)
theorem filterMap_idx {ds : List Dv} {β : Type} (g : Dv → Option β) : (List.range ds.length).filterMap (fun i => g (ds.getD i .non)) = ds.filterMap g := by
  have e : (fun i => g (ds.getD i .non)) = g ∘ fun i => ds.getD i .non := rfl
  rw [e, ← List.filterMap_map]
  have := map_idx (ds := ds) (fun x => x)
  rw [this, List.map_id']
theorem lcMo {keep : Ms → Prop} {tg : Tg} {own : List Nat} {ρ : Env'} {Q : DK} {M : Ms} {ds : List Dv} (g : Dv → Option Dv) (hk : ∀ M, keep M) (hl : ds.length ≤ sizeLine)
    (ht : ∀ d ∈ ds, ∀ (M' : Ms) (N : Option Dv → Ms → Prop), Sub M M' → N (g d) M' → ∃ ρ', Tg.put tg d (wipeA ρ own) M' = some ρ' ∧ tt ρ' M' fun b M2 => onIf b (te ρ' M2 fun y M3 => N (some y) M3) (N none M2))
    (q : Q (.rol (ds.filterMap g)) M) : ∀ D, M D = none → lcW keep tg own tt te ρ D (fun M' => fzK (.ref D) M' Q) ds (mup M D (.lst [])) :=
  lcF_opt (fun i => g (ds.getD i .non)) hk hl (fun i d hd M' N hs hn => by
    have e : ds.getD i .non = d := by simp [List.getD, hd]
    rw [e] at hn
    exact ht d (List.mem_of_getElem? hd) M' N hs hn) (by rw [filterMap_idx]; exact q)
end
def aNever : RS := fun _ _ _ => False
theorem as_never {X : Cx} {st : Stmt} : AS X st aNever := ps_imp ps_never fun D σ H h => by
  obtain ⟨ρ, M, D, _, _, q, _⟩ := h
  exact q
def acMax : ARC := fun ds M Q => match ds with | [d] => ∃ ns : List Int, lstA d M = some (ns.map Dv.int) ∧ 0 < ns.length ∧ ∀ m, m ∈ ns → (∀ y, y ∈ ns → y ≤ m) → Q (.int m) M | _ => False
def acMin : ARC := fun ds M Q => match ds with | [d] => ∃ ns : List Int, lstA d M = some (ns.map Dv.int) ∧ 0 < ns.length ∧ ∀ m, m ∈ ns → (∀ y, y ∈ ns → m ≤ y) → Q (.int m) M | _ => False
theorem abc_max {K : PySem.W.Frag} : AbC K (rMax K) acMax := by
  intro H M vs ds Q Q' r hv q k
  match ds, q with
  | [d], q =>
    obtain ⟨ns, h, h0, q⟩ := q
    obtain ⟨v, e, rd⟩ := reps1 r
    obtain ⟨a, ws, e1, s, z⟩ := lstA_ok rd hv h
    exact ⟨a, ns, by rw [e, e1], by rw [← z.ints]; exact s, h0, fun m h1 h2 => k _ _ _ _ (Tp.refl H) rep_int hv (q m h1 h2)⟩
theorem abc_min {K : PySem.W.Frag} : AbC K (rMin K) acMin := by
  intro H M vs ds Q Q' r hv q k
  match ds, q with
  | [d], q =>
    obtain ⟨ns, h, h0, q⟩ := q
    obtain ⟨v, e, rd⟩ := reps1 r
    obtain ⟨a, ws, e1, s, z⟩ := lstA_ok rd hv h
    exact ⟨a, ns, by rw [e, e1], by rw [← z.ints]; exact s, h0, fun m h1 h2 => k _ _ _ _ (Tp.refl H) rep_int hv (q m h1 h2)⟩
theorem mdel_put {M : Ms} {q : Addr} {c : Cell} : mdel (mup M q c) q = mdel M q := by
  funext b
  unfold mdel
  by_cases h : b = q
  · rw [if_pos h, if_pos h]
  · rw [if_neg h, if_neg h, mup_ne h]
theorem grow_put {M M2 : Ms} {q : Addr} {c : Cell} (h : Sub M (mdel M2 q)) : Sub M (mdel (mup M2 q c) q) := by rw [mdel_put]; exact h
theorem grow_sub {M M2 : Ms} {q : Addr} (h : Sub M (mdel M2 q)) : Sub M M2 := h.trans mdel_sub
theorem grow_new {M : Ms} {q : Addr} {c : Cell} (h : M q = none) : Sub M (mdel (mup M q c) q) := mdel_of (Sub.new h) h
theorem grow_at {M M2 : Ms} {q r : Addr} {c : Cell} (h : Sub M (mdel M2 q)) (e : M r = some c) : M2 r = some c := grow_sub h r c e
theorem dec_int {i j : Int} {inst : Decidable (Dv.int i = Dv.int j)} : @decide (Dv.int i = Dv.int j) inst = decide (i = j) := decide_eq_decide.mpr ⟨Dv.int.inj, fun h => by rw [h]⟩
theorem dec_str {i j : Str} {inst : Decidable (Dv.str i = Dv.str j)} : @decide (Dv.str i = Dv.str j) inst = decide (i = j) := decide_eq_decide.mpr ⟨Dv.str.inj, fun h => by rw [h]⟩
theorem acAll_map {α : Type} {xs : List α} {g : α → Bool} {M : Ms} {Q : DK} (q : Q (.bl (xs.all g)) M) : acAll [.rol (xs.map fun x => .bl (g x))] M Q :=
  ⟨xs.map g, by simp [lstA, itemsA, List.map_map, Function.comp_def], by simpa [List.all_map] using q⟩
theorem acAll_eq {α : Type} {xs : List α} {g : α → Bool} {M : Ms} : lstA (.rol (xs.map fun x => .bl (g x))) M = some ((xs.map g).map Dv.bl) := by simp [lstA, itemsA, List.map_map, Function.comp_def]
theorem all_map_id {α : Type} {xs : List α} {g : α → Bool} : (xs.map g).all id = xs.all g := by simp [List.all_map]
theorem any_map_id {α : Type} {xs : List α} {g : α → Bool} : (xs.map g).any id = xs.any g := by simp [List.any_map]
theorem acSum_eq {α : Type} {xs : List α} {g : α → Int} {M : Ms} : lstA (.rol (xs.map fun x => .int (g x))) M = some ((xs.map g).map Dv.int) := by simp [lstA, itemsA, List.map_map, Function.comp_def]
theorem acAny_map {α : Type} {xs : List α} {g : α → Bool} {M : Ms} {Q : DK} (q : Q (.bl (xs.any g)) M) : acAny [.rol (xs.map fun x => .bl (g x))] M Q :=
  ⟨xs.map g, by simp [lstA, itemsA, List.map_map, Function.comp_def], by simpa [List.any_map] using q⟩
theorem acSum_map {α : Type} {xs : List α} {g : α → Int} {M : Ms} {Q : DK} (q : Q (.int (xs.map g).sum) M) : acSum [.rol (xs.map fun x => .int (g x))] M Q :=
  ⟨xs.map g, by simp [lstA, itemsA, List.map_map, Function.comp_def], q⟩
end HC
set_option maxHeartbeats 1000000
namespace HC
open PySem L2 PyProof.Rows
section
variable {X : Cx} {a b e : Expr} {ta tb te : RE} {pos p pos2 p2 : Pos} {K : PySem.W.Frag}
def rCatF (K : PySem.W.Frag) : R2 := fun x y H Q => ∃ l b xs zs, x = .ref l ∧ y = .ref b ∧ SqL K H l xs ∧ SqL K H b zs ∧ xs.length + zs.length ≤ sizeLine ∧ ∀ p, H p = none → Q (.ref p) (upd H p (.lst (xs ++ zs)))
theorem op_catF : OpR X (binaryOp .Add) (rCatF X.K) := by
  intro pins s σ H x y v u Q I rx ry h
  obtain ⟨l, b, xs, zs, rfl, rfl, hH, hB, hz, q⟩ := h
  cases rx
  cases ry
  obtain ⟨its, r, ⟨o, n, e, hc, hd, hs⟩, hl⟩ := I.list hH
  obtain ⟨its2, r2, ⟨o2, n2, e2, hc2, hd2, hs2⟩, hl2⟩ := I.list hB
  have l1 := r.length
  have l2 := r2.length
  obtain ⟨cls, dd, data, sl⟩ := o
  obtain ⟨cls2, dd2, data2, sl2⟩ := o2
  simp only at hc hd hs hc2 hd2 hs2
  subst hc hd hs hc2 hd2 hs2
  have ea : its.toArray ++ its2.toArray = (its ++ its2).toArray := by simp
  refine PySem.concat_meets ⟨_, e, rfl⟩ ⟨_, e2, rfl⟩ noFill_list_add seq_list_add PySem.F.slot_list_add PySem.F.entry_list_add (PySem.F.args_list_add_2 _ _) (PyProof.Rows.list_addW l b its.toArray its2.toArray n n2 none none sl sl2 (by simp; omega)) ⟨e, e2, ?_⟩
  rw [ea]
  exact ⟨.ref _, _, I.lnew (t' := s.toks) (r.append r2) (by rw [List.length_append]; omega), rfl, q _ I.fresh⟩
def aAddF : AR2 := fun x y M Q => match x, y with
  | .rol xs, .rol ys => xs.length + ys.length ≤ sizeLine ∧ ∀ p, M p = none → Q (.ref p) (mup M p (.lst (xs ++ ys)))
  | .rol xs, .ref b => ∃ ys, M b = some (.lst ys) ∧ xs.length + ys.length ≤ sizeLine ∧ ∀ p, M p = none → Q (.ref p) (mup M p (.lst (xs ++ ys)))
  | .ref a, .rol ys => ∃ xs, M a = some (.lst xs) ∧ xs.length + ys.length ≤ sizeLine ∧ ∀ p, M p = none → Q (.ref p) (mup M p (.lst (xs ++ ys)))
  | x, y => aAdd x y M Q
theorem op_addF : OpR X (binaryOp .Add) (fun x y H Q => rAddH X.K x y H Q ∨ rCatF X.K x y H Q) := opr_or op_addH op_catF
theorem ab_addF {K : PySem.W.Frag} : Ab2 K (fun x y H Q => rAddH K x y H Q ∨ rCatF K x y H Q) aAddF := by
  intro H M x y dx dy Q Q' rx ry hv q k
  have old : aAdd dx dy M Q → rAddH K x y H Q' ∨ rCatF K x y H Q' := fun q => .inl (ab_add _ _ _ _ _ _ _ _ rx ry hv q k)
  cases dx <;> cases dy <;> first | exact old q | skip
  case rol.rol ds es =>
    obtain ⟨a, vs, e1, s1, r1⟩ := rep_rol_inv rx
    obtain ⟨b, ws, e2, s2, r2⟩ := rep_rol_inv ry
    obtain ⟨z, q⟩ := q
    have l1 := r1.length
    have l2 := r2.length
    exact .inr ⟨a, b, vs, ws, e1, e2, s1.l, s2.l, by omega, end_lst (r1.append r2) hv q k⟩
  case rol.ref ds b =>
    obtain ⟨a, vs, e1, s1, r1⟩ := rep_rol_inv rx
    obtain ⟨ys, h2, z, q⟩ := q
    obtain ⟨ws, e2, r2⟩ := view_lst hv h2
    have l1 := r1.length
    have l2 := r2.length
    exact .inr ⟨a, b, vs, ws, e1, rep_ref_inv ry, s1.l, SqL.of e2, by omega, end_lst (r1.append r2) hv q k⟩
  case ref.rol a es =>
    obtain ⟨b, ws, e2, s2, r2⟩ := rep_rol_inv ry
    obtain ⟨xs, h1, z, q⟩ := q
    obtain ⟨vs, e1, r1⟩ := view_lst hv h1
    have l1 := r1.length
    have l2 := r2.length
    exact .inr ⟨a, b, vs, ws, rep_ref_inv rx, e2, SqL.of e1, s2.l, by omega, end_lst (r1.append r2) hv q k⟩
theorem ae_addF (ha : AE X a ta) (hb : AE X b tb) : AE X (.BinOp a .Add b pos) (aOp aAddF ta tb) := ae_op op_addF ab_addF ha hb
def aInB (neg : Bool) : AR2 := fun x y M Q => match x with
  | .int i => ∃ ns : List Int, (y = .rol (ns.map Dv.int) ∨ y = .tup (ns.map Dv.int) ∨ ∃ a, y = .ref a ∧ M a = some (.lst (ns.map Dv.int))) ∧ Q (.bl (if neg then !decide (i ∈ ns) else decide (i ∈ ns))) M
  | _ => False
def aIn : AR2 := aInB false
def aNotIn : AR2 := aInB true
theorem in_ints (i : Int) : ∀ ns : List Int, inV (.int i) (ns.map V.int) = decide (i ∈ ns)
  | [] => rfl
  | n :: ns => by
    have ih := in_ints i ns
    unfold inV at ih ⊢
    rw [List.map_cons, List.any_cons, ih]
    by_cases h : n = i
    · subst h
      rw [show eqV (.int n) (.int n) = true from by simp [eqV], Bool.true_or, decide_eq_true List.mem_cons_self]
    · rw [show eqV (.int n) (.int i) = false from by simp [eqV, h], Bool.false_or]
      refine decide_eq_decide.mpr ⟨List.mem_cons_of_mem _, fun q => ?_⟩
      rcases List.mem_cons.mp q with rfl | q
      · exact absurd rfl h
      · exact q
theorem flat_ints (ns : List Int) : (ns.map V.int).all flatV = true := by
  rw [List.all_eq_true]
  intro v hv
  obtain ⟨n, _, rfl⟩ := List.mem_map.mp hv
  rfl
theorem ab_inB {K : PySem.W.Frag} {neg : Bool} : Ab2 K (rIn K neg) (aInB neg) := by
  intro H M x y dx dy Q Q' rx ry hv q k
  cases dx <;> first | exact q.elim | skip
  case int i =>
    obtain ⟨ns, hy, q⟩ := q
    have ex := rep_int_inv rx
    subst ex
    have fin : Q' (.bl (if neg then !inV (.int i) (ns.map V.int) else inV (.int i) (ns.map V.int))) H := by
      rw [in_ints]
      exact k _ _ _ _ (Tp.refl H) rep_bl hv q
    rcases hy with rfl | rfl | ⟨a, rfl, ha⟩
    · obtain ⟨a, vs, e1, s1, r1⟩ := rep_rol_inv ry
      have := r1.ints
      subst this
      exact ⟨a, _, e1, .inl s1.l, rfl, flat_ints ns, fin⟩
    · obtain ⟨a, vs, e1, s1, r1⟩ := rep_tup_inv ry
      have := r1.ints
      subst this
      exact ⟨a, _, e1, .inr s1, rfl, flat_ints ns, fin⟩
    · obtain ⟨vs, e1, r1⟩ := view_lst hv ha
      have := r1.ints
      subst this
      exact ⟨a, _, rep_ref_inv ry, .inl (SqL.of e1), rfl, flat_ints ns, fin⟩
theorem ae_in (_hu : X.A.units + 64 < cLine) (ha : AE X a ta) (hb : AE X b tb) (hm : behindInMarks .In b = false := by with_unfolding_all rfl) : AE X (.Compare a [.In] [b] pos) (aOp aIn ta tb) := ae_cmp op_in_seq ab_inB ha hb hm
theorem ae_notin (_hu : X.A.units + 64 < cLine) (ha : AE X a ta) (hb : AE X b tb) (hm : behindInMarks .NotIn b = false := by with_unfolding_all rfl) : AE X (.Compare a [.NotIn] [b] pos) (aOp aNotIn ta tb) := ae_cmp op_notIn_seq ab_inB ha hb hm
theorem at_in (_hu : X.A.units + 64 < cLine) (ha : AE X a ta) (hb : AE X b tb) (hm : behindInMarks .In b = false := by with_unfolding_all rfl) : AT X (.Compare a [.In] [b] pos) (aB (aOp aIn ta tb)) := at_cmp op_in_seq ab_inB ha hb hm
theorem at_notin (_hu : X.A.units + 64 < cLine) (ha : AE X a ta) (hb : AE X b tb) (hm : behindInMarks .NotIn b = false := by with_unfolding_all rfl) : AT X (.Compare a [.NotIn] [b] pos) (aB (aOp aNotIn ta tb)) := at_cmp op_notIn_seq ab_inB ha hb hm
end
end HC
set_option maxHeartbeats 1000000
namespace HC
open PySem L2 PyProof.Rows
section
variable {X : Cx} {a b e o i : Expr} {ta tb te to ti : RE} {pos p pos2 p2 tpos : Pos} {K : PySem.W.Frag}
def rGetL : V → V → Hp → VK → Prop := fun o i H Q => ∃ p xs k x, o = .ref p ∧ i = .int k ∧ H p = some (.lst xs) ∧ 0 ≤ k ∧ xs[k.toNat]? = some x ∧ Q x H
theorem get_list : PGet X rGetL := by
  intro pins s σ H o i ov iv Q I ro ri h
  obtain ⟨p, xs, k, x, rfl, rfl, hp, h0, hx, q⟩ := h
  cases ro
  obtain ⟨t, rfl⟩ := ri
  obtain ⟨its, n, r, ho, hz⟩ := I.lst hp
  obtain ⟨u, hu, ru⟩ := Vals.get r hx
  have hl := r.length
  have hn := line63
  have hk := (List.getElem?_eq_some_iff.mp hx).1
  exact wpAny_getItem_list (items := its.toArray) ⟨_, ho, rfl, n, rfl⟩ h0 (by omega) (by simpa using hu) ⟨x, H, I, ru, q⟩
def aAugS (to ti te : RE) (f : Int → Int → Int) : RS := fun D ρ M => to ρ M fun x M1 => ti ρ M1 fun y M2 => match x with
  | .ref r => onI y fun k => 0 ≤ k ∧ onS (lstC (M2 r)) fun xs => onS xs[k.toNat]? fun d => te ρ M2 fun z M3 => onI2 d z fun m n => onS (lstC (M3 r)) fun ys => k.toNat < ys.length ∧ D.nx ρ (mup M3 r (.lst (ys.set k.toNat (.int (f m n)))))
  | _ => False
theorem ixN_pos {n : Nat} {k : Int} (h0 : 0 ≤ k) (h : k.toNat < n) : ixN n k = some k.toNat := by
  obtain ⟨j, rfl⟩ := Int.eq_ofNat_of_zero_le h0
  exact ixN_nat h
theorem augS_imp {f : Int → Int → Int} : ∀ D σ H, cS K (aAugS to ti te f) D σ H → tAugS (cE K to) (cE K ti) (cE K te) rGetL (ipI f) rSetL D σ H := fun D' σ H ⟨ρ, M, D, hr, hv, q, k⟩ =>
  seqE hr hv q fun x H1 dx M1 t1 r1 v1 q1 => seqE (hr.mono t1) v1 q1 fun y H2 dy M2 t2 r2 v2 q2 => by
    cases dx <;> first | exact q2.elim | skip
    case ref r =>
      obtain ⟨kk, e1, h0, q3⟩ := onI_ex q2
      subst e1
      obtain ⟨xs, hx, q4⟩ := onS_ex q3
      obtain ⟨d, hd, q5⟩ := onS_ex q4
      obtain ⟨vs, e2, z⟩ := view_lst v2 (lstC_eq hx)
      obtain ⟨v, hv1, rv⟩ := z.get hd
      have t12 := t1.trans t2
      refine ⟨r, vs, kk, v, rep_ref_inv (r1.mono t2), rep_int_inv r2, e2, h0, hv1, ?_⟩
      refine seqE (hr.mono t12) v2 q5 fun w H3 dw M3 t3 r3 v3 q6 => ?_
      obtain ⟨m, n, e3, e4, q7⟩ := onI2_ex q6
      subst e3 e4
      obtain ⟨ys, hy, hl, q8⟩ := onS_ex q7
      obtain ⟨ws, e5, z2⟩ := view_lst v3 (lstC_eq hy)
      have t13 := t12.trans t3
      refine ⟨m, n, rep_int_inv (rv.mono t3), rep_int_inv r3, ?_⟩
      refine ⟨r, ws, kk, kk.toNat, rep_ref_inv ((r1.mono t2).mono t3), rep_int_inv (r2.mono t3), e5, by rw [← z2.length]; exact ixN_pos h0 hl, ?_⟩
      have tp := Tp.put (K := K) (H := H3) (a := r) (o := .lst (ws.set kk.toNat (.int (f m n)))) (v3.soft (lstC_eq hy))
      exact k.nx _ _ _ _ (t13.trans tp) (hr.mono (t13.trans tp)) (v3.put (c := .lst (ys.set kk.toNat (.int (f m n)))) (v3.soft (lstC_eq hy)) ⟨ws.set kk.toNat (.int (f m n)), upd_same, (z2.set kk.toNat (d := .int (f m n)) (v := .int (f m n)) rep_int).mono tp⟩) q8
theorem as_augS_add (ho : AE X o to) (hi : AE X i ti) (he : AE X e te) (ha : ∀ ov iv new, augStore i ov iv new = (do holding [new, ov, iv] (setItem ov iv new); release [new, ov, iv] []; pure .next) := by intros; rfl) : AS X (.AugAssign (.Subscript o i tpos) .Add e pos) (aAugS to ti te fun i j => i + j) :=
  ps_imp (ps_augS ho hi get_list he ip_add set_list ha) augS_imp
end
end HC
namespace HC
open PySem L2 PyProof.Rows
section
variable {X : Cx} {a b c e o : Expr} {es : List Expr} {ta tb tc te to tk : RE} {t : RA} {pos p pos2 p2 tpos : Pos} {K : PySem.W.Frag}
theorem eqV_key (k j : Key) : eqV (kV k) (kV j) = decide (k = j) := by
  rcases k with k | k <;> rcases j with j | j
  · show (k == j) = _
    by_cases h : k = j
    · subst h; simp
    · simp [h]
  · show false = _
    simp
  · show false = _
    simp
  · show (k == j) = _
    by_cases h : k = j
    · subst h; simp
    · have : (k == j) = false := by simpa using h
      rw [this]
      simp [h]
def memK (k : Key) (ks : List Key) : Bool := ks.any fun j => decide (j = k)
theorem inV_keys (k : Key) (ks : List Key) : inV (kV k) (ks.map kV) = memK k ks := by
  unfold inV memK
  rw [List.any_map]
  congr 1
  funext j
  exact eqV_key j k
theorem flat_keys (ks : List Key) : (ks.map kV).all flatV = true := by
  rw [List.all_eq_true]
  intro v hv
  obtain ⟨k, _, rfl⟩ := List.mem_map.mp hv
  cases k <;> rfl
theorem flat_key (k : Key) : flatV (kV k) = true := by cases k <;> rfl
def rDIn (neg : Bool) : R2 := fun x y H Q => ∃ a o, y = .ref a ∧ DGet H a x o ∧ Q (.bl (if neg then !o.isSome else o.isSome)) H
theorem op_dIn (hu : X.A.units + 1 < cLine) : OpR X (compareOp .In) (rDIn false) := by
  intro pins s σ H x y v u Q I rx ry h
  obtain ⟨a, o, rfl, g, q⟩ := h
  cases ry
  exact d_in hu I g rx fun s' I' => ⟨.bl _, H, I', rfl, q⟩
theorem op_dNotIn (hu : X.A.units + 1 < cLine) : OpR X (compareOp .NotIn) (rDIn true) := by
  intro pins s σ H x y v u Q I rx ry h
  obtain ⟨a, o, rfl, g, q⟩ := h
  cases ry
  exact d_notIn hu I g rx fun s' I' => ⟨.bl _, H, I', rfl, q⟩
def negB (neg b : Bool) : Bool := if neg then !b else b
def aInKB (neg : Bool) : AR2 := fun x y M Q => onS (keyD x) fun k => match y with
  | .ref a => match M a with
    | some (.lst xs) => onS (keysD xs) fun ks => Q (.bl (negB neg (memK k ks))) M
    | some (.dic kvs) => Q (.bl (negB neg (getK kvs k).isSome)) M
    | _ => False
  | .rol xs => onS (keysD xs) fun ks => Q (.bl (negB neg (memK k ks))) M
  | .tup xs => onS (keysD xs) fun ks => Q (.bl (negB neg (memK k ks))) M
  | _ => False
def aInK : AR2 := aInKB false
def aNotInK : AR2 := aInKB true
theorem ab_inK {neg : Bool} : Ab2 K (fun x y H Q => rIn K neg x y H Q ∨ rDIn neg x y H Q) (aInKB neg) := by
  intro H M x y dx dy Q Q' rx ry hv q k
  obtain ⟨kk, e, q0⟩ := onS_ex q
  clear q
  have ex := keyD_ok rx e
  subst ex
  have fin : ∀ ks : List Key, Q (.bl (negB neg (memK kk ks))) M → Q' (.bl (if neg then !inV (kV kk) (ks.map kV) else inV (kV kk) (ks.map kV))) H := fun ks q => by
    rw [inV_keys]
    exact k _ _ _ _ (Tp.refl H) rep_bl hv q
  cases dy <;> first | exact q0.elim | skip
  case ref r =>
    have ey := rep_ref_inv ry
    subst ey
    simp only [] at q0
    split at q0
    · next xs e1 =>
      obtain ⟨ks, e2, q⟩ := onS_ex q0
      obtain ⟨vs, e3, r1⟩ := view_lst hv e1
      have := keysD_ok r1 e2
      subst this
      exact .inl ⟨r, _, rfl, .inl (SqL.of e3), flat_key kk, flat_keys ks, fin ks q⟩
    · next kvs e1 =>
      obtain ⟨vs, e2, rr⟩ := (show ∃ kvs', H r = some (.dK kvs') ∧ Paired (fun (p : Key × Dv) (q : Key × V) => p.1 = q.1 ∧ Rep K H p.2 q.2) kvs kvs' from hv r _ e1)
      refine .inr ⟨r, _, rfl, DGet.k e2, ?_⟩
      have es : (valV vs kk).isSome = (getK kvs kk).isSome := by
        rcases getK_ok (k := kk) rr with ⟨h1, h2⟩ | ⟨d', v, h1, h2, _⟩
        · rw [h1, h2]; rfl
        · rw [h1, h2]; rfl
      rw [es]
      exact k _ _ _ _ (Tp.refl H) rep_bl hv q0
    · exact q0.elim
  case rol xs =>
    obtain ⟨ks, e2, q⟩ := onS_ex q0
    obtain ⟨a, vs, e1, s1, r1⟩ := rep_rol_inv ry
    have := keysD_ok r1 e2
    subst this
    exact .inl ⟨a, _, e1, .inl s1.l, flat_key kk, flat_keys ks, fin ks q⟩
  case tup xs =>
    obtain ⟨ks, e2, q⟩ := onS_ex q0
    obtain ⟨a, vs, e1, s1, r1⟩ := rep_tup_inv ry
    have := keysD_ok r1 e2
    subst this
    exact .inl ⟨a, _, e1, .inr s1, flat_key kk, flat_keys ks, fin ks q⟩
theorem op_inK (hu : X.A.units + 1 < cLine) : OpR X (compareOp .In) (fun x y H Q => rIn X.K false x y H Q ∨ rDIn false x y H Q) := opr_or op_in_seq (op_dIn hu)
theorem op_notInK (hu : X.A.units + 1 < cLine) : OpR X (compareOp .NotIn) (fun x y H Q => rIn X.K true x y H Q ∨ rDIn true x y H Q) := opr_or op_notIn_seq (op_dNotIn hu)
theorem ae_inK (hu : X.A.units + 1 < cLine) (ha : AE X a ta) (hb : AE X b tb) (hm : behindInMarks .In b = false := by with_unfolding_all rfl) : AE X (.Compare a [.In] [b] pos) (aOp aInK ta tb) := ae_cmp (op_inK hu) ab_inK ha hb hm
theorem ae_notinK (hu : X.A.units + 1 < cLine) (ha : AE X a ta) (hb : AE X b tb) (hm : behindInMarks .NotIn b = false := by with_unfolding_all rfl) : AE X (.Compare a [.NotIn] [b] pos) (aOp aNotInK ta tb) := ae_cmp (op_notInK hu) ab_inK ha hb hm
theorem at_inK (hu : X.A.units + 1 < cLine) (ha : AE X a ta) (hb : AE X b tb) (hm : behindInMarks .In b = false := by with_unfolding_all rfl) : AT X (.Compare a [.In] [b] pos) (aB (aOp aInK ta tb)) := at_cmp (op_inK hu) ab_inK ha hb hm
theorem at_notinK (hu : X.A.units + 1 < cLine) (ha : AE X a ta) (hb : AE X b tb) (hm : behindInMarks .NotIn b = false := by with_unfolding_all rfl) : AT X (.Compare a [.NotIn] [b] pos) (aB (aOp aNotInK ta tb)) := at_cmp (op_notInK hu) ab_inK ha hb hm
def aDnewT : RE := fun _ M Q => ∀ p, M p = none → Q (.ref p) (mup M p (.dit []))
theorem ae_dnewT : AE X (.Dict [] [] pos) aDnewT := pe_imp pe_dnewT fun σ H Q' ⟨ρ, M, Q, hr, hv, q, k⟩ p hp =>
  k _ _ (.ref p) _ (Tp.new hp) rep_ref (hv.put (c := .dit []) (by rw [hp]; trivial) ⟨[], upd_same, .nil⟩) (q p (hv.free hp))
def aInT (neg : Bool) (t : RA) (i : Nat) : RE := fun ρ M Q => t ρ M fun ds M1 => ds.length ≤ sizeLine ∧ onS ρ[i]? fun o => onS o fun y => match y with
  | .ref a => match M1 a with
    | some (.dit kvs) => onS (keysD ds) fun k => Q (.bl (negB neg (getK kvs k).isSome)) M1
    | _ => False
  | _ => False
theorem inT_imp {neg : Bool} {i : Nat} : ∀ σ H Q, cE K (aInT neg t i) σ H Q → tOp (rDIn neg) (tTup (cA K t)) (tVar i) σ H Q := fun σ H Q' ⟨ρ, M, Q, hr, hv, q, k⟩ =>
  seqA hr hv q fun vs H1 ds M1 t1 r1 v1 ⟨z, q1⟩ => by
    refine ⟨by rw [← r1.length]; exact z, fun p hp => ?_⟩
    obtain ⟨o, e1, q2⟩ := onS_ex q1
    obtain ⟨y, e2, q3⟩ := onS_ex q2
    subst e2
    have tp := Tp.new (K := K) (H := H1) (a := p) (o := .tup vs) hp
    obtain ⟨v, h1, h2⟩ := ((hr.mono t1).mono tp).at' i y e1
    refine ⟨v, h1, ?_⟩
    cases y <;> first | exact q3.elim | skip
    case ref a =>
      simp only [] at q3
      split at q3
      · next kvs e3 =>
        obtain ⟨kk, e4, q5⟩ := onS_ex q3
        have v2 := v1.new (o := .tup vs) hp
        obtain ⟨ws, e5, r⟩ := (show ∃ kvs', upd H1 p (.tup vs) a = some (.dT kvs') ∧ Paired (fun (p : List Key × Dv) (q : List Key × V) => p.1 = q.1 ∧ Rep K _ p.2 q.2) kvs kvs' from v2 a _ e3)
        have := keysD_ok r1 e4
        subst this
        refine ⟨a, _, rep_ref_inv h2, DGet.t e5 upd_same, ?_⟩
        have es : (valV ws kk).isSome = (getK kvs kk).isSome := by
          rcases getK_ok (k := kk) r with ⟨h1, h2⟩ | ⟨d', v, h1, h2, _⟩
          · rw [h1, h2]; rfl
          · rw [h1, h2]; rfl
        rw [es]
        exact k _ _ _ _ (t1.trans tp) rep_bl v2 q5
      · exact q3.elim
theorem ae_inT {k1 : Nat} {x : Str} (hu : X.A.units + 1 < cLine) (i : Nat) (ht : AA X es t) (hN : X.N[i]? = some x := by rfl) (hv : Vis X.env.scope x := by first | exact Or.inl rfl | exact Or.inr (Or.inl rfl) | exact Or.inr (Or.inr rfl)) (hd : (x == ("__debug__" : Str)) = false := by decide) (hcd : (x == ("__classdict__" : Str)) = false := by decide)
    (hm : behindInMarks .In (.Name x p) = false := by with_unfolding_all rfl) : AE X (.Compare (.Tuple es k1 tpos) [.In] [.Name x p] pos) (aInT false t i) := pe_imp (pe_cmpR (op_dIn hu) (pe_tup ht) (pe_var hN hv hd hcd) hm) inT_imp
theorem ae_notinT {k1 : Nat} {x : Str} (hu : X.A.units + 1 < cLine) (i : Nat) (ht : AA X es t) (hN : X.N[i]? = some x := by rfl) (hv : Vis X.env.scope x := by first | exact Or.inl rfl | exact Or.inr (Or.inl rfl) | exact Or.inr (Or.inr rfl)) (hd : (x == ("__debug__" : Str)) = false := by decide) (hcd : (x == ("__classdict__" : Str)) = false := by decide)
    (hm : behindInMarks .NotIn (.Name x p) = false := by with_unfolding_all rfl) : AE X (.Compare (.Tuple es k1 tpos) [.NotIn] [.Name x p] pos) (aInT true t i) := pe_imp (pe_cmpR (op_dNotIn hu) (pe_tup ht) (pe_var hN hv hd hcd) hm) inT_imp
theorem inTB_imp {neg : Bool} {i : Nat} : ∀ σ H Q, cT K (aB (aInT neg t i)) σ H Q → tTest (tOp (rDIn neg) (tTup (cA K t)) (tVar i)) σ H Q := fun σ H Q' h' => by
  obtain ⟨ρ, M, Q, hr, hv, q, k⟩ := h'
  exact inT_imp σ H _ ⟨ρ, M, _, hr, hv, q, fun v H1 d M1 t1 r1 v1 q1 => by
    obtain ⟨b, e, q1⟩ := onB_ex q1
    exact ⟨b, by subst e; exact rep_bl_inv r1, k b H1 M1 t1 v1 q1⟩⟩
theorem at_inT {k1 : Nat} {x : Str} (hu : X.A.units + 1 < cLine) (i : Nat) (ht : AA X es t) (hN : X.N[i]? = some x := by rfl) (hv : Vis X.env.scope x := by first | exact Or.inl rfl | exact Or.inr (Or.inl rfl) | exact Or.inr (Or.inr rfl)) (hd : (x == ("__debug__" : Str)) = false := by decide) (hcd : (x == ("__classdict__" : Str)) = false := by decide)
    (hm : behindInMarks .In (.Name x p) = false := by with_unfolding_all rfl) : AT X (.Compare (.Tuple es k1 tpos) [.In] [.Name x p] pos) (aB (aInT false t i)) := pt_imp (pt_cmpR (op_dIn hu) (pe_tup ht) (pe_var hN hv hd hcd) hm) inTB_imp
theorem at_notinT {k1 : Nat} {x : Str} (hu : X.A.units + 1 < cLine) (i : Nat) (ht : AA X es t) (hN : X.N[i]? = some x := by rfl) (hv : Vis X.env.scope x := by first | exact Or.inl rfl | exact Or.inr (Or.inl rfl) | exact Or.inr (Or.inr rfl)) (hd : (x == ("__debug__" : Str)) = false := by decide) (hcd : (x == ("__classdict__" : Str)) = false := by decide)
    (hm : behindInMarks .NotIn (.Name x p) = false := by with_unfolding_all rfl) : AT X (.Compare (.Tuple es k1 tpos) [.NotIn] [.Name x p] pos) (aB (aInT true t i)) := pt_imp (pt_cmpR (op_dNotIn hu) (pe_tup ht) (pe_var hN hv hd hcd) hm) inTB_imp
def agSubT (to : RE) (t : RA) : RG := fun d ρ M Q => to ρ M fun x M1 => t ρ M1 fun ds M2 => ds.length ≤ sizeLine ∧ match x with
  | .ref a => match M2 a with
    | some (.dit kvs) => onS (keysD ds) fun k => kvs.length < sizeLine ∧ Q ρ (mup M2 a (.dit (putA kvs k d)))
    | _ => False
  | _ => False
theorem ag_subT {k1 : Nat} (hu : X.A.units + 1 < cLine) (ho : AE X o to) (ht : AA X es t)
    (ha : ∀ v, assign (.Subscript o (.Tuple es k1 tpos) pos) X.env v = (do
      let ov ← holding [v] (eval o X.env)
      let iv ← holding [v, ov] (eval (.Tuple es k1 tpos) X.env)
      standAt pos
      holding [v, ov, iv] (setItem ov iv v)
      release [v, ov, iv] []) := by intro _; rfl) : AG X (.Subscript o (.Tuple es k1 tpos) pos) (agSubT to t) :=
  pg_imp (pg_sub ho (pe_tup ht) (set_H hu) ha) fun v σ H Q' h => by
    obtain ⟨d, ρ, M, Q, rd, hr, hv, q, k⟩ := h
    refine seqE hr hv q fun x H1 dx M1 t1 r1 v1 q1 => seqA (hr.mono t1) v1 q1 fun vs H2 ds M2 t2 r2 v2 zq => ?_
    have z := zq.1
    have q2 := zq.2
    clear zq
    refine ⟨by rw [← r2.length]; exact z, fun p hp => ?_⟩
    have t12 := t1.trans t2
    have tp := Tp.new (K := X.K) (H := H2) (a := p) (o := .tup vs) hp
    have v3 := v2.new (o := .tup vs) hp
    have rx := (r1.mono t2).mono tp
    have rd3 := (rd.mono t12).mono tp
    cases dx <;> first | exact q2.elim | skip
    case ref a =>
      simp only [] at q2
      split at q2
      · next kds e =>
        obtain ⟨kk, e1, hz, q3⟩ := onS_ex q2
        obtain ⟨kvs, e2, zz⟩ := (show ∃ kvs', upd H2 p (.tup vs) a = some (.dT kvs') ∧ KP X.K _ (List Key) kds kvs' from v3 a _ e)
        have := keysD_ok r2 e1
        subst this
        have tq := Tp.put (K := X.K) (H := upd H2 p (.tup (kk.map kV))) (a := a) (o := .dT (putK kvs kk v)) (v3.soft e)
        refine .inr ⟨a, _, rep_ref_inv rx, DPut.t e2 upd_same (by rw [← kp_len zz]; exact hz), ?_⟩
        exact k _ _ _ _ ((t12.trans tp).trans tq) (hr.mono ((t12.trans tp).trans tq)) (v3.put (c := .dit (putA kds kk d)) (v3.soft e) ⟨_, upd_same, kp_mono (kp_put rd3 zz) tq⟩) q3
      · exact q2.elim
end
end HC
namespace HC
open PySem L2 PyProof.Rows
section
variable {X : Cx} {a b c e o key : Expr} {es : List Expr} {ta tb tc te to tk : RE} {t : RA} {pos p pos2 p2 tpos xp yp sp ap cp rp : Pos} {K : PySem.W.Frag} {d : Addr} {x y : Str}
structure TabK (K : PySem.W.Frag) (w : World) (mg : Str → Option Value) (x : Str) (d : Addr) : Prop where
  g : mg x = some (.ref d)
  kd : ∃ es n, KDict K w d es n
def lookS {α : Type} (l : List (Str × α)) (z : Str) : Option α := (l.find? fun p => decide (p.1 = z)).map (·.2)
theorem lookS_mem {α : Type} {l : List (Str × α)} {z : Str} {r : α} (h : lookS l z = some r) : (z, r) ∈ l := by
  obtain ⟨q, h1, rfl⟩ := Option.map_eq_some_iff.mp h
  have h2 := List.find?_some h1
  have h3 := List.mem_of_find?_eq_some h1
  have h4 : q.1 = z := by simpa using h2
  subst h4
  exact h3
def lookB (l : List (Str × Bool)) (z : Str) : Option Bool := (l.find? fun p => decide (p.1 = z)).map (·.2)
theorem lookB_mem {l : List (Str × Bool)} {z : Str} {r : Bool} (h : lookB l z = some r) : (z, r) ∈ l := by
  obtain ⟨q, h1, rfl⟩ := Option.map_eq_some_iff.mp h
  have h2 := List.find?_some h1
  have h3 := List.mem_of_find?_eq_some h1
  have h4 : q.1 = z := by simpa using h2
  subst h4
  exact h3
def aInTab (tk : RE) (tab : List (Str × Bool)) : RT := fun ρ M Q => tk ρ M fun d M1 => match d with
  | .str z => onS (lookB tab z) fun b => Q b M1
  | _ => False
theorem at_inTab {tab : List (Str × Bool)} (T : TabK X.K X.w X.mg x d) (hg : Gl X x) (hT : ∀ p ∈ tab, ∃ r, PySem.W.nsIn X.K d p.1 = some r ∧ r.isSome = p.2) (ha : AE X a tk) (hd : (x == ("__debug__" : Str)) = false := by decide) (hm : behindInMarks .In (.Name x p) = false := by with_unfolding_all rfl) : AT X (.Compare a [.In] [.Name x p] pos) (aInTab tk tab) := by
  obtain ⟨es, n, D⟩ := T.kd
  refine pt_imp (pt_cmpR (op_in_kd D) ha (pe_glob (v := .ref d) hg T.g rfl hd) hm) fun σ H Q' h => ?_
  obtain ⟨ρ, M, Q, hr, hv, q, k⟩ := h
  refine seqE hr hv q fun v H1 dd M1 t1 r1 v1 q1 => ?_
  cases dd <;> first | exact q1.elim | skip
  case str z =>
    obtain ⟨b, e, q2⟩ := onS_ex q1
    obtain ⟨r, h1, h2⟩ := hT _ (lookB_mem e)
    refine ⟨z, r, rep_str_inv r1, rfl, h1, b, by rw [h2], k _ _ _ t1 v1 q2⟩
def aTabRet (i : Nat) (tk : RE) (tab : List (Str × ASp)) (t : RA) : RS := fun D ρ M => i < ρ.length ∧ tk ρ M fun d M1 => match d with
  | .str z => onS (lookS tab z) fun sp => t (ρ.set i none) M1 fun ds M2 => sp ds M2 D.rt
  | _ => False
def tCallD (X : Cx) (k i : Nat) (t : TA) : TE := fun σ H Q => ∃ f fd ps sp, σ[i]? = some (some (.ref f)) ∧ FnOk X.prog X.w X.K X.mg X.base CX0 k f fd ps sp ∧ PySem.W.keepIn X.K (.ref f) = true ∧ Binds X.K fd ps [] ∧ t σ H fun vs H1 => sp (vs ++ []) H1 Q E0
theorem pe_callD {k i : Nat} {t : TA} (hr : Room k X.A) (hN : X.N[i]? = some x) (hv : Vis X.env.scope x) (ha : PA X (e :: es) t)
    (hdb : (x == ("__debug__" : Str)) = false := by decide) (hcd : (x == ("__classdict__" : Str)) = false := by decide)
    (he : starEach (e :: es) X.env = (false, eval e X.env) :: starEach es X.env := by rfl) (hpl : (backTo pos (starEach es X.env)).any (·.1) = false := by rfl) : PE X (.Call (.Name x p) (e :: es) [] pos) (tCallD X k i t) := by
  refine ⟨fun pins s σ H Q I h => ?_⟩
  obtain ⟨f, fd, ps, sp, hs, F, hk, hb, ht⟩ := h
  exact (pe_callL (i := i) F hr hN hv hk hb .nil pass0 ha hdb hcd he hpl).run pins s σ H Q I ⟨hs, ht⟩
theorem ass_tab {tab : List (Str × ASp)} {k : Nat} (i : Nat) (nd : X.N.Nodup) (T : TabK X.K X.w X.mg y d) (hg : Gl X y)
    (hT : ∀ p ∈ tab, ∃ f fd ps, PySem.W.nsIn X.K d p.1 = some (some (.ref f)) ∧ FnA X.prog X.w X.K X.mg X.base k f fd ps p.2 ∧ PySem.W.keepIn X.K (.ref f) = true ∧ Binds X.K fd ps [])
    (hr : Room k X.A) (hk : AE X key tk) (ha : AA X (e :: es) t) (hN : X.N[i]? = some x := by rfl) (hx : Loc X.env.scope x := by first | exact .inl rfl | exact .inr rfl) (hv : Vis X.env.scope x := by first | exact Or.inl rfl | exact Or.inr (Or.inl rfl) | exact Or.inr (Or.inr rfl)) (hf : X.fn x = true ∨ X.env.scope.names.lookup x = some .local := by first | exact .inl rfl | exact .inr rfl) (hd : (y == ("__debug__" : Str)) = false := by decide) (hs : PlainIx key := by exact fun _ _ => rfl)
    (hdb : (x == ("__debug__" : Str)) = false := by decide) (hcd : (x == ("__classdict__" : Str)) = false := by decide)
    (he : starEach (e :: es) X.env = (false, eval e X.env) :: starEach es X.env := by rfl) (hpl : (backTo pos (starEach es X.env)).any (·.1) = false := by rfl) :
    ASs X [.Assign [.Name x xp] (.Subscript (.Name y yp) key sp) ap, .Return (some (.Call (.Name x cp) (e :: es) [] pos)) rp] (aTabRet i tk tab t) := by
  obtain ⟨es', n, D⟩ := T.kd
  refine pss_imp (pss_cons (ps_set (i := i) nd hN hx (pe_ix ix_kdict (pe_glob (v := .ref d) hg T.g rfl hd) hk hs)) (pss_one (ps_ret (pe_callD (i := i) hr hN hv ha hdb hcd he hpl)))) fun D' σ H h => ?_
  obtain ⟨ρ, M, DD, hr', hv', ⟨hi, q⟩, kk⟩ := h
  refine seqE hr' hv' q fun v H1 dd M1 t1 r1 v1 q1 => ?_
  cases dd <;> first | exact q1.elim | skip
  case str z =>
    obtain ⟨asp, e1, q2⟩ := onS_ex q1
    obtain ⟨f, fd, ps, h1, F, kp, b⟩ := hT _ (lookS_mem e1)
    refine ⟨d, z, .ref f, rfl, rep_str_inv r1, ⟨es', n, .ref f, D.at_, D.lit, h1, rfl⟩, ?_⟩
    refine ⟨f, fd, ps, _, List.getElem?_set_self (by rw [← hr'.len]; exact hi), F, kp, b, ?_⟩
    exact seqA ((hr'.mono t1).drop i (some (.ref f))) v1 q2 fun vs H2 ds M2 t2 r2 v2 q3 => ⟨ds, M2, DD.rt, by rw [List.append_nil]; exact r2, v2, q3, kk.rt.up (t1.trans t2)⟩
theorem tabF_nil {P : PySem.W.Frag → Addr → (Str × ASp) → Prop} {K : PySem.W.Frag} {d : Addr} : ∀ p ∈ ([] : List (Str × ASp)), P K d p := fun p hp => by cases hp
theorem tab_cons {α : Type} {P : (Str × α) → Prop} {q : Str × α} {l : List (Str × α)} (h : P q) (r : ∀ p ∈ l, P p) : ∀ p ∈ q :: l, P p := fun p hp => by
  rcases List.mem_cons.mp hp with rfl | hp
  · exact h
  · exact r p hp
theorem tabB_cons {P : (Str × Bool) → Prop} {q : Str × Bool} {l : List (Str × Bool)} (h : P q) (r : ∀ p ∈ l, P p) : ∀ p ∈ q :: l, P p := fun p hp => by
  rcases List.mem_cons.mp hp with rfl | hp
  · exact h
  · exact r p hp
theorem tab_nil {α : Type} {P : (Str × α) → Prop} : ∀ p ∈ ([] : List (Str × α)), P p := fun p hp => by cases hp
theorem tabB_nil {P : (Str × Bool) → Prop} : ∀ p ∈ ([] : List (Str × Bool)), P p := fun p hp => by cases hp
end
end HC
set_option maxHeartbeats 1000000
namespace HC
open PySem L2 PyProof.Rows
section
variable {X : Cx} {K : PySem.W.Frag}
def acSortI : ARC := fun ds M Q => match ds with
  | [d] => ∃ ns : List Int, lstA d M = some (ns.map Dv.int) ∧ ∀ ns' : List Int, ns'.Perm ns → ns'.Pairwise (· ≤ ·) → ∀ p, M p = none → Q (.ref p) (mup M p (.lst (ns'.map Dv.int)))
  | _ => False
theorem reps_ints {H : Hp} : ∀ ns : List Int, Reps K H (ns.map Dv.int) (ns.map V.int)
  | [] => .nil
  | n :: ns => .cons rep_int (reps_ints ns)
theorem abc_sortI : AbC K (rSortedI K) acSortI := by
  intro H M vs ds Q Q' r hv q k
  match ds, q with
  | [d], ⟨ns, h, q⟩ =>
    obtain ⟨v, e, rd⟩ := reps1 r
    obtain ⟨a, ws, e1, s, z⟩ := lstA_ok rd hv h
    rw [z.ints] at s
    exact ⟨a, ns, by rw [e, e1], s, fun ns' p hp hs hn => end_lst (reps_ints ns') hv (q ns' hp hs) k p hn⟩
end
end HC
namespace HC
open PySem L2 PyProof.Rows
section
variable {X : Cx} {K : PySem.W.Frag} {o e : Expr} {es : List Expr} {apos cpos tpos : Pos} {to te : RE} {t : RA}
def aGetT (to : RE) (t : RA) : RE := fun ρ M Q => to ρ M fun x M1 => match x with
  | .ref a => (∃ kvs, M1 a = some (.dit kvs)) ∧ t ρ M1 fun ds M2 => ds.length ≤ sizeLine ∧ match M2 a with
    | some (.dit kvs) => onS (keysD ds) fun k => Q ((getK kvs k).getD .non) M2
    | _ => False
  | _ => False
theorem ae_getT {k1 : Nat} (hu : X.A.units + 1 < cLine) (ho : AE X o to) (ht : AA X es t) (m : M1 X o "get" apos (.Tuple es k1 tpos) cpos) : AE X (.Call (.Attribute o "get" apos) [.Tuple es k1 tpos] [] cpos) (aGetT to t) :=
  pe_imp (pe_dget1 hu ho (pe_tup ht) m) fun σ H Q' ⟨ρ, M, Q, hr, hv, q, k⟩ => seqE hr hv q fun v H1 d M1 t1 r1 v1 q1 => by
    cases d <;> first | exact q1.elim | skip
    case ref a =>
      obtain ⟨⟨kvs0, e0⟩, q1⟩ := q1
      obtain ⟨ws0, e00, _⟩ := (show ∃ kvs', H1 a = some (.dT kvs') ∧ Paired (fun (p : List Key × Dv) (q : List Key × V) => p.1 = q.1 ∧ Rep X.K _ p.2 q.2) kvs0 kvs' from v1 a _ e0)
      refine ⟨a, rep_ref_inv r1, .inr ⟨ws0, .inl e00⟩, ?_⟩
      refine seqA (hr.mono t1) v1 q1 fun vs H2 ds M2 t2 r2 v2 ⟨z, q2⟩ => ?_
      refine ⟨by rw [← r2.length]; exact z, fun p hp => ?_⟩
      have tp := Tp.new (K := X.K) (H := H2) (a := p) (o := .tup vs) hp
      split at q2
      · next kvs e3 =>
        obtain ⟨kk, e4, q5⟩ := onS_ex q2
        have v3 := v2.new (o := .tup vs) hp
        obtain ⟨ws, e5, r⟩ := (show ∃ kvs', upd H2 p (.tup vs) a = some (.dT kvs') ∧ Paired (fun (p : List Key × Dv) (q : List Key × V) => p.1 = q.1 ∧ Rep X.K _ p.2 q.2) kvs kvs' from v3 a _ e3)
        have := keysD_ok r2 e4
        subst this
        refine ⟨_, DGet.t e5 upd_same, ?_⟩
        have tt := (t1.trans t2).trans tp
        rcases getK_ok (k := kk) r with ⟨h1, h2⟩ | ⟨d', v, h1, h2, h3⟩
        · rw [h1] at q5
          rw [h2]
          exact k _ _ .non _ tt rep_non v3 q5
        · rw [h1] at q5
          rw [h2]
          exact k _ _ d' _ tt h3 v3 q5
      · exact q2.elim
end
end HC
namespace HC
open PySem L2 PyProof.Rows
section
variable {X : Cx} {K : PySem.W.Frag} {x : Str} {p : Pos}
def LitT (K : PySem.W.Frag) (a : Addr) (ds : List Dv) : Prop := ∀ H, Rep K H (.tup ds) (.ref a)
theorem lit_ints {a : Addr} {d : Option Addr} {its : Array Value} {n : Nat} {sl : Array (Option Value)} {ns : List Int} (hk : K.lookup a = some ⟨.type "tuple", d, .seq its n, sl⟩) (hz : its.size ≤ sizeLine) (hv : Vals (ns.map V.int) its.toList) : LitT K a (ns.map Dv.int) :=
  fun H => rep_tup (.inr ⟨_, its, n, hk, rfl, rfl, hz, hv⟩) (reps_ints ns)
theorem vals_int1 {i : Int} {t : Tok} : Vals [V.int i] [Value.int i t] := .cons ⟨_, rfl⟩ .nil
theorem ae_gtup {a : Addr} {ds : List Dv} (hg : Gl X x) (hm : X.mg x = some (.ref a)) (hl : LitT X.K a ds) (hdb : (x == ("__debug__" : Str)) = false := by decide) : AE X (.Name x p) (aC (.tup ds)) :=
  pe_imp (pe_glob (v := .ref a) hg hm rfl hdb) fun σ H Q' ⟨ρ, M, Q, hr, hv, q, k⟩ => k _ _ (.tup ds) _ (Tp.refl H) (hl H) hv q
end
end HC
set_option maxHeartbeats 1000000
namespace HC
open PySem PySem.Spec L2 PyProof.Rows
section
variable {prog : Program} {w : World} {A : Around} {E : Value → Shared → Prop} {s : Shared}
theorem collect_tupleA {l : Addr} {vs : List Value} {Q : List Value → Shared → Prop} (hl : s.heap.IsTuple l vs.toArray)
    (h : Q vs { s with heap := (s.heap.push (seqObj "list" #[] 0)).update s.heap.objs.size (Obj.mapSeq (· ++ vs.toArray)) }) (hsz : vs.length ≤ sizeLine) :
    wpAny (model prog w) A (collect (.ref l)) Q E s := by
  obtain ⟨o, ho, hc, n, hd⟩ := id hl
  unfold collect
  refine wpAny_bind (wpAny_runValue (codeAny_builtin entry_proto_collect' ?_))
  show wpAny _ _ (do again (.builtin "list.__iadd__" ⟨[← newList [], .ref l], []⟩)) _ _ s
  refine wpAny_bind (wpAny_newList (wpAny_pure ⟨Code.quiet_builtin _ (by decide +kernel), codeAny_builtin entry_list_iadd' ?_⟩))
  show wpAny _ _ (Builtin.List.listExtendWith (.ref s.heap.objs.size) (.ref l) (.ref s.heap.objs.size)) _ _ { s with heap := s.heap.push (seqObj "list" #[] 0) }
  unfold Builtin.List.listExtendWith
  have ho' : (s.heap.push (seqObj "list" #[] 0)).get? l = some o := Heap.get?_push_of_some _ ho
  refine wpAny_bind (wpAny_typeOf (T := "tuple") ⟨o, ho', hc⟩ ?_)
  have ht : (Value.type "tuple" == Value.type "tuple") = true := by rfl
  rw [if_pos (by rw [ht]; simp)]
  refine wpAny_bind (listItems_at ho' hd ?_)
  refine wpAny_bind (listItems_at (xs := #[]) (n := 0) (Heap.get?_push_size _ rfl) rfl ?_)
  rw [if_neg (by simp)]
  refine wpAny_bind (listUpdate_at (xs := #[]) (n := 0) (Heap.get?_push_size _ rfl) rfl ?_ (Nat.zero_le _) (by show (#[] ++ vs.toArray).size ≤ sizeLine + 1; simp only [Array.size_append, List.size_toArray, List.length_nil]; omega))
  refine wpAny_pure ?_
  show wpAny (model prog w) A (do
      let o ← load s.heap.objs.size
      match o.data with
      | .seq xs _ => pure xs.toList
      | _ => unsupported "internal:collect") Q E { s with heap := (s.heap.push (seqObj "list" #[] 0)).update s.heap.objs.size (Obj.mapSeq (· ++ vs.toArray)) }
  refine wpAny_bind (wpAny_load (get?_update_seq (Heap.get?_push_size _ rfl) _) ?_)
  show wpAny _ _ (pure ((#[] : Array Value) ++ vs.toArray).toList) Q E _
  rw [show ((#[] : Array Value) ++ vs.toArray).toList = vs by simp]
  exact wpAny_pure h
open SrtO in
theorem sorted_ordC {v : Value} {vs : List Value} {ltv : Value → Value → Bool} {Q : Value → Shared → Prop} (O : Swo ltv) (hz : vs.length ≤ sizeLine)
    (hcol : ∀ (A : Around) (E : Value → Shared → Prop) (Q : List Value → Shared → Prop), Q vs { s with heap := (s.heap.push (seqObj "list" #[] 0)).update s.heap.objs.size (Obj.mapSeq (· ++ vs.toArray)) } → wpAny (model prog w) A (collect v) Q E s)
    (hS : 2 ≤ vs.length → ∀ (h₁ : Heap) (a : Addr), h₁.get? a = some (seqObj "list" vs.toArray 0) → (∀ b o, s.heap.get? b = some o → b ≠ a ∧ h₁.get? b = some o) → SortableO prog w A.in1.in1 { s with heap := h₁ } a vs ltv)
    (h : ∀ out : List Value, Srtd ltv out → Stb ltv out vs → Q (.ref (s.heap.objs.size + 1)) { s with heap := sortedAll s.heap vs out.toArray }) :
    wpAny (model prog w) A (call (.builtin "sorted") [v]) Q E s := by
  refine Calls.call_function_entry kind_sorted plain_sorted entry_sorted (args_sorted1 _) ?_
  unfold Builtin.«sorted»
  refine wpAny_bind (m := checkCount "sorted" 1 1 _) (wpAny_pure ?_)
  refine wpAny_bind (hcol _ _ _ ?_)
  refine wpAny_bind (wpAny_newList ?_ hz)
  have hsz : ((s.heap.push (seqObj "list" #[] 0)).update s.heap.objs.size (Obj.mapSeq (· ++ vs.toArray))).objs.size = s.heap.objs.size + 1 := by
    rw [Heap.size_update, size_push']
  have hoL : (((s.heap.push (seqObj "list" #[] 0)).update s.heap.objs.size (Obj.mapSeq (· ++ vs.toArray))).push (seqObj "list" vs.toArray 0)).get? (s.heap.objs.size + 1) = some (seqObj "list" vs.toArray 0) := by
    rw [← hsz]; exact Heap.get?_push_size _ rfl
  have keep : ∀ b o, s.heap.get? b = some o → b ≠ s.heap.objs.size + 1 ∧ (((s.heap.push (seqObj "list" #[] 0)).update s.heap.objs.size (Obj.mapSeq (· ++ vs.toArray))).push (seqObj "list" vs.toArray 0)).get? b = some o := fun b o q => by
    have hlt : b < s.heap.objs.size := Heap.lt_size q
    refine ⟨Nat.ne_of_lt (Nat.lt_succ_of_lt hlt), Heap.get?_push_of_some _ ?_⟩
    rw [Heap.get?_update_ne _ _ _ _ (Nat.ne_of_lt hlt)]
    exact Heap.get?_push_of_some _ q
  show wpAny _ _ _ _ _ { s with heap := ((s.heap.push (seqObj "list" #[] 0)).update s.heap.objs.size (Obj.mapSeq (· ++ vs.toArray))).push (seqObj "list" vs.toArray 0) }
  rw [hsz]
  refine wpAny_bind (wpAny_holding (wpAny_call_entry slot_list_sort ⟨_, hoL, rfl⟩ entry_list_sort (list_sort_ord O hoL hz (fun h2 => hS h2 _ _ hoL keep) fun out hs hb => ⟨_, rfl, ?_⟩) (args_list_sort _)))
  exact wpAny_pure ⟨_, rfl, h out hs hb⟩
end
def PrAt (K : PySem.W.Frag) (H : Hp) (x : V) (p : Int × Int) : Prop := ∃ t, x = V.ref t ∧ SqT K H t [.int p.1, .int p.2]
theorem PrAt.up {K : PySem.W.Frag} {H : Hp} {x : V} {p : Int × Int} {d : Addr} {o : HO} (h : PrAt K H x p) (hd : H d = none) : PrAt K (upd H d o) x p := by
  obtain ⟨t, e, s⟩ := h
  exact ⟨t, e, (Tp.new hd).t _ _ s⟩
def lexLe (p q : Int × Int) : Prop := p.1 < q.1 ∨ (p.1 = q.1 ∧ p.2 ≤ q.2)
def rSortedPT (K : PySem.W.Frag) : List V → Hp → VK → Prop := fun vs H Q => ∃ (a : Addr) (xs : List V) (ps : List (Int × Int)), vs = [V.ref a] ∧ (SqL K H a xs ∨ SqT K H a xs) ∧ Paired (PrAt K H) xs ps ∧
  ∀ ys ps' p, Paired (PrAt K H) ys ps' → ps'.Perm ps → ps'.Pairwise lexLe → H p = none → Q (.ref p) (upd H p (.lst ys))
theorem pair_fun {h : Heap} {u : Value} {i j k l : Int} (a : Srt.IsPair h u i j) (b : Srt.IsPair h u k l) : i = k ∧ j = l := by
  obtain ⟨a, o, t, v, n, rfl, ho, _, hd⟩ := a
  obtain ⟨a', o', t', v', n', e, ho', _, hd'⟩ := b
  cases e
  rw [ho] at ho'
  cases ho'
  rw [hd] at hd'
  cases hd'
  exact ⟨rfl, rfl⟩
open Classical in
noncomputable def kOf (h : Heap) (u : Value) : Int × Int := if z : ∃ p : Int × Int, Srt.IsPair h u p.1 p.2 then z.choose else (0, 0)
theorem kOf_eq {h : Heap} {u : Value} {p : Int × Int} (z : Srt.IsPair h u p.1 p.2) : kOf h u = p := by
  have w : ∃ p : Int × Int, Srt.IsPair h u p.1 p.2 := ⟨p, z⟩
  unfold kOf
  rw [dif_pos w]
  obtain ⟨e1, e2⟩ := pair_fun w.choose_spec z
  exact Prod.ext e1 e2
theorem paired_mem {α β : Type} {R : α → β → Prop} : ∀ {xs : List α} {ys : List β} {x : α}, Paired R xs ys → x ∈ xs → ∃ y ∈ ys, R x y
  | _, _, _, .nil, h => by cases h
  | _, _, _, .cons r t, h => by
    rcases List.mem_cons.mp h with rfl | h
    · exact ⟨_, List.mem_cons_self, r⟩
    · obtain ⟨y, hy, z⟩ := paired_mem t h
      exact ⟨y, List.mem_cons_of_mem _ hy, z⟩
theorem paired_map {α β : Type} {R : α → β → Prop} {k : α → β} : ∀ {xs : List α}, (∀ x ∈ xs, R x (k x)) → Paired R xs (xs.map k)
  | [], _ => .nil
  | x :: xs, h => .cons (h x List.mem_cons_self) (paired_map fun y hy => h y (List.mem_cons_of_mem _ hy))
section
variable {X : Cx}
theorem cr_sortedPT : CallR X (.builtin "sorted") (rSortedPT X.K) := by
  intro pins s σ H vs us Q I r h
  obtain ⟨a, xs, ps, rfl, hs, hx, q⟩ := h
  obtain ⟨u, rfl, ru⟩ := vals1 r
  obtain rfl : u = Value.ref a := ru
  have main : ∀ its : List Value, Vals xs its → its.length ≤ sizeLine → (∀ (A : Around) (E : Value → Shared → Prop) (Q : List Value → Shared → Prop), Q its { s with heap := (s.heap.push (seqObj "list" #[] 0)).update s.heap.objs.size (Obj.mapSeq (· ++ its.toArray)) } → wpAny (model X.prog X.w) A (collect (.ref a)) Q E s) →
      wpAny (model X.prog X.w) X.A (call (.builtin "sorted") [.ref a]) (EP X pins σ Q) X.xe s := fun its rv hz hcol => by
    obtain ⟨e1, e2⟩ := refs_back rv fun x m => by
      obtain ⟨p, _, t, e, _⟩ := paired_mem hx m
      exact ⟨t, e⟩
    have hv : ∀ x p, PrAt X.K H x p → ∀ u, RelV x u → Srt.IsPair s.heap u p.1 p.2 := fun x p z u ru => by
      obtain ⟨t, e, ht⟩ := z
      subst e
      cases ru
      obtain ⟨its2, r2, ⟨o, ho, hc, n, hd⟩, hz2⟩ := I.tuple ht
      obtain ⟨u1, u2, rfl, ri, rj⟩ := vals2 r2
      obtain ⟨t1, rfl⟩ := ri
      obtain ⟨t2, rfl⟩ := rj
      exact ⟨t, o, t1, t2, n, rfl, ho, hc, hd⟩
    have hk : its.map (kOf s.heap) = ps := by
      clear hcol hz e1 e2 q hs r
      induction rv generalizing ps with
      | nil => cases hx; rfl
      | cons rw' rt ih =>
        cases hx with
        | cons hp ht => rw [List.map_cons, kOf_eq (hv _ _ hp _ rw'), ih _ ht]
    have hp : ∀ v ∈ its, ∃ p, Srt.IsPair s.heap v p.1 p.2 ∧ PrAt X.K H (backV v) p := fun v hm => by
      obtain ⟨t, rfl⟩ := e2 v hm
      have hm : V.ref t ∈ xs := by rw [e1]; exact List.mem_map.mpr ⟨_, hm, rfl⟩
      obtain ⟨p, _, z⟩ := paired_mem hx hm
      exact ⟨p, hv _ _ z _ rfl, z⟩
    refine sorted_ordC (SrtO.swo_lex (kOf s.heap)) hz hcol (fun h2 h₁ a' ha kk => ?_) fun out h1 h2 => ?_
    · refine SrtO.pairs_sortableO (s := { s with heap := h₁ }) (by omega) (fun v hm => ?_) fun o e => ?_
      · obtain ⟨p, z, _⟩ := hp v hm
        rw [kOf_eq z]
        exact z.keeps fun b o e _ => (kk b o e).2
      · have e' : some o = some (seqObj "list" its.toArray 0) := e.symm.trans ha
        cases e'
        intro c
        exact absurd (Value.type.inj c) (by decide)
    · have h3 : ∀ u ∈ out, ∃ a, u = Value.ref a := fun u hu => e2 u (h2.perm.mem_iff.mp hu)
      obtain ⟨n, hn⟩ := sortedAll_at s.heap its out.toArray
      refine ⟨.ref _, upd H (s.heap.objs.size + 1) (.lst (out.map backV)), I.laid (t' := s.toks) (fun _ _ => sortedAll_old) (Nat.le_succ _) ⟨?_, out, n, vals_back h3, hn⟩, rfl, q _ (out.map (kOf s.heap)) _ ?_ ?_ ?_ (I.hok.fresh (Nat.le_succ _))⟩
      · rw [List.length_map, h2.perm.length_eq]
        exact hz
      · have z : Paired (fun u p => PrAt X.K H (backV u) p) out (out.map (kOf s.heap)) := paired_map fun u hu => by
          obtain ⟨p, z1, z2⟩ := hp u (h2.perm.mem_iff.mp hu)
          rw [kOf_eq z1]
          exact z2
        generalize out.map (kOf s.heap) = l at z
        clear hn h3 h1 h2
        induction z with
        | nil => exact .nil
        | cons a b ih => exact .cons a ih
      · rw [← hk]
        exact h2.perm.map _
      · rw [List.pairwise_map]
        refine h1.imp fun {x y} z => ?_
        have := SrtO.lexB_no.mp z
        unfold lexLe
        omega
  rcases hs with hs | hs
  · obtain ⟨its, rv, hl, hz⟩ := I.list hs
    have hz' : its.length ≤ sizeLine := by rw [← rv.length]; exact hz
    exact main its rv hz' fun A E Q q => collect_list hl.isList q hz'
  · obtain ⟨its, rv, hl, hz⟩ := I.tuple hs
    have hz' : its.length ≤ sizeLine := by
      first | exact hz | (rw [← rv.length]; exact hz)
    exact main its rv hz' fun A E Q q => collect_tupleA hl q hz'
end
def prI (p : Int × Int) : Dv := .tup [.int p.1, .int p.2]
def acSortP : ARC := fun ds M Q => match ds with
  | [d] => ∃ ps : List (Int × Int), itemsA d M = some (ps.map prI) ∧ ∀ ps' : List (Int × Int), ps'.Perm ps → ps'.Pairwise lexLe → ∀ p, M p = none → Q (.ref p) (mup M p (.lst (ps'.map prI)))
  | _ => False
theorem reps_prI {K : PySem.W.Frag} {H : Hp} : ∀ {ps : List (Int × Int)} {vs : List V}, Reps K H (ps.map prI) vs → Paired (PrAt K H) vs ps
  | [], vs, r => by rw [r.nil_inv]; exact .nil
  | p :: ps, vs, r => by
    obtain ⟨v, w, rfl, r1, r2⟩ := Reps.cons_inv (d := prI p) (ds := ps.map prI) (by simpa using r)
    obtain ⟨a, xs, e, s, z⟩ := rep_tup_inv r1
    obtain ⟨x, y, e2, z1, z2⟩ := reps2 z
    have ex := rep_int_inv z1
    have ey := rep_int_inv z2
    subst e e2 ex ey
    exact .cons ⟨a, rfl, s⟩ (reps_prI r2)
theorem pr_back {K : PySem.W.Frag} {H : Hp} : ∀ {ps : List (Int × Int)} {vs : List V}, Paired (PrAt K H) vs ps → Reps K H (ps.map prI) vs
  | _, _, .nil => .nil
  | _, _, .cons ⟨t, e, s⟩ r => by
    subst e
    exact .cons (rep_tup s (.cons rep_int (.cons rep_int .nil))) (pr_back r)
theorem abc_sortP {K : PySem.W.Frag} : AbC K (rSortedPT K) acSortP := by
  intro H M vs ds Q Q' r hv q k
  match ds, q with
  | [d], ⟨ps, h, q⟩ =>
    obtain ⟨v, e, rd⟩ := reps1 r
    obtain ⟨a, ws, e1, s, z⟩ := itemsA_ok rd hv h
    exact ⟨a, ws, ps, by rw [e, e1], s.symm, reps_prI z, fun ys ps' p hy hp hs hn => end_lst (pr_back hy) hv (q ps' hp hs) k p hn⟩
end HC
namespace HC
open PySem PySem.Spec L2 HT PyProof.Rows
section
variable {prog : Program} {w : World} {A : Around} {E : Value → Shared → Prop} {s : Shared}
theorem sliceApplied_rev {sl : Addr} {vl vu vs : Value} {n : Nat} {Q : Int × Int × Nat → Shared → Prop} (hs : s.heap.IsSliceOf sl vl vu vs) (pl : IsPart vl none) (pu : IsPart vu none) (ps : IsPart vs (some (-1)))
    (h : Q ((n : Int) - 1, -1, n) s) : wpAny (model prog w) A (Builtin.Slice.sliceApplied (.ref sl) (pure (n : Int))) Q E s := by
  obtain ⟨os, hos, hcs, hds⟩ := id hs
  unfold Builtin.Slice.sliceApplied Builtin.Slice.sliceFields
  refine wpAny_bind (wpAny_bind (wpAny_field hos hds (x := vl) rfl (wpAny_bind (wpAny_field hos hds (x := vu) rfl (wpAny_bind (wpAny_field hos hds (x := vs) rfl (wpAny_pure ?_)))))))
  refine wpAny_bind (slicePart_ ps ?_)
  show wpAny _ _ (if ((-1 : Int) == 0) = true then _ else _) _ _ s
  rw [if_neg (by decide)]
  refine wpAny_bind (slicePart_ pl (wpAny_bind (slicePart_ pu (wpAny_bind (wpAny_pure ?_)))))
  show wpAny _ _ (pure ((n : Int) - 1, (-1 : Int), Builtin.Slice.slicePlaces ((n : Int) - 1) (-1) (-1))) _ _ s
  have e : Builtin.Slice.slicePlaces ((n : Int) - 1) (-1) (-1) = n := by
    unfold Builtin.Slice.slicePlaces
    rw [if_neg (by decide)]
    by_cases h0 : n = 0
    · subst h0; rfl
    · rw [if_pos (by omega)]
      have : ((n : Int) - 1 - -1 - 1) / - -1 = (n : Int) - 1 := by
        rw [show (- -1 : Int) = 1 by decide, Int.ediv_one]; omega
      rw [this]
      omega
  rw [e]
  exact wpAny_pure h
theorem pick_back (xs : Array Value) : ((List.range xs.size).filterMap fun (m : Nat) => xs[((xs.size : Int) - 1 + (m : Int) * (-1)).toNat]?).toArray = xs.toList.reverse.toArray := by
  congr 1
  obtain ⟨l⟩ := xs
  simp only [List.size_toArray, List.getElem?_toArray]
  have e : (List.range l.length).filterMap (fun (m : Nat) => l[((l.length : Int) - 1 + (m : Int) * (-1)).toNat]?) = (List.range l.length).filterMap (fun m => l.reverse[m]?) := by
    have g : ∀ L : List Nat, (∀ m ∈ L, m < l.length) → L.filterMap (fun (m : Nat) => l[((l.length : Int) - 1 + (m : Int) * (-1)).toNat]?) = L.filterMap (fun m => l.reverse[m]?) := fun L => by
      induction L with
      | nil => intro _; rfl
      | cons m L ih =>
        intro hL
        have hm' := hL m List.mem_cons_self
        have em : l[((l.length : Int) - 1 + (m : Int) * (-1)).toNat]? = l.reverse[m]? := by
          rw [List.getElem?_reverse hm']
          congr 1
          omega
        rw [List.filterMap_cons, List.filterMap_cons, em, ih fun m hm => hL m (List.mem_cons_of_mem _ hm)]
    exact g _ fun m hm => List.mem_range.mp hm
  rw [e]
  have := pick_run l.reverse.toArray 0 l.length
  have e2 : List.take l.length l.reverse = l.reverse := List.take_of_length_le (by simp)
  simpa [List.filterMap_map, Function.comp_def, e2] using this
theorem getItem_tuple_rev {t sl : Addr} {items : Array Value} {vl vu vs : Value} {Q : Value → Shared → Prop} (ht : IsTup s.heap t items) (hs : s.heap.IsSliceOf sl vl vu vs) (pl : IsPart vl none) (pu : IsPart vu none) (ps : IsPart vs (some (-1)))
    (h : Q (.ref s.heap.objs.size) { s with heap := s.heap.push { cls := .type "tuple", data := .seq items.toList.reverse.toArray } })
    (hsz : items.size ≤ sizeLine) : wpAny (model prog w) A (getItem (.ref t) (.ref sl)) Q E s := by
  have htake : sizeOk (.seq items.toList.reverse.toArray) := by
    show items.toList.reverse.toArray.size ≤ sizeLine
    rw [List.size_toArray, List.length_reverse, Array.length_toList]
    omega
  obtain ⟨os, hos, hcs, hds⟩ := id hs
  have hTs : s.TypeIs (.ref sl) "slice" := ⟨os, hos, hcs⟩
  unfold getItem
  try with_reducible refine wpAny_holding ?_
  first | refine wpAny_bind (wpAny_pure ?_) | skip
  refine wpAny_bind (wpAny_sequenceKey ht.typeIs (by decide) ?_)
  refine wpAny_bind (wpAny_callSpecial?_slot (name := Str.ofString "__getitem__") ht.typeIs PyProof.Rows.slot_tuple_getitem
    (wpAny_call_entry PyProof.Rows.slot_tuple_getitem ht.typeIs entry_tuple_getitem ?_ (args_tuple_getitem _ _)))
  show wpAny _ _ (Builtin.Tuple.tupleItemsOf (.ref t) >>= _) _ _ s
  refine wpAny_bind (tupleItemsOf_ ht ?_)
  refine wpAny_bind (wpAny_typeOf hTs ?_)
  rw [if_pos (by decide)]
  refine wpAny_bind (sliceApplied_rev hs pl pu ps ?_)
  show wpAny _ _ (if (((items.size : Int) - 1) == 0 && (-1 : Int) == 1 && items.size == items.size) = true then _ else _) _ _ s
  rw [if_neg (by simp), pick_back]
  first
    | exact wpAny_bind (m := Builtin.Tuple.tupleExact _) (wpAny_newObj_type (wpAny_pure ⟨_, rfl, wpAny_pure h⟩) htake)
    | exact wpAny_bind (m := Builtin.Tuple.tupleExact _) (wpAny_newObj_type (wpAny_bind (wpAny_pure (wpAny_pure ⟨_, rfl, wpAny_pure h⟩))) htake)
    | exact wpAny_bind (wpAny_bind (m := Builtin.Tuple.tupleExact _) (wpAny_newObj_type (wpAny_pure (wpAny_pure ⟨_, rfl, wpAny_pure h⟩)) htake))
    | exact wpAny_bind (wpAny_bind (m := Builtin.Tuple.tupleExact _) (wpAny_newObj_type (wpAny_pure ⟨_, rfl, wpAny_pure h⟩) htake))
end
section
variable {X : Cx} {e : Expr} {te : RE}
def tRevT (K : PySem.W.Frag) (t : TE) : TE := fun σ H Q => t σ H fun x H1 => ∃ a xs, x = .ref a ∧ SqT K H1 a xs ∧ ∀ p, H1 p = none → Q (.ref p) (upd H1 p (.tup xs.reverse))
theorem pe_revT {te : TE} {k : Nat} {p1 p2 p3 pos : Pos} (he : PE X e te) : PE X (.Subscript e (.Slice none none (some (.UnaryOp .USub (.Constant (.int 1) k p1) p2)) p3) pos) (tRevT X.K te) := by
  refine ⟨fun pins s σ H Q I h => ?_⟩
  refine Subscript_ (thn (he.run pins s σ H _ I h) fun v s1 ⟨x, H1, I1, r1, q1⟩ => ?_)
  obtain ⟨a, xs, ex, hx, q⟩ := q1
  subst ex
  cases r1
  have hst : PO X (some (.UnaryOp .USub (.Constant (.int 1) k p1) p2)) (tPart (tUn (rU fun i => .int (-i)) (tC (.int 1)))) := po_some (pe_un un_neg pe_int)
  refine wpAny_Slice (thn (po_none.run pins s1 σ H1 (fun o H2 => o = none ∧ H2 = H1) I1 ⟨rfl, rfl⟩) fun vl s2 ⟨l, H2, I2, pl, el, e2⟩ => ?_)
  subst el e2
  refine thn (po_none.run pins s2 σ H2 (fun o H3 => o = none ∧ H3 = H2) I2 ⟨rfl, rfl⟩) fun vu s3 ⟨u, H3, I3, pu, eu, e3⟩ => ?_
  subst eu e3
  refine thn (hst.run pins s3 σ H3 (fun o H4 => o = some (-1) ∧ H4 = H3) I3 ⟨1, rfl, -1, rfl, rfl, rfl⟩) fun vs s4 ⟨o, H4, I4, ps, eo, e4⟩ => ?_
  subst eo e4
  have I5 : Inv X pins σ H4 { s4 with heap := s4.heap.push { cls := .type "slice", data := .fields #[vl, vu, vs] } } := I4.kept (t' := s4.toks) fun b ob q => Heap.get?_push_of_some _ q
  obtain ⟨its, r, ht, hz⟩ := I5.tuple hx
  have hlen := r.length
  show wpAny (model X.prog X.w) X.A (subscriptTail e (.Slice none none (some (.UnaryOp .USub (.Constant (.int 1) k p1) p2)) p3) (.ref a) (.ref s4.heap.objs.size)) (EP X pins σ Q) X.xe { s4 with heap := s4.heap.push { cls := .type "slice", data := .fields #[vl, vu, vs] } }
  refine tail_any (ops := [.ref a, .ref s4.heap.objs.size]) ht.typeIs (PyProof.Rows.slot_tuple_getitem.lookup) ?_ (by with_unfolding_all rfl)
  refine getItem_tuple_rev ht (Heap.IsSliceOf.new _ vl vu vs) pl pu ps ?_ (by rw [List.size_toArray]; omega)
  refine ⟨.ref _, _, I5.laid (t' := s4.toks) (o := .tup xs.reverse) (fun b ob q => Heap.get?_push_of_some _ q) (Nat.le_refl _) ?_, rfl, q _ (I5.hok.fresh (Nat.le_refl _))⟩
  exact ⟨by rw [List.length_reverse]; omega, _, r.reverse, IsTup.new _ _⟩
def aRevT (te : RE) : RE := fun ρ M Q => te ρ M fun d M1 => match d with
  | .tup xs => Q (.tup xs.reverse) M1
  | _ => False
theorem ae_revT {k : Nat} {p1 p2 p3 pos : Pos} (he : AE X e te) : AE X (.Subscript e (.Slice none none (some (.UnaryOp .USub (.Constant (.int 1) k p1) p2)) p3) pos) (aRevT te) :=
  pe_imp (pe_revT he) fun σ H Q' ⟨ρ, M, Q, hr, hv, q, k⟩ => seqE hr hv q fun v H1 d M1 t1 r1 v1 q1 => by
    cases d <;> first | exact q1.elim | skip
    case tup xs =>
      obtain ⟨a, vs, e1, s, z⟩ := rep_tup_inv r1
      exact ⟨a, vs, e1, s, end_tup z.rev v1 q1 (k.up t1)⟩
end
end HC
set_option maxHeartbeats 1000000
namespace HC
open PySem PySem.Spec L2 PyProof.Rows
theorem as_tryN {X : Cx} {body : List Stmt} {h₀ : ExceptHandler} {hs : List ExceptHandler} {pos : Pos} {t : RS} (hn : ∀ e s, ¬ X.xe e s) (hb : ASs X body t) : AS X (.Try body (h₀ :: hs) [] [] pos) t :=
  ps_imp (ps_try_never hn hb pss_nil) fun D σ H h => h
def castD : Dv → Dv
  | .tuc xs => .tup xs
  | d => d
theorem cast_rep {K : PySem.W.Frag} {H : Hp} {d : Dv} {v : V} (r : Rep K H d v) : Rep K H (castD d) v := by
  cases d <;> first | exact r | skip
  case tuc xs =>
    obtain ⟨a, vs, e, s, z⟩ := rep_tuc_inv r
    rw [e]
    exact rep_tup s.t z
def aCast (te : RE) : RE := fun ρ M Q => te ρ M fun d M1 => Q (castD d) M1
section
variable {X : Cx} {e o f : Expr} {es : List Expr} {te to tf : RE} {t : RA} {pos apos cpos p : Pos} {K : PySem.W.Frag}
theorem ae_cast (h : AE X e te) : AE X e (aCast te) := pe_imp h fun σ H Q' ⟨ρ, M, Q, hr, hv, q, k⟩ => ⟨ρ, M, _, hr, hv, q, fun v H' d M' t' r v' q' => k v H' (castD d) M' t' (cast_rep r) v' q'⟩
theorem call_tuple_ofC : CallR X (.type "tuple") (fun xs H Q => ∃ p ys, xs = [.ref p] ∧ SqL X.K H p ys ∧ ∀ (l : Addr) (o : Obj), o.dict = none → H l = none → Q (.ref l) (upd H l (.frz o (.tup ys)))) := by
  intro pins s σ H xs us Q I r h
  obtain ⟨p, ys, rfl, hq, q⟩ := h
  obtain ⟨u, rfl, rx⟩ := vals1 r
  cases rx
  obtain ⟨its, r', pl, hz⟩ := I.list hq
  have hlen := r'.length
  refine call_tuple_list pl.isList (fun h' kp => ?_) (by simp only [List.size_toArray] <;> omega)
  have I1 : Inv X pins σ H { s with heap := h' } := I.kept (t' := s.toks) kp
  exact ⟨.ref h'.objs.size, upd H h'.objs.size (.frz { cls := .type "tuple", data := .seq its.toArray } (.tup ys)),
    I1.laid (t' := s.toks) (o := .frz { cls := .type "tuple", data := .seq its.toArray } (.tup ys)) (fun b o e => Heap.get?_push_of_some _ e) (Nat.le_refl _) ⟨Heap.get?_push_size _ rfl, hz, its, r', IsTup.new _ _⟩, rfl, q _ _ rfl (I1.hok.fresh (Nat.le_refl _))⟩
def acTupC : ARC := fun ds M Q => match ds with
  | [d] => onS (lstA d M) fun xs => Q (.tuc xs) M
  | _ => False
theorem abc_tupC : AbC K (fun xs H Q => ∃ p ys, xs = [.ref p] ∧ SqL K H p ys ∧ ∀ (l : Addr) (o : Obj), o.dict = none → H l = none → Q (.ref l) (upd H l (.frz o (.tup ys)))) acTupC := by
  intro H M vs ds Q Q' r hv q k
  match ds, q with
  | [d], q =>
    obtain ⟨xs, h, q⟩ := onS_ex q
    obtain ⟨v, e, rd⟩ := reps1 r
    obtain ⟨a, ws, e1, s, z⟩ := lstA_ok rd hv h
    refine ⟨a, ws, by rw [e, e1], s, fun l o ho hl => k _ _ (.tuc xs) M (Tp.new hl) ?_ (hv.new hl) q⟩
    simp only [Rep]
    exact ⟨l, ws, rfl, ⟨o, upd_same, ho⟩, z.mono (Tp.new hl)⟩
open Classical in
noncomputable def cntD (xs : List Dv) (y : Dv) : Nat := xs.countP fun x => decide (x = y)
theorem count_data {ds : List PyData} {its : List Value} {f : Value → PyData} (h : its.map f = ds) (d : PyData) : its.countP (fun u => PyData.eqv (f u) d) = ds.countP fun z => PyData.eqv z d := by
  subst h
  rw [List.countP_map]
  rfl
theorem count_pl {n : Nat} {y : Dv} (hy : Pl n y) : ∀ {xs : List Dv}, (∀ x ∈ xs, Pl n x) → (xs.map (pyP n)).countP (fun z => PyData.eqv z (pyP n y)) = cntD xs y
  | [], _ => rfl
  | x :: xs, h => by
    have ih := count_pl hy (xs := xs) fun z hz => h z (List.mem_cons_of_mem _ hz)
    unfold cntD at ih ⊢
    rw [List.map_cons, List.countP_cons, List.countP_cons, ih, eqv_dec n x y (h x List.mem_cons_self) hy]
theorem cnt_room {ds : List PyData} {d : PyData} {u : Nat} (hd : PyData.depth d ≤ 20) (hu : u + 64 < cLine) : u + 1 + min (PyData.depthAll ds) d.depth < cLine := by
  have : min (PyData.depthAll ds) d.depth ≤ 20 := Nat.le_trans (Nat.min_le_right _ _) hd
  omega
def rCntL (K : PySem.W.Frag) : V → List V → Hp → VK → Prop := fun x xs H Q => ∃ (a : Addr) (vs : List V) (y : V) (d : PyData) (ds : List PyData), x = V.ref a ∧ xs = [y] ∧ SqL K H a vs ∧ DpAll K H vs ds ∧ Dp K H y d ∧ PyData.canLayAll0 ds = true ∧ d.canLay0 = true ∧ PyData.depth d ≤ 20 ∧
  Q (.int ((ds.countP fun z => PyData.eqv z d : Nat) : Int)) H
theorem mt_cntL (hu : X.A.units + 64 < cLine) : MtR X "list.count" (rCntL X.K) := by
  intro pins s σ H x xs v us Q I rx rxs h
  obtain ⟨a, vs, y, d, ds, rfl, rfl, hs, ha, hy, c1, c2, hd, q⟩ := h
  cases rx
  obtain ⟨uy, rfl, ry⟩ := rxs.one
  obtain ⟨bs, r1⟩ := Dp.reads I d y uy hy ry
  obtain ⟨its, rv, ⟨⟨cls, dd, data, sls⟩, n, ho, hc, hdn, hdt⟩, hlen⟩ := I.list hs
  simp only at hc hdt
  subst hc hdt
  obtain ⟨as, h4⟩ := Dp.readsAll I ds _ its ha rv
  have hmap : its.map (SeqAt.readOf s.heap) = ds := SeqAt.readsAll_map ds its as c1 h4
  refine call_meets PySem.F.slot_list_count ⟨_, ho, rfl⟩ PySem.F.entry_list_count (PySem.F.args_list_count_2 _ _)
    (SeqAt.list_countAt a its.toArray n dd sls uy (fun u => PyData.eqv (SeqAt.readOf s.heap u) d)) ⟨ho, SeqAt.items_eqAt (vs := its.toArray) (show ReadsAll s.heap its.toArray.toList ds as from h4) r1 c1 c2 (cnt_room hd hu), ?_⟩
  have ec : its.toArray.toList.countP (fun u => PyData.eqv (SeqAt.readOf s.heap u) d) = ds.countP fun z => PyData.eqv z d := count_data hmap d
  refine ⟨.int ((ds.countP fun z => PyData.eqv z d : Nat) : Int), H, I.tok _, ⟨s.toks, ?_⟩, q⟩
  rw [ec]
def rCntT (K : PySem.W.Frag) : V → List V → Hp → VK → Prop := fun x xs H Q => ∃ (a : Addr) (vs : List V) (y : V) (d : PyData) (ds : List PyData), x = V.ref a ∧ xs = [y] ∧ SqT K H a vs ∧ DpAll K H vs ds ∧ Dp K H y d ∧ PyData.canLayAll0 ds = true ∧ d.canLay0 = true ∧ PyData.depth d ≤ 20 ∧
  Q (.int ((ds.countP fun z => PyData.eqv z d : Nat) : Int)) H
theorem mt_cntT (hu : X.A.units + 64 < cLine) : MtR X "tuple.count" (rCntT X.K) := by
  intro pins s σ H x xs v us Q I rx rxs h
  obtain ⟨a, vs, y, d, ds, rfl, rfl, hs, ha, hy, c1, c2, hd, q⟩ := h
  cases rx
  obtain ⟨uy, rfl, ry⟩ := rxs.one
  obtain ⟨bs, r1⟩ := Dp.reads I d y uy hy ry
  obtain ⟨its, rv, ⟨⟨cls, dd, data, sls⟩, ho, hc, n, hdt⟩, hlen⟩ := I.tuple hs
  simp only at hc hdt
  subst hc hdt
  obtain ⟨as, h4⟩ := Dp.readsAll I ds _ its ha rv
  have hmap : its.map (SeqAt.readOf s.heap) = ds := SeqAt.readsAll_map ds its as c1 h4
  refine call_meets PySem.F.slot_tuple_count ⟨_, ho, rfl⟩ PySem.F.entry_tuple_count (PySem.F.args_tuple_count_2 _ _)
    (SeqAt.tuple_countAt a its.toArray n dd sls uy (fun u => PyData.eqv (SeqAt.readOf s.heap u) d)) ⟨ho, SeqAt.items_eqAt (vs := its.toArray) (show ReadsAll s.heap its.toArray.toList ds as from h4) r1 c1 c2 (cnt_room hd hu), ?_⟩
  have ec : its.toArray.toList.countP (fun u => PyData.eqv (SeqAt.readOf s.heap u) d) = ds.countP fun z => PyData.eqv z d := count_data hmap d
  refine ⟨.int ((ds.countP fun z => PyData.eqv z d : Nat) : Int), H, I.tok _, ⟨s.toks, ?_⟩, q⟩
  rw [ec]
noncomputable def amCnt : ARM := fun x ds M Q => match ds with
  | [y] => onS (itemsA x M) fun xs => (∀ z ∈ xs, Pl 8 z) ∧ Pl 8 y ∧ Q (.int (cntD xs y : Nat)) M
  | _ => False
theorem cnt_ok {H : Hp} {M : Ms} {xs : List Dv} {vs : List V} {y : Dv} {u : V} {P : Nat → Prop} (z : Reps K H xs vs) (ry : Rep K H y u) (h1 : ∀ z ∈ xs, Pl 8 z) (h2 : Pl 8 y) (q : P (cntD xs y)) :
    ∃ (d : PyData) (ds : List PyData), DpAll K H vs ds ∧ Dp K H u d ∧ PyData.canLayAll0 ds = true ∧ d.canLay0 = true ∧ PyData.depth d ≤ 20 ∧ P (ds.countP fun z => PyData.eqv z d) := by
  have d2 := depth_pl 8 _ h2
  exact ⟨_, _, dpAll_of (dp_of 8) h1 z, dp_of 8 _ _ h2 ry, canLayAll_of fun d hd => canLay_pl 8 d (h1 d hd), canLay_pl _ _ h2, by omega, by rw [count_pl h2 h1]; exact q⟩
def onTuc (d : Dv) (Q : List Dv → Prop) : Prop := match d with | .tuc xs => Q xs | _ => False
theorem onTuc_ex {d : Dv} {Q : List Dv → Prop} (h : onTuc d Q) : ∃ xs, d = .tuc xs ∧ Q xs := by
  cases d <;> first | exact h.elim | exact ⟨_, rfl, h⟩
noncomputable def aCntL (to : RE) (t : RA) : RE := fun ρ M Q => to ρ M fun x M1 => tyM "list" x M1 ∧ t ρ M1 fun ds M2 => tyM "list" x M2 ∧ amCnt x ds M2 Q
noncomputable def aCntT (to : RE) (t : RA) : RE := fun ρ M Q => to ρ M fun x M1 => onTuc x fun xs => t ρ M1 fun ds M2 => amCnt (.tup xs) ds M2 Q
theorem lst_of_tyM {x : Dv} {M : Ms} {xs : List Dv} (h : itemsA x M = some xs) (ht : tyM "list" x M) : lstA x M = some xs := by
  cases x <;> first | exact h | exact ht.elim
theorem ae_countL (hu : X.A.units + 64 < cLine) (ho : AE X o to) (ha : AA X [e] t) (hline : (apos.endLine == cpos.line) = true := by rfl) (hbase : attributeBase o "count" X.env (eval o X.env) = eval o X.env := by rfl)
    (hfew : ((backTo cpos (starEach [e] X.env)).all (fun x => !x.1) && (backToKw cpos (keywordEach [] X.env)).all (fun x => x.1.isSome)
      && decide (([e] : List Expr).length + ([] : List Keyword).length + (if ([] : List Keyword).isEmpty then 0 else 1) < 30)) = true := by rfl)
    (hs : starEach [e] X.env = (false, eval e X.env) :: starEach [] X.env := by rfl) (hplain : (backTo cpos (starEach [] X.env)).any (·.1) = false := by rfl) :
    AE X (.Call (.Attribute o "count" apos) [e] [] cpos) (aCntL to t) :=
  pe_imp (pe_bm PySem.F.plainAttrs_list PySem.F.slot_list_count PySem.F.type_list_count (mt_cntL hu) ho ha hbase hfew hline hs hplain) fun σ H Q' ⟨ρ, M, Q, hr, hv, q, k⟩ =>
    seqE hr hv q fun v H1 d M1 t1 r1 v1 ⟨ht, q1⟩ => ⟨tyM_ok r1 v1 ht, seqA (hr.mono t1) v1 q1 fun vs H2 ds M2 t2 r2 v2 ⟨ht2, q2⟩ => by
      match ds, q2 with
      | [y], q2 =>
        obtain ⟨xs, hx, p1, p2, q3⟩ := onS_ex q2
        obtain ⟨u, eu, ry⟩ := reps1 r2
        obtain ⟨a, ws, e1, s, z⟩ := lstA_ok (r1.mono t2) v2 (lst_of_tyM hx ht2)
        obtain ⟨d', ds', g1, g2, g3, g4, g5, g6⟩ := cnt_ok (M := M2) (P := fun n => Q (.int (n : Int)) M2) z ry p1 p2 q3
        exact ⟨a, ws, u, d', ds', e1, eu, s, g1, g2, g3, g4, g5, k _ _ _ _ (t1.trans t2) rep_int v2 g6⟩⟩
theorem ae_countT (hu : X.A.units + 64 < cLine) (ho : AE X o to) (ha : AA X [e] t) (hline : (apos.endLine == cpos.line) = true := by rfl) (hbase : attributeBase o "count" X.env (eval o X.env) = eval o X.env := by rfl)
    (hfew : ((backTo cpos (starEach [e] X.env)).all (fun x => !x.1) && (backToKw cpos (keywordEach [] X.env)).all (fun x => x.1.isSome)
      && decide (([e] : List Expr).length + ([] : List Keyword).length + (if ([] : List Keyword).isEmpty then 0 else 1) < 30)) = true := by rfl)
    (hs : starEach [e] X.env = (false, eval e X.env) :: starEach [] X.env := by rfl) (hplain : (backTo cpos (starEach [] X.env)).any (·.1) = false := by rfl) :
    AE X (.Call (.Attribute o "count" apos) [e] [] cpos) (aCntT to t) := by
  refine ⟨fun pins s σ H Q' I ⟨ρ, M, Q, hr, hv, q, k⟩ => ?_⟩
  refine wpAny_Call_method_late hbase hfew hline rfl (thn (ho.run pins s σ H _ I (seqE (Q' := fun v H1 => ∃ xs M1, Tp X.K H H1 ∧ Rep X.K H1 (.tuc xs) v ∧ View X.K M1 H1 ∧ t ρ M1 fun ds M2 => amCnt (.tup xs) ds M2 Q) hr hv q fun v H1 d M1 t1 r1 v1 q1 => by
    obtain ⟨xs, e, q2⟩ := onTuc_ex q1
    subst e
    exact ⟨xs, M1, t1, r1, v1, q2⟩)) fun v s1 ⟨x, H1, I1, r1, xs, M1, t1, rd, v1, q1⟩ => ?_)
  obtain ⟨a, vs, rfl, sc, z⟩ := rep_tuc_inv rd
  cases r1
  have sT := SqC.t (K := X.K) sc
  obtain ⟨ob, hob, hdn⟩ := sc
  have hget : s1.heap.get? a = some ob := (I1.hok a _ hob).1
  obtain ⟨its, rv, ⟨o2, ho2, hc2, n2, hd2⟩, hz⟩ := I1.tuple sT
  rw [hget] at ho2
  cases ho2
  refine ⟨"tuple", "tuple.count", PySem.F.plainAttrs_tuple, PySem.F.slot_tuple_count, PySem.F.type_tuple_count, ⟨ob, hget, hc2⟩, fun b e => by cases e; exact ⟨ob, hget, hdn⟩, ?_⟩
  have hA := ha.run cpos pins s1 σ H1 (fun us H2 => rCntT X.K (.ref a) us H2 Q') I1 (seqA (hr.mono t1) v1 q1 fun ws H2 ds M2 t2 r2 v2 q2 => by
    match ds, r2, q2 with
    | [y], r2, q2 =>
      obtain ⟨p1, p2, q3⟩ : (∀ z ∈ xs, Pl 8 z) ∧ Pl 8 y ∧ Q (.int (cntD xs y : Nat)) M2 := q2
      obtain ⟨u, eu, ry⟩ := reps1 r2
      obtain ⟨d', ds', g1, g2, g3, g4, g5, g6⟩ := cnt_ok (M := M2) (P := fun n => Q (.int (n : Int)) M2) (z.mono t2) ry p1 p2 q3
      exact ⟨a, vs, u, d', ds', rfl, eu, t2.t _ _ sT, g1, g2, g3, g4, g5, k _ _ _ _ (t1.trans t2) rep_int v2 g6⟩)
  rw [hs] at hA ⊢
  refine Calls.callWith_builtin (by show (false || (backTo cpos (starEach [] X.env)).any (·.1)) = false; rw [hplain] <;> rfl) (Calls.evalArgs_plain ?_)
  exact thn hA fun us s2 ⟨ws, H2, I2, r2, q2⟩ => mt_cntT hu pins s2 σ H2 (.ref a) ws _ us Q' I2 rfl r2 q2
end
end HC
namespace HC
open PySem L2
theorem hu65_of {k : Nat} {A : Around} (r : Room k A) : A.units + 65 < cLine := by
  have := r.un
  omega
end HC
set_option maxHeartbeats 1000000
namespace HC
open PySem PySem.Spec L2 PyProof.Rows
section
variable {X : Cx} {e o f tg : Expr} {es : List Expr} {te to tf : RE} {t : RA} {pos apos cpos p : Pos} {K : PySem.W.Frag}
def aSetd (to te tf : RE) : RE := fun ρ M Q => to ρ M fun x M1 => match x with
  | .ref a => (∃ kvs, M1 a = some (.dic kvs)) ∧ te ρ M1 fun y M2 => tf ρ M2 fun z M3 => match M3 a with
    | some (.dic kvs) => onS (keyD y) fun k => kvs.length < sizeLine ∧ match getK kvs k with
      | some d => Q d M3
      | none => Q z (mup M3 a (.dic (putA kvs k z)))
    | _ => False
  | _ => False
theorem view_dic {M : Ms} {H : Hp} {a : Addr} {kds : List (Key × Dv)} (hv : View K M H) (h : M a = some (.dic kds)) : ∃ kvs, H a = some (.dK kvs) ∧ KP K H Key kds kvs := hv a _ h
theorem ae_setd (ho : AE X o to) (he : AE X e te) (hf : AE X f tf) (m : M2 X o "setdefault" apos e f cpos) : AE X (.Call (.Attribute o "setdefault" apos) [e, f] [] cpos) (aSetd to te tf) :=
  pe_imp (pe_dsetd ho he hf m) fun σ H Q' ⟨ρ, M, Q, hr, hv, q, k⟩ => seqE hr hv q fun v H1 d M1 t1 r1 v1 q1 => by
    cases d <;> first | exact q1.elim | skip
    case ref a =>
      obtain ⟨⟨kds0, e0⟩, q1⟩ := q1
      obtain ⟨kv0, e00, _⟩ := view_dic v1 e0
      refine ⟨a, rep_ref_inv r1, .inl ⟨kv0, .inl e00⟩, ?_⟩
      refine seqE (hr.mono t1) v1 q1 fun y H2 dy M2 t2 r2 v2 q2 => ?_
      have t12 := t1.trans t2
      refine seqE (hr.mono t12) v2 q2 fun z H3 dz M3 t3 r3 v3 q3 => ?_
      have t13 := t12.trans t3
      split at q3
      · next kds e3 =>
        obtain ⟨kk, e4, hl, q4⟩ := onS_ex q3
        obtain ⟨kvs, e5, r⟩ := view_dic v3 e3
        have ey : y = kV kk := keyD_ok (r2.mono t3) e4
        have tp := Tp.put (K := X.K) (H := H3) (a := a) (o := .dK (putK kvs kk z)) (v3.soft e3)
        refine ⟨kvs, kk, e5, ey, by rw [← kp_len r]; exact hl, fun w hw => ?_, fun hn => ?_⟩
        · rcases getK_ok (k := kk) r with ⟨h1, h2⟩ | ⟨d', v', h1, h2, h3⟩
          · rw [h2] at hw; cases hw
          · rw [h2] at hw
            cases hw
            rw [h1] at q4
            exact k _ _ d' _ t13 h3 v3 q4
        · rcases getK_ok (k := kk) r with ⟨h1, h2⟩ | ⟨d', v', h1, h2, h3⟩
          · rw [h1] at q4
            exact k _ _ dz _ (t13.trans tp) (r3.mono tp) (v3.put (c := .dic (putA kds kk dz)) (v3.soft e3) ⟨_, upd_same, kp_mono (kp_put r3 r) tp⟩) q4
          · rw [h2] at hn; cases hn
      · exact q3.elim
def keyDv : Key → Dv
  | .inl i => .int i
  | .inr x => .str x
theorem rep_key {H : Hp} (k : Key) : Rep K H (keyDv k) (kV k) := by cases k <;> first | exact rep_int | exact rep_str
theorem reps_keys {H : Hp} : ∀ ks : List Key, Reps K H (ks.map keyDv) (ks.map kV)
  | [] => .nil
  | k :: ks => .cons (rep_key k) (reps_keys ks)
def dicA (M : Ms) (d : Dv) : Option (List (Key × Dv)) := match d with
  | .ref a => match M a with
    | some (.dic kvs) => some kvs
    | some (.fdc kvs) => some kvs
    | _ => none
  | _ => none
theorem dicA_ok {M : Ms} {H : Hp} {d : Dv} {v : V} {kds : List (Key × Dv)} (r : Rep K H d v) (hv : View K M H) (h : dicA M d = some kds) : ∃ a kvs, v = .ref a ∧ d = .ref a ∧ Rd H a (.dK kvs) ∧ KP K H Key kds kvs := by
  cases d <;> first | cases h; done | skip
  case ref a =>
    simp only [dicA] at h
    split at h
    · next kvs e =>
      cases h
      obtain ⟨ws, e2, z⟩ := view_dic hv e
      exact ⟨a, ws, rep_ref_inv r, rfl, .inl e2, z⟩
    · next kvs e =>
      cases h
      obtain ⟨ws, ob, e2, z⟩ := (show ∃ kvs' o', H a = some (.frz o' (.dK kvs')) ∧ KP K H Key kds kvs' from hv a _ e)
      exact ⟨a, ws, rep_ref_inv r, rfl, .inr ⟨ob, e2⟩, z⟩
    · cases h
theorem kp_keys {H : Hp} {kds : List (Key × Dv)} {kvs : List (Key × V)} (h : KP K H Key kds kvs) : kds.map (·.1) = kvs.map (·.1) := by
  induction h with
  | nil => rfl
  | cons r t ih => rw [List.map_cons, List.map_cons, ih, r.1]
def acLstD : ARC := fun ds M Q => match ds with
  | [d] => onS (dicA M d) fun kds => ∀ p, M p = none → Q (.ref p) (mup M p (.lst (kds.map fun kv => keyDv kv.1)))
  | _ => False
theorem abc_lstD : AbC K (fun xs H Q => ∃ (a : Addr) (kvs : List (Key × V)), xs = [.ref a] ∧ Rd H a (.dK kvs) ∧ ∀ p, H p = none → Q (.ref p) (upd H p (.lst (kvs.map fun kv => kV kv.1)))) acLstD := by
  intro H M vs ds Q Q' r hv q k
  match ds, q with
  | [d], q =>
    obtain ⟨kds, h, q⟩ := onS_ex q
    obtain ⟨v, e, rd⟩ := reps1 r
    obtain ⟨a, kvs, e1, _, z, kp⟩ := dicA_ok rd hv h
    refine ⟨a, kvs, by rw [e, e1], z, end_lst ?_ hv q k⟩
    have e2 : (kds.map fun kv => keyDv kv.1) = (kvs.map (·.1)).map keyDv := by
      rw [← kp_keys kp, List.map_map]
      rfl
    have e3 : (kvs.map fun kv => kV kv.1) = (kvs.map (·.1)).map kV := by
      rw [List.map_map]
      rfl
    rw [e2, e3]
    exact reps_keys _
def rSortedDI : List V → Hp → VK → Prop := fun xs H Q => ∃ (a : Addr) (kvs : List (Key × V)) (ns : List Int), xs = [.ref a] ∧ Rd H a (.dK kvs) ∧ kvs.map (·.1) = ns.map Sum.inl ∧
  ∀ (ns' : List Int) (p : Addr), ns'.Perm ns → ns'.Pairwise (· ≤ ·) → H p = none → Q (.ref p) (upd H p (.lst (ns'.map V.int)))
theorem ints_atK : ∀ {us : List Value} {ns : List Int}, us.length = ns.length → (∀ j v, us[j]? = some v → ∃ t, v = Value.int (ns.getD j 0) t) → IntsAre us ns
  | [], [], _, _ => .nil
  | [], _ :: _, h, _ => by simp at h
  | _ :: _, [], h, _ => by simp at h
  | u :: us, n :: ns, hl, h => by
    obtain ⟨t, e⟩ := h 0 u rfl
    have e' : u = Value.int n t := e
    subst e'
    exact .cons _ _ (ints_atK (by simpa using hl) fun j v hv => h (j + 1) v (by simpa using hv))
theorem cr_sortedDI (hcalm : X.calm = true) : CallR X (.builtin "sorted") rSortedDI := by
  intro pins s σ H xs us Q I r q
  obtain ⟨a, kvs, ns, ex, hd, hks, q⟩ := q
  subst ex
  obtain ⟨u, eu, rx⟩ := vals1 r
  subst eu
  cases rx
  obtain ⟨z, lo, vs, rel, dd⟩ := dk_rd I.hok hd
  obtain ⟨ep, hat⟩ := dd.dictAt
  have hkeys : vs.map (·.1) = ns.map Sum.inl := rel.keys.symm.trans hks
  have hl : vs.length = ns.length := by
    have e := congrArg List.length hkeys
    rw [List.length_map, List.length_map] at e
    exact e
  have hz : vs.length ≤ sizeLine := by rw [← rel.length]; exact z
  refine Calls.call_function_entry PyProof.Rows.kind_sorted PyProof.Rows.plain_sorted PyProof.Rows.entry_sorted (PyProof.Rows.args_sorted1 _) ?_
  unfold Builtin.«sorted»
  refine wpAny_bind (m := checkCount "sorted" 1 1 _) (wpAny_pure ?_)
  refine wpAny_bind (PySem.W.kdu_collect (A := X.A.in1) (PySem.W.kdl_dict (knd := mixKind X.prog X.w) (kvs := vs) (ep := ep) lo) (I.ok.hd hcalm) hat hz fun h' tk acc hk hacc => ?_)
  have hal : acc.toList.length = ns.length := by rw [Array.length_toList, hacc.1, hl]
  have hS : IntsAre acc.toList ns := ints_atK hal fun j v e => by
    obtain ⟨k, x, e1, e2⟩ := hacc.2 j v (by rw [← Array.getElem?_toList]; exact e)
    have e3 : (vs.map (·.1))[j]? = some k := by rw [List.getElem?_map, e1]; all_goals rfl
    rw [hkeys, List.getElem?_map] at e3
    rw [List.getD_eq_getElem?_getD]
    cases e4 : ns[j]? with
    | none => rw [e4] at e3; cases e3
    | some y =>
      rw [e4] at e3
      have e5 : Sum.inl y = k := Option.some.inj e3
      subst e5
      rcases keyIs_shape (k := Sum.inl y) (v := v) e2 with ⟨i, t, ek, ev⟩ | ⟨_, _, ek, _⟩
      · cases ek
        exact ⟨t, ev⟩
      · cases ek
  have I1 : Inv X pins σ H { s with heap := h', toks := tk } := I.kept hk
  have hz2 : acc.toList.length ≤ sizeLine := by rw [hal, ← hl]; exact hz
  refine wpAny_bind (wpAny_newList ?_ hz2)
  have hoL : (h'.push (seqObj "list" acc.toList.toArray 0)).get? h'.objs.size = some (seqObj "list" acc.toList.toArray 0) := Heap.get?_push_size _ rfl
  show wpAny _ _ _ _ _ { s with heap := h'.push (seqObj "list" acc.toList.toArray 0), toks := tk }
  refine wpAny_bind (wpAny_holding (wpAny_call_entry PyProof.Rows.slot_list_sort ⟨_, hoL, rfl⟩ PyProof.Rows.entry_list_sort
    (SrtO.list_sort_ord SrtO.swo_int (s := { s with heap := h'.push (seqObj "list" acc.toList.toArray 0), toks := tk }) hoL hz2 (fun h2 => SrtO.ints_sortable hS h2) fun out h1 h2 => ⟨_, rfl, ?_⟩)
    (PyProof.Rows.args_list_sort _)))
  obtain ⟨k1, k2, k3⟩ := SrtO.ints_out hS h1 h2
  obtain ⟨e', he'⟩ := PyProof.Rows.sortedHeap_at (vs := acc.toList) (out := out.toArray) hoL
  have hlen : ((out.map SrtO.iv).map V.int).length ≤ sizeLine := by
    rw [List.length_map, k2.length_eq, ← hal]
    exact hz2
  refine wpAny_pure ⟨_, rfl, .ref h'.objs.size, upd H h'.objs.size (.lst ((out.map SrtO.iv).map V.int)), I1.laid (t' := tk) (fun b u e => ?_) (Nat.le_refl _)
    (show ObjOk X.prog X.w _ _ _ (.lst ((out.map SrtO.iv).map V.int)) from ⟨hlen, out, e', vals_of_ints k1, he'⟩), rfl, q _ _ k2 k3 (I1.hok.fresh (Nat.le_refl _))⟩
  have hb : b < h'.objs.size := Heap.lt_size e
  rw [PyProof.Rows.sortedHeap_old (Nat.ne_of_lt hb) (by rw [size_push']; exact Nat.lt_succ_of_lt hb)]
  exact Heap.get?_push_of_some _ e
def acSortDI : ARC := fun ds M Q => match ds with
  | [d] => onS (dicA M d) fun kds => ∃ ns : List Int, kds.map (·.1) = ns.map Sum.inl ∧ ∀ ns' : List Int, ns'.Perm ns → ns'.Pairwise (· ≤ ·) → ∀ p, M p = none → Q (.ref p) (mup M p (.lst (ns'.map Dv.int)))
  | _ => False
theorem abc_sortDI : AbC K rSortedDI acSortDI := by
  intro H M vs ds Q Q' r hv q k
  match ds, q with
  | [d], q =>
    obtain ⟨kds, h, ns, hk, q⟩ := onS_ex q
    obtain ⟨v, e, rd⟩ := reps1 r
    obtain ⟨a, kvs, e1, _, z, kp⟩ := dicA_ok rd hv h
    exact ⟨a, kvs, ns, by rw [e, e1], z, by rw [← kp_keys kp]; exact hk, fun ns' p h1 h2 hn => end_lst (reps_ints ns') hv (q ns' h1 h2) k p hn⟩
end
end HC
namespace HC
open PySem PySem.Spec L2 PyProof.Rows
theorem inv_frzD {X : Cx} {pins : List (Addr × Obj)} {σ : L2.St} {H : Hp} {s : Shared} {a : Addr} {kvs : List (Key × V)} (I : Inv X pins σ H s) (h : H a = some (.dK kvs)) : ∃ o, Inv X pins σ (upd H a (.frz o (.dK kvs))) s := by
  have hk := I.hok a _ h
  obtain ⟨o, e⟩ : ∃ o, s.heap.get? a = some o := objOk_get hk
  have ne : ∀ {b : Addr} {u : HO}, H b = some u → u ≠ .dK kvs → b ≠ a := fun {b u} q hu e' => by
    subst e'; rw [h] at q; cases q; exact hu rfl
  refine ⟨o, I.un (h' := s.heap) (t' := s.toks) ⟨fun b o q n hb hx => q, fun b o q n _ _ => ⟨o.slots, q⟩, fun b o q n hx => ?_, fun b o q _ => ⟨o, q⟩, fun b ys q => ?_, fun b o u q => ?_, fun b ps q => ⟨#[], ?_⟩⟩ fun b u (q : upd H a (.frz o (.dK kvs)) b = some u) => ?_⟩
  · rw [upd_ne]
    · exact n
    · intro e'; subst e'; rw [h] at n; cases n
  · rw [upd_ne (ne q (fun z => nomatch z))]; exact q
  · rw [upd_ne (ne q (fun z => nomatch z))]; exact q
  · rw [upd_ne (ne q (fun z => nomatch z))]; simpa using q
  · by_cases hb : b = a
    · subst hb
      rw [upd_same] at q
      cases q
      refine ⟨e, ?_⟩
      exact hk.stay (fun _ _ _ q => q) (fun c q => by rw [upd_ne (ne q (fun z => nomatch z))]; exact q) (fun c ys q => by rw [upd_ne (ne q (fun z => nomatch z))]; exact q)
    · rw [upd_ne hb] at q
      exact (I.hok b u q).stay (fun _ _ _ q => q) (fun c q => by rw [upd_ne (ne q (fun z => nomatch z))]; exact q) (fun c ys q => by rw [upd_ne (ne q (fun z => nomatch z))]; exact q)
theorem pe_frzD {X : Cx} {e : Expr} {t : TE} (h : PE X e t) : PE X e (fun σ H Q => t σ H (fun v H' => Q v H' ∨ ∃ a kvs, v = .ref a ∧ H' a = some (.dK kvs) ∧ ∀ o, Q v (upd H' a (.frz o (.dK kvs))))) :=
  ⟨fun pins s σ H Q I q => thn (h.run pins s σ H _ I q) fun u s' ⟨v, H', I', r, q'⟩ => by
    rcases q' with q' | ⟨a, kvs, e, hl, q'⟩
    · exact ⟨v, H', I', r, q'⟩
    · obtain ⟨o, I2⟩ := inv_frzD I' hl
      exact ⟨v, _, I2, r, q' o⟩⟩
section
variable {X : Cx} {e o f tg : Expr} {es : List Expr} {te to tf : RE} {t : RA} {pos apos cpos p : Pos} {K : PySem.W.Frag}
def aiKeys (te : RE) : RI := fun ρ M Q => te ρ M fun x M1 => match x with
  | .ref a => match M1 a with
    | some (.dic kds) => Q (kds.map fun kv => keyDv kv.1) (fun _ => True) (mup M1 a (.fdc kds))
    | some (.fdc kds) => Q (kds.map fun kv => keyDv kv.1) (fun _ => True) M1
    | _ => False
  | _ => False
theorem iw_keys {a : Addr} {ob : Obj} {kds : List (Key × Dv)} {kvs : List (Key × V)} {H0 H1 : Hp} (z : KP K H0 Key kds kvs) (h : H1 a = some (.frz ob (.dK kvs))) : IW K (Itk a ob kvs) (kds.map fun kv => keyDv kv.1) (fun _ => True) H1 where
  go := fun i H M hi t v _ => ⟨t.d _ _ _ h, by rw [← kp_len z]; simpa using hi⟩
  stop := fun H M t v _ => ⟨t.d _ _ _ h, by rw [List.length_map, kp_len z]; exact Nat.le_refl _⟩
  yld := fun i H M x H' hi t v _ y => by
    obtain ⟨e, k, w, hk, ex⟩ := y
    subst e
    have ek := kp_keys z
    have e2 : (kds.map (·.1))[i]? = some k := by rw [ek, List.getElem?_map, hk]; rfl
    refine ⟨keyDv k, ?_, Tp.refl _, ?_, v, fun _ _ => rfl⟩
    · rw [List.getElem?_map] at e2 ⊢
      obtain ⟨q, hq, e3⟩ := Option.map_eq_some_iff.mp e2
      rw [hq, ← e3]
      rfl
    · rw [ex]; exact rep_key k
theorem ai_keys (he : AE X e te) : AI X tg e (aiKeys te) :=
  pi_imp (pi_keys (pe_frzD he)) fun σ H R ⟨ρ, M, Q, hr, hv, q, k⟩ => seqE hr hv q fun v H1 d M1 t1 r1 v1 q1 => by
    cases d <;> first | exact q1.elim | skip
    case ref a =>
      have ev := rep_ref_inv r1
      subst ev
      simp only [] at q1
      split at q1
      · next kds e =>
        obtain ⟨kvs, e2, z⟩ := view_dic v1 e
        refine .inr ⟨a, kvs, rfl, e2, fun ob => ?_⟩
        have tp := Tp.put (K := X.K) (H := H1) (a := a) (o := .frz ob (.dK kvs)) (v1.soft e)
        have z2 := kp_mono z tp
        exact ⟨a, ob, rfl, .inl ⟨kvs, upd_same, k _ _ _ _ _ (t1.trans tp) (v1.put (c := .fdc kds) (v1.soft e) ⟨kvs, ob, upd_same, z2⟩) q1 (iw_keys z upd_same)⟩⟩
      · next kds e =>
        obtain ⟨kvs, ob, e2, z⟩ := (show ∃ kvs' o', H1 a = some (.frz o' (.dK kvs')) ∧ KP X.K H1 Key kds kvs' from v1 a _ e)
        exact .inl ⟨a, ob, rfl, .inl ⟨kvs, e2, k _ _ _ _ _ t1 v1 q1 (iw_keys z e2)⟩⟩
      · exact q1.elim
def aIxD : AR2 := fun x y M Q => onS (dicA M x) fun kds => onS (keyD y) fun k => onS (getK kds k) fun d => Q d M
theorem ab_ixD : Ab2 K (rIxH K) aIxD := by
  intro H M x y dx dy Q Q' rx ry hv q k
  obtain ⟨kds, h, q⟩ := onS_ex q
  obtain ⟨kk, e1, q⟩ := onS_ex q
  obtain ⟨d, hd, q⟩ := onS_ex q
  obtain ⟨a, kvs, ex, _, z, kp⟩ := dicA_ok rx hv h
  rcases getK_ok (k := kk) kp with ⟨h1, _⟩ | ⟨d', v, h1, h2, h3⟩
  · rw [h1] at hd; cases hd
  · rw [h1] at hd; cases hd
    exact .inr ⟨a, v, ex, .inl ⟨kvs, kk, z, keyD_ok ry e1, h2.symm⟩, k _ _ _ _ (Tp.refl H) h3 hv q⟩
theorem ae_ixD {a b : Expr} {ta tb : RE} (hu : X.A.units + 1 < cLine) (ha : AE X a ta) (hb : AE X b tb) (hs : PlainIx b := by exact fun _ _ => rfl) : AE X (.Subscript a b pos) (aOp aIxD ta tb) := pe_imp (pe_ix (ix_H hu) ha hb hs) (aop_imp ab_ixD)
def aiRev (te : RE) : RI := fun ρ M Q => te ρ M fun d M1 => onS (itemsA d M1) fun ds => Q ds.reverse (fun M => itemsA d M = some ds) M1
theorem rev_get {α : Type} {l : List α} {i : Nat} (h : i < l.length) : l.reverse[i]? = l[l.length - 1 - i]? := List.getElem?_reverse h
theorem ai_rev (he : AE X e te) (hm : X.mg "reversed" = none) (hg : Gl X "reversed" := by rfl) (hs : starEach [e] X.env = (false, eval e X.env) :: starEach [] X.env := by rfl) : AI X tg (.Call (.Name "reversed" p) [e] [] pos) (aiRev te) :=
  pi_imp (RT.pi_revA hg hm he hs) fun σ H R ⟨ρ, M, Q, hr, hv, q, k⟩ => seqE hr hv q fun v H1 d M1 t1 r1 v1 q1 => by
    obtain ⟨ds, hi, q1⟩ := onS_ex q1
    obtain ⟨a, vs, e1, z, hs⟩ := items_stand r1 v1 hi
    have hl := z.length
    refine ⟨a, vs, e1, ?_⟩
    rcases hs with ⟨s, hs⟩ | ⟨s, hs⟩
    · refine .inr ⟨s, k _ H1 _ _ M1 t1 v1 q1 ⟨fun i H M hi t v _ => ?_, fun H M t v _ => ?_, fun i H M x H' hi t v _ y => ?_⟩⟩
      · have hi' : i < ds.length := by simpa using hi
        obtain ⟨w, hw, _⟩ := (z.mono t).get (i := vs.length - 1 - i) (List.getElem?_eq_getElem (by omega))
        exact ⟨by omega, vs, w, hs H t, hw⟩
      · show vs.length ≤ ds.reverse.length
        rw [List.length_reverse]; omega
      · have hi' : i < ds.length := by simpa using hi
        obtain ⟨w, hw, rw'⟩ := (z.mono t).get (i := vs.length - 1 - i) (List.getElem?_eq_getElem (by omega))
        obtain ⟨e, y2⟩ := y
        subst e
        have := y2 vs (hs _ t)
        rw [hw] at this
        cases this
        refine ⟨_, ?_, Tp.refl _, rw', v, fun _ _ => rfl⟩
        rw [rev_get hi', show ds.length - 1 - i = vs.length - 1 - i by omega]
        exact List.getElem?_eq_getElem (by omega)
    · refine .inl ⟨s, k _ H1 _ _ M1 t1 v1 q1 ⟨fun i H M hi t v kp => ?_, fun H M t v _ => ?_, fun i H M x H' hi t v kp y => ?_⟩⟩
      · have hi' : i < ds.length := by simpa using hi
        obtain ⟨ws, s2, z2⟩ := hs H M t v kp
        have l2 := z2.length
        obtain ⟨w, hw, _⟩ := z2.get (i := vs.length - 1 - i) (List.getElem?_eq_getElem (by omega))
        exact ⟨by omega, ws, w, s2, hw⟩
      · show vs.length ≤ ds.reverse.length
        rw [List.length_reverse]; omega
      · have hi' : i < ds.length := by simpa using hi
        obtain ⟨ws, s2, z2⟩ := hs H M t v kp
        have l2 := z2.length
        obtain ⟨w, hw, rw'⟩ := z2.get (i := vs.length - 1 - i) (List.getElem?_eq_getElem (by omega))
        obtain ⟨e, y2⟩ := y
        subst e
        have := y2 ws s2
        rw [hw] at this
        cases this
        refine ⟨_, ?_, Tp.refl _, rw', v, fun _ _ => rfl⟩
        rw [rev_get hi', show ds.length - 1 - i = vs.length - 1 - i by omega]
        exact List.getElem?_eq_getElem (by omega)
open Classical in
noncomputable def aInDB (neg : Bool) : AR2 := fun x y M Q => onS (itemsA y M) fun ys => Pl 8 x ∧ (∀ z ∈ ys, Pl 8 z) ∧ Q (.bl (negB neg (decide (x ∈ ys)))) M
noncomputable def aInD : AR2 := aInDB false
noncomputable def aNotInD : AR2 := aInDB true
def rInT (K : PySem.W.Frag) (neg : Bool) : R2 := fun x y H Q => ∃ d ds, Dp K H x d ∧ Dp K H y (.tuple ds) ∧ SeqAt.shaped d = true ∧ SeqAt.shaped (.tuple ds) = true ∧ Q (.bl (negB neg (ds.any fun z => PyData.eqv z d))) H
theorem op_inT (hu : X.A.units + 65 < cLine) : OpR X (compareOp .In) (rInT X.K false) := by
  intro pins s σ H x y v u Q I rx ry h
  obtain ⟨d, ds, hd, he, sd, se, q⟩ := h
  obtain ⟨as, r1⟩ := Dp.reads I d x v hd rx
  obtain ⟨bs, r2⟩ := Dp.reads I (.tuple ds) y u he ry
  exact SeqAt.in_tuple_reads r2 r1 (SeqAt.canLay_of_shaped se) (SeqAt.canLay_of_shaped sd) (room_in_shaped sd hu) ⟨.bl _, H, I, rfl, q⟩
theorem op_notInT (hu : X.A.units + 65 < cLine) : OpR X (compareOp .NotIn) (rInT X.K true) := by
  intro pins s σ H x y v u Q I rx ry h
  obtain ⟨d, ds, hd, he, sd, se, q⟩ := h
  obtain ⟨as, r1⟩ := Dp.reads I d x v hd rx
  obtain ⟨bs, r2⟩ := Dp.reads I (.tuple ds) y u he ry
  exact SeqAt.notIn_tuple_reads r2 r1 (SeqAt.canLay_of_shaped se) (SeqAt.canLay_of_shaped sd) (room_in_shaped sd hu) ⟨.bl _, H, I, rfl, q⟩
open Classical in
theorem any_pl {n : Nat} {x : Dv} (hx : Pl n x) : ∀ {ys : List Dv}, (∀ y ∈ ys, Pl n y) → ((ys.map (pyP n)).any fun z => PyData.eqv z (pyP n x)) = decide (x ∈ ys)
  | [], _ => by simp
  | y :: ys, h => by
    rw [List.map_cons, List.any_cons, any_pl hx fun z hz => h z (List.mem_cons_of_mem _ hz), eqv_dec n y x (h y List.mem_cons_self) hx]
    by_cases e : x = y
    · subst e; simp
    · have e' : ¬ y = x := fun z => e z.symm
      simp [e, e']
def rInB (K : PySem.W.Frag) (neg : Bool) : R2 := fun x y H Q => (∃ d ds, Dp K H x d ∧ Dp K H y (.list ds) ∧ SeqAt.shaped d = true ∧ SeqAt.shaped (.list ds) = true ∧ Q (.bl (negB neg (ds.any fun z => PyData.eqv z d))) H) ∨ rInT K neg x y H Q
theorem op_inB (hu : X.A.units + 65 < cLine) : OpR X (compareOp .In) (rInB X.K false) := opr_or (op_inD hu) (op_inT hu)
theorem op_notInB (hu : X.A.units + 65 < cLine) : OpR X (compareOp .NotIn) (rInB X.K true) := opr_or (op_notInD hu) (op_notInT hu)
theorem ab_inDB {neg : Bool} : Ab2 K (rInB K neg) (aInDB neg) := by
  intro H M x y dx dy Q Q' rx ry hv q k
  obtain ⟨ys, h, px, py, q⟩ := onS_ex q
  obtain ⟨a, vs, e, s, z⟩ := itemsA_ok ry hv h
  have dall := dpAll_of (dp_of 8) py z
  have dx' := dp_of 8 _ _ px rx
  have l1 : PyData.canLayAll0 (ys.map (pyP 8)) = true := canLayAll_of fun d hd => canLay_pl 8 d (py d hd)
  have z1 := depthAll_of fun d hd => depth_pl 8 d (py d hd)
  have l2 := canLay_pl _ _ px
  have z2 := depth_pl _ _ px
  subst e
  have fin : Q' (.bl (negB neg ((ys.map (pyP 8)).any fun z => PyData.eqv z (pyP 8 dx)))) H := by
    rw [any_pl px py]
    exact k _ _ _ _ (Tp.refl H) rep_bl hv q
  rcases s with s | s
  · exact .inr ⟨_, _, dx', .tup s dall, shaped_of l2 (by omega), shaped_of (by simp only [PyData.canLay0]; exact l1) (by simp only [PyData.depth]; omega), fin⟩
  · exact .inl ⟨_, _, dx', .lst s dall, shaped_of l2 (by omega), shaped_of (by simp only [PyData.canLay0]; exact l1) (by simp only [PyData.depth]; omega), fin⟩
theorem ae_inD {a b : Expr} {ta tb : RE} (hu : X.A.units + 65 < cLine) (ha : AE X a ta) (hb : AE X b tb) (hm : behindInMarks .In b = false := by with_unfolding_all rfl) : AE X (.Compare a [.In] [b] pos) (aOp aInD ta tb) := ae_cmp (op_inB hu) ab_inDB ha hb hm
theorem ae_notinD {a b : Expr} {ta tb : RE} (hu : X.A.units + 65 < cLine) (ha : AE X a ta) (hb : AE X b tb) (hm : behindInMarks .NotIn b = false := by with_unfolding_all rfl) : AE X (.Compare a [.NotIn] [b] pos) (aOp aNotInD ta tb) := ae_cmp (op_notInB hu) ab_inDB ha hb hm
theorem at_inD {a b : Expr} {ta tb : RE} (hu : X.A.units + 65 < cLine) (ha : AE X a ta) (hb : AE X b tb) (hm : behindInMarks .In b = false := by with_unfolding_all rfl) : AT X (.Compare a [.In] [b] pos) (aB (aOp aInD ta tb)) := at_cmp (op_inB hu) ab_inDB ha hb hm
theorem at_notinD {a b : Expr} {ta tb : RE} (hu : X.A.units + 65 < cLine) (ha : AE X a ta) (hb : AE X b tb) (hm : behindInMarks .NotIn b = false := by with_unfolding_all rfl) : AT X (.Compare a [.NotIn] [b] pos) (aB (aOp aNotInD ta tb)) := at_cmp (op_notInB hu) ab_inDB ha hb hm
end
section
theorem ext_listW (l : Addr) (items : Array Value) (n : Nat) (b : Addr) (items2 : Array Value) (n2 : Nat) (dd : Option Addr) (sl : Array (Option Value)) (hlong : ¬(!items.isEmpty && Builtin.List.listTooLong (items.size + items2.size)) = true) (hz : items.size ≤ sizeLine) (hz2 : items.size + items2.size ≤ sizeLine + 1) :
    Meets (Builtin.«list.extend» ⟨[.ref l, .ref b], []⟩) (fun _ R s => s.heap.get? l = some { cls := .type "list", dict := none, data := .seq items n, slots := #[] } ∧ s.heap.get? b = some { cls := .type "list", dict := dd, data := .seq items2 n2, slots := sl } ∧
      R (.ok (.ret Value.none)) { s with heap := s.heap.update l (Obj.mapSeq fun x => x ++ items2), toks := s.toks }) :=
  .of_wp fun prog w A R s h => by
    obtain ⟨hp, g, d, tk, os⟩ := s
    obtain ⟨hl, hb, h⟩ := h
    have f1 := AutoSeq1.idx_int
    have f2 := AutoSeq1.sub_tuple_tuple
    have f3 := AutoSeq1.sub_list_list
    have hz' : (items ++ items2).size ≤ sizeLine + 1 := by rw [Array.size_append]; exact hz2
    wp_walk using (wpAny_updateSeq hl rfl (hz := hz) (_hz' := hz')), wpAny_loadPart' hl, wpAny_loadPart' hb
    exact ⟨_, rfl, h⟩
theorem ext_tupleW (l : Addr) (items : Array Value) (n : Nat) (b : Addr) (items2 : Array Value) (n2 : Nat) (dd : Option Addr) (sl : Array (Option Value)) (hlong : ¬(!items.isEmpty && Builtin.List.listTooLong (items.size + items2.size)) = true) (hz : items.size ≤ sizeLine) (hz2 : items.size + items2.size ≤ sizeLine + 1) :
    Meets (Builtin.«list.extend» ⟨[.ref l, .ref b], []⟩) (fun _ R s => s.heap.get? l = some { cls := .type "list", dict := none, data := .seq items n, slots := #[] } ∧ s.heap.get? b = some { cls := .type "tuple", dict := dd, data := .seq items2 n2, slots := sl } ∧
      R (.ok (.ret Value.none)) { s with heap := s.heap.update l (Obj.mapSeq fun x => x ++ items2), toks := s.toks }) :=
  .of_wp fun prog w A R s h => by
    obtain ⟨hp, g, d, tk, os⟩ := s
    obtain ⟨hl, hb, h⟩ := h
    have f1 := AutoSeq1.idx_int
    have f2 := AutoSeq1.sub_tuple_tuple
    have f3 := AutoSeq1.sub_list_list
    have hz' : (items ++ items2).size ≤ sizeLine + 1 := by rw [Array.size_append]; exact hz2
    wp_walk using (wpAny_updateSeq hl rfl (hz := hz) (_hz' := hz')), wpAny_loadPart' hl, wpAny_loadPart' hb
    exact ⟨_, rfl, h⟩
end
section
variable {X : Cx} {e o f tg : Expr} {es : List Expr} {te to tf : RE} {t : RA} {pos apos cpos p : Pos} {K : PySem.W.Frag}
def rExtA (K : PySem.W.Frag) : V → List V → Hp → VK → Prop := fun x vs H Q => ∃ l b xs zs, x = .ref l ∧ vs = [.ref b] ∧ H l = some (.lst xs) ∧ (SqL K H b zs ∨ SqT K H b zs) ∧ xs.length + zs.length ≤ sizeLine ∧ Q .non (upd H l (.lst (xs ++ zs)))
theorem mt_extA : MtM X "list.extend" (rExtA X.K) := by
  intro pins s σ H x vs v us Q I rx rv h
  obtain ⟨l, b, xs, zs, rfl, rfl, hH, hB, hz, q⟩ := h
  cases rx
  obtain ⟨u, rfl, ru⟩ := rv.one
  cases ru
  obtain ⟨z, its, n, r, hl, e⟩ := I.lstM hH
  have fin : ∀ its2 : List Value, Vals zs its2 → EP X pins σ Q .none { s with heap := s.heap.update l (Obj.mapSeq fun x => x ++ its2.toArray), toks := s.toks } := fun its2 r2 => by
    have := r2.length
    refine ⟨.non, _, I.lset (its' := its ++ its2) hH e (by simp) (r.append r2) ?_, rfl, q⟩
    rw [List.length_append]
    omega
  have notLong : ∀ its2 : List Value, Vals zs its2 → its.toArray.size + its2.toArray.size ≤ sizeLine ∧ ¬ (!its.toArray.isEmpty && Builtin.List.listTooLong (its.toArray.size + its2.toArray.size)) = true := fun its2 r2 => by
    have := r2.length
    have hsz : its.toArray.size + its2.toArray.size ≤ sizeLine := by rw [List.size_toArray, List.size_toArray]; omega
    refine ⟨hsz, ?_⟩
    rw [notLongL hsz, Bool.and_false]
    exact Bool.false_ne_true
  rcases hB with hB | hB
  · obtain ⟨its2, r2, ⟨⟨cls, dd, data, sls⟩, n2, ho, hc, hdn, hdt⟩, hl2⟩ := I.list hB
    simp only at hc hdt
    subst hc hdt
    obtain ⟨hsz, hlong⟩ := notLong its2 r2
    exact call_meets PySem.F.slot_list_extend ⟨_, e, rfl⟩ PySem.F.entry_list_extend (PySem.F.args_list_extend_2 _ _) (ext_listW l its.toArray n b its2.toArray n2 dd sls hlong (by omega) (by omega)) ⟨e, ho, fin its2 r2⟩
  · obtain ⟨its2, r2, ⟨⟨cls, dd, data, sls⟩, ho, hc, n2, hdt⟩, hl2⟩ := I.tuple hB
    simp only at hc hdt
    subst hc hdt
    obtain ⟨hsz, hlong⟩ := notLong its2 r2
    exact call_meets PySem.F.slot_list_extend ⟨_, e, rfl⟩ PySem.F.entry_list_extend (PySem.F.args_list_extend_2 _ _) (ext_tupleW l its.toArray n b its2.toArray n2 dd sls hlong (by omega) (by omega)) ⟨e, ho, fin its2 r2⟩
def amExtA : ARM := fun x ds M Q => match x, ds with
  | .ref l, [d] => onS (lstC (M l)) fun xs => onS (itemsA d M) fun ys => xs.length + ys.length ≤ sizeLine ∧ Q .non (mup M l (.lst (xs ++ ys)))
  | _, _ => False
theorem abm_extA : AbM K (rExtA K) amExtA := by
  intro H M x dx vs ds Q Q' rx rd hv q k
  match dx, ds, q with
  | .ref l, [d], q =>
    obtain ⟨xs, h1, q⟩ := onS_ex q
    obtain ⟨ys, h2, hz, q⟩ := onS_ex q
    replace h1 := lstC_eq h1
    obtain ⟨v, e, r1⟩ := reps1 rd
    obtain ⟨ws, e2, z⟩ := view_lst hv h1
    obtain ⟨b, us, e3, s3, z3⟩ := itemsA_ok r1 hv h2
    have l1 := z.length
    have l3 := z3.length
    exact ⟨l, b, ws, us, rep_ref_inv rx, by rw [e, e3], e2, s3.symm, by omega, end_wr hv h1 (z.append z3) rep_non q k⟩
theorem ae_extA (ho : AE X o to) (ha : AA X [e] t) (hline : (apos.endLine == cpos.line) = true := by rfl) (hbase : attributeBase o "extend" X.env (eval o X.env) = eval o X.env := by rfl)
    (hfew : ((backTo cpos (starEach [e] X.env)).all (fun x => !x.1) && (backToKw cpos (keywordEach [] X.env)).all (fun x => x.1.isSome)
      && decide (([e] : List Expr).length + ([] : List Keyword).length + (if ([] : List Keyword).isEmpty then 0 else 1) < 30)) = true := by rfl)
    (hs : starEach [e] X.env = (false, eval e X.env) :: starEach [] X.env := by rfl) (hplain : (backTo cpos (starEach [] X.env)).any (·.1) = false := by rfl) :
    AE X (.Call (.Attribute o "extend" apos) [e] [] cpos) (aMth "list" amExtA to t) := ae_bm PySem.F.plainAttrs_list PySem.F.slot_list_extend PySem.F.type_list_extend mt_extA abm_extA ho ha hbase hfew hline hs hplain
end
end HC
set_option maxHeartbeats 1000000
namespace HC
open PySem PySem.Spec L2 PyProof.Rows
section
variable {X : Cx} {e : Expr} {te : RE} {pos : Pos} {K : PySem.W.Frag}
def aAug (i : Nat) (te : RE) (f : Int → Int → Int) : RS := fun D ρ M => onS ρ[i]? fun o => onS o fun x => te ρ M fun y M1 => onI2 x y fun m n => D.nx (ρ.set i (some (.int (f m n)))) M1
theorem aug_imp {i : Nat} {f : Int → Int → Int} : ∀ D σ H, cS K (aAug i te f) D σ H → tAug i (cE K te) (ipI f) D σ H := fun D' σ H ⟨ρ, M, D, hr, hv, q, k⟩ => by
  obtain ⟨o, e1, q⟩ := onS_ex q
  obtain ⟨x, e2, q⟩ := onS_ex q
  subst e2
  obtain ⟨v, h1, h2⟩ := hr.at' i x e1
  refine ⟨v, h1, seqE hr hv q fun w H1 d M1 t1 r1 v1 q1 => ?_⟩
  obtain ⟨m, n, e3, e4, q2⟩ := onI2_ex q1
  subst e3 e4
  exact ⟨m, n, rep_int_inv h2, rep_int_inv r1, k.nx _ _ _ _ t1 ((hr.mono t1).set i rep_int) v1 q2⟩
theorem as_aug_add (i : Nat) {x : Str} {pos' : Pos} (hN : X.N.Nodup) (he : AE X e te) (hi : X.N[i]? = some x := by rfl) (hx : Loc X.env.scope x := by first | exact .inl rfl | exact .inr rfl) (hf : X.fn x = true ∨ X.env.scope.names.lookup x = some .local := by first | exact .inl rfl | exact .inr rfl) :
    AS X (.AugAssign (.Name x pos') .Add e pos) (aAug i te fun i j => i + j) := ps_imp (ps_aug hN hi hx he ip_add hf) aug_imp
theorem as_aug_sub (i : Nat) {x : Str} {pos' : Pos} (hN : X.N.Nodup) (he : AE X e te) (hi : X.N[i]? = some x := by rfl) (hx : Loc X.env.scope x := by first | exact .inl rfl | exact .inr rfl) (hf : X.fn x = true ∨ X.env.scope.names.lookup x = some .local := by first | exact .inl rfl | exact .inr rfl) :
    AS X (.AugAssign (.Name x pos') .Sub e pos) (aAug i te fun i j => i - j) := ps_imp (ps_aug hN hi hx he ip_sub hf) aug_imp
end
end HC
namespace HC
open PySem PySem.Spec L2 PyProof.Rows
def acDivmod : ARC := fun ds M Q => match ds with
  | [d, f] => onI2 d f fun i j => (0 < j ∧ j < 1073741824) ∧ Q (.tup [.int (i / j), .int (i % j)]) M
  | _ => False
theorem abc_divmod {K : PySem.W.Frag} : AbC K (fun xs H Q => ∃ i j, xs = [.int i, .int j] ∧ CDiv i j ∧ ∀ p, H p = none → Q (.ref p) (upd H p (.tup [.int (i / j), .int (i % j)]))) acDivmod := by
  intro H M vs ds Q Q' r hv q k
  match ds, q with
  | [d, f], q =>
    obtain ⟨i, j, e1, e2, hc, q0⟩ := onI2_ex q
    subst e1 e2
    obtain ⟨v, w, e, rd, rd2⟩ := reps2 r
    exact ⟨i, j, by rw [e, rep_int_inv rd, rep_int_inv rd2], hc, end_tup (.cons rep_int (.cons rep_int .nil)) hv q0 k⟩
end HC
set_option maxHeartbeats 1000000
namespace HC
open PySem L2 PyProof.Rows
abbrev WXA := Str → Option Int → Ms → Prop
abbrev XSp := List Dv → Ms → DK → WXA → Prop
def RepX (K : PySem.W.Frag) (H : Hp) (c : Str) (f : Option Int) (cls : Value) (d : Option Addr) : Prop := (∃ C, cls = .ref C ∧ PySem.W.nsIn K mainGlobals c = some (some (.ref C))) ∧
  match f with
  | none => d = none
  | some r => ∃ dx, d = some dx ∧ H dx = some (.xd [(("row" : Str), .int r)])
def liftW (K : PySem.W.Frag) (W : WXA) : L2.WX := fun cls d σ H => ∃ c f M, RepX K H c f cls d ∧ View K M H ∧ W c f M
def cSpX (K : PySem.W.Frag) (asp : XSp) : Sp := fun vs H Q' E' => ∃ ds M Q E, Reps K H ds vs ∧ View K M H ∧ asp ds M Q E ∧ LkV K H Q Q' ∧
  ∀ c f cls d M1 H1, RepX K H1 c f cls d → Tp K H H1 → View K M1 H1 → E c f M1 → E' cls d H1
abbrev FnX (P : Program) (w : World) (K : PySem.W.Frag) (mg : Str → Option Value) (base : Heap) (k : Nat) (f : Addr) (fd : FuncData) (ps : List Str) (asp : XSp) : Prop := FnOk P w K mg base (L2N.CX P w) k f fd ps (cSpX K asp)
theorem flyZ_imp {h B : Heap} {l : List Env} {a : Addr} {Z Z' : Obj → Prop} (z : ∀ o, Z o → Z' o) (x : HandSPX.FlyingZ B l a Z h) : HandSPX.FlyingZ B l a Z' h := by
  obtain ⟨h1, h2, h3, oe, vs, T, oT, ts, he, hz, r⟩ := x
  exact ⟨h1, h2, h3, oe, vs, T, oT, ts, he, z _ hz, r⟩
theorem sky_imp {h B : Heap} {l : List Env} {a L : Addr} {Z Z' : Obj → Prop} (z : ∀ o, Z o → Z' o) (x : Sky B l a Z L h) : Sky B l a Z' L h := by
  rcases x with ⟨h1, h2, h3, oe, vs, he, hz, r⟩ | x | ⟨h1, h2, h3, oe, vs, T, oT, ts, he, hz, r⟩
  · exact .inl ⟨h1, h2, h3, oe, vs, he, z _ hz, r⟩
  · exact .inr (.inl (flyZ_imp z x))
  · exact .inr (.inr ⟨h1, h2, h3, oe, vs, T, oT, ts, he, z _ hz, r⟩)
theorem takesN {X : Cx} {W : WX} (tk : L2.Takes X W) : L2N.Takes X W := fun u s' ⟨a, B, sI, pins, σ, H, cls, d, e, I, nb, up, sky, na, os, ag, w⟩ =>
  tk u s' ⟨a, B, sI, pins, σ, H, cls, d, e, I, nb, up, sky_imp (fun _ z => z.zc) sky, na, os, ag, w⟩
theorem takesF {X : Cx} : L2N.Takes X (fun _ _ _ _ => False) := fun _ _ x => by
  obtain ⟨_, _, _, _, _, _, _, _, _, _, _, _, _, _, _, _, z⟩ := x
  exact z.elim
theorem takesFW {X : Cx} : L2.Takes X (liftW X.K fun _ _ _ => False) := L2.takes0.imp fun _ _ _ _ ⟨_, _, _, _, _, z⟩ => z.elim
def noxS (asp : XSp) : ASp := fun ds M Q => asp ds M Q fun _ _ _ => False
theorem FnX.nox {P : Program} {w : World} {K : PySem.W.Frag} {mg : Str → Option Value} {base : Heap} {k : Nat} {f : Addr} {fd : FuncData} {ps : List Str} {asp : XSp} (F : FnX P w K mg base k f fd ps asp) : FnA P w K mg base k f fd ps (noxS asp) := by
  have sp' : ∀ vs H Q E, cSp K (noxS asp) vs H Q E → cSpX K asp vs H Q (fun _ _ _ => False) := fun vs H Q E ⟨ds, M, Q1, r, v, q, kk⟩ => ⟨ds, M, Q1, _, r, v, q, kk, fun _ _ _ _ _ _ _ _ _ z => z⟩
  refine ⟨fun vs H Q E h => F.len vs H Q _ (sp' vs H Q E h), fun A outer s H args us vs Q E hr e0 hb r h => ?_⟩
  refine codeAny_mono (F.run A outer s H args us vs Q (fun _ _ _ => False) hr e0 hb r (sp' vs H Q E h)) fun r s' hq => ?_
  cases r with
  | error e =>
    obtain ⟨_, _, _, _, _, _, _, _, _, _, _, _, z⟩ := hq
    exact z.elim
  | ok fl => cases fl <;> exact hq
def aCallX (asp : XSp) (t : RA) (W : WXA) : RE := fun ρ M Q => t ρ M fun ds M1 => asp ds M1 Q W
section
variable {X : Cx} {K : PySem.W.Frag} {W : WXA} {x : Str} {p pos : Pos} {e : Expr} {es : List Expr} {t : RA} {k : Nat} {f : Addr} {fd : FuncData} {ps : List Str} {asp : XSp}
theorem acallX_imp : ∀ σ H Q, cE K (aCallX asp t W) σ H Q → tCallSD (cSpX K asp) [] (WE (liftW K W)) (cA K t) σ H Q := fun σ H Q' ⟨ρ, M, Q, hr, hv, q, kk⟩ => seqA hr hv q fun vs H1 ds M1 t1 r1 v1 q1 =>
  ⟨ds, M1, Q, W, by rw [List.append_nil]; exact r1, v1, q1, kk.up t1, fun c f cls d M2 H2 hc t2 v2 w => ⟨c, f, M2, hc, v2, w⟩⟩
theorem ae_callX (tk : L2N.Takes X (liftW X.K W)) (F : FnX X.prog X.w X.K X.mg X.base k f fd ps asp) (hr : Room k X.A) (hm : X.mg x = some (.ref f)) (hk : PySem.W.keepIn X.K (.ref f) = true) (hb : Binds X.K fd ps []) (ha : AA X (e :: es) t) (hg : Gl X x := by rfl)
    (hdb : (x == ("__debug__" : Str)) = false := by decide) (he : starEach (e :: es) X.env = (false, eval e X.env) :: starEach es X.env := by rfl) (hpl : (backTo pos (starEach es X.env)).any (·.1) = false := by rfl) : AE X (.Call (.Name x p) (e :: es) [] pos) (aCallX asp t W) :=
  pe_imp (pe_callSD (E := WE (liftW X.K W)) F hr hg hm hk hb .nil (L2N.passAt tk) ha hdb he hpl) acallX_imp
end
section
variable {X : Cx} {K : PySem.W.Frag} {W : WXA} {x : Str} {p pos : Pos}
def aRaise (W : WXA) (x : Str) : RS := fun _ _ M => W x none M
structure XcT (K : PySem.W.Frag) (mg : Str → Option Value) (x : Str) : Prop where
  ex : ∃ C, PySem.W.nsIn K mainGlobals x = some (some (.ref C)) ∧ mg x = some (.ref C) ∧ PySem.W.excIn K C [.type "ValueError", .type "Exception", .type "BaseException", .type "object"] "ValueError.__new__" = true ∧ PySem.W.keepIn K (.ref C) = true ∧
    PySem.W.subIn K (.ref C) (.type "BaseException") = some true ∧ PySem.W.typeIn K (.ref C) = some (.type "type")
theorem as_raise {m : Str} {j : Nat} {p2 pos' : Pos} (hc : X.calm = true) (tk : L2N.Takes X (liftW X.K W)) (T : XcT X.K X.mg x) (hg : Gl X x := by rfl)
    (hdb : (x == ("__debug__" : Str)) = false := by decide) : AS X (.Raise (some (.Call (.Name x p) [.Constant (.str m) j p2] [] pos)) none pos') (aRaise W x) := by
  obtain ⟨C, hn, gC, q, kC, b1, b2⟩ := T.ex
  refine ps_imp (L2N.ps_raise hc tk (L2N.pmk_own PySem.F.excBase_ValueError q gC kC (raises_own b1 b2) hg hdb)) fun D σ H h => ?_
  obtain ⟨ρ, M, D', hr, hv, w, _⟩ := h
  exact ⟨x, none, M, ⟨⟨C, rfl, hn⟩, rfl⟩, hv, w⟩
end
section
variable {X : Cx} {e : Expr} {es : List Expr} {ta : TA} {p pos : Pos}
theorem pmk_oexN {CX : CXT} {x : Str} {C fI : Addr} {k : Nat} {fd : FuncData} {ps : List Str} {sp : Sp} {ds : List Value} {dvs : List V} (T : OexC X.K C) (iC : PySem.W.findIn X.K (.ref C) "__init__" = some (some (.ref fI))) (tI : PySem.W.typeIn X.K (.ref fI) = some (.type "function"))
    (F1 : FnOk X.prog X.w X.K X.mg X.base CX k fI fd ps sp) (hr : Room (k + 1) X.A) (hb : Binds X.K fd ps ds) (hd : Vals dvs ds) (hx : Passes CX X (fun _ _ _ => False)) (hg : Gl X x) (hm : X.mg x = some (.ref C)) (ha : PA X (e :: es) ta)
    (hdb : (x == ("__debug__" : Str)) = false := by decide) (he : starEach (e :: es) X.env = (false, eval e X.env) :: starEach es X.env := by rfl) (hpl : (backTo pos (starEach es X.env)).any (·.1) = false := by rfl) :
    L2N.PMk X (.Call (.Name x p) (e :: es) [] pos) (tMkO C sp dvs ta) := by
  intro pins s σ H Q I h
  obtain ⟨nm, q, N, bs, bm, sn, sub, ab, col, dd, k0, k1, k2, k3, k5, hC, hbm⟩ := T.cls
  refine wpAny_Call_Name_kw (ld_glob I hg hm ?_ hdb)
  refine PySem.W.callWith_K (h₀ := X.base) I.ok.mod.kin T.kC (thn (ha.run pos pins s σ H _ I h) fun us s1 ⟨vs, H1, I1, r1, hz, q1⟩ => ⟨I1.kIn, ?_⟩) he hpl
  show wpAny _ _ (call (.ref C) us) _ _ _
  obtain ⟨hp, g, dr, tk, os⟩ := s1
  have hsz : hp.objs.size ≤ hp.objs.size + 1 := Nat.le_succ _
  have hn : H1 (hp.objs.size + 1) = none := I1.hok.fresh hsz
  have hq := q1 (hp.objs.size + 1) hn
  have kk : ∀ b o, hp.get? b = some o → ((hp.push (PySem.W.kdv_tup us)).push (PySem.HandSPX.excO C hp.objs.size)).get? b = some o := fun b o e => Heap.get?_push_of_some _ (Heap.get?_push_of_some _ e)
  have hget : ((hp.push (PySem.W.kdv_tup us)).push (PySem.HandSPX.excO C hp.objs.size)).get? (hp.objs.size + 1) = some (PySem.HandSPX.excO C hp.objs.size) := by heap_get
  have I2 : Inv X pins σ (upd H1 (hp.objs.size + 1) (exo (hp.objs.size + 1) C none)) ⟨(hp.push (PySem.W.kdv_tup us)).push (PySem.HandSPX.excO C hp.objs.size), g, dr, tk, os⟩ :=
    I1.laid (t' := tk) (a := hp.objs.size + 1) (o := exo (hp.objs.size + 1) C none) (h' := (hp.push (PySem.W.kdv_tup us)).push (PySem.HandSPX.excO C hp.objs.size)) kk hsz (exo_ok hget)
  have r2 : Vals (V.ref (hp.objs.size + 1) :: (vs ++ dvs)) (Value.ref (hp.objs.size + 1) :: (us ++ ds)) := .cons rfl (r1.append hd)
  have hl : (Value.ref (hp.objs.size + 1) :: us ++ ds).length = ps.length := by
    have e := r2.length
    rw [F1.len _ _ _ _ hq] at e
    exact e.symm
  have hus : us.length ≤ sizeLine := by
    rw [← Paired.length r1, sizeLine_eq]
    omega
  refine wpAny_call (PySem.HandSPX.call_own F.excBase_ValueError (fun Y => PySem.HandSPX.refsVE_contains Y bm hbm) (I1.kIn _ _ hC) (PySem.W.looks_findIn I1.kIn iC) (fun self => PySem.W.bind_fn I1.kIn self tI) hus
    (codeAny_mono (F1.run _ X.stack _ _ ⟨Value.ref (hp.objs.size + 1) :: us, []⟩ (Value.ref (hp.objs.size + 1) :: (us ++ ds)) _ _ (fun _ _ _ => False) (hr.make C us []) (I2.env0.make C us []) (hb _ (Value.ref (hp.objs.size + 1) :: us) I2.kIn hl) r2 hq) fun r s' hq' => ?_))
  cases r with
  | error er => exact hx pins σ _ _ er s' I2 hq'
  | ok fl =>
    cases fl with
    | ret u =>
      obtain ⟨v, H2, os2, bare2, un2, hok2, rv, ev, d, fs, ea, ed, hd1, q2⟩ := hq'
      subst ev
      obtain ⟨h2, g2, d2, t2, os'⟩ := s'
      obtain ⟨t0, G, J, kG, ge, hoe, na⟩ := mk_end0 (d2 := d2) (t2 := t2) I1 hsz kk un2 hok2 os2 bare2 ea ed hd1
      refine ⟨rv, ⟨hp.objs.size + 1, _, _, ⟨G, g2, d2, t2, os'⟩, _, .ref C, some d, rfl, J, kG, ge, hoe, ⟨rfl, rfl, fun vs hv => ?_⟩, rfl, rfl, na, rfl, bare2, raises_own T.exC T.tyC, q2⟩⟩
      cases hv
      rfl
    | next => exact False.elim hq'
    | brk => exact False.elim hq'
    | cont => exact False.elim hq'
end
def spInit (C : Addr) : Sp := fun vs H Q _ => ∃ a v, vs = [.ref a, v] ∧ H a = some (exo a C none) ∧ ∀ dx, H dx = none → dx ≠ a → Q .non (upd (upd H dx (exd dx [(("row" : Str), v)])) a (exo a C (some dx)))
structure XrT (P : Program) (w : World) (K : PySem.W.Frag) (mg : Str → Option Value) (base : Heap) (x : Str) : Prop where
  ex : ∃ C fI fd, PySem.W.nsIn K mainGlobals x = some (some (.ref C)) ∧ mg x = some (.ref C) ∧ OexC K C ∧ PySem.W.findIn K (.ref C) "__init__" = some (some (.ref fI)) ∧ PySem.W.typeIn K (.ref fI) = some (.type "function") ∧ FnOk P w K mg base CX0 1 fI fd ["self", "row"] (spInit C) ∧ Binds K fd ["self", "row"] []
section
variable {X : Cx} {W : WXA} {x : Str} {e : Expr} {te : RE} {p pos : Pos}
def aRaiseR (W : WXA) (x : Str) (te : RE) : RS := fun _ ρ M => aCons te aNil ρ M fun ds M1 => on1 ds fun d => onI d fun r => W x (some r) M1
theorem as_raiseR {k : Nat} {pos' : Pos} (hc : X.calm = true) (tk : L2N.Takes X (liftW X.K W)) (T : XrT X.prog X.w X.K X.mg X.base x) (hr : Room k X.A) (hk : 2 ≤ k) (he : AE X e te) (hg : Gl X x := by rfl)
    (hdb : (x == ("__debug__" : Str)) = false := by decide) (hse : starEach [e] X.env = (false, eval e X.env) :: starEach [] X.env := by rfl) (hpl : (backTo pos (starEach [] X.env)).any (·.1) = false := by rfl) :
    AS X (.Raise (some (.Call (.Name x p) [e] [] pos)) none pos') (aRaiseR W x te) := by
  obtain ⟨C, fI, fd, hn, gC, o, iC, tI, F, hb⟩ := T.ex
  refine ps_imp (L2N.ps_raise hc tk (pmk_oexN o iC tI F (hr.mono hk) hb .nil pass0 hg gC (aa_cons he aa_nil (hs := hse)) hdb (he := hse) (hpl := hpl))) fun D σ H h => ?_
  obtain ⟨ρ, M, D', hr', hv, w, _⟩ := h
  show cA X.K (aCons te aNil) σ H _
  refine ⟨ρ, M, _, hr', hv, w, ?_⟩
  · intro vs H1 ds M1 t1 r1 v1 q
    obtain ⟨d, rfl, q⟩ := on1_ex q
    obtain ⟨r, rfl, q⟩ := onI_ex q
    obtain ⟨v, rfl, rv⟩ := reps1 r1
    have ev := rep_int_inv rv
    subst ev
    refine ⟨(show 1 ≤ 1000 by decide), fun a ha => ⟨a, .int r, rfl, upd_same, fun dx hdx hne => ⟨rfl, dx, [(("row" : Str), .int r)], upd_same, ?_, ?_, ?_⟩⟩⟩
    · rw [upd_ne hne, upd_same]
    · rw [upd_ne hne] at hdx; exact hdx
    · have hdx' : H1 dx = none := by rw [upd_ne hne] at hdx; exact hdx
      have eh : upd (del (upd (upd (upd H1 a (exo a C none)) dx (exd dx [(("row" : Str), .int r)])) a (exo a C (some dx))) a) dx (.xd [(("row" : Str), .int r)]) = upd H1 dx (.xd [(("row" : Str), .int r)]) := by
        funext b
        unfold upd del
        by_cases h1 : b = dx
        · rw [if_pos h1, if_pos h1]
        · rw [if_neg h1, if_neg h1]
          by_cases h2 : b = a
          · rw [if_pos h2, h2, ha]
          · rw [if_neg h2]
            show (if b = a then some (exo a C (some dx)) else if b = dx then some (exd dx [(("row" : Str), .int r)]) else if b = a then some (exo a C none) else H1 b) = H1 b
            rw [if_neg h2, if_neg h1, if_neg h2]
      rw [eh]
      exact ⟨x, some r, M1, ⟨⟨C, rfl, hn⟩, dx, rfl, upd_same⟩, v1.new hdx', q⟩
end
end HC
set_option maxHeartbeats 1000000
namespace HC
open PySem L2 PyProof.Rows
theorem tp_un {K : PySem.W.Frag} {fs ex : List Addr} {H H' : Hp} {h h' : Heap} (u : Un fs ex H H' h h') : Tp K H H' := by
  refine ⟨fun a vs q => ?_, fun a vs q => ?_, fun a vs ⟨o, q, hd⟩ => ⟨o, u.frzs _ _ _ q, hd⟩, fun a o v q => u.frzs _ _ _ q⟩
  · rcases q with (q | ⟨o, q⟩) | q
    · exact .inl (.inl (u.tups _ _ q))
    · exact .inl (.inr ⟨o, u.frzs _ _ _ q⟩)
    · exact .inr q
  · rcases q with ⟨o, q⟩ | q
    · exact .inl ⟨o, u.frzs _ _ _ q⟩
    · exact .inr q
theorem takes_tp {X : Cx} {K : PySem.W.Frag} {W : WXA} {E' : XK} (tk : L2N.Takes X (fun cls d _ H => E' cls d H)) (h : ∀ cls d σ H, liftW K W cls d σ H → Tp K X.H_0 H → E' cls d H) : L2N.Takes X (liftW K W) := fun u s' ⟨a, B, sI, pins, σ, H, cls, d, e, I, nb, up, sky, na, os, ag, w⟩ =>
  tk u s' ⟨a, B, sI, pins, σ, H, cls, d, e, I, nb, up, sky, na, os, ag, h cls d σ H w (tp_un I.base)⟩
theorem passes_ofN {X : Cx} {K : Value → Shared → Prop} {E₁ : Value → Shared → Prop} (hx : X.xe = fun e s' => wpAny (model X.prog X.w) X.A (leaving X.env e) (fun _ s'' => K e s'') E₁ s') : PassesOwn (model X.prog X.w) X.A X.env X.xe := L2.passes_of hx
theorem fnX {P : Program} {w : World} {K : PySem.W.Frag} {mg : Str → Option Value} {base : Heap} {qual : Str} {st : Stmt} {N ps : List Str} {x : Str} {f : Addr} {fd : FuncData} {k : Nat} {asp : XSp} {t : WXA → RS} (F : Fun K x qual st f fd) (S : FnScope N ps (defScope st)) (len : ∀ ds M Q E, asp ds M Q E → ds.length = ps.length)
    (body : ∀ (cdv : Value) (A : Around) (outer : List Env) (s : Shared) (H : Hp) (E : XK) (W : WXA), Room k (A.deeper (envOfC qual (defScope st) s.heap.objs.size f cdv)) →
      L2N.Takes (cxOf (L2N.CX P w) P w K mg base N qual (defScope st) f cdv A outer s H E) (liftW K W) → PassesOwn (model P w) (A.deeper (envOfC qual (defScope st) s.heap.objs.size f cdv)) (envOfC qual (defScope st) s.heap.objs.size f cdv) (cxOf (L2N.CX P w) P w K mg base N qual (defScope st) f cdv A outer s H E).xe →
      ASs (cxOf (L2N.CX P w) P w K mg base N qual (defScope st) f cdv A outer s H E) (defBody st) (t W))
    (spec : ∀ ds M Q E, asp ds M Q E → t (fun c f M => ∃ M', Sub M' M ∧ E c f M') (retD Q) (startA N.length ds) M) : FnX P w K mg base (k + 1) f fd ps asp := by
  obtain ⟨oc, od, kV, doc, pm, an, cdv0, ct, osl, rfl, lk, hcd⟩ := F.ex
  refine fn_of lk hcd S (fun vs H Q' E' ⟨ds, M, Q, E, r, _, q, _⟩ => by rw [← r.length]; exact len ds M Q E q) fun A outer s H vs Q' E' hr ⟨ds, M, Q, E, r, hv, q, kk, ke⟩ => ?_
  have tk0 : L2N.Takes (cxOf (L2N.CX P w) P w K mg base N qual (defScope st) f cdv0 A outer s H E') (fun cls d _ H => E' cls d H) := L2N.takes_of rfl rfl rfl rfl
  have tk := takes_tp (K := K) (W := fun c f M => ∃ M', Sub M' M ∧ E c f M') tk0 fun cls d σ H1 ⟨c, f, M1, hc, hv1, M2, sb, he⟩ tp => ke c f cls d M2 H1 hc tp (hv1.sub sb) he
  refine ⟨_, body cdv0 A outer s H E' _ hr tk (L2.passes_of (K := fun e s'' => L2N.CX P w outer H s E' e s'') rfl), startA N.length ds, M, retD Q, repE_start r, hv, spec ds M Q E q, ?_, ?_, ?_, ?_⟩
  · rintro σ H' ρ M' tp _ v ⟨M'', sb, q'⟩
    exact kk _ _ _ M'' tp rep_non (v.sub sb) q'
  · rintro v H' d M' tp rd vv ⟨M'', sb, q'⟩
    exact kk _ _ _ M'' tp rd (vv.sub sb) q'
  · rintro _ _ _ _ _ _ _ h
    exact h.elim
  · rintro _ _ _ _ _ _ _ h
    exact h.elim
abbrev REX := Env' → Ms → DK → WXA → Prop
abbrev RSX := WXA → RS
def LkX (K : PySem.W.Frag) (σ : L2.St) (H : Hp) (E : WXA) (W : L2.WX) : Prop := ∀ c f cls d H' M', Tp K H H' → RepX K H' c f cls d → View K M' H' → E c f M' → W cls d σ H'
theorem LkX.up {K : PySem.W.Frag} {σ : L2.St} {H H1 : Hp} {E : WXA} {W : L2.WX} (l : LkX K σ H E W) (t : Tp K H H1) : LkX K σ H1 E W := fun c f cls d H' M' t' => l c f cls d H' M' (t.trans t')
def cEX (K : PySem.W.Frag) (W : L2.WX) (t : REX) : TE := fun σ H Q' => ∃ ρ M Q E, RepE K H ρ σ ∧ View K M H ∧ t ρ M Q E ∧ LkV K H Q Q' ∧ LkX K σ H E W
def cSX (K : PySem.W.Frag) (W : L2.WX) (t : RSX) : TS := fun D' σ H => ∃ ρ M D E, RepE K H ρ σ ∧ View K M H ∧ t E D ρ M ∧ LkD K H D D' ∧ LkX K σ H E W
def AEX (X : Cx) (W : L2.WX) (e : Expr) (t : REX) : Prop := PE X e (cEX X.K W t)
def ASX (X : Cx) (W : L2.WX) (st : Stmt) (t : RSX) : Prop := PS X st (cSX X.K W t)
def ASXs (X : Cx) (W : L2.WX) (st : List Stmt) (t : RSX) : Prop := PSs X st (cSX X.K W t)
section
variable {X : Cx} {W : L2.WX} {x : Str} {p pos : Pos} {e : Expr} {es : List Expr} {t : RA} {k : Nat} {f : Addr} {fd : FuncData} {ps : List Str} {asp : XSp}
def axCall (asp : XSp) (t : RA) : REX := fun ρ M Q E => t ρ M fun ds M1 => asp ds M1 Q E
theorem axcall_imp {K : PySem.W.Frag} : ∀ σ H Q, cEX K W (axCall asp t) σ H Q → tCallSD (cSpX K asp) [] (WE W) (cA K t) σ H Q := fun σ H Q' ⟨ρ, M, Q, E, hr, hv, q, kk, kx⟩ => seqA hr hv q fun vs H1 ds M1 t1 r1 v1 q1 =>
  ⟨ds, M1, Q, E, by rw [List.append_nil]; exact r1, v1, q1, kk.up t1, fun c f cls d M2 H2 hc t2 v2 w => kx c f cls d H2 M2 (t1.trans t2) hc v2 w⟩
theorem ax_call (tk : L2N.Takes X W) (F : FnX X.prog X.w X.K X.mg X.base k f fd ps asp) (hr : Room k X.A) (hm : X.mg x = some (.ref f)) (hk : PySem.W.keepIn X.K (.ref f) = true) (hb : Binds X.K fd ps []) (ha : AA X (e :: es) t) (hg : Gl X x := by rfl)
    (hdb : (x == ("__debug__" : Str)) = false := by decide) (he : starEach (e :: es) X.env = (false, eval e X.env) :: starEach es X.env := by rfl) (hpl : (backTo pos (starEach es X.env)).any (·.1) = false := by rfl) : AEX X W (.Call (.Name x p) (e :: es) [] pos) (axCall asp t) :=
  pe_imp (pe_callSD (E := WE W) F hr hg hm hk hb .nil (L2N.passAt tk) ha hdb he hpl) axcall_imp
variable {te : REX} {c : Expr} {tc : RT} {a b : List Stmt} {ta tb : RSX} {st : Stmt}
def sxExpr (te : REX) : RSX := fun E D ρ M => te ρ M (fun _ M1 => D.nx ρ M1) E
theorem sx_expr (he : AEX X W e te) (hs : swapsWith e none pos.line X.env = pure false := by rfl) : ASX X W (.Expr e pos) (sxExpr te) :=
  ps_imp (ps_expr he hs) fun D' σ H ⟨ρ, M, D, E, hr, hv, q, k, kx⟩ => ⟨ρ, M, _, E, hr, hv, q, fun v H1 d M1 t1 r1 v1 q1 => k.nx _ _ _ _ t1 (hr.mono t1) v1 q1, kx⟩
def sxSet (te : REX) (i : Nat) : RSX := fun E D ρ M => te ρ M (fun d M1 => D.nx (ρ.set i (some d)) M1) E
theorem sx_set (i : Nat) {y : Str} {py : Pos} (hN : X.N.Nodup) (he : AEX X W e te) (hi : X.N[i]? = some y := by rfl) (hx : Loc X.env.scope y := by first | exact Or.inl rfl | exact Or.inr rfl) (hs : swapsWith e (some (.Name y py)) pos.line X.env = pure false := by rfl)
    (hf : X.fn y = true ∨ X.env.scope.names.lookup y = some .local := by first | exact .inl rfl | exact .inr rfl) : ASX X W (.Assign [.Name y py] e pos) (sxSet te i) :=
  ps_imp (ps_set hN hi hx he hs hf) fun D' σ H ⟨ρ, M, D, E, hr, hv, q, k, kx⟩ => ⟨ρ, M, _, E, hr, hv, q, fun v H1 d M1 t1 r1 v1 q1 => k.nx _ _ _ _ t1 ((hr.mono t1).set i r1) v1 q1, kx⟩
def sxRet (te : REX) : RSX := fun E D ρ M => te ρ M D.rt E
theorem sx_ret (he : AEX X W e te) : ASX X W (.Return (some e) pos) (sxRet te) :=
  ps_imp (ps_ret he) fun D' σ H ⟨ρ, M, D, E, hr, hv, q, k, kx⟩ => ⟨ρ, M, _, E, hr, hv, q, k.rt, kx⟩
def sxIf (tc : RT) (ta tb : RSX) : RSX := fun E D ρ M => tc ρ M fun b M1 => onIf b (ta E D ρ M1) (tb E D ρ M1)
theorem sx_if (hc : AT X c tc) (ha : ASXs X W a ta) (hb : ASXs X W b tb) : ASX X W (.If c a b pos) (sxIf tc ta tb) :=
  ps_imp (ps_if hc ha hb) fun D' σ H ⟨ρ, M, D, E, hr, hv, q, k, kx⟩ => seqT hr hv q fun b H1 M1 t1 v1 q1 => by
    cases b with
    | true => exact ⟨ρ, M1, D, E, hr.mono t1, v1, q1, k.up t1, kx.up t1⟩
    | false => exact ⟨ρ, M1, D, E, hr.mono t1, v1, q1, k.up t1, kx.up t1⟩
theorem sxs_one (h : ASX X W st ta) : ASXs X W [st] ta := pss_one h
end
end HC
set_option maxHeartbeats 2000000
namespace HC
open PySem PySem.Spec L2 PyProof.Rows
section
variable {X : Cx} {pins : List (Addr × Obj)} {σ : L2.St} {H : Hp} {s : Shared} {a dx : Addr} {oe od : Obj} {vs : Array Value} {fs : List (Str × V)}
def anyO : HO := .ext fun _ => True
theorem anyO_ok {P : Program} {w : World} {H : Hp} {h : Heap} (e : h.get? a = some oe) : ObjOk P w H h a anyO := ⟨trivial, ⟨oe, e⟩, fun _ _ _ _ => trivial⟩
theorem inv_track (I : Inv X pins σ H s) (ha : s.heap.get? a = some oe) (hd : oe.data = .fields vs) (na : H a = none) (nL : a ≠ X.env.locals) (n0 : X.s_0.heap.get? a = none) (np : ∀ p ∈ X.pn ++ pins, p.1 ≠ a) : Inv X pins σ (upd H a (.frz oe anyO)) s := by
  refine ⟨I.ok, I.os, I.bare, ⟨I.base.keep, I.base.slot, fun b o e n hx => ?_, I.base.there, fun b xs e => ?_, fun b o u e => ?_, fun b ps e => ?_⟩, I.loc, I.cell, ?_, fun x c e => ?_, fun p hp => ?_, fun b u e => ?_, I.len⟩
  · have hb : b ≠ a := fun z => by rw [z, n0] at e; cases e
    rw [upd_ne hb]
    exact I.base.free b o e n hx
  · have q := I.base.tups b xs e
    rw [upd_ne (ne_of_none q na)]
    exact q
  · have q := I.base.frzs b o u e
    rw [upd_ne (ne_of_none q na)]
    exact q
  · obtain ⟨m, q⟩ := I.base.tbls b ps e
    exact ⟨m, by rw [upd_ne (ne_of_none q na)]; exact q⟩
  · rw [upd_ne nL.symm]
    exact I.free
  · have hc : c ≠ a := fun z => by
      obtain ⟨v, o, ho, hv⟩ := I.cell x c e
      rw [z, ha] at ho
      cases ho
      rw [hd] at hv
      cases hv
    rw [upd_ne hc]
    exact I.freeC x c e
  · obtain ⟨e, n, r⟩ := I.pin p hp
    exact ⟨e, by rw [upd_ne (np p hp)]; exact n, r⟩
  · by_cases hb : b = a
    · subst hb
      rw [upd_same] at e
      cases e
      exact ⟨ha, anyO_ok ha⟩
    · rw [upd_ne hb] at e
      exact (I.hok b u e).stay (fun c v _ q => q) (fun c q => by rw [upd_ne (ne_of_none q na)]; exact q) fun c xs q => by rw [upd_ne (ne_of_none q na)]; exact q
theorem inv_frzX (I : Inv X pins σ H s) (hx : H dx = some (.xd fs)) (hd : s.heap.get? dx = some od) : Inv X pins σ (upd H dx (.frz od (.xd fs))) s := by
  have ne : ∀ {b : Addr} {u : HO}, H b = some u → u ≠ .xd fs → b ≠ dx := fun {b u} q hu z => by
    rw [z, hx] at q
    exact hu (Option.some.inj q).symm
  have nn : ∀ {b : Addr}, H b = none → b ≠ dx := fun {b} q z => by rw [z, hx] at q; cases q
  refine ⟨I.ok, I.os, I.bare, ⟨I.base.keep, I.base.slot, fun b o e n hx => ?_, I.base.there, fun b xs e => ?_, fun b o u e => ?_, fun b ps e => ?_⟩, I.loc, I.cell, ?_, fun x c e => ?_, fun p hp => ?_, fun b u e => ?_, I.len⟩
  · have q := I.base.free b o e n hx
    rw [upd_ne (nn q)]
    exact q
  · have q := I.base.tups b xs e
    rw [upd_ne (ne q (fun z => nomatch z))]
    exact q
  · have q := I.base.frzs b o u e
    rw [upd_ne (ne q (fun z => nomatch z))]
    exact q
  · obtain ⟨m, q⟩ := I.base.tbls b ps e
    exact ⟨m, by rw [upd_ne (ne q (fun z => nomatch z))]; exact q⟩
  · rw [upd_ne (nn I.free)]
    exact I.free
  · rw [upd_ne (nn (I.freeC x c e))]
    exact I.freeC x c e
  · obtain ⟨e, n, r⟩ := I.pin p hp
    exact ⟨e, by rw [upd_ne (nn n)]; exact n, r⟩
  · by_cases hb : b = dx
    · subst hb
      rw [upd_same] at e
      cases e
      have q : ObjOk X.prog X.w H s.heap b (.xd fs) := I.hok b _ hx
      exact ⟨hd, ObjOk.stay q (fun c v _ q => q) (fun c q => by rw [upd_ne (ne q (fun z => nomatch z))]; exact q) fun c xs q => by rw [upd_ne (ne q (fun z => nomatch z))]; exact q⟩
    · rw [upd_ne hb] at e
      exact (I.hok b u e).stay (fun c v _ q => q) (fun c q => by rw [upd_ne (ne q (fun z => nomatch z))]; exact q) fun c xs q => by rw [upd_ne (ne q (fun z => nomatch z))]; exact q
end
theorem inv_suiteT {X : Cx} {pins : List (Addr × Obj)} {σ : L2.St} {H : Hp} {s : Shared} (I : Inv X pins σ H s) (a : Addr) : Inv (X.suite a (X.pn ++ pins)) [] σ H s :=
  ⟨I.ok.suite _ _, I.os, I.bare, I.base, I.loc, I.cell, I.free, I.freeC, fun p hp => I.pin p (by rw [List.append_nil] at hp; exact hp), I.hok, I.len⟩
theorem inv_unsuiteT {X : Cx} {pins pn' : List (Addr × Obj)} {σ : L2.St} {H : Hp} {s : Shared} {a : Addr} (I : Inv (X.suite a (X.pn ++ pins)) pn' σ H s) (ok : X.Ok) : Inv X pins σ H s :=
  ⟨ok, I.os, I.bare, I.base, I.loc, I.cell, I.free, I.freeC, fun p hp => I.pin p (List.mem_append_left _ hp), I.hok, I.len⟩
def caughtH (H : Hp) (a : Addr) (oe : Obj) (d : Option Addr) (od : Obj) (fs : List (Str × V)) : Hp := match d with
  | none => upd H a (.frz oe anyO)
  | some dx => upd (upd H dx (.frz od (.xd fs))) a (.frz oe anyO)
theorem inv_caught {X : Cx} {pins : List (Addr × Obj)} {σ : L2.St} {H : Hp} {s : Shared} {a : Addr} {oe : Obj} {vs : Array Value} {d : Option Addr} (I : Inv X pins σ H s) (ha : s.heap.get? a = some oe) (hd : oe.data = .fields vs) (na : H a = none) (nL : a ≠ X.env.locals) (n0 : X.s_0.heap.get? a = none) (npin : ∀ p ∈ X.pn ++ pins, p.1 ≠ a)
    (hdx : ∀ dx, d = some dx → ∃ fs, H dx = some (.xd fs)) : ∃ od fs, (∀ dx, d = some dx → H dx = some (.xd fs)) ∧ Inv X pins σ (caughtH H a oe d od fs) s := by
  cases d with
  | none => exact ⟨oe, [], (fun dx z => by cases z), inv_track I ha hd na nL n0 npin⟩
  | some dx =>
    obtain ⟨fs, hfs⟩ := hdx dx rfl
    obtain ⟨od, hod⟩ := objOk_get (I.hok dx _ hfs)
    have hne : a ≠ dx := fun z => by rw [z, hfs] at na; cases na
    exact ⟨od, fs, (fun dx' z => by cases z; exact hfs), inv_track (inv_frzX I hfs hod) ha hd (by rw [upd_ne hne]; exact na) nL n0 npin⟩
def wAsT (K : PySem.W.Frag) (c : Value) (i : Nat) (ts : TS) (Wout : WX) (D : Ends) : WX := fun cls d σ H =>
  ∃ b, PySem.W.exmOne K cls c = some b ∧ (b = true → ∀ (a : Addr) (oe : Obj) (od : Obj) (fs : List (Str × V)), H a = none → L2.Zc cls d oe → (∃ vs, oe.data = .fields vs) → (∀ dx, d = some dx → H dx = some (.xd fs)) →
    ts { nx := fun σ' H' => D.nx (σ'.set i none) H', rt := D.rt, bk := fun σ' H' => D.bk (σ'.set i none) H', ct := fun σ' H' => D.ct (σ'.set i none) H' } (σ.set i (some (.ref a))) (caughtH H a oe d od fs)) ∧
    (b = true → ∀ dx, d = some dx → ∃ fs, H dx = some (.xd fs)) ∧ (b = false → Wout cls d σ H)
section
variable {X : Cx} {x n : Str} {c : Value} {i : Nat} {body suite : List Stmt} {b₀ : Stmt} {np pos pos' : Pos} {tb : WX → TS} {ts : TS} {Wout : WX}
theorem ps_tryT (hs : X.stack = X.env :: X.outer) (hf : X.env.frame = some X.env.locals) (hex : X.ex = []) (hN : X.N.Nodup) (hi : X.N[i]? = some n) (hln : X.env.kindOf n = some .local) (hc : Names X x c) (tk : L2.Takes X Wout)
    (hb : ∀ (W : WX) (pn : List (Addr × Obj)) (xe : Value → Shared → Prop), L2.Takes (X.tr pn xe) W → PassesOwn (model X.prog X.w) X.A X.env xe → PSs (X.tr pn xe) body (tb W))
    (hsu : ∀ (a : Addr) (pn : List (Addr × Obj)), PSs (X.suite a pn) (b₀ :: suite) ts) :
    PS X (.Try body [.ExceptHandler (some (.Name x np)) (some n) (b₀ :: suite) pos'] [] [] pos) (fun D σ H => tb (wAsT X.K c i ts Wout D) D σ H) := by
  refine ⟨fun pins s σ H D I h => ?_⟩
  have ok := I.ok
  have hfr : X.A.frames = some (X.env :: X.outer) := by rw [ok.frames, hs]
  have hloc : Loc X.env.scope n := .inl hln
  refine wpAny_Try_except ?_
  refine wpAny_mono ((hb (wAsT X.K c i ts Wout D) (X.pn ++ pins) (fun e s₁ => wpAny (model X.prog X.w) X.A (noteFrame e X.env) (fun _ s₂ => wpAny (model X.prog X.w) X.A (setFlight e none) (fun _ s₃ =>
    wpAny (model X.prog X.w) X.A (handleBy e X.env [.ExceptHandler (some (.Name x np)) (some n) (b₀ :: suite) pos']) (SP X pins D) X.xe s₃) X.xe s₂) X.xe s₁) (fun u s' xx => ?_) PassesOwn.looking).run [] s σ H D (I.toTry _) h) (fun f s1 hsp => ?_) (fun e s1 he => he)
  ·
    obtain ⟨a, B, sI, pins', σ', H', cls, d, rfl, J', nb, up, sky, na, os, ag, b, hb1, hyes, hdx, hno⟩ := xx
    have J : Inv X pins σ' H' sI := J'.ofTry ok
    have sky' : Sky B (X.env :: X.outer) a (L2.Zc cls d) X.env.locals s'.heap := by rw [← hs]; exact sky
    show wpAny (model X.prog X.w) X.A (noteFrame (.ref a) X.env) _ _ _
    refine L2.Sky.land L2.Zc.steady hfr hf sky' fun h3 fl3 up3 => ?_
    have J3 : Inv X pins σ' H' { s' with heap := h3 } := J.landed nb fl3.1 (up.trans up3) os ag
    obtain ⟨oe3, vs3, he3, hz3, hd3⟩ := fl3.there
    have notFr : ∀ {h : Heap} {o : Obj} {vs : Array Value}, h.FunFrames B (X.env :: X.outer) → h.get? a = some o → o.data = .fields vs → a ∉ frs (X.env :: X.outer) := fun {h o vs} ff e dd hm => by
      obtain ⟨_, o', e', hnf⟩ := ff.mem hm
      rw [e] at e'; cases e'
      exact hnf _ dd
    have nfr := notFr fl3.2.2.1 he3 hd3
    have nL : a ≠ X.env.locals := fun z => nfr (List.mem_filterMap.mpr ⟨X.env, List.mem_cons_self, by rw [hf, z]⟩)
    have nF : a ∉ X.fs := fun hm => by
      obtain ⟨e, he, q⟩ := List.mem_filterMap.mp hm
      exact nfr (List.mem_filterMap.mpr ⟨e, List.mem_cons_of_mem _ he, q⟩)
    have nfs : a ∉ frs X.stack := by rw [hs]; exact nfr
    have nI : sI.heap.get? a = none := by
      cases q : sI.heap.get? a with
      | none => rfl
      | some o =>
        have z := nb a o q nfs
        rw [fl3.2.1] at z
        cases z
    have n0 : X.s_0.heap.get? a = none := by
      cases q : X.s_0.heap.get? a with
      | none => rfl
      | some o =>
        obtain ⟨o', z⟩ := J.base.there a o q (by rw [hex]; exact fun z => nomatch z)
        rw [nI] at z
        cases z
    have npin : ∀ p ∈ X.pn ++ pins, p.1 ≠ a := fun p hp z => by
      have := (J.pin p hp).1
      rw [z, nI] at this
      cases this
    have S3 := J3.suite he3 hd3 na nL nF
    refine wpAny_handleBy_cons (codeAny_handlers_test ?_) (by intro q; cases q)
    have LT : PySem.W.Looks (model X.prog X.w) h3 (typeOf (.ref a)) cls := fun A Q E s k q => wpAny_typeOf_ref (k _ _ he3) (by rw [hz3.1]; exact q)
    have LM := PySem.W.exm_one (M := model X.prog X.w) (J3.kIn) LT hb1
    have test : ∀ {Q : Value → Shared → Prop} {E : Value → Shared → Prop}, Q c { s' with heap := h3 } → wpAny (model X.prog X.w) (X.A.mark (some (.ref a))) (eval (.Name x np) X.env) Q E { s' with heap := h3 } := fun {Q E} q => by
      obtain ⟨hg, hdbg, hm | ⟨hm, hv, hnn⟩⟩ := hc
      · exact ld_glob (X := X.suite a ((a, oe3) :: (X.pn ++ pins))) S3 hg hm q hdbg
      · exact ld_blt (X := X.suite a ((a, oe3) :: (X.pn ++ pins))) S3 hg hm hv q hnn hdbg
    refine test (LM.here ?_)
    cases b with
    | true =>
      refine codeAny_handlers_suite_as ?_
      refine HandSPX.lands_againZ fl3 fun h4 fl4 up4 => ?_
      have J4 : Inv X pins σ' H' { s' with heap := h4 } := J.landed nb fl4.1 ((up.trans up3).trans up4) os ag
      obtain ⟨oe4, vs4, he4, hz4, hd4⟩ := fl4.there
      obtain ⟨od, fs, hfs, J5⟩ := inv_caught J4 he4 hd4 na nL n0 npin (fun dx z => hdx rfl dx z)
      have S4 := inv_suiteT J5 a
      refine store_ok (X := X.suite a (X.pn ++ pins)) (v := .ref a) S4 hN hi hloc rfl (fun s5 S5 => ?_) (.inr hln)
      refine wpAny_mono ((hsu a (X.pn ++ pins)).run [] s5 _ _ _ S5 (hyes rfl a oe4 od fs na hz4 ⟨_, hd4⟩ hfs)) (fun f s6 hsp => ?_) (fun _ _ z => False.elim z)
      have end_ : ∀ {σ6 : L2.St} {H6 : Hp} {Q : Shared → Prop}, Inv (X.suite a (X.pn ++ pins)) [] σ6 H6 s6 → (∀ s7, Inv X pins (σ6.set i none) H6 s7 → Q s7) →
          wpAny (model X.prog X.w) X.A (do bindName X.env n .none; unbindBehindTheSuite X.env n pos') (fun _ s7 => Q s7) X.xe s6 := fun {σ6 H6 Q} S6 hq => gone_ok (inv_unsuiteT S6 ok) hN hi hln hq
      cases f with
      | next =>
        obtain ⟨σ6, H6, S6, q6⟩ := hsp
        exact end_ S6 fun s7 J7 => ⟨_, _, J7, q6⟩
      | brk =>
        obtain ⟨σ6, H6, S6, q6⟩ := hsp
        exact end_ S6 fun s7 J7 => ⟨_, _, J7, q6⟩
      | cont =>
        obtain ⟨σ6, H6, S6, q6⟩ := hsp
        exact end_ S6 fun s7 J7 => ⟨_, _, J7, q6⟩
      | ret u =>
        obtain ⟨v6, σ6, H6, S6, r6, q6⟩ := hsp
        exact end_ S6 fun s7 J7 => ⟨_, _, _, J7, r6, q6⟩
    | false =>
      show wpAny _ X.A (handleBy (.ref a) X.env []) _ _ _
      refine wpAny_handleBy_nil ?_
      obtain ⟨k1, k2, k3, oe, vs, T, oT, ts', he, hz, hd, h1, hr⟩ := id fl3
      unfold PySem.passOn
      refine wpAny_bind (wpAny_field he hd h1 ?_)
      rw [if_neg (show ¬ ((Value.ref T == Value.none) = true) from by simp)]
      have fin : wpAny (model X.prog X.w) X.A (setFlight (.ref a) X.env.frame) (fun _ s4 => wpAny (model X.prog X.w) X.A (throw (.ref a) : Sem Flow) (SP X pins D) X.xe s4) X.xe { s' with heap := h3 } := by
        rw [hf]
        refine HandSPX.setFlight_upZ fl3 fun h4 hh4 up4 => wpAny_throw (tk _ _ ?_)
        exact ⟨a, B, sI, pins, σ', H', cls, d, rfl, J, nb, (up.trans up3).trans up4, .inr (.inr (by rw [hs]; exact hh4)), na, os, ag, hno rfl⟩
      first
        | exact wpAny_bind (wpAny_pure (wpAny_bind fin))
        | exact wpAny_bind fin
  · cases f with
    | next =>
      obtain ⟨σ', H', J', q⟩ := hsp
      exact wpAny_execs_nil ⟨σ', H', J'.ofTry ok, q⟩
    | brk =>
      obtain ⟨σ', H', J', q⟩ := hsp
      exact ⟨σ', H', J'.ofTry ok, q⟩
    | cont =>
      obtain ⟨σ', H', J', q⟩ := hsp
      exact ⟨σ', H', J'.ofTry ok, q⟩
    | ret u =>
      obtain ⟨v, σ', H', J', r, q⟩ := hsp
      exact ⟨v, σ', H', J'.ofTry ok, r, q⟩
end
end HC
set_option maxHeartbeats 2000000
namespace HC
open PySem PySem.Spec L2 PyProof.Rows
def XM (K : PySem.W.Frag) (cv : Value) (xt : List (Str × Bool)) : Prop := ∀ c b, xt.lookup c = some b → ∃ C, PySem.W.nsIn K mainGlobals c = some (some (.ref C)) ∧ PySem.W.exmOne K (.ref C) cv = some b
theorem xm_nil {K : PySem.W.Frag} {cv : Value} : XM K cv [] := fun c b h => by cases h
theorem xm_cons {K : PySem.W.Frag} {cv : Value} {x : Str} {b : Bool} {xt : List (Str × Bool)} (h : ∃ C, PySem.W.nsIn K mainGlobals x = some (some (.ref C)) ∧ PySem.W.exmOne K (.ref C) cv = some b) (r : XM K cv xt) : XM K cv ((x, b) :: xt) := fun c d e => by
  rw [List.lookup_cons] at e
  split at e
  · rename_i q
    have q : c = x := by simpa using q
    subst q
    cases e
    exact h
  · exact r c d e
theorem tp_xd {K : PySem.W.Frag} {H : Hp} {a : Addr} {fs : List (Str × V)} {o : HO} (h : H a = some (.xd fs)) : Tp K H (upd H a o) := by
  have ne : ∀ {b : Addr} {u : HO}, H b = some u → u ≠ .xd fs → b ≠ a := fun {b u} q hu z => by
    rw [z, h] at q
    exact hu (Option.some.inj q).symm
  refine ⟨fun b vs q => ?_, fun b vs q => ?_, fun b vs ⟨ob, q, hd⟩ => ⟨ob, (upd_ne (ne q (fun z => nomatch z))).trans q, hd⟩, fun b o u q => (upd_ne (ne q (fun z => nomatch z))).trans q⟩
  · rcases q with (q | ⟨ob, q⟩) | q
    · exact .inl (.inl ((upd_ne (ne q (fun z => nomatch z))).trans q))
    · exact .inl (.inr ⟨ob, (upd_ne (ne q (fun z => nomatch z))).trans q⟩)
    · exact .inr q
  · rcases q with ⟨ob, q⟩ | q
    · exact .inl ⟨ob, (upd_ne (ne q (fun z => nomatch z))).trans q⟩
    · exact .inr q
theorem repc_xd {K : PySem.W.Frag} {H : Hp} {a : Addr} {fs : List (Str × V)} {c : Cell} (h : H a = some (.xd fs)) : ¬ RepC K H a c := fun r => by
  cases c with
  | lst ds => obtain ⟨vs, e, _⟩ := r; rw [h] at e; cases e
  | dic ds => obtain ⟨vs, e, _⟩ := r; rw [h] at e; cases e
  | dit ds => obtain ⟨vs, e, _⟩ := r; rw [h] at e; cases e
  | fdc ds => obtain ⟨vs, o, e, _⟩ := r; rw [h] at e; cases e
  | obj C ds => obtain ⟨dx, vs, e, _⟩ := r; rw [h] at e; cases e
theorem view_xd {K : PySem.W.Frag} {M : Ms} {H : Hp} {a : Addr} {fs : List (Str × V)} {o : HO} (v : View K M H) (h : H a = some (.xd fs)) : View K M (upd H a o) := fun b c e => by
  have hb : b ≠ a := fun z => repc_xd h (by rw [z] at e; exact v a c e)
  exact (v b c e).keep (tp_xd h) (upd_ne hb)
theorem caught_tp {K : PySem.W.Frag} {H : Hp} {a : Addr} {oe od : Obj} {d : Option Addr} {fs : List (Str × V)} (na : H a = none) (hfs : ∀ dx, d = some dx → H dx = some (.xd fs)) : Tp K H (caughtH H a oe d od fs) := by
  cases d with
  | none => exact Tp.new na
  | some dx =>
    have hne : a ≠ dx := fun z => by have := hfs dx rfl; rw [← z, na] at this; cases this
    exact (tp_xd (hfs dx rfl)).trans (Tp.new (by rw [upd_ne hne]; exact na))
theorem caught_view {K : PySem.W.Frag} {M : Ms} {H : Hp} {a : Addr} {oe od : Obj} {d : Option Addr} {fs : List (Str × V)} (v : View K M H) (na : H a = none) (hfs : ∀ dx, d = some dx → H dx = some (.xd fs)) : View K M (caughtH H a oe d od fs) := by
  cases d with
  | none => exact v.new na
  | some dx =>
    have hne : a ≠ dx := fun z => by have := hfs dx rfl; rw [← z, na] at this; cases this
    exact (view_xd v (hfs dx rfl)).new (by rw [upd_ne hne]; exact na)
theorem caught_rep {K : PySem.W.Frag} {H : Hp} {a : Addr} {oe od : Obj} {d : Option Addr} {fs : List (Str × V)} {c : Str} {f : Option Int} {cls : Value} (rx : RepX K H c f cls d) (na : H a = none) (hz : L2.Zc cls d oe) (hv : ∃ vs, oe.data = .fields vs) (hfs : ∀ dx, d = some dx → H dx = some (.xd fs)) : SqX K (caughtH H a oe d od fs) a c f := by
  obtain ⟨⟨C, rfl, hn⟩, hf⟩ := rx
  have e1 : caughtH H a oe d od fs a = some (.frz oe anyO) := by cases d <;> exact upd_same
  refine ⟨C, oe, anyO, hn, e1, hz.1, hv, ?_⟩
  cases f with
  | none =>
    have hf : d = none := hf
    exact hz.2.trans hf
  | some r =>
    obtain ⟨dx, rfl, q⟩ := hf
    have q2 := hfs dx rfl
    rw [q2] at q
    cases q
    have hne : dx ≠ a := fun z => by rw [← z, q2] at na; cases na
    exact ⟨dx, od, hz.2, (upd_ne hne).trans upd_same⟩
def aTryAs (tb : RSX) (xt : List (Str × Bool)) (i : Nat) (ts : RS) (W : WXA) : RS := fun D ρ M => tb (fun c f M1 => onS (xt.lookup c) fun b => onIf b
  (ts { nx := fun ρ' M' => D.nx (ρ'.set i none) M', rt := D.rt, bk := fun ρ' M' => D.bk (ρ'.set i none) M', ct := fun ρ' M' => D.ct (ρ'.set i none) M' } (ρ.set i (some (.exc c f))) M1) (W c f M1)) D ρ M
section
variable {X : Cx} {x n : Str} {c : Value} {body suite : List Stmt} {b₀ : Stmt} {np pos pos' : Pos} {tb : RSX} {ts : RS} {W : WXA} {xt : List (Str × Bool)}
theorem as_tryAs (i : Nat) (hc : Names X x c) (tk : L2.Takes X (liftW X.K W)) (xm : XM X.K c xt) (hN : X.N.Nodup)
    (hb : ∀ (Wk : L2.WX) (pn : List (Addr × Obj)) (xe : Value → Shared → Prop), L2.Takes (X.tr pn xe) Wk → ASXs (X.tr pn xe) Wk body tb)
    (hsu : ∀ (a : Addr) (pn : List (Addr × Obj)), ASs (X.suite a pn) (b₀ :: suite) ts)
    (hs : X.stack = X.env :: X.outer := by rfl) (hf : X.env.frame = some X.env.locals := by rfl) (hex : X.ex = [] := by rfl) (hi : X.N[i]? = some n := by rfl) (hln : X.env.kindOf n = some .local := by rfl) :
    AS X (.Try body [.ExceptHandler (some (.Name x np)) (some n) (b₀ :: suite) pos'] [] [] pos) (aTryAs tb xt i ts W) :=
  ps_imp (ps_tryT (tb := fun Wk => cSX X.K Wk tb) (ts := cS X.K ts) hs hf hex hN hi hln hc tk (fun Wk pn xe tk2 _ => hb Wk pn xe tk2) hsu) fun D' σ H ⟨ρ, M, D, hr, hv, q, k⟩ => ⟨ρ, M, D, _, hr, hv, q, k, fun cc f cls d H1 M1 tp rx v1 e => by
    obtain ⟨b, hb1, e⟩ := onS_ex e
    obtain ⟨C, hC, hx⟩ := xm cc b hb1
    have ecls : cls = .ref C := by
      obtain ⟨⟨C', rfl, hC'⟩, _⟩ := rx
      rw [hC] at hC'
      cases hC'
      rfl
    refine ⟨b, by rw [ecls]; exact hx, ?_, ?_, ?_⟩
    · intro hbt a oe od fs na hz hfd hfs
      subst hbt
      have t2 := caught_tp (K := X.K) (oe := oe) (od := od) na hfs
      have t3 := tp.trans t2
      refine ⟨ρ.set i (some (.exc cc f)), M1, _, (hr.mono t3).set i (rep_exc (caught_rep rx na hz hfd hfs)), caught_view v1 na hfs, e, ?_, k.rt.up t3, ?_, ?_⟩
      · exact fun σ' H' ρ' M' t r v q => k.nx _ _ _ _ (t3.trans t) (r.drop i none) v q
      · exact fun σ' H' ρ' M' t r v q => k.bk _ _ _ _ (t3.trans t) (r.drop i none) v q
      · exact fun σ' H' ρ' M' t r v q => k.ct _ _ _ _ (t3.trans t) (r.drop i none) v q
    · intro _ dx hd
      obtain ⟨_, hf⟩ := rx
      cases f with
      | none =>
        have hf : d = none := hf
        rw [hf] at hd
        cases hd
      | some r =>
        obtain ⟨dx', e', q⟩ := hf
        rw [e'] at hd
        cases hd
        exact ⟨_, q⟩
    · intro hbf
      subst hbf
      exact ⟨cc, f, M1, rx, v1, e⟩⟩
def aTryOnly (tb : RSX) (xt : List (Str × Bool)) (ts : RS) (W : WXA) : RS := fun D ρ M => tb (fun c f M1 => onS (xt.lookup c) fun b => onIf b (ts D ρ M1) (W c f M1)) D ρ M
theorem as_tryOnly (hc : Names X x c) (tk : L2.Takes X (liftW X.K W)) (xm : XM X.K c xt)
    (hb : ∀ (Wk : L2.WX) (pn : List (Addr × Obj)) (xe : Value → Shared → Prop), L2.Takes (X.tr pn xe) Wk → ASXs (X.tr pn xe) Wk body tb)
    (hsu : ∀ (a : Addr) (pn : List (Addr × Obj)), ASs (X.suite a pn) (b₀ :: suite) ts)
    (hs : X.stack = X.env :: X.outer := by rfl) (hf : X.env.frame = some X.env.locals := by rfl) :
    AS X (.Try body [.ExceptHandler (some (.Name x np)) none (b₀ :: suite) pos'] [] [] pos) (aTryOnly tb xt ts W) :=
  ps_imp (L2.ps_try_only (tb := fun Wk => cSX X.K Wk tb) (ts := fun _ _ _ => cS X.K ts) hs hf hc tk (fun Wk pn xe tk2 _ => hb Wk pn xe tk2) (fun a oe _ _ pn _ _ => hsu a ((a, oe) :: pn))) fun D' σ H ⟨ρ, M, D, hr, hv, q, k⟩ => ⟨ρ, M, D, _, hr, hv, q, k, fun cc f cls d H1 M1 tp rx v1 e => by
    obtain ⟨b, hb1, e⟩ := onS_ex e
    obtain ⟨C, hC, hx⟩ := xm cc b hb1
    have ecls : cls = .ref C := by
      obtain ⟨⟨C', rfl, hC'⟩, _⟩ := rx
      rw [hC] at hC'
      cases hC'
      rfl
    refine ⟨b, by rw [ecls]; exact hx, ?_, ?_⟩
    · intro hbt a na
      subst hbt
      exact ⟨ρ, M1, D, hr.mono tp, v1, e, k.up tp⟩
    · intro hbf
      subst hbf
      exact ⟨cc, f, M1, rx, v1, e⟩⟩
end
structure XcK (K : PySem.W.Frag) (C : Addr) : Prop where
  cl : (PySem.W.clsIn K C).isSome = true
  ga : PySem.W.findIn K (.ref C) "__getattribute__" = some (some (.builtin "BaseException.__getattribute__"))
  gg : PySem.W.findIn K (.ref C) "__getattr__" = some none
  sb : PySem.W.subIn K (.ref C) (.type "BaseException") = some true
  kl : PySem.W.findIn K (.ref C) "__class__" = some (some (.builtin "object.__class__"))
  sp : PySem.W.specialIn K (.builtin "object.__class__") "__get__" = some (some (.builtin "getset_descriptor.__get__"))
  tk : PySem.W.takesIn K (.builtin "object.__class__") = some true
  mr : PySem.W.mroIn K C (.type "object") = some true
def XI (K : PySem.W.Frag) (cv : Value) (xt : List (Str × Bool)) : Prop := ∀ c b, xt.lookup c = some b → ∃ C, PySem.W.nsIn K mainGlobals c = some (some (.ref C)) ∧ PySem.W.kitOne K (.ref C) cv = some b ∧ XcK K C
theorem xi_nil {K : PySem.W.Frag} {cv : Value} : XI K cv [] := fun c b h => by cases h
theorem xi_cons {K : PySem.W.Frag} {cv : Value} {x : Str} {b : Bool} {xt : List (Str × Bool)} (h : ∃ C, PySem.W.nsIn K mainGlobals x = some (some (.ref C)) ∧ PySem.W.kitOne K (.ref C) cv = some b ∧ XcK K C) (r : XI K cv xt) : XI K cv ((x, b) :: xt) := fun c d e => by
  rw [List.lookup_cons] at e
  split at e
  · rename_i q
    have q : c = x := by simpa using q
    subst q
    cases e
    exact h
  · exact r c d e
def onXc (d : Dv) (Q : Str → Option Int → Prop) : Prop := match d with | .exc c f => Q c f | _ => False
theorem onXc_ex {d : Dv} {Q : Str → Option Int → Prop} (h : onXc d Q) : ∃ c f, d = .exc c f ∧ Q c f := by
  cases d <;> first | exact h.elim | exact ⟨_, _, rfl, h⟩
theorem sqx_inst {K : PySem.W.Frag} {P : Program} {w : World} {H : Hp} {h : Heap} {a : Addr} {c : Str} {f : Option Int} (q : SqX K H a c f) (hok : HOk P w H h) : ∃ C oe od, PySem.W.nsIn K mainGlobals c = some (some (.ref C)) ∧ PySem.W.InstAt h a oe C od := by
  obtain ⟨C, oe, u, hn, e, hc, ⟨vs, hv⟩, hf⟩ := q
  obtain ⟨ha, _⟩ := hok a _ e
  have nc : PySem.W.notCls oe := by unfold PySem.W.notCls; rw [hv] <;> rfl
  cases f with
  | none => exact ⟨C, oe, none, hn, ha, hc, nc, by rw [show oe.dict = none from hf]; trivial⟩
  | some r =>
    obtain ⟨dx, od, e1, e2⟩ := hf
    obtain ⟨hd, _⟩ := hok dx _ e2
    exact ⟨C, oe, some od, hn, ha, hc, nc, by rw [e1]; exact hd⟩
def rIsX (K : PySem.W.Frag) : List V → Hp → VK → Prop := fun xs H Q => ∃ (a : Addr) (cc : V) (cv : Value) (c : Str) (f : Option Int) (C : Addr) (b : Bool), xs = [.ref a, cc] ∧ ClsV cc cv ∧ SqX K H a c f ∧ PySem.W.nsIn K mainGlobals c = some (some (.ref C)) ∧ PySem.W.kitOne K (.ref C) cv = some b ∧ XcK K C ∧ Q (.bl b) H
theorem call_isX {X : Cx} : CallR X (.builtin "isinstance") (rIsX X.K) := by
  intro pins s σ H xs us Q I r h
  obtain ⟨a, cc, cv, c, f, C, b, rfl, k, sq, hn, e, T, q⟩ := h
  obtain ⟨u1, u2, rfl, r1, r2⟩ := vals2 r
  have e2 := k.eq r2
  subst e2
  cases (show u1 = Value.ref a from r1)
  obtain ⟨C', oe, od, hn', J⟩ := sqx_inst sq I.hok
  rw [hn] at hn'
  cases hn'
  exact PySem.W.kia_one (PySem.W.kitx_exc T.cl T.ga T.gg T.sb T.kl T.sp T.tk T.mr) I.kIn J e (fun z => nomatch z) fun tk => ⟨.bl b, H, I.tok tk, rfl, q⟩
section
variable {X : Cx} {e : Expr} {te : RE} {y : Str} {p q pos : Pos} {xt : List (Str × Bool)} {v : V} {cv : Value}
def aIsX (te : RE) (xt : List (Str × Bool)) : RE := fun ρ M Q => te ρ M fun d M1 => onXc d fun c _ => onS (xt.lookup c) fun b => Q (.bl b) M1
theorem ae_isX (hm : X.mg "isinstance" = none) (he : AE X e te) (hy : PE X (.Name y q) (tC v)) (hcv : ClsV v cv) (xi : XI X.K cv xt) (hg : Gl X "isinstance" := by rfl)
    (hes : starEach [e, .Name y q] X.env = (false, eval e X.env) :: starEach [.Name y q] X.env := by rfl) (hes2 : starEach [.Name y q] X.env = (false, eval (.Name y q) X.env) :: starEach [] X.env := by rfl) (hpl : (backTo pos (starEach [.Name y q] X.env)).any (·.1) = false := by rfl) :
    AE X (.Call (.Name "isinstance" p) [e, .Name y q] [] pos) (aIsX te xt) :=
  pe_imp (pe_callB call_isX hg hm PyProof.Rows.Boot.«isinstance» (pa_cons he (pa_cons hy pa_nil (hs := hes2)) (hs := hes)) (by decide) (by decide) hes hpl) fun σ H Q' ⟨ρ, M, Q, hr, hv, h, k⟩ => by
    refine seqE hr hv h fun u H1 d M1 t1 r1 v1 q1 => ?_
    obtain ⟨c, f, rfl, q1⟩ := onXc_ex q1
    obtain ⟨b, hb, q1⟩ := onS_ex q1
    obtain ⟨a, rfl, sq⟩ := rep_exc_inv r1
    obtain ⟨C, hn, hk, T⟩ := xi c b hb
    exact ⟨a, v, cv, c, f, C, b, rfl, hcv, sq, hn, hk, T, k _ _ _ _ t1 rep_bl v1 q1⟩
def XF (K : PySem.W.Frag) (xs : List Str) : Prop := ∀ c, c ∈ xs → ∃ C, PySem.W.nsIn K mainGlobals c = some (some (.ref C)) ∧ XfC K C ∧ PySem.W.findIn K (.ref C) "row" = some none
def aRow (te : RE) (xs : List Str) : RE := fun ρ M Q => te ρ M fun d M1 => onXc d fun c f => c ∈ xs ∧ onS f fun r => Q (.int r) M1
theorem ae_row {xs : List Str} (xf : XF X.K xs) (he : AE X e te) (hb : attributeBase e "row" X.env (eval e X.env) = eval e X.env := by rfl) : AE X (.Attribute e "row" pos) (aRow te xs) := by
  refine ⟨fun pins s σ H Q' I ⟨ρ, M, Q, hr, hv, h, k⟩ => ?_⟩
  refine attr_of hb (thn (he.run pins s σ H _ I (seqE (Q' := fun u H1 => ∃ a r od0, u = .ref a ∧ (∃ c, c ∈ xs ∧ SqX X.K H1 a c (some r)) ∧ od0 = () ∧ Q' (V.int r) H1) hr hv h fun u H1 d M1 t1 r1 v1 q1 => ?_)) fun u s1 hh => ?_)
  · obtain ⟨c, f, rfl, hm, q1⟩ := onXc_ex q1
    obtain ⟨r, rfl, q1⟩ := onS_ex q1
    obtain ⟨a, rfl, sq⟩ := rep_exc_inv r1
    exact ⟨a, r, (), rfl, ⟨c, hm, sq⟩, rfl, k _ _ _ _ t1 rep_int v1 q1⟩
  · obtain ⟨x, H1, I1, rx, a, r, _, rfl, ⟨c, hm, sq⟩, _, q⟩ := hh
    obtain rfl : u = Value.ref a := rx
    obtain ⟨C, hn, T, hno⟩ := xf c hm
    obtain ⟨C', oe, uu, hn', ea, hc, ⟨vs, hvs⟩, dx, od, ed, edx⟩ := sq
    rw [hn] at hn'
    cases hn'
    obtain ⟨ha, _⟩ := I1.hok a _ ea
    obtain ⟨hod, hxd⟩ := I1.hok dx _ edx
    have hx : ObjOk X.prog X.w H1 s1.heap dx (.xd [(("row" : Str), .int r)]) := hxd
    obtain ⟨mA, hns, hrr⟩ := hx
    obtain ⟨od', ho, hl⟩ := lookIn_ns hns
    have er := hrr ("row" : Str)
    have el : ([(("row" : Str), V.int r)] : List (Str × V)).lookup ("row" : Str) = some (V.int r) := by rw [List.lookup_cons, BEq.rfl]
    rw [el] at er
    obtain ⟨uv, hu, ru⟩ := RelO.some_of (v := V.int r) (o := mA ("row" : Str)) er
    have J : PySem.W.InstAt s1.heap a oe C (some od') := ⟨ha, hc, by unfold PySem.W.notCls; rw [hvs] <;> rfl, by rw [ed]; exact ho⟩
    exact HandSPX.exc_get I1.kIn J T.ga T.gg T.exC (PySem.W.findObj_own T.hdC hno rfl (by rw [hl, hu])) (handed_of ru) ⟨V.int r, H1, I1.tok _, ru, q⟩
end
end HC
set_option maxHeartbeats 2000000
namespace HC
open PySem PySem.Spec L2 L2H PyProof.Rows
structure FnT (P : Program) (w : World) (K : PySem.W.Frag) (mg : Str → Option Value) (base : Heap) (k : Nat) (f : Addr) (fd : FuncData) (ps : List Str) (sp : Sp) : Prop where
  len : ∀ vs H Q E, sp vs H Q E → vs.length = ps.length
  run : ∀ (A : Around) (outer : List Env) (s : Shared) (H : Hp) (args : Args) (us : List Value) (vs : List V) (Q : VK) (E : XK), RoomH k A → Env0 P w K mg base A outer s H → BindsTo s fd args (ps.zip us) → Vals vs us → sp vs H Q E →
    codeAny (model P w) A (.call (.ref f) args) (CR CX0 outer P w H s Q E) s
theorem FnT.mono {P : Program} {w : World} {K : PySem.W.Frag} {mg : Str → Option Value} {base : Heap} {j k : Nat} {f : Addr} {fd : FuncData} {ps : List Str} {sp : Sp} (F : FnT P w K mg base j f fd ps sp) (h : j ≤ k) : FnT P w K mg base k f fd ps sp :=
  ⟨F.len, fun A outer s H args us vs Q E hr => F.run A outer s H args us vs Q E (hr.mono h)⟩
def cxT (P : Program) (w : World) (K : PySem.W.Frag) (mg : Str → Option Value) (base : Heap) (N : List Str) (qual : Str) (scope : Scope) (f : Addr) (cd : Value) (A : Around) (outer : List Env) (s : Shared) (H : Hp) (E : XK) : Cx :=
  { cxOf CX0 P w K mg base N qual scope f cd A outer s H E with calm := false }
theorem inv_startT {P : Program} {w : World} {K : PySem.W.Frag} {mg : Str → Option Value} {base : Heap} {N ps : List Str} {qual : Str} {scope : Scope} {f : Addr} {cd : Value} {A : Around} {outer : List Env} {s s1 : Shared} {H : Hp} {E : XK} {us : List Value} {vs : List V}
    (S : FnScope N ps scope) (e0 : Env0 P w K mg base A outer s H) (hl : vs.length = ps.length) (r : Vals vs us)
    (x : InCallC s s.heap.objs.size (bindL (envOfC qual scope s.heap.objs.size f cd).kindOf (ps.zip us) fun _ => none) (cellsFrom (s.heap.objs.size + 1) scope.names []) (bindC (envOfC qual scope s.heap.objs.size f cd).kindOf (ps.zip us) fun _ => none) s1) :
    Inv (cxT P w K mg base N qual scope f cd A outer s H E) [] (L2.start N vs) H s1 := by
  have hpl : ps.length ≤ N.length := by have := congrArg List.length S.pre; rw [List.length_take] at this; omega
  obtain ⟨h1, tk, rfl, hk⟩ := x.done
  have noA : ∀ b : Addr, b ∉ (cxT P w K mg base N qual scope f cd A outer s H E).ex := fun b z => absurd (show b ∈ ([] : List Addr) from z) (by simp)
  refine ⟨⟨e0.mod, S.kind, rfl, rfl, Nat.le_refl _, fun y z c h1 h2 => ?_, fun y hy => ?_, fun y c _ h => ?_, (fun z => Bool.noConfusion (show false = true from z)), Around.frames_deeper e0.frames, .inr ⟨rfl, rfl⟩, fun b z => absurd z (noA b), e0.bs, e0.bsz, fun b _ _ => noA b, fun b z => absurd z (noA b), e0.funs, e0.frf⟩,
    rfl, e0.bare, Un.kept hk, ⟨_, x.toInCall.ns, fun i y v h1 h2 h3 => ?_⟩, fun y c h => ⟨_, x.cell y c h⟩, e0.hok.fresh (Nat.le_refl _), fun y c h => ?_, fun p hp => absurd (show p ∈ ([] : List (Addr × Obj)) from hp) (by simp), e0.hok.kept hk, ?_⟩
  · exact name_of_addr x.apart (PySem.mem_of_lookup h1) (PySem.mem_of_lookup h2)
  · have hy : scope.names.lookup y = some .cell ∨ scope.names.lookup y = some .free := hy
    rcases hy with hy | hy
    · exact cell_has hy
    · exact absurd rfl (S.nofree _ (PySem.mem_of_lookup hy))
  · exact Nat.le_of_lt (x.above y c (PySem.mem_of_lookup h))
  · have hi : i < vs.length := by
      unfold L2.start at h2
      by_cases hi : i < vs.length
      · exact hi
      · rw [List.getElem?_append_right (by simpa using hi)] at h2
        rw [List.getElem?_replicate] at h2
        split at h2 <;> cases h2
    have ha : vs[i]? = some v := by
      unfold L2.start at h2
      rw [List.getElem?_append_left (by simpa using hi), List.getElem?_map] at h2
      cases e : vs[i]? with
      | none => rw [e] at h2; cases h2
      | some a => rw [e] at h2; cases h2; rfl
    obtain ⟨u, hu, rv⟩ := r.get ha
    have hp : ps[i]? = some y := by
      rw [← S.pre, List.getElem?_take_of_lt (by omega)]; exact h1
    have ndP : ps.Nodup := by rw [← S.pre]; exact S.nd.sublist (List.take_sublist _ _)
    refine ⟨u, rv, ?_⟩
    rcases S.par y (List.mem_of_getElem? hp) with k | k
    · exact .inl ⟨k, bindL_get ndP hp hu k⟩
    · obtain ⟨c, e⟩ := cell_has (n := s.heap.objs.size + 1) k
      refine .inr ⟨.inl k, c, e, ?_⟩
      have q := x.cell y c e
      rw [bindC_get ndP hp hu (by show scope.names.lookup y ≠ _; rw [k]; decide)] at q
      exact q
  · exact e0.hok.fresh (Nat.le_of_lt (x.above y c (PySem.mem_of_lookup h)))
  · unfold L2.start
    show _ = N.length
    rw [List.length_append, List.length_map, List.length_replicate]
    omega
theorem fn_ofT {P : Program} {w : World} {K : PySem.W.Frag} {mg : Str → Option Value} {base : Heap} {k : Nat} {f : Addr} {name qual : Str} {params : Arguments} {body : List Stmt} {scope : Scope} {dV kV doc pm cdv ct oc : Value} {an od : Option Addr}
    {osl : Array (Option Value)} {N ps : List Str} {sp : Sp} (lk : K.lookup f = some ⟨oc, od, .func (PySem.W.fnOf name qual params body scope dV kV doc pm an cdv ct), osl⟩) (hcd : PySem.W.codeIn K cdv qual = true) (S : FnScope N ps scope)
    (len : ∀ vs H Q E, sp vs H Q E → vs.length = ps.length)
    (hbody : ∀ (A : Around) (outer : List Env) (s : Shared) (H : Hp) (vs : List V) (Q : VK) (E : XK), RoomH k (A.deeper (envOfC qual scope s.heap.objs.size f cdv)) → sp vs H Q E →
      ∃ t, PSs (cxT P w K mg base N qual scope f cdv A outer s H E) body t ∧ t { nx := fun _ H' => Q .non H', rt := Q } (L2.start N vs) H) :
    FnT P w K mg base (k + 1) f (PySem.W.fnOf name qual params body scope dV kV doc pm an cdv ct) ps sp := by
  refine ⟨len, fun A outer s H args us vs Q E hr e0 hb r hsp => ?_⟩
  have hl := len _ _ _ _ hsp
  have KX : K.In s.heap := e0.mod.kin.keeps fun b o e => (e0.bs b o e).1
  have lim : s.heap.NoLimit := e0.mod.nolimit.keeps fun b o e => (e0.bs b o e).1
  have hkind : ∀ y ∈ ps.zip us, scope.names.lookup y.1 = some .local ∨ (scope.names.lookup y.1 = some .cell ∧ ((cellsFrom (s.heap.objs.size + 1) scope.names []).lookup y.1).isSome = true) := fun ⟨n, v⟩ hy => by
    rcases S.par n (List.of_mem_zip hy).1 with q | q
    · exact .inl q
    · exact .inr ⟨q, PySem.W.cellsFrom_some _ _ _ (.inl q)⟩
  refine codeAny_call_function hr.depth (KX _ _ lk) rfl S.co S.gen rfl (PySem.W.codeRec_of KX hcd) (hb _ _ _ _ ?_)
  refine wpAny_newFunctionEnv_cells S.kind hkind fun env he s1 x => ?_
  subst he
  refine ⟨lim.keeps x.toInCall.keep, codeAny_func ?_⟩
  obtain ⟨t, ht, hq⟩ := hbody A outer s H vs Q E (hr.deeper _) hsp
  have I : Inv (cxT P w K mg base N qual scope f cdv A outer s H E) [] (L2.start N vs) H s1 := inv_startT S e0 hl r x
  refine wpAny_mono (ht.run [] s1 (L2.start N vs) H _ I hq) (fun fl s' hs => ?_) fun e s' hs => hs
  have fin : ∀ {σ' : L2.St} {H' : Hp} {v : V} {u : Value}, Inv (cxT P w K mg base N qual scope f cdv A outer s H E) [] σ' H' s' → RelV v u → Q v H' → CE outer P w H s Q u s' :=
    fun {σ' H' v u} J rv q => ⟨v, H', J.os, J.bare, J.base, J.hok, rv, q⟩
  cases fl with
  | ret u =>
    obtain ⟨v, σ', H', J, rv, q⟩ := hs
    exact fin J rv q
  | next =>
    obtain ⟨σ', H', J, q⟩ := hs
    exact fin (v := V.non) (u := Value.none) J rfl q
  | brk =>
    obtain ⟨_, _, _, q⟩ := hs
    exact False.elim q
  | cont =>
    obtain ⟨_, _, _, q⟩ := hs
    exact False.elim q
section
variable {X : Cx} {k : Nat} {f : Addr} {fd : FuncData} {ps : List Str} {sp : Sp} {x : Str} {p pos : Pos} {e : Expr} {es : List Expr} {t : TA}
theorem pe_callT (F : FnT X.prog X.w X.K X.mg X.base k f fd ps sp) (hr : RoomH k X.A) (hg : Gl X x) (hm : X.mg x = some (.ref f)) (hk : PySem.W.keepIn X.K (.ref f) = true) (hb : Binds X.K fd ps [])
    (ha : PA X (e :: es) t) (hdb : (x == ("__debug__" : Str)) = false := by decide) (he : starEach (e :: es) X.env = (false, eval e X.env) :: starEach es X.env := by rfl) (hpl : (backTo pos (starEach es X.env)).any (·.1) = false := by rfl) :
    PE X (.Call (.Name x p) (e :: es) [] pos) (tCall sp [] E0 t) := by
  refine ⟨fun pins s σ H Q I h => ?_⟩
  refine wpAny_Call_Name_kw (ld_glob I hg hm ?_ hdb)
  refine PySem.W.callWith_K (h₀ := X.base) I.ok.mod.kin hk (thn (ha.run pos pins s σ H _ I h) fun us s1 ⟨vs, H1, I1, r, q⟩ => ⟨I1.kIn, ?_⟩) he hpl
  have q : sp (vs ++ []) H1 Q E0 := q
  rw [List.append_nil] at q
  show wpAny _ _ (call (.ref f) us) _ _ _
  have hl : us.length = ps.length := by rw [← r.length]; exact F.len _ _ _ _ q
  have b := hb s1 us I1.kIn (by rw [List.append_nil]; exact hl)
  rw [List.append_nil] at b
  refine wpAny_call (codeAny_mono (F.run X.A X.stack s1 H1 ⟨us, []⟩ us vs Q E0 hr I1.env0 b r q) fun r s' hq => ?_)
  cases r with
  | error e => exact (pass0 (X := X)) pins σ H1 s1 e s' I1 hq
  | ok fl =>
    cases fl with
    | ret u => exact I1.after hq
    | next => exact False.elim hq
    | brk => exact False.elim hq
    | cont => exact False.elim hq
end
abbrev FnTA (P : Program) (w : World) (K : PySem.W.Frag) (mg : Str → Option Value) (base : Heap) (k : Nat) (f : Addr) (fd : FuncData) (ps : List Str) (asp : ASp) : Prop := FnT P w K mg base k f fd ps (cSp K asp)
section
variable {X : Cx} {k : Nat} {f : Addr} {fd : FuncData} {ps : List Str} {asp : ASp} {x : Str} {p pos : Pos} {e : Expr} {es : List Expr} {t : RA}
theorem ae_callT (F : FnTA X.prog X.w X.K X.mg X.base k f fd ps asp) (hr : RoomH k X.A) (hm : X.mg x = some (.ref f)) (hk : PySem.W.keepIn X.K (.ref f) = true) (hb : Binds X.K fd ps []) (ha : AA X (e :: es) t) (hg : Gl X x := by rfl)
    (hdb : (x == ("__debug__" : Str)) = false := by decide) (he : starEach (e :: es) X.env = (false, eval e X.env) :: starEach es X.env := by rfl) (hpl : (backTo pos (starEach es X.env)).any (·.1) = false := by rfl) : AE X (.Call (.Name x p) (e :: es) [] pos) (aCall asp t) :=
  pe_imp (pe_callT F hr hg hm hk hb ha hdb he hpl) acall_imp
abbrev BXT (P : Program) (w : World) (K : PySem.W.Frag) (mg : Str → Option Value) (base : Heap) (N : List Str) (qual : Str) (st : Stmt) (f : Addr) (cdv : Value) (A : Around) (outer : List Env) (s : Shared) (H : Hp) (E : XK) : Cx := (cxT P w K mg base N qual (defScope st) f cdv A outer s H E).nox
theorem fnTA {P : Program} {w : World} {K : PySem.W.Frag} {mg : Str → Option Value} {base : Heap} {qual : Str} {st : Stmt} {N : List Str} {t : RS} (F : Fun K x qual st f fd) (S : FnScope N ps (defScope st)) (len : ∀ ds M Q, asp ds M Q → ds.length = ps.length)
    (body : ∀ (cdv : Value) (A : Around) (outer : List Env) (s : Shared) (H : Hp) (E : XK), RoomH k (A.deeper (envOfC qual (defScope st) s.heap.objs.size f cdv)) → ASs (BXT P w K mg base N qual st f cdv A outer s H E) (defBody st) t)
    (spec : ∀ ds M Q, asp ds M Q → t (retD Q) (startA N.length ds) M) : FnTA P w K mg base (k + 1) f fd ps asp := by
  obtain ⟨oc, od, kV, doc, pm, an, cdv0, ct, osl, rfl, lk, hcd⟩ := F.ex
  refine fn_ofT lk hcd S (fun vs H Q' E ⟨ds, M, Q, r, _, q, _⟩ => by rw [← r.length]; exact len ds M Q q) fun A outer s H vs Q' E hr ⟨ds, M, Q, r, hv, q, kk⟩ => ?_
  refine ⟨_, (PSs.nox (body cdv0 A outer s H E hr)), startA N.length ds, M, retD Q, repE_start r, hv, spec ds M Q q, ?_, ?_, ?_, ?_⟩
  · rintro σ H' ρ M' tp _ v ⟨M'', sb, q'⟩
    exact kk _ _ _ M'' tp rep_non (v.sub sb) q'
  · rintro v H' d M' tp rd vv ⟨M'', sb, q'⟩
    exact kk _ _ _ M'' tp rd (vv.sub sb) q'
  · rintro _ _ _ _ _ _ _ h
    exact h.elim
  · rintro _ _ _ _ _ _ _ h
    exact h.elim
theorem huT_of {A : Around} {k : Nat} (hr : RoomH k A) : A.units + 1 < cLine := by have := hr.un; omega
theorem hu64T_of {A : Around} {k : Nat} (hr : RoomH k A) : A.units + 64 < cLine := by have := hr.un; omega
end
end HC
namespace HC
open PySem L2 PyProof.Rows
theorem sx_as {X : Cx} {W : L2.WX} {st : Stmt} {t : RS} (h : AS X st t) : ASX X W st (fun _ => t) := ps_imp h fun D' σ H ⟨ρ, M, D, E, hr, hv, q, k, kx⟩ => ⟨ρ, M, D, hr, hv, q, k⟩
def sxNext : RSX := fun _ => aNext
theorem sxs_nil {X : Cx} {W : L2.WX} : ASXs X W [] sxNext := pss_imp (ass_nil (X := X)) fun D' σ H ⟨ρ, M, D, E, hr, hv, q, k, kx⟩ => ⟨ρ, M, D, hr, hv, q, k⟩
theorem xf_nil {K : PySem.W.Frag} : XF K [] := fun c h => by cases h
theorem xf_cons {K : PySem.W.Frag} {x : Str} {xs : List Str} (h : ∃ C, PySem.W.nsIn K mainGlobals x = some (some (.ref C)) ∧ XfC K C ∧ PySem.W.findIn K (.ref C) "row" = some none) (r : XF K xs) : XF K (x :: xs) := fun c e => by
  rcases List.mem_cons.mp e with q | q
  · rw [q]; exact h
  · exact r c q
theorem FnX.norm {P : Program} {w : World} {K : PySem.W.Frag} {mg : Str → Option Value} {base : Heap} {k : Nat} {f : Addr} {fd : FuncData} {ps : List Str} {asp : XSp} {sp : ASp} (F : FnX P w K mg base k f fd ps asp) (h : ∀ ds M Q, sp ds M Q → asp ds M Q fun _ _ _ => False) : FnA P w K mg base k f fd ps sp := by
  have G := F.nox
  exact ⟨fun vs H Q E ⟨ds, M, Q1, r, v, q, kk⟩ => G.len vs H Q E ⟨ds, M, Q1, r, v, h _ _ _ q, kk⟩, fun A outer s H args us vs Q E hr e0 hb r ⟨ds, M, Q1, r1, v, q, kk⟩ => G.run A outer s H args us vs Q E hr e0 hb r ⟨ds, M, Q1, r1, v, h _ _ _ q, kk⟩⟩
theorem boot_ValueError : bootBuiltins ("ValueError" : Str) = some (.type "ValueError") := PyProof.Rows.Boot.«ValueError»
theorem xr_mk {P : Program} {w : World} {K : PySem.W.Frag} {mg : Str → Option Value} {base : Heap} {x qual : Str} {st : Stmt} {C fI : Addr} {fd : FuncData} (hn : PySem.W.nsIn K mainGlobals x = some (some (.ref C))) (gC : mg x = some (.ref C)) (o : OexC K C) (hno : PySem.W.findIn K (.ref C) "row" = some none)
    (iC : PySem.W.findIn K (.ref C) "__init__" = some (some (.ref fI))) (tI : PySem.W.typeIn K (.ref fI) = some (.type "function")) (F : Fun K "__init__" qual st fI fd) (S : FnScope ["self", "row"] ["self", "row"] (defScope st)) (hb : Binds K fd ["self", "row"] [])
    {p1 p2 p3 p4 : Pos} (hv0 : Vis (defScope st) "self") (hv1 : Vis (defScope st) "row") (hbody : defBody st = [.Assign [.Attribute (.Name "self" p1) "row" p2] (.Name "row" p3) p4]) : XrT P w K mg base x := by
  refine ⟨C, fI, fd, hn, gC, o, iC, tI, F.ok S (fun vs H Q E ⟨a, v, e, _⟩ => by rw [e]; rfl) (fun cdv A outer s H vs Q E hr ⟨a, v, e, h1, h2⟩ => ?_), hb⟩
  refine ⟨tOst K "row" (tVar 0) (tVar 1), ?_, ?_⟩
  · rw [hbody]
    exact pss_one (ps_ost (pv 0 (hv := hv0)) (pv 1 (hv := hv1)))
  · subst e
    refine ⟨_, rfl, _, rfl, a, C, rfl, o, hno, .inl ⟨h1, fun dx n ne => h2 dx n ne⟩⟩
end HC
set_option maxHeartbeats 2000000
namespace HC
open PySem PySem.Spec L2 PyProof.Rows
def XIT (K : PySem.W.Frag) (us : List Value) (xt : List (Str × Bool)) : Prop := ∀ c b, xt.lookup c = some b → ∃ C, PySem.W.nsIn K mainGlobals c = some (some (.ref C)) ∧ PySem.W.kitAny K (.ref C) us = some b ∧ XcK K C
theorem xit_nil {K : PySem.W.Frag} {us : List Value} : XIT K us [] := fun c b h => by cases h
theorem xit_cons {K : PySem.W.Frag} {us : List Value} {x : Str} {b : Bool} {xt : List (Str × Bool)} (h : ∃ C, PySem.W.nsIn K mainGlobals x = some (some (.ref C)) ∧ PySem.W.kitAny K (.ref C) us = some b ∧ XcK K C) (r : XIT K us xt) : XIT K us ((x, b) :: xt) := fun c d e => by
  rw [List.lookup_cons] at e
  split at e
  · rename_i q
    have q : c = x := by simpa using q
    subst q
    cases e
    exact h
  · exact r c d e
def rIsXT (K : PySem.W.Frag) : List V → Hp → VK → Prop := fun xs H Q => ∃ (a tp : Addr) (cs : List V) (us : List Value) (c : Str) (f : Option Int) (C : Addr) (b : Bool), xs = [.ref a, .ref tp] ∧ H tp = some (.tup cs) ∧ Paired ClsV cs us ∧ SqX K H a c f ∧ PySem.W.nsIn K mainGlobals c = some (some (.ref C)) ∧ PySem.W.kitAny K (.ref C) us = some b ∧ XcK K C ∧ Q (.bl b) H
theorem call_isXT {X : Cx} : CallR X (.builtin "isinstance") (rIsXT X.K) := by
  intro pins s σ H xs us Q I r h
  obtain ⟨a, tp, cs, ws, c, f, C, b, rfl, hT, k, sq, hn, e, T, q⟩ := h
  obtain ⟨u1, u2, rfl, r1, r2⟩ := vals2 r
  cases (show u2 = Value.ref tp from r2)
  cases (show u1 = Value.ref a from r1)
  obtain ⟨C', oe, od, hn', J⟩ := sqx_inst sq I.hok
  rw [hn] at hn'
  cases hn'
  obtain ⟨_, its, rv, o, h1, h2, n, h3⟩ := (show ObjOk X.prog X.w H s.heap tp (.tup cs) from I.hok tp _ hT)
  have e3 := ClsV.all k rv
  subst e3
  obtain ⟨oc, od, dt, sl⟩ := o
  simp only at h2 h3
  subst h2 h3
  exact PySem.W.kia_tup (PySem.W.kitx_exc T.cl T.ga T.gg T.sb T.kl T.sp T.tk T.mr) I.kIn J h1 e (fun z => nomatch z) fun tk => ⟨.bl b, H, I.tok tk, rfl, q⟩
section
variable {X : Cx} {e : Expr} {te : RE} {ys : List Expr} {kk : Nat} {p q pos : Pos} {xt : List (Str × Bool)} {vs : List V} {us : List Value} {ta : TA}
theorem ae_isXT (hm : X.mg "isinstance" = none) (he : AE X e te) (hy : PA X ys ta) (ht : ∀ σ H Q, ta σ H Q = Q vs H) (hcv : Paired ClsV vs us) (hl : vs.length ≤ sizeLine) (xi : XIT X.K us xt) (hg : Gl X "isinstance" := by rfl)
    (hes : starEach [e, .Tuple ys kk q] X.env = (false, eval e X.env) :: starEach [.Tuple ys kk q] X.env := by rfl) (hes2 : starEach [.Tuple ys kk q] X.env = (false, eval (.Tuple ys kk q) X.env) :: starEach [] X.env := by rfl) (hpl : (backTo pos (starEach [.Tuple ys kk q] X.env)).any (·.1) = false := by rfl) :
    AE X (.Call (.Name "isinstance" p) [e, .Tuple ys kk q] [] pos) (aIsX te xt) :=
  pe_imp (pe_callB call_isXT hg hm PyProof.Rows.Boot.«isinstance» (pa_cons he (pa_cons (pe_tup hy) pa_nil (hs := hes2)) (hs := hes)) (by decide) (by decide) hes hpl) fun σ H Q' ⟨ρ, M, Q, hr, hv, h, k⟩ => by
    refine seqE hr hv h fun u H1 d M1 t1 r1 v1 q1 => ?_
    obtain ⟨c, f, rfl, q1⟩ := onXc_ex q1
    obtain ⟨b, hb, q1⟩ := onS_ex q1
    obtain ⟨a, rfl, sq⟩ := rep_exc_inv r1
    obtain ⟨C, hn, hk, T⟩ := xi c b hb
    show ta σ H1 _
    rw [ht]
    refine ⟨hl, fun l hl0 => ⟨a, l, vs, us, c, f, C, b, rfl, upd_same, hcv, ?_, hn, hk, T, ?_⟩⟩
    · have r2 := rep_exc_inv (r1.mono (Tp.new (o := .tup vs) hl0))
      obtain ⟨a', e', sq'⟩ := r2
      cases e'
      exact sq'
    · exact k _ _ _ _ (t1.trans (Tp.new hl0)) rep_bl (v1.new hl0) q1
end
end HC
namespace Law
open PySem L2 HC PyProof.Rows
abbrev kS (x : Str) : Key := .inr x
def potQ (cells : List Int) (a l s : Int) : Cell := .dic [(kS "cells", .rol (cells.map Dv.int)), (kS "at", .int a), (kS "left", .int l), (kS "seed", .int s)]
structure DPot (p q : Addr) (M : Ms) : Prop where
  e : q = p
  d : ∃ (cells : List Int) (a l s : Int), M p = some (potQ cells a l s) ∧ 0 ≤ a ∧ 0 ≤ l ∧ 0 ≤ s ∧ s < 2305843009213693951
def But (p q : Addr) (M M' : Ms) : Prop := ∀ a c, a ≠ p → a ≠ q → M a = some c → M' a = some c
theorem put_at (o : Dv) (l s c x : Dv) : putA [(kS (Str.ofString "cells"), o), (kS (Str.ofString "at"), l), (kS (Str.ofString "left"), s), (kS (Str.ofString "seed"), c)] (.inr (Str.ofString "at")) x = [(kS (Str.ofString "cells"), o), (kS (Str.ofString "at"), x), (kS (Str.ofString "left"), s), (kS (Str.ofString "seed"), c)] := rfl
theorem put_left (o : Dv) (l s c x : Dv) : putA [(kS (Str.ofString "cells"), o), (kS (Str.ofString "at"), l), (kS (Str.ofString "left"), s), (kS (Str.ofString "seed"), c)] (.inr (Str.ofString "left")) x = [(kS (Str.ofString "cells"), o), (kS (Str.ofString "at"), l), (kS (Str.ofString "left"), x), (kS (Str.ofString "seed"), c)] := rfl
theorem put_seed (o : Dv) (l s c x : Dv) : putA [(kS (Str.ofString "cells"), o), (kS (Str.ofString "at"), l), (kS (Str.ofString "left"), s), (kS (Str.ofString "seed"), c)] (.inr (Str.ofString "seed")) x = [(kS (Str.ofString "cells"), o), (kS (Str.ofString "at"), l), (kS (Str.ofString "left"), s), (kS (Str.ofString "seed"), x)] := rfl
theorem But.p {p q : Addr} {M M1 : Ms} {c : Cell} (h : But p q M M1) : But p q M (mup M1 p c) := fun a d h1 h2 e => by rw [mup_ne h1]; exact h a d h1 h2 e
theorem But.new {p q r : Addr} {M M1 : Ms} {c : Cell} (h : But p q M M1) (hr : M1 r = none) : But p q M (mup M1 r c) := fun a d h1 h2 e => Sub.new hr a d (h a d h1 h2 e)
theorem But.refl (p q : Addr) (M : Ms) : But p q M M := fun _ _ _ _ e => e
theorem But.trans {p q : Addr} {M M1 M2 : Ms} (h : But p q M M1) (k : But p q M1 M2) : But p q M M2 := fun a d h1 h2 e => k a d h1 h2 (h a d h1 h2 e)
theorem But.sub {p q : Addr} {M M1 M2 : Ms} (h : But p q M M1) (k : Sub M1 M2) : But p q M M2 := fun a d h1 h2 e => k a d (h a d h1 h2 e)
theorem DPot.sub {p q : Addr} {M M1 : Ms} (h : DPot p q M) (k : Sub M M1) : DPot p q M1 := by
  obtain ⟨e, c, a, l, s, hp, b⟩ := h
  exact ⟨e, c, a, l, s, k _ _ hp, b⟩
theorem DPot.set {p q : Addr} {M : Ms} {c : List Int} {a l s : Int} (h : q = p) (a0 : 0 ≤ a) (l0 : 0 ≤ l) (s0 : 0 ≤ s) (s1 : s < 2305843009213693951) : DPot p q (mup M p (potQ c a l s)) := ⟨h, c, a, l, s, mup_same, a0, l0, s0, s1⟩
theorem DPot.nep {p q r : Addr} {M : Ms} (h : DPot p q M) (hr : M r = none) : r ≠ p := by
  obtain ⟨_, _, _, _, _, hp, _⟩ := h
  exact (ne_of_new hp hr).symm
theorem DPot.neq {p q r : Addr} {M : Ms} (h : DPot p q M) (hr : M r = none) : r ≠ q := by
  rw [h.e]; exact h.nep hr
theorem DPot.del {p q r : Addr} {M : Ms} (h : DPot p q M) (h1 : r ≠ p) (h2 : r ≠ q) : DPot p q (mdel M r) := by
  obtain ⟨e, c, a, l, s, hp, b⟩ := h
  exact ⟨e, c, a, l, s, by rw [mdel_ne h1.symm]; exact hp, b⟩
theorem But.del {p q r : Addr} {M M1 : Ms} (h : But p q M M1) (hr : M r = none) : But p q M (mdel M1 r) := fun a d h1 h2 e => by rw [mdel_ne (ne_of_new e hr)]; exact h a d h1 h2 e
theorem But.at {p q r : Addr} {M M1 : Ms} {c : Cell} (h : But p q M M1) (h1 : r ≠ p) (h2 : r ≠ q) (e : M r = some c) : M1 r = some c := h r c h1 h2 e
theorem DPot.put {p q r : Addr} {M : Ms} {c : Cell} (h : DPot p q M) (h1 : r ≠ p) (h2 : r ≠ q) : DPot p q (mup M r c) := by
  obtain ⟨e, cs, a, l, s, hp, b⟩ := h
  exact ⟨e, cs, a, l, s, by rw [mup_ne h1.symm]; exact hp, b⟩
theorem But.mdel2 {p q r : Addr} {M M1 : Ms} (h : But p q M M1) : But p q (mdel M r) (mdel M1 r) := fun a d h1 h2 e => by
  by_cases ha : a = r
  · subst ha; rw [mdel_same] at e; cases e
  · rw [mdel_ne ha] at e ⊢; exact h a d h1 h2 e
theorem But.put {p q r : Addr} {M M1 : Ms} {c : Cell} (h : But p q M M1) (hr : M r = none) : But p q M (mup M1 r c) := fun a d h1 h2 e => by rw [mup_ne (ne_of_new e hr)]; exact h a d h1 h2 e
end Law
namespace Law
open PySem L2 HC PyProof.Rows
def Pn : Nat → Dv → Prop
  | _, .non => True
  | _, .bl _ => True
  | _, .int _ => True
  | _, .str x => PyData.canLay0 (.str x) = true
  | n + 1, .tup xs => xs.length ≤ sizeLine ∧ ∀ d ∈ xs, Pn n d
  | n + 1, .rol xs => xs.length ≤ sizeLine ∧ ∀ d ∈ xs, Pn n d
  | _, _ => False
theorem Pn.up : ∀ {n : Nat} {d : Dv}, Pn n d → Pn (n + 1) d
  | 0, .non, _ => trivial
  | 0, .bl _, _ => trivial
  | 0, .int _, _ => trivial
  | 0, .str _, h => h
  | n + 1, .non, _ => trivial
  | n + 1, .bl _, _ => trivial
  | n + 1, .int _, _ => trivial
  | n + 1, .str _, h => h
  | n + 1, .tup xs, h => ⟨h.1, fun d hd => Pn.up (h.2 d hd)⟩
  | n + 1, .rol xs, h => ⟨h.1, fun d hd => Pn.up (h.2 d hd)⟩
def wholeB : Dv → Bool
  | .int _ => true
  | _ => false
def betwB (d : Dv) (lo hi : Int) : Bool := match d with
  | .int i => decide (lo ≤ i) && decide (i ≤ hi)
  | _ => false
def blockB (d : Dv) (size : Int) : Bool := match d with
  | .tup xs => decide ((xs.length : Int) = size) && xs.all fun x => betwB x 0 255
  | _ => false
def diskB (d : Dv) (size rows : Int) : Bool := match d with
  | .non => true
  | .tup xs => decide ((xs.length : Int) = rows) && xs.all fun x => isNon x || blockB x size
  | _ => false
def widthsB (w m : Dv) (par rows many : Int) : Bool := match w, m with
  | .int w, .int m => (decide (par + 1 ≤ w) && decide (w ≤ 10)) && (if many = w then decide (m = 0) else decide (many = w + 1) && (decide (many ≤ 10) && (decide (0 ≤ m) && decide (m < rows))))
  | _, _ => false
def natB (d : Dv) : Bool := match d with
  | .int i => decide (0 ≤ i)
  | _ => false
def headB (d : Dv) (many : Int) : Bool := match d with
  | .tup [a, b, c, w, m, f] => betwB a 1 2 && (betwB b 1 16 && (betwB c 1 24 && (natB f && (match a, c with
    | .int p, .int r => widthsB w m p r many
    | _, _ => false))))
  | _ => false
def noteB (d : Dv) (at' par size rows many : Int) : Bool := match d with
  | .tup [.str x, a, b, c] => if x = ("end" : Str) then (match a with | .int a => decide (a = at') | _ => false) && widthsB b c par rows many
      else if x = ("block" : Str) then betwB a 0 (many - 1) && (betwB b 0 (rows - 1) && blockB c size) else false
  | _ => false
def isBlk (d : Dv) : Bool := match d with
  | .tup (.str x :: _) => decide (x = ("block" : Str))
  | _ => false
def journalB (d : Dv) (par size rows many : Int) : Bool := match d with
  | .tup xs => ((List.range xs.length).all fun (i : Nat) => noteB (xs.getD i .non) i par size rows many) && (xs.take (xs.length - 1)).all isBlk
  | _ => false
def storeB (d : Dv) : Bool := match d with
  | .tup [h, .tup disks, j] => headB h disks.length && (match h with
    | .tup [.int p, .int s, .int r, _, _, _] => (disks.all fun x => diskB x s r) && journalB j p s r disks.length
    | _ => false)
  | _ => false
theorem betwB_int {d : Dv} {lo hi : Int} (h : betwB d lo hi = true) : ∃ i, d = .int i ∧ lo ≤ i ∧ i ≤ hi := by
  cases d <;> first | cases h | skip
  simp only [betwB, Bool.and_eq_true, decide_eq_true_eq] at h
  exact ⟨_, rfl, h⟩
theorem headB_shape {d : Dv} {many : Int} (h : headB d many = true) : ∃ p s r w m f, d = .tup [.int p, .int s, .int r, w, m, .int f] := by
  unfold headB at h
  split at h
  · next a b c w m f =>
    simp only [Bool.and_eq_true] at h
    obtain ⟨h1, h2, h3, h4, _⟩ := h
    obtain ⟨p, rfl, _⟩ := betwB_int h1
    obtain ⟨s, rfl, _⟩ := betwB_int h2
    obtain ⟨r, rfl, _⟩ := betwB_int h3
    cases f <;> first | cases h4 | skip
    exact ⟨_, _, _, _, _, _, rfl⟩
  · cases h
theorem headB_len {xs : List Dv} {many : Int} (h : ¬ xs.length = 6) : headB (.tup xs) many = false := by
  unfold headB
  split
  · next e => cases e; exact absurd rfl h
  · rfl
theorem noteB_len {xs : List Dv} {a p s r m : Int} (h : ¬ xs.length = 4) : noteB (.tup xs) a p s r m = false := by
  unfold noteB
  split
  · next e => cases e; exact absurd rfl h
  · rfl
theorem noteB_str {d a b c : Dv} {a' p s r m : Int} (h : ∀ x, d ≠ .str x) : noteB (.tup [d, a, b, c]) a' p s r m = false := by
  cases d <;> first | rfl | exact absurd rfl (h _)
theorem noteB_shape {d : Dv} {a' p s r m : Int} (h : noteB d a' p s r m = true) : ∃ x a b c, d = .tup [.str x, a, b, c] := by
  unfold noteB at h
  split at h
  · exact ⟨_, _, _, _, rfl⟩
  · cases h
theorem storeB_len {xs : List Dv} (h : ¬ xs.length = 3) : storeB (.tup xs) = false := by
  unfold storeB
  split
  · next e => cases e; exact absurd rfl h
  · rfl
theorem storeB_mid {a b c : Dv} (h : ∀ xs, b ≠ .tup xs) : storeB (.tup [a, b, c]) = false := by
  cases b <;> first | rfl | exact absurd rfl (h _)
theorem cut_last (xs : List Dv) : cutA xs none (some (-1)) = xs.take (xs.length - 1) := by
  have e : HT.sIx xs.length xs.length (some (-1)) = xs.length - 1 := by
    show (if (-1 : Int) < 0 then ((-1 : Int) + (xs.length : Int)).toNat else min (-1 : Int).toNat xs.length) = _
    rw [if_pos (by decide)]
    omega
  unfold cutA
  rw [e]
  show (xs.drop 0).take (xs.length - 1 - 0) = _
  rfl
abbrev Blk := List Nat
structure Head where
  par : Nat
  size : Nat
  rows : Nat
  width : Nat
  moved : Nat
  spares : Nat
def Head.d (h : Head) : Dv := .tup [dn h.par, dn h.size, dn h.rows, dn h.width, dn h.moved, dn h.spares]
structure Head.Ok (h : Head) (many : Nat) : Prop where
  par1 : 1 ≤ h.par
  par2 : h.par ≤ 2
  size1 : 1 ≤ h.size
  size2 : h.size ≤ 16
  rows1 : 1 ≤ h.rows
  rows2 : h.rows ≤ 24
  width1 : h.par + 1 ≤ h.width
  width2 : h.width ≤ 10
  many : (many = h.width ∧ h.moved = 0) ∨ (many = h.width + 1 ∧ many ≤ 10 ∧ h.moved < h.rows)
  sp : h.spares ≤ 1000000
theorem headOk {par size rows width moved spares many : Nat} (h1 : 1 ≤ par) (h2 : par ≤ 2) (h3 : 1 ≤ size) (h4 : size ≤ 16) (h5 : 1 ≤ rows) (h6 : rows ≤ 24) (h7 : par + 1 ≤ width) (h8 : width ≤ 10)
    (h9 : (many = width ∧ moved = 0) ∨ (many = width + 1 ∧ many ≤ 10 ∧ moved < rows)) (h10 : spares ≤ 1000000) : (⟨par, size, rows, width, moved, spares⟩ : Head).Ok many := ⟨h1, h2, h3, h4, h5, h6, h7, h8, h9, h10⟩
def bD (b : Blk) : Dv := .tup (b.map fun n => dn n)
def oD : Option Blk → Dv
  | none => .non
  | some b => bD b
abbrev Disk := Option (List (Option Blk))
def kD : Disk → Dv
  | none => .non
  | some bs => .tup (bs.map oD)
inductive Note where
  | block (disk row : Nat) (b : Blk)
  | fin (many width moved : Nat)
def nD : Note → Dv
  | .block disk row b => .tup [.str ("block" : Str), dn disk, dn row, bD b]
  | .fin many width moved => .tup [.str ("end" : Str), dn many, dn width, dn moved]
structure Store where
  head : Head
  disks : List Disk
  journal : List Note
def Store.d (s : Store) : Dv := .tup [s.head.d, .tup (s.disks.map kD), .tup (s.journal.map nD)]
def BlkOk' (b : Blk) (size : Nat) : Prop := b.length = size ∧ ∀ x ∈ b, x < 256
def DiskOk (k : Disk) (size rows : Nat) : Prop := ∀ bs, k = some bs → bs.length = rows ∧ ∀ o ∈ bs, ∀ b, o = some b → BlkOk' b size
def WidthsOk (w m par rows many : Nat) : Prop := par + 1 ≤ w ∧ w ≤ 10 ∧ ((many = w ∧ m = 0) ∨ (many = w + 1 ∧ many ≤ 10 ∧ m < rows))
def NoteOk (h : Head) (many : Nat) (i : Nat) (last : Bool) : Note → Prop
  | .block disk row b => disk < many ∧ row < h.rows ∧ BlkOk' b h.size
  | .fin k w m => last = true ∧ k = i ∧ WidthsOk w m h.par h.rows many
structure Store.Ok (s : Store) : Prop where
  head : s.head.Ok s.disks.length
  disks : ∀ k ∈ s.disks, DiskOk k s.head.size s.head.rows
  journal : ∀ i n, s.journal[i]? = some n → NoteOk s.head s.disks.length i (decide (i + 1 = s.journal.length)) n
theorem blockB_ok {b : Blk} {size : Nat} (h : BlkOk' b size) : blockB (bD b) size = true := by
  unfold blockB bD
  simp only [List.length_map, h.1, decide_true, Bool.true_and, List.all_map, List.all_eq_true]
  intro x hx
  have := h.2 x hx
  simp [betwB]
  omega
theorem diskB_ok {k : Disk} {size rows : Nat} (h : DiskOk k size rows) : diskB (kD k) size rows = true := by
  cases k with
  | none => rfl
  | some bs =>
    obtain ⟨h1, h2⟩ := h bs rfl
    simp only [kD, diskB, List.length_map, h1, decide_true, Bool.true_and, List.all_map, List.all_eq_true]
    intro o ho
    cases o with
    | none => rfl
    | some b =>
      have := blockB_ok (h2 _ ho b rfl)
      simp only [Function.comp, oD, this, Bool.or_true]
theorem widthsB_ok {w m par rows many : Nat} (h : WidthsOk w m par rows many) : widthsB (dn w) (dn m) par rows many = true := by
  obtain ⟨h1, h2, h3⟩ := h
  unfold widthsB
  simp only [dn, Bool.and_eq_true, decide_eq_true_eq]
  refine ⟨⟨by omega, by omega⟩, ?_⟩
  rcases h3 with ⟨e, e2⟩ | ⟨e, e2, e3⟩
  · rw [if_pos (by omega)]
    simp [e2]
  · rw [if_neg (by omega)]
    simp only [Bool.and_eq_true, decide_eq_true_eq]
    omega
theorem headB_ok {h : Head} {many : Nat} (k : h.Ok many) : headB h.d many = true := by
  obtain ⟨h1, h2, h3, h4, h5, h6, h7, h8, h9, h10⟩ := k
  have hw : widthsB (dn h.width) (dn h.moved) h.par h.rows many = true := widthsB_ok ⟨h7, h8, h9⟩
  simp only [dn] at hw
  simp only [headB, Head.d, dn, hw, betwB, natB, Bool.and_eq_true, decide_eq_true_eq, and_true]
  omega
theorem noteB_ok {h : Head} {many i : Nat} {last : Bool} {n : Note} (k : NoteOk h many i last n) : noteB (nD n) i h.par h.size h.rows many = true := by
  cases n with
  | block disk row b =>
    obtain ⟨h1, h2, h3⟩ := k
    have hb := blockB_ok h3
    have ne : ¬ ("block" : Str) = ("end" : Str) := by decide
    simp only [nD, noteB, if_neg ne, if_pos, hb, betwB, dn, Bool.and_eq_true, decide_eq_true_eq, and_true]
    omega
  | fin kk w m =>
    obtain ⟨h1, h2, h3⟩ := k
    have hw := widthsB_ok h3
    simp only [dn] at hw
    simp only [nD, noteB, if_pos, dn, hw, Bool.and_true, decide_eq_true_eq]
    omega
theorem storeB_ok {s : Store} (h : s.Ok) : storeB s.d = true := by
  have h1 := headB_ok h.head
  have h2 : ∀ k ∈ s.disks, diskB (kD k) s.head.size s.head.rows = true := fun k hk => diskB_ok (h.disks k hk)
  have e : s.d = .tup [.tup [dn s.head.par, dn s.head.size, dn s.head.rows, dn s.head.width, dn s.head.moved, dn s.head.spares], .tup (s.disks.map kD), .tup (s.journal.map nD)] := rfl
  rw [e]
  simp only [storeB, dn, List.length_map, Bool.and_eq_true]
  refine ⟨h1, ?_, ?_⟩
  · simp only [List.all_map, List.all_eq_true]
    exact fun k hk => h2 k hk
  · simp only [journalB, List.length_map, Bool.and_eq_true, List.all_eq_true]
    refine ⟨fun i hi => ?_, fun d hd => ?_⟩
    · have hl : i < s.journal.length := List.mem_range.mp hi
      have := noteB_ok (h.journal i _ (List.getElem?_eq_getElem hl))
      simpa [List.getD, hl] using this
    · obtain ⟨i, hi, e⟩ := List.mem_iff_getElem.mp hd
      simp at hi e
      have hl : i < s.journal.length := by omega
      have k := h.journal i _ (List.getElem?_eq_getElem hl)
      rw [decide_eq_false (by omega)] at k
      subst e
      cases q : s.journal[i] with
      | block disk row b => simp [nD, isBlk]
      | fin kk w m => rw [q] at k; exact absurd k.1 (by decide)
def newS (par size rows width spares : Nat) : Store := ⟨⟨par, size, rows, width, 0, spares⟩, List.replicate width (some (List.replicate rows (some (List.replicate size 0)))), []⟩
def noughtD (size : Nat) : Dv := .tup (List.replicate size (.int 0))
theorem newS_d (par size rows width spares : Nat) : (newS par size rows width spares).d = .tup [.tup [dn par, dn size, dn rows, dn width, .int 0, dn spares], .tup (List.replicate width (.tup (List.replicate rows (noughtD size)))), .tup []] := by
  simp [newS, Store.d, Head.d, kD, oD, bD, noughtD, List.map_replicate, dn]
theorem newS_ok {par size rows width spares : Nat} (h1 : 1 ≤ par) (h2 : par ≤ 2) (h3 : 1 ≤ size) (h4 : size ≤ 16) (h5 : 1 ≤ rows) (h6 : rows ≤ 24) (h7 : par + 1 ≤ width) (h8 : width ≤ 10) (h9 : spares ≤ 1000000) : (newS par size rows width spares).Ok := by
  refine ⟨⟨h1, h2, h3, h4, h5, h6, h7, h8, .inl ⟨by simp [newS], rfl⟩, h9⟩, fun k hk => ?_, fun i n h => by simp [newS] at h⟩
  have e : k = some (List.replicate rows (some (List.replicate size 0))) := (List.mem_replicate.mp hk).2
  subst e
  intro bs e
  cases e
  refine ⟨by simp [newS], fun o ho b e => ?_⟩
  have e2 := (List.mem_replicate.mp ho).2
  rw [e2] at e
  cases e
  exact ⟨by simp [newS], fun x hx => by rw [(List.mem_replicate.mp hx).2]; decide⟩
theorem pl_block (n : Nat) (b : Blk) : Pl (n + 1) (bD b) := by
  intro d hd
  obtain ⟨x, _, rfl⟩ := List.mem_map.mp hd
  cases n <;> trivial
theorem pl_oblock (n : Nat) (b : Option Blk) : Pl (n + 1) (oD b) := by
  cases b with
  | none => trivial
  | some b => exact pl_block n b
theorem pl_disk (n : Nat) (k : Disk) : Pl (n + 2) (kD k) := by
  cases k with
  | none => trivial
  | some bs =>
    intro d hd
    obtain ⟨x, _, rfl⟩ := List.mem_map.mp hd
    exact pl_oblock n x
theorem pl_str {n : Nat} {x : Str} (h : PyData.canLay0 (.str x) = true) : Pl n (.str x) := by cases n <;> exact h
theorem pl_int {n : Nat} {i : Int} : Pl n (.int i) := by cases n <;> trivial
theorem pl_non {n : Nat} : Pl n .non := by cases n <;> trivial
theorem lay_block : PyData.canLay0 (.str ("block" : Str)) = true := by decide +kernel
theorem lay_end : PyData.canLay0 (.str ("end" : Str)) = true := by decide +kernel
theorem pl_note (n : Nat) (k : Note) : Pl (n + 2) (nD k) := by
  cases k with
  | block disk row b =>
    intro d hd
    simp only [nD, List.mem_cons, List.not_mem_nil, or_false] at hd
    rcases hd with rfl | rfl | rfl | rfl
    · exact pl_str lay_block
    · exact pl_int
    · exact pl_int
    · exact pl_block n b
  | fin a b c =>
    intro d hd
    simp only [nD, List.mem_cons, List.not_mem_nil, or_false] at hd
    rcases hd with rfl | rfl | rfl | rfl
    · exact pl_str lay_end
    · exact pl_int
    · exact pl_int
    · exact pl_int
theorem pl_head (n : Nat) (h : Head) : Pl (n + 1) h.d := by
  intro d hd
  simp only [List.mem_cons, List.not_mem_nil, or_false] at hd
  rcases hd with rfl | rfl | rfl | rfl | rfl | rfl <;> exact pl_int
theorem pl_store (n : Nat) (s : Store) : Pl (n + 4) s.d := by
  intro d hd
  simp only [List.mem_cons, List.not_mem_nil, or_false] at hd
  rcases hd with rfl | rfl | rfl
  · exact pl_head _ _
  · intro d hd
    obtain ⟨x, _, rfl⟩ := List.mem_map.mp hd
    exact pl_disk n x
  · intro d hd
    obtain ⟨x, _, rfl⟩ := List.mem_map.mp hd
    exact pl_note n x
structure Store.Fit (s : Store) : Prop where
  disks : s.disks.length ≤ 1000000
  journal : s.journal.length ≤ 1000000
  rows : ∀ k ∈ s.disks, ∀ bs, k = some bs → bs.length ≤ 1000000 ∧ ∀ o ∈ bs, ∀ b, o = some b → b.length ≤ 1000000
  notes : ∀ n ∈ s.journal, ∀ i r b, n = .block i r b → b.length ≤ 1000000
theorem pn_int {n : Nat} {i : Int} : Pn n (.int i) := by cases n <;> trivial
theorem pn_str {n : Nat} {x : Str} (h : PyData.canLay0 (.str x) = true) : Pn n (.str x) := by cases n <;> exact h
theorem pn_block (n : Nat) {b : Blk} (h : b.length ≤ 1000000) : Pn (n + 1) (bD b) := by
  refine ⟨le_line (by simpa using h), fun d hd => ?_⟩
  obtain ⟨x, _, rfl⟩ := List.mem_map.mp hd
  exact pn_int
theorem pn_store {s : Store} (h : s.Fit) : Pn 4 s.d := by
  refine ⟨le_line (by simp), fun d hd => ?_⟩
  simp only [List.mem_cons, List.not_mem_nil, or_false] at hd
  rcases hd with rfl | rfl | rfl
  · refine ⟨le_line (by simp), fun d hd => ?_⟩
    simp only [List.mem_cons, List.not_mem_nil, or_false] at hd
    rcases hd with rfl | rfl | rfl | rfl | rfl | rfl <;> exact pn_int
  · refine ⟨le_line (by simpa using h.disks), fun d hd => ?_⟩
    obtain ⟨k, hk, rfl⟩ := List.mem_map.mp hd
    cases k with
    | none => trivial
    | some bs =>
      obtain ⟨h1, h2⟩ := h.rows _ hk bs rfl
      refine ⟨le_line (by simpa using h1), fun d hd => ?_⟩
      obtain ⟨o, ho, rfl⟩ := List.mem_map.mp hd
      cases o with
      | none => trivial
      | some b => exact pn_block 0 (h2 _ ho b rfl)
  · refine ⟨le_line (by simpa using h.journal), fun d hd => ?_⟩
    obtain ⟨k, hk, rfl⟩ := List.mem_map.mp hd
    cases k with
    | block i r b =>
      refine ⟨le_line (by simp), fun d hd => ?_⟩
      simp only [List.mem_cons, List.not_mem_nil, or_false] at hd
      rcases hd with rfl | rfl | rfl | rfl
      · exact pn_str lay_block
      · exact pn_int
      · exact pn_int
      · exact pn_block 0 (h.notes _ hk i r b rfl)
    | fin a b c =>
      refine ⟨le_line (by simp), fun d hd => ?_⟩
      simp only [List.mem_cons, List.not_mem_nil, or_false] at hd
      rcases hd with rfl | rfl | rfl | rfl
      · exact pn_str lay_end
      · exact pn_int
      · exact pn_int
      · exact pn_int
theorem Store.Ok.fit {s : Store} (h : s.Ok) (hj : s.journal.length ≤ 1000000) : s.Fit := by
  have hh := h.head
  refine ⟨?_, hj, fun k hk bs e => ?_, fun n hn i r b e => ?_⟩
  · have := hh.many
    have := hh.width2
    omega
  · obtain ⟨h1, h2⟩ := h.disks k hk bs e
    refine ⟨?_, fun o ho b e => ?_⟩
    · have := hh.rows2
      omega
    · have := (h2 o ho b e).1
      have := hh.size2
      omega
  · obtain ⟨j, hj, e2⟩ := List.mem_iff_getElem.mp hn
    have := h.journal j n (by rw [List.getElem?_eq_getElem hj, e2])
    rw [e] at this
    have := this.2.2.1
    have := hh.size2
    omega
def Store.wide (s : Store) (row : Nat) : Nat := s.head.width + (if row < s.head.moved then 1 else 0)
def Store.cell (s : Store) (disk row : Nat) : Option Blk := match s.disks.getD disk none with
  | none => none
  | some bs => bs.getD row none
def Store.row (s : Store) (row : Nat) : List (Option Blk) := (List.range (s.wide row)).map fun j => s.cell ((row + j) % s.wide row) row
theorem Store.row_len {s : Store} {row : Nat} : (s.row row).length = s.wide row := by simp [Store.row]
theorem Store.Ok.wide_le {s : Store} (h : s.Ok) (row : Nat) : s.wide row ≤ s.disks.length := by
  have := h.head.many
  unfold Store.wide
  split <;> omega
theorem Store.Ok.wide_pos {s : Store} (h : s.Ok) (row : Nat) : s.head.par < s.wide row := by
  have := h.head.width1
  unfold Store.wide
  omega
theorem Store.Ok.many_le {s : Store} (h : s.Ok) : s.disks.length ≤ 10 := by
  have := h.head.many
  have := h.head.width2
  omega
theorem Store.Ok.wide_ten {s : Store} (h : s.Ok) (row : Nat) : s.wide row ≤ 10 := Nat.le_trans (h.wide_le row) h.many_le
theorem Store.Ok.wide_moved {s : Store} (h : s.Ok) {row : Nat} (hm : row < s.head.moved) : s.disks.length = s.wide row := by
  have := h.head.many
  unfold Store.wide
  rw [if_pos hm]
  omega
theorem disk_at {s : Store} {i : Nat} (h : i < s.disks.length) : (s.disks.map kD)[i]? = some (kD (s.disks.getD i none)) := by
  rw [List.getElem?_map, List.getElem?_eq_getElem h]
  simp [List.getD, h]
theorem Store.Ok.disk {s : Store} (h : s.Ok) {i : Nat} : DiskOk (s.disks.getD i none) s.head.size s.head.rows := by
  by_cases hi : i < s.disks.length
  · have : s.disks.getD i none ∈ s.disks := by
      rw [List.getD_eq_getElem?_getD, List.getElem?_eq_getElem hi]
      exact List.getElem_mem hi
    exact h.disks _ this
  · rw [List.getD_eq_getElem?_getD, List.getElem?_eq_none (by omega)]
    exact fun bs e => nomatch e
theorem cell_lost {s : Store} {i row : Nat} (h : s.disks.getD i none = none) : s.cell i row = none := by
  unfold Store.cell; rw [h]
theorem cell_there {s : Store} {i row : Nat} {bs : List (Option Blk)} (h : s.disks.getD i none = some bs) : s.cell i row = bs.getD row none := by
  unfold Store.cell; rw [h]
theorem block_at' {bs : List (Option Blk)} {row : Nat} (h : row < bs.length) : (bs.map oD)[row]? = some (oD (bs.getD row none)) := by
  rw [List.getElem?_map, List.getElem?_eq_getElem h]
  simp [List.getD, h]
def Store.kept (s : Store) : Nat := s.head.rows * (s.head.width - s.head.par)
end Law
namespace GF
theorem xor_bit (a b k : Nat) : (a ^^^ b) / 2 ^ k % 2 = (a / 2 ^ k % 2 + b / 2 ^ k % 2) % 2 := by
  have h := Nat.testBit_xor a b k
  rw [Nat.testBit_eq_decide_div_mod_eq, Nat.testBit_eq_decide_div_mod_eq, Nat.testBit_eq_decide_div_mod_eq] at h
  have h1 : (a ^^^ b) / 2 ^ k % 2 < 2 := Nat.mod_lt _ (by decide)
  have h2 : a / 2 ^ k % 2 < 2 := Nat.mod_lt _ (by decide)
  have h3 : b / 2 ^ k % 2 < 2 := Nat.mod_lt _ (by decide)
  generalize (a ^^^ b) / 2 ^ k % 2 = x at *
  generalize a / 2 ^ k % 2 = y at *
  generalize b / 2 ^ k % 2 = z at *
  have hx : x = 0 ∨ x = 1 := by omega
  have hy : y = 0 ∨ y = 1 := by omega
  have hz : z = 0 ∨ z = 1 := by omega
  rcases hx with rfl | rfl <;> rcases hy with rfl | rfl <;> rcases hz with rfl | rfl <;> simp_all
def xt (a : Nat) : Nat := (a * 2) ^^^ (if a.testBit 7 then 285 else 0)
def G : Nat → Nat → Nat → Nat
  | 0, _, _ => 0
  | n + 1, a, b => (if b.testBit 0 then a else 0) ^^^ G n (xt a) (b / 2)
abbrev gt (a b : Nat) : Nat := G 8 a b
def Lin (f : Nat → Nat) : Prop := ∀ x y, f (x ^^^ y) = f x ^^^ f y
theorem Lin.zero {f : Nat → Nat} (h : Lin f) : f 0 = 0 := by
  have := h 0 0
  rw [Nat.xor_self, Nat.xor_self] at this
  exact this
theorem Lin.comp {f g : Nat → Nat} (h : Lin f) (k : Lin g) : Lin fun x => f (g x) := fun x y => by
  show f (g (x ^^^ y)) = _
  rw [k, h]
theorem half_xor (x y : Nat) : (x ^^^ y) / 2 = x / 2 ^^^ y / 2 := by
  apply Nat.eq_of_testBit_eq; intro i
  simp [Nat.testBit_xor, Nat.testBit_div_two]
theorem twice_xor (x y : Nat) : (x ^^^ y) * 2 = x * 2 ^^^ y * 2 := by
  apply Nat.eq_of_testBit_eq; intro i
  cases i with
  | zero => simp [Nat.testBit_xor, Nat.testBit_zero, Nat.mul_mod_left]
  | succ n => rw [Nat.testBit_xor, Nat.testBit_succ, Nat.testBit_succ, Nat.testBit_succ, Nat.mul_div_cancel _ (by decide), Nat.mul_div_cancel _ (by decide), Nat.mul_div_cancel _ (by decide), Nat.testBit_xor]
theorem xor4 (a b c d : Nat) : (a ^^^ b) ^^^ (c ^^^ d) = (a ^^^ c) ^^^ (b ^^^ d) := by
  apply Nat.eq_of_testBit_eq; intro i
  simp only [Nat.testBit_xor]
  cases a.testBit i <;> cases b.testBit i <;> cases c.testBit i <;> cases d.testBit i <;> rfl
theorem bit_lin (k c : Nat) : Lin fun x => if x.testBit k then c else 0 := by
  intro x y
  simp only [Nat.testBit_xor]
  cases x.testBit k <;> cases y.testBit k <;> simp
theorem Lin.add {f g : Nat → Nat} (h : Lin f) (k : Lin g) : Lin fun x => f x ^^^ g x := fun x y => by
  show f (x ^^^ y) ^^^ g (x ^^^ y) = _
  rw [h, k, xor4]
theorem Lin.nil : Lin fun _ => 0 := fun _ _ => (Nat.xor_self 0).symm
theorem lin_xt : Lin xt := Lin.add (f := fun x => x * 2) twice_xor (bit_lin 7 285)
theorem lin_Ga : ∀ n b, Lin fun a => G n a b
  | 0, b => Lin.nil
  | n + 1, b => Lin.add (f := fun a => if b.testBit 0 then a else 0) (by
    cases b.testBit 0 with
    | false => exact Lin.nil
    | true => exact fun _ _ => rfl) (Lin.comp (lin_Ga n (b / 2)) lin_xt)
theorem lin_Gb : ∀ n a, Lin (G n a)
  | 0, a => Lin.nil
  | n + 1, a => Lin.add (bit_lin 0 a) (Lin.comp (lin_Gb n (xt a)) half_xor)
theorem lin_ext {f g : Nat → Nat} (hf : Lin f) (hg : Lin g) : ∀ n, (∀ j, j < n → f (2 ^ j) = g (2 ^ j)) → ∀ a, a < 2 ^ n → f a = g a
  | 0, _, a, h => by
    have : a = 0 := by simpa using h
    rw [this, hf.zero, hg.zero]
  | n + 1, hb, a, h => by
    have ih := lin_ext hf hg n fun j hj => hb j (by omega)
    by_cases hl : a < 2 ^ n
    · exact ih a hl
    · have hx : a ^^^ 2 ^ n < 2 ^ n := by
        apply Nat.lt_pow_two_of_testBit
        intro i hi
        rw [Nat.testBit_xor, Nat.testBit_two_pow]
        by_cases e : n = i
        · subst e
          have : a.testBit n = true := by
            rw [Nat.testBit_eq_decide_div_mod_eq]
            have h1 : a / 2 ^ n = 1 := by
              have hp : 0 < 2 ^ n := Nat.pow_pos (by decide)
              rw [Nat.div_eq_iff hp]
              rw [Nat.pow_succ] at h
              omega
            rw [h1]; rfl
          rw [this]; simp
        · have : a.testBit i = false := Nat.testBit_lt_two_pow (Nat.lt_of_lt_of_le h (Nat.pow_le_pow_right (by decide) (by omega)))
          rw [this]; simp [e]
      have e : a = (a ^^^ 2 ^ n) ^^^ 2 ^ n := by rw [Nat.xor_assoc, Nat.xor_self, Nat.xor_zero]
      rw [e, hf, hg, ih _ hx, hb n (by omega)]
theorem ext8 {f g : Nat → Nat} (hf : Lin f) (hg : Lin g) (h : ∀ j, j < 8 → f (2 ^ j) = g (2 ^ j)) {a : Nat} (ha : a < 256) : f a = g a := lin_ext hf hg 8 h a ha
theorem two8 {j : Nat} (h : j < 8) : 2 ^ j < 256 := Nat.pow_lt_pow_right (a := 2) (n := 8) (by decide) h
theorem xor8 {a b : Nat} (ha : a < 256) (hb : b < 256) : a ^^^ b < 256 := Nat.xor_lt_two_pow (n := 8) ha hb
theorem xt_lt : ∀ {a : Nat}, a < 256 → xt a < 256 := fun {a} h => (by decide +kernel : ∀ a : Fin 256, xt a.val < 256) ⟨a, h⟩
theorem G_lt : ∀ n {a : Nat} b, a < 256 → G n a b < 256
  | 0, _, _, _ => by simp [G]
  | n + 1, a, b, h => by
    refine xor8 ?_ (G_lt n _ (xt_lt h))
    split <;> omega
theorem gt_lt {a : Nat} (b : Nat) (h : a < 256) : gt a b < 256 := G_lt 8 b h
theorem gt_comm {a b : Nat} (ha : a < 256) (hb : b < 256) : gt a b = gt b a := by
  refine ext8 (f := fun a => gt a b) (g := fun a => gt b a) (lin_Ga 8 b) (lin_Gb 8 b) (fun j hj => ?_) ha
  refine ext8 (f := fun b => gt (2 ^ j) b) (g := fun b => gt b (2 ^ j)) (lin_Gb 8 _) (lin_Ga 8 _) (fun k hk => ?_) hb
  exact (by decide +kernel : ∀ j k : Fin 8, gt (2 ^ j.val) (2 ^ k.val) = gt (2 ^ k.val) (2 ^ j.val)) ⟨j, hj⟩ ⟨k, hk⟩
theorem gt_assoc {a b c : Nat} (ha : a < 256) (hb : b < 256) (hc : c < 256) : gt a (gt b c) = gt (gt a b) c := by
  refine ext8 (f := fun a => gt a (gt b c)) (g := fun a => gt (gt a b) c) (lin_Ga 8 _) (Lin.comp (f := fun x => gt x c) (lin_Ga 8 c) (lin_Ga 8 b)) (fun i hi => ?_) ha
  refine ext8 (f := fun b => gt (2 ^ i) (gt b c)) (g := fun b => gt (gt (2 ^ i) b) c) (Lin.comp (f := gt (2 ^ i)) (lin_Gb 8 _) (lin_Ga 8 c)) (Lin.comp (f := fun x => gt x c) (lin_Ga 8 c) (lin_Gb 8 _)) (fun j hj => ?_) hb
  refine ext8 (f := fun c => gt (2 ^ i) (gt (2 ^ j) c)) (g := fun c => gt (gt (2 ^ i) (2 ^ j)) c) (Lin.comp (f := gt (2 ^ i)) (lin_Gb 8 _) (lin_Gb 8 _)) (lin_Gb 8 _) (fun k hk => ?_) hc
  exact (by decide +kernel : ∀ i j k : Fin 8, gt (2 ^ i.val) (gt (2 ^ j.val) (2 ^ k.val)) = gt (gt (2 ^ i.val) (2 ^ j.val)) (2 ^ k.val)) ⟨i, hi⟩ ⟨j, hj⟩ ⟨k, hk⟩
theorem one_gt {a : Nat} (ha : a < 256) : gt 1 a = a :=
  ext8 (f := gt 1) (g := fun x => x) (lin_Gb 8 1) (fun _ _ => rfl) (fun j hj => (by decide +kernel : ∀ j : Fin 8, gt 1 (2 ^ j.val) = 2 ^ j.val) ⟨j, hj⟩) ha
theorem gt_one {a : Nat} (ha : a < 256) : gt a 1 = a := by rw [gt_comm ha (by decide), one_gt ha]
theorem gt_zero (a : Nat) : gt a 0 = 0 := (lin_Gb 8 a).zero
theorem zero_gt (a : Nat) : gt 0 a = 0 := (lin_Ga 8 a).zero
theorem G_zero (n a : Nat) : G n a 0 = 0 := (lin_Gb n a).zero
def inn (a b j : Nat) : Nat → Nat
  | 0 => 0
  | k + 1 => inn a b j k ^^^ (if a.testBit j then (if b.testBit k then 2 ^ (j + k) else 0) else 0)
def out (a b : Nat) : Nat → Nat
  | 0 => 0
  | j + 1 => out a b j ^^^ inn a b j 8
def redn : Nat → Nat → Nat
  | 0, R => R
  | i + 1, R => redn i R ^^^ (if (redn i R).testBit (14 - i) then 285 * 2 ^ (6 - i) else 0)
theorem lin_inn_a (b j : Nat) : ∀ k, Lin fun a => inn a b j k
  | 0 => Lin.nil
  | k + 1 => Lin.add (lin_inn_a b j k) (bit_lin j _)
theorem lin_inn_b (a j : Nat) : ∀ k, Lin fun b => inn a b j k
  | 0 => Lin.nil
  | k + 1 => Lin.add (lin_inn_b a j k) (by
    cases h : a.testBit j with
    | false => exact Lin.nil
    | true => exact bit_lin k _)
theorem lin_out_a (b : Nat) : ∀ j, Lin fun a => out a b j
  | 0 => Lin.nil
  | j + 1 => Lin.add (lin_out_a b j) (lin_inn_a b j 8)
theorem lin_out_b (a : Nat) : ∀ j, Lin fun b => out a b j
  | 0 => Lin.nil
  | j + 1 => Lin.add (lin_out_b a j) (lin_inn_b a j 8)
theorem lin_redn : ∀ i, Lin (redn i)
  | 0 => fun _ _ => rfl
  | i + 1 => Lin.add (lin_redn i) (Lin.comp (bit_lin (14 - i) _) (lin_redn i))
theorem lin_mod8 : Lin fun x => x % 256 := fun x y => Nat.xor_mod_two_pow (n := 8)
theorem lt_gt {a b : Nat} (ha : a < 256) (hb : b < 256) : redn 7 (out a b 8) % 256 = gt a b := by
  refine ext8 (f := fun a => redn 7 (out a b 8) % 256) (g := fun a => gt a b) (Lin.comp (f := fun x => x % 256) lin_mod8 (Lin.comp (lin_redn 7) (lin_out_a b 8))) (lin_Ga 8 b) (fun j hj => ?_) ha
  refine ext8 (f := fun b => redn 7 (out (2 ^ j) b 8) % 256) (g := fun b => gt (2 ^ j) b) (Lin.comp (f := fun x => x % 256) lin_mod8 (Lin.comp (lin_redn 7) (lin_out_b _ 8))) (lin_Gb 8 _) (fun k hk => ?_) hb
  exact (by decide +kernel : ∀ j k : Fin 8, redn 7 (out (2 ^ j.val) (2 ^ k.val) 8) % 256 = gt (2 ^ j.val) (2 ^ k.val)) ⟨j, hj⟩ ⟨k, hk⟩
def invS : Nat → Nat → Nat × Nat
  | 0, a => (gt a a, gt a a)
  | n + 1, a => (gt (invS n a).1 (invS n a).1, gt (invS n a).2 (gt (invS n a).1 (invS n a).1))
def inv (a : Nat) : Nat := (invS 6 a).2
theorem invS_lt {a : Nat} (h : a < 256) : ∀ n, (invS n a).1 < 256 ∧ (invS n a).2 < 256
  | 0 => ⟨gt_lt _ h, gt_lt _ h⟩
  | n + 1 => ⟨gt_lt _ (invS_lt h n).1, gt_lt _ (invS_lt h n).2⟩
theorem inv_lt {a : Nat} (h : a < 256) : inv a < 256 := (invS_lt h 6).2
def invQ : Nat → Nat → Nat → Nat
  | 0, _, i => i
  | n + 1, s, i => (fun q => invQ n q (gt i q)) (gt s s)
def invF (a : Nat) : Nat := (fun q => invQ 6 q q) (gt a a)
theorem invQ_eq : ∀ n m a, invQ n (invS m a).1 (invS m a).2 = (invS (m + n) a).2
  | 0, m, a => rfl
  | n + 1, m, a => by
    show invQ n (gt (invS m a).1 (invS m a).1) (gt (invS m a).2 (gt (invS m a).1 (invS m a).1)) = _
    have := invQ_eq n (m + 1) a
    rw [show m + 1 + n = m + (n + 1) by omega] at this
    exact this
theorem invF_eq (a : Nat) : invF a = inv a := by
  have := invQ_eq 6 0 a
  exact this
set_option maxRecDepth 100000 in
theorem inv_chk : ∀ a : Fin 256, a.val ≠ 0 → gt a.val (invF a.val) = 1 := by decide +kernel
theorem gt_inv {a : Nat} (h : a < 256) (h0 : a ≠ 0) : gt a (inv a) = 1 := by rw [← invF_eq]; exact inv_chk ⟨a, h⟩ h0
theorem inv_pos {a : Nat} (h : a < 256) (h0 : a ≠ 0) : inv a ≠ 0 := fun e => by
  have := gt_inv h h0
  rw [e, gt_zero] at this
  cases this
theorem gt_cancel {a x y : Nat} (h : a < 256) (h0 : a ≠ 0) (hx : x < 256) (hy : y < 256) (e : gt a x = gt a y) : x = y := by
  have h1 : gt (inv a) (gt a x) = gt (inv a) (gt a y) := by rw [e]
  rw [gt_assoc (inv_lt h) h hx, gt_assoc (inv_lt h) h hy, gt_comm (inv_lt h) h, gt_inv h h0, one_gt hx, one_gt hy] at h1
  exact h1
theorem inv_inv {a : Nat} (h : a < 256) (h0 : a ≠ 0) : inv (inv a) = a := by
  refine gt_cancel (inv_lt h) (inv_pos h h0) (inv_lt (inv_lt h)) h ?_
  rw [gt_inv (inv_lt h) (inv_pos h h0), gt_comm (inv_lt h) h, gt_inv h h0]
theorem gt_ne {a b : Nat} (ha : a < 256) (hb : b < 256) (h : a ≠ 0) (k : b ≠ 0) : gt a b ≠ 0 := fun e => k (gt_cancel ha h hb (by decide) (e.trans (gt_zero a).symm))
def gp (s : Nat) : Nat → Nat
  | 0 => 1
  | k + 1 => gt (gp s k) s
abbrev pw (k : Nat) : Nat := gp 2 k
theorem gp_lt (s : Nat) : ∀ k, gp s k < 256
  | 0 => show 1 < 256 by decide
  | k + 1 => gt_lt _ (gp_lt s k)
theorem gp_add {s : Nat} (hs : s < 256) (m : Nat) : ∀ n, gp s (m + n) = gt (gp s m) (gp s n)
  | 0 => (gt_one (gp_lt s m)).symm
  | n + 1 => by
    show gt (gp s (m + n)) s = gt (gp s m) (gt (gp s n) s)
    rw [gp_add hs m n, gt_assoc (gp_lt s m) (gp_lt s n) hs]
theorem gp_sq {s : Nat} (hs : s < 256) : ∀ n, gp (gt s s) n = gp s (2 * n)
  | 0 => rfl
  | n + 1 => by
    show gt (gp (gt s s) n) (gt s s) = gt (gt (gp s (2 * n)) s) s
    rw [gp_sq hs n, gt_assoc (gp_lt s _) hs hs]
def pwt : Nat → Nat → Nat
  | 0, p => p
  | n + 1, p => pwt n (gt p 2)
theorem pwt_eq : ∀ n k, pwt n (pw k) = pw (k + n)
  | 0, k => rfl
  | n + 1, k => by
    have := pwt_eq n (k + 1)
    rw [show k + 1 + n = k + (n + 1) by omega] at this
    exact this
theorem pw255 : pw 255 = 1 := by
  have h : pwt 255 (pw 0) = 1 := by decide +kernel
  rw [pwt_eq] at h
  exact h
theorem pw_per (k : Nat) : ∀ n, pw (k + 255 * n) = pw k
  | 0 => rfl
  | n + 1 => by
    show gp 2 (k + 255 * (n + 1)) = gp 2 k
    rw [show k + 255 * (n + 1) = (k + 255 * n) + 255 by omega, gp_add (by decide), show gp 2 255 = 1 from pw255, gt_one (gp_lt 2 _)]
    exact pw_per k n
theorem pw_mod (k : Nat) : pw (k % 255) = pw k := by
  have := pw_per (k % 255) (k / 255)
  rw [Nat.mod_add_div] at this
  exact this.symm
def noOne : Nat → Nat → Bool
  | 0, _ => true
  | n + 1, p => p != 1 && noOne n (gt p 2)
theorem noOne_pw : ∀ n k, noOne n (pw k) = true → ∀ i, i < n → pw (k + i) ≠ 1
  | 0, _, _, i, h => by omega
  | n + 1, k, h, i, hi => by
    simp only [noOne, Bool.and_eq_true, bne_iff_ne] at h
    cases i with
    | zero => exact h.1
    | succ i =>
      have := noOne_pw n (k + 1) h.2 i (by omega)
      rw [show k + 1 + i = k + (i + 1) by omega] at this
      exact this
theorem pw_ne_one {d : Nat} (h0 : 0 < d) (h : d < 255) : pw d ≠ 1 := by
  have c : noOne 254 (pw 1) = true := by decide +kernel
  have := noOne_pw 254 1 c (d - 1) (by omega)
  rw [show 1 + (d - 1) = d by omega] at this
  exact this
theorem pw_ne0 : ∀ k, pw k ≠ 0
  | 0 => by decide
  | k + 1 => gt_ne (gp_lt 2 k) (by decide) (pw_ne0 k) (by decide)
theorem pw_lt_ne {i j : Nat} (h : i < j) (hj : j < 255) : pw i ≠ pw j := fun e => by
  refine pw_ne_one (d := j - i) (by omega) (by omega) ?_
  refine gt_cancel (gp_lt 2 i) (pw_ne0 i) (gp_lt 2 _) (by decide) ?_
  show gt (pw i) (pw (j - i)) = gt (pw i) 1
  rw [← gp_add (by decide), show i + (j - i) = j by omega, gt_one (gp_lt 2 i)]
  exact e.symm
theorem pw_inj {i j : Nat} (hi : i < 255) (hj : j < 255) (h : i ≠ j) : pw i ≠ pw j := by
  rcases Nat.lt_or_gt_of_ne h with h | h
  · exact pw_lt_ne h hj
  · exact fun e => pw_lt_ne h hi e.symm
end GF
namespace Law
open PySem L2 HC PyProof.Rows
def xorB (a b : Blk) : Blk := a.zipWith (fun x y => x ^^^ y) b
def mulB (c : Nat) (b : Blk) : Blk := b.map (GF.gt c)
def zeroB (n : Nat) : Blk := List.replicate n 0
def sumB (n : Nat) (bs : List Blk) : Blk := bs.foldl xorB (zeroB n)
def turnB (bs : List Blk) : List Blk := (List.range bs.length).map fun i => mulB (GF.pw i) (bs.getD i [])
def parB (p n : Nat) (bs : List Blk) : List Blk := if p = 1 then [sumB n bs] else [sumB n bs, sumB n (turnB bs)]
def WfB (n : Nat) (b : Blk) : Prop := BlkOk' b n
def WfR (n : Nat) (bs : List Blk) : Prop := ∀ b ∈ bs, BlkOk' b n
theorem xorB_len {a b : Blk} : (xorB a b).length = min a.length b.length := by simp [xorB]
theorem xorB_wf {n : Nat} {a b : Blk} (ha : BlkOk' a n) (hb : BlkOk' b n) : BlkOk' (xorB a b) n := by
  refine ⟨by rw [xorB_len, ha.1, hb.1]; omega, fun x hx => ?_⟩
  obtain ⟨i, hi, e⟩ := List.mem_iff_getElem.mp hx
  unfold xorB at e hi
  rw [List.getElem_zipWith] at e
  subst e
  simp at hi
  exact GF.xor8 (ha.2 _ (List.getElem_mem _)) (hb.2 _ (List.getElem_mem _))
theorem mulB_wf {n c : Nat} {b : Blk} (hc : c < 256) (hb : BlkOk' b n) : BlkOk' (mulB c b) n := by
  refine ⟨by simp [mulB, hb.1], fun x hx => ?_⟩
  obtain ⟨y, hy, rfl⟩ := List.mem_map.mp hx
  exact GF.gt_lt y hc
theorem zeroB_wf {n : Nat} : BlkOk' (zeroB n) n := ⟨by simp [zeroB], fun x hx => by rw [(List.mem_replicate.mp hx).2]; decide⟩
theorem foldB_wf {n : Nat} : ∀ {bs : List Blk} {z : Blk}, BlkOk' z n → WfR n bs → BlkOk' (bs.foldl xorB z) n
  | [], _, h, _ => h
  | b :: bs, z, h, hb => foldB_wf (bs := bs) (xorB_wf h (hb b (by simp))) fun c hc => hb c (by simp [hc])
theorem sumB_wf {n : Nat} {bs : List Blk} (h : WfR n bs) : BlkOk' (sumB n bs) n := foldB_wf zeroB_wf h
theorem turnB_wf {n : Nat} {bs : List Blk} (h : WfR n bs) : WfR n (turnB bs) := fun b hb => by
  obtain ⟨i, hi, rfl⟩ := List.mem_map.mp hb
  have hi : i < bs.length := List.mem_range.mp hi
  refine mulB_wf (GF.gp_lt 2 i) (h _ ?_)
  rw [List.getD_eq_getElem?_getD, List.getElem?_eq_getElem hi]
  exact List.getElem_mem hi
theorem turnB_len {bs : List Blk} : (turnB bs).length = bs.length := by simp [turnB]
theorem parB_len {p n : Nat} {bs : List Blk} (h1 : 1 ≤ p) (h2 : p ≤ 2) : (parB p n bs).length = p := by
  unfold parB
  split <;> simp <;> omega
theorem parB_wf {p n : Nat} {bs : List Blk} (h : WfR n bs) : WfR n (parB p n bs) := fun b hb => by
  unfold parB at hb
  split at hb
  · rw [List.mem_singleton.mp hb]; exact sumB_wf h
  · simp only [List.mem_cons, List.not_mem_nil, or_false] at hb
    rcases hb with rfl | rfl
    · exact sumB_wf h
    · exact sumB_wf (turnB_wf h)
theorem xorB4 : ∀ (a b c d : Blk), xorB (xorB a b) (xorB c d) = xorB (xorB a c) (xorB b d)
  | [], b, c, d => by simp [xorB]
  | x :: a, [], c, d => by cases c <;> simp [xorB]
  | x :: a, y :: b, [], d => by simp [xorB]
  | x :: a, y :: b, z :: c, [] => by simp [xorB]
  | x :: a, y :: b, z :: c, w :: d => by
    have := xorB4 a b c d
    simp only [xorB, List.zipWith_cons_cons, List.cons.injEq] at this ⊢
    exact ⟨GF.xor4 x y z w, this⟩
theorem mulB_xor (c : Nat) : ∀ (a b : Blk), mulB c (xorB a b) = xorB (mulB c a) (mulB c b)
  | [], b => by simp [xorB, mulB]
  | x :: a, [] => by simp [xorB, mulB]
  | x :: a, y :: b => by
    have := mulB_xor c a b
    simp only [xorB, mulB, List.zipWith_cons_cons, List.map_cons, List.cons.injEq] at this ⊢
    exact ⟨GF.lin_Gb 8 c x y, this⟩
theorem fold_add : ∀ (as bs : List Blk) (z w : Blk), as.length = bs.length → (as.zipWith xorB bs).foldl xorB (xorB z w) = xorB (as.foldl xorB z) (bs.foldl xorB w)
  | [], [], z, w, _ => rfl
  | [], _ :: _, _, _, h => by simp at h
  | _ :: _, [], _, _, h => by simp at h
  | a :: as, b :: bs, z, w, h => by
    rw [List.zipWith_cons_cons, List.foldl_cons, List.foldl_cons, List.foldl_cons, xorB4]
    exact fold_add as bs _ _ (by simpa using h)
theorem zero_xor (n : Nat) : xorB (zeroB n) (zeroB n) = zeroB n := by
  simp [xorB, zeroB]
theorem sumB_add {n : Nat} {as bs : List Blk} (h : as.length = bs.length) : sumB n (as.zipWith xorB bs) = xorB (sumB n as) (sumB n bs) := by
  unfold sumB
  rw [← fold_add as bs _ _ h, zero_xor]
theorem turnB_add {as bs : List Blk} (h : as.length = bs.length) : turnB (as.zipWith xorB bs) = (turnB as).zipWith xorB (turnB bs) := by
  refine List.ext_getElem (by simp [turnB, h]) fun i h1 h2 => ?_
  simp [turnB, h] at h1
  have ha : i < as.length := by omega
  simp only [turnB, List.getElem_map, List.getElem_range, List.getElem_zipWith]
  rw [List.getD_eq_getElem?_getD, List.getD_eq_getElem?_getD, List.getD_eq_getElem?_getD, List.getElem?_zipWith, List.getElem?_eq_getElem ha, List.getElem?_eq_getElem h1]
  exact mulB_xor _ _ _
theorem parB_add {p n : Nat} {as bs : List Blk} (h : as.length = bs.length) : parB p n (as.zipWith xorB bs) = (parB p n as).zipWith xorB (parB p n bs) := by
  unfold parB
  split
  · simp [sumB_add h]
  · rw [sumB_add h, turnB_add h, sumB_add (by rw [turnB_len, turnB_len, h])]
    rfl
theorem sumB_snoc {n : Nat} {bs : List Blk} {b : Blk} : sumB n (bs ++ [b]) = xorB (sumB n bs) b := by simp [sumB, List.foldl_append]
theorem turnB_snoc {bs : List Blk} {b : Blk} : turnB (bs ++ [b]) = turnB bs ++ [mulB (GF.pw bs.length) b] := by
  unfold turnB
  rw [List.length_append, List.length_singleton, List.range_succ, List.map_append]
  congr 1
  · refine List.map_congr_left fun i hi => ?_
    have hi : i < bs.length := List.mem_range.mp hi
    rw [List.getD_eq_getElem?_getD, List.getD_eq_getElem?_getD, List.getElem?_append_left hi]
  · simp [List.getD]
theorem zip_dn (a b : Blk) : List.zipWith (fun x y => x ^^^ y) a b = xorB a b := rfl
theorem rowD (bs : List Blk) (i : Nat) (h : i < bs.length) : (bs.map bD)[i]? = some (bD (bs.getD i [])) := by
  rw [List.getElem?_map, List.getElem?_eq_getElem h]
  simp [List.getD, h]
theorem getD_mem {bs : List Blk} {i : Nat} (h : i < bs.length) : bs.getD i [] ∈ bs := by
  rw [List.getD_eq_getElem?_getD, List.getElem?_eq_getElem h]
  exact List.getElem_mem h
theorem cut_from (xs : List Dv) (k : Nat) (h : k ≤ xs.length) : cutA xs (some (k : Int)) none = xs.drop k := by
  have e : HT.sIx xs.length 0 (some (k : Int)) = k := by rw [HT.sIx_nat]; omega
  unfold cutA
  rw [e]
  show (xs.drop k).take (xs.length - k) = _
  exact List.take_of_length_le (by simp)
theorem cut_to (xs : List Dv) (k : Nat) (h : k ≤ xs.length) : cutA xs none (some (k : Int)) = xs.take k := by
  have e : HT.sIx xs.length xs.length (some (k : Int)) = k := by rw [HT.sIx_nat]; omega
  unfold cutA
  rw [e]
  show (xs.drop 0).take (k - 0) = _
  rfl
theorem atI_end {α : Type} (xs : List α) (x : α) : atI (xs ++ [x]) (-1) = some x := by
  have e : (-1 + ((xs.length : Int) + 1)).toNat = xs.length := by omega
  simp [atI, ixN, e, show (1 : Int) ≤ (xs.length : Int) + 1 by omega]
theorem pl_row (n : Nat) (bs : List Blk) : Pl (n + 2) (.tup (bs.map bD)) := fun d hd => by
  obtain ⟨x, _, rfl⟩ := List.mem_map.mp hd
  exact pl_block n x
def RowD (d : Dv) (xs : List Dv) : Prop := d = .tup xs ∨ d = .rol xs
theorem RowD.items {d : Dv} {xs : List Dv} (h : RowD d xs) (M : Ms) : itemsA d M = some xs := by
  rcases h with rfl | rfl <;> rfl
def mixB (j : Nat) (a b : Blk) : Blk := (List.range b.length).map fun t => if t < j then b.getD t 0 else a.getD t 0
theorem blk_range {a : Blk} {n : Nat} (h : a.length = n) : (List.range n).map (fun t => a.getD t 0) = a := by
  refine List.ext_getElem (by simp [h]) fun i h1 h2 => ?_
  simp at h1
  simp [List.getD, h2]
theorem mixB_len {j : Nat} {a b : Blk} : (mixB j a b).length = b.length := by simp [mixB]
theorem mixB_zero {a b : Blk} (h : a.length = b.length) : mixB 0 a b = a := by
  unfold mixB
  simp only [Nat.not_lt_zero, if_false]
  exact blk_range h
theorem mixB_all {a b : Blk} {n : Nat} (h : b.length ≤ n) : mixB n a b = b := by
  unfold mixB
  have e : (List.range b.length).map (fun t => if t < n then b.getD t 0 else a.getD t 0) = (List.range b.length).map fun t => b.getD t 0 :=
    List.map_congr_left fun t ht => by
      have := List.mem_range.mp ht
      rw [if_pos (by omega)]
  rw [e]
  exact blk_range rfl
theorem mixB_get {j : Nat} {a b : Blk} (hj : j < b.length) : (mixB j a b)[j]? = some (a.getD j 0) := by
  unfold mixB
  rw [List.getElem?_map, List.getElem?_range hj]
  simp
theorem mixB_set {j : Nat} {a b : Blk} (hj : j < b.length) : (mixB j a b).set j (b.getD j 0) = mixB (j + 1) a b := by
  refine List.ext_getElem (by simp [mixB_len]) fun i h1 h2 => ?_
  have hi : i < b.length := by rw [mixB_len] at h2; exact h2
  rw [List.getElem_set]
  simp only [mixB, List.getElem_map, List.getElem_range]
  by_cases e : j = i
  · subst e
    rw [if_pos rfl, if_pos (by omega)]
  · rw [if_neg e]
    by_cases h3 : i < j
    · rw [if_pos h3, if_pos (by omega)]
    · rw [if_neg h3, if_neg (by omega)]
theorem xorB_getD {a b : Blk} {j : Nat} (ha : j < a.length) (hb : j < b.length) : (xorB a b).getD j 0 = a.getD j 0 ^^^ b.getD j 0 := by
  simp [xorB, List.getD, ha, hb, List.getElem?_zipWith]
theorem mulB_getD {c : Nat} {b : Blk} {j : Nat} (hb : j < b.length) : (mulB c b).getD j 0 = GF.gt c (b.getD j 0) := by
  simp [mulB, List.getD, hb]
theorem dnD (b : Blk) (j : Nat) (h : j < b.length) : (b.map fun n => dn n)[j]? = some (dn (b.getD j 0)) := by
  rw [List.getElem?_map, List.getElem?_eq_getElem h]
  simp [List.getD, h]
def RowM (d : Dv) (xs : List Dv) (M : Ms) : Prop := d = .tup xs ∨ d = .rol xs ∨ ∃ r, d = .ref r ∧ M r = some (.lst xs)
theorem RowM.items {d : Dv} {xs : List Dv} {M : Ms} (h : RowM d xs M) : itemsA d M = some xs := by
  rcases h with rfl | rfl | ⟨r, rfl, h⟩
  · rfl
  · rfl
  · exact itemsA_l h
theorem RowM.sub {d : Dv} {xs : List Dv} {M M' : Ms} (h : RowM d xs M) (s : Sub M M') : RowM d xs M' := by
  rcases h with rfl | rfl | ⟨r, rfl, h⟩
  · exact .inl rfl
  · exact .inr (.inl rfl)
  · exact .inr (.inr ⟨r, rfl, s _ _ h⟩)
theorem gt_two {a : Nat} : GF.gt a 2 = GF.xt a := by
  simp [GF.G]
theorem pw_succ (k : Nat) : GF.pw (k + 1) = GF.xt (GF.pw k) := gt_two
def lgL (L : List Nat) (b : Nat) : Nat := L.findIdx (fun x => x == b)
def pwL : Nat → Nat → List Nat
  | 0, _ => []
  | n + 1, x => x :: pwL n (GF.xt x)
theorem pwL_eq : ∀ n k, pwL n (GF.pw k) = (List.range n).map fun i => GF.pw (k + i)
  | 0, _ => rfl
  | n + 1, k => by
    rw [pwL, ← pw_succ, pwL_eq n (k + 1), List.range_succ_eq_map, List.map_cons, List.map_map]
    congr 1
    refine List.map_congr_left fun i _ => ?_
    simp only [Function.comp]
    congr 1
    omega
def allIn (L : List Nat) : Bool := (List.range 256).all fun b => b == 0 || L.contains b
theorem all_in : allIn (pwL 255 1) = true := by decide +kernel
theorem pw_all {b : Nat} (h : b < 256) (h0 : b ≠ 0) : ∃ k, k < 255 ∧ GF.pw k = b := by
  have e := all_in
  rw [allIn, List.all_eq_true] at e
  have := e b (List.mem_range.mpr h)
  have e2 : pwL 255 1 = (List.range 255).map fun i => GF.pw (0 + i) := pwL_eq 255 0
  rw [e2] at this
  simp [h0] at this
  exact this
open Classical in
noncomputable def lg (b : Nat) : Nat := if h : ∃ k, k < 255 ∧ GF.pw k = b then Classical.choose h else 0
theorem lg_ok {b : Nat} (h : b < 256) (h0 : b ≠ 0) : lg b < 255 ∧ GF.pw (lg b) = b := by
  have e := pw_all h h0
  unfold lg
  rw [dif_pos e]
  exact Classical.choose_spec e
theorem times_lg {a b : Nat} (ha : a < 256) (hb : b < 256) (a0 : a ≠ 0) (b0 : b ≠ 0) : GF.pw ((lg a + lg b) % 255) = GF.gt a b := by
  rw [GF.pw_mod, show GF.pw (lg a + lg b) = GF.gt (GF.pw (lg a)) (GF.pw (lg b)) from GF.gp_add (by decide) _ _, (lg_ok ha a0).2, (lg_ok hb b0).2]
end Law
namespace Law
open PySem L2 HC PyProof.Rows
theorem and1_nat (a : Nat) : Builtin.bitAnd (a : Int) 1 = ((a % 2 : Nat) : Int) := by
  have h := Bits.bitAnd_mask (x := (a : Int)) 1 (by omega)
  rw [show (2 : Int) ^ 1 - 1 = 1 from rfl, show (2 : Int) ^ 1 = 2 from rfl] at h
  rw [h]; omega
theorem xorI {x y : Int} {a b : Nat} (h : x = (a : Int)) (k : y = (b : Int)) : Builtin.bitXor x y = ((a ^^^ b : Nat) : Int) := by
  subst h; subst k
  rw [Bits.bitXor_pp (by omega) (by omega), Int.toNat_natCast, Int.toNat_natCast]
theorem xt_big {a : Nat} (h : a < 256) (k : 256 ≤ a * 2) : GF.xt a = (a * 2) ^^^ 285 := by
  unfold GF.xt
  rw [if_pos]
  rw [Nat.testBit_eq_decide_div_mod_eq]
  exact decide_eq_true (by omega)
theorem xt_small {a : Nat} (k : a * 2 < 256) : GF.xt a = a * 2 := by
  unfold GF.xt
  rw [if_neg, Nat.xor_zero]
  rw [Nat.testBit_eq_decide_div_mod_eq]
  simp; omega
theorem half_nat (b : Nat) : ((b : Int) / 2 ^ (1 : Int).toNat) = ((b / 2 : Nat) : Int) := by simp
theorem dbl_nat (a : Nat) : ((a : Int) * 2 ^ (1 : Int).toNat) = ((a * 2 : Nat) : Int) := by simp
end Law
namespace Law
open PySem L2 HC PyProof.Rows
theorem mdel_mup_ne {M : Ms} {a b : Addr} {c : Cell} (h : b ≠ a) : mdel (mup M b c) a = mup (mdel M a) b c := by
  funext x
  by_cases e : x = a
  · subst e
    rw [mdel_same, mup_ne h.symm, mdel_same]
  · rw [mdel_ne e]
    by_cases e2 : x = b
    · subst e2; rw [mup_same, mup_same]
    · rw [mup_ne e2, mup_ne e2, mdel_ne e]
def Grow2 (M : Ms) (r t : Addr) (M' : Ms) : Prop := Sub M (mdel (mdel M' r) t)
theorem Grow2.r {M M' : Ms} {r t : Addr} {c : Cell} (h : Grow2 M r t M') : Grow2 M r t (mup M' r c) := by
  unfold Grow2; rw [mdel_put]; exact h
theorem Grow2.t {M M' : Ms} {r t : Addr} {c : Cell} (h : Grow2 M r t M') (ne : t ≠ r) : Grow2 M r t (mup M' t c) := by
  unfold Grow2; rw [mdel_mup_ne ne, mdel_put]; exact h
theorem Grow2.sub {M M' : Ms} {r t : Addr} (h : Grow2 M r t M') : Sub M M' := (h.trans mdel_sub).trans mdel_sub
theorem Grow2.new {M : Ms} {r t : Addr} {c d : Cell} (hr : M r = none) (ht : mup M r c t = none) : Grow2 M r t (mup (mup M r c) t d) := by
  have ne : t ≠ r := (mup_none ht).1
  unfold Grow2
  rw [mdel_mup_ne ne, mdel_put, mdel_put]
  exact mdel_of (mdel_of (Sub.refl M) hr) (mup_none ht).2
def powD : List Dv := (List.range 255).map fun k => dn (GF.pw k)
def logD (n : Nat) : List (Key × Dv) := (List.range n).map fun (k : Nat) => (Sum.inl ((GF.pw k : Nat) : Int), dn k)
def fieldD (w : Addr) : Dv := .tup [.rol powD, .ref w]
def Field (w : Addr) (M : Ms) : Prop := M w = some (.dic (logD 255))
theorem logD_len {n : Nat} : (logD n).length = n := by simp [logD]
theorem logD_put {i : Nat} (hi : i < 255) : putA (logD i) (Sum.inl ((GF.pw i : Nat) : Int)) (dn i) = logD (i + 1) := by
  unfold putA
  rw [if_neg]
  · unfold logD
    rw [List.range_succ, List.map_append]; rfl
  · intro h
    rw [List.any_eq_true] at h
    obtain ⟨kv, hkv, e⟩ := h
    obtain ⟨k, hk, rfl⟩ := List.mem_map.mp hkv
    have hk : k < i := List.mem_range.mp hk
    have e2 := of_decide_eq_true e
    have e3 : GF.pw k = GF.pw i := Int.ofNat.inj (Sum.inl.inj e2)
    exact GF.pw_inj (by omega) hi (by omega) e3
theorem powD_get {k : Nat} (h : k < 255) : powD[k]? = some (dn (GF.pw k)) := by simp [powD, h]
theorem find_log : ∀ (n : Nat) {b : Nat}, (∃ k, k < n ∧ GF.pw k = b) → n ≤ 255 → (logD n).find? (fun kv => decide (kv.1 = (Sum.inl ((b : Nat) : Int) : Key))) = some (Sum.inl ((b : Nat) : Int), dn (lg b))
  | n, b, ⟨k, hk, e⟩, hn => by
    have hb : b < 256 := by rw [← e]; exact GF.gp_lt 2 k
    have h0 : b ≠ 0 := by rw [← e]; exact GF.pw_ne0 k
    obtain ⟨l1, l2⟩ := lg_ok hb h0
    have ek : k = lg b := Classical.byContradiction fun h => GF.pw_inj (by omega) l1 h (e.trans l2.symm)
    subst ek
    have hm : (Sum.inl ((b : Nat) : Int), dn (lg b)) ∈ logD n := by
      refine List.mem_map.mpr ⟨lg b, List.mem_range.mpr hk, ?_⟩
      rw [l2]
    cases q : (logD n).find? (fun kv => decide (kv.1 = (Sum.inl ((b : Nat) : Int) : Key))) with
    | none =>
      have := List.find?_eq_none.mp q _ hm
      simp at this
    | some kv =>
      have h1 := List.find?_some q
      have h2 := List.mem_of_find?_eq_some q
      obtain ⟨j, hj, rfl⟩ := List.mem_map.mp h2
      have hj : j < n := List.mem_range.mp hj
      have e2 : GF.pw j = b := Int.ofNat.inj (Sum.inl.inj (of_decide_eq_true h1))
      have ej : j = lg b := Classical.byContradiction fun h => GF.pw_inj (by omega) l1 h (e2.trans l2.symm)
      subst ej
      rw [e2]
theorem log_get {b : Nat} (hb : b < 256) (h0 : b ≠ 0) : getK (logD 255) (Sum.inl ((b : Nat) : Int) : Key) = some (dn (lg b)) := by
  unfold getK
  rw [find_log 255 ⟨lg b, lg_ok hb h0⟩ (Nat.le_refl _)]
  rfl
theorem Field.sub {w : Addr} {M M' : Ms} (h : Field w M) (s : Sub M M') : Field w M' := s w _ h
end Law
namespace Law
open PySem L2 HC PyProof.Rows
theorem xorB_comm : ∀ (a b : Blk), xorB a b = xorB b a
  | [], b => by cases b <;> simp [xorB]
  | x :: a, [] => by simp [xorB]
  | x :: a, y :: b => by
    have := xorB_comm a b
    simp only [xorB, List.zipWith_cons_cons, List.cons.injEq] at this ⊢
    exact ⟨Nat.xor_comm x y, this⟩
theorem xorB_assoc : ∀ (a b c : Blk), xorB (xorB a b) c = xorB a (xorB b c)
  | [], b, c => by simp [xorB]
  | x :: a, [], c => by simp [xorB]
  | x :: a, y :: b, [] => by simp [xorB]
  | x :: a, y :: b, z :: c => by
    have := xorB_assoc a b c
    simp only [xorB, List.zipWith_cons_cons, List.cons.injEq] at this ⊢
    exact ⟨Nat.xor_assoc x y z, this⟩
theorem xorB_zero : ∀ (n : Nat) (a : Blk), a.length = n → xorB a (zeroB n) = a
  | 0, [], _ => rfl
  | n + 1, x :: a, h => by
    have := xorB_zero n a (by simpa using h)
    simp only [xorB, zeroB, List.replicate_succ, List.zipWith_cons_cons, List.cons.injEq, Nat.xor_zero, true_and] at this ⊢
    exact this
theorem xorB_self : ∀ (n : Nat) (a : Blk), a.length = n → xorB a a = zeroB n
  | 0, [], _ => rfl
  | n + 1, x :: a, h => by
    have := xorB_self n a (by simpa using h)
    simp only [xorB, zeroB, List.replicate_succ, List.zipWith_cons_cons, List.cons.injEq, Nat.xor_self, true_and] at this ⊢
    exact this
theorem zero_xorB {n : Nat} {a : Blk} (h : a.length = n) : xorB (zeroB n) a = a := by rw [xorB_comm, xorB_zero n a h]
theorem xorB_cancel {n : Nat} {a b : Blk} (ha : a.length = n) (hb : b.length = n) : xorB a (xorB a b) = b := by
  rw [← xorB_assoc, xorB_self n a ha, zero_xorB hb]
theorem xorB_cancel' {n : Nat} {a b : Blk} (ha : a.length = n) (hb : b.length = n) : xorB a (xorB b a) = b := by
  rw [xorB_comm b a, xorB_cancel ha hb]
theorem mulB_mulB {a c : Nat} {b : Blk} (ha : a < 256) (hc : c < 256) (hb : ∀ x ∈ b, x < 256) : mulB a (mulB c b) = mulB (GF.gt a c) b := by
  unfold mulB
  rw [List.map_map]
  exact List.map_congr_left fun x hx => GF.gt_assoc ha hc (hb x hx)
theorem mulB_one {b : Blk} (hb : ∀ x ∈ b, x < 256) : mulB 1 b = b := by
  unfold mulB
  have : b.map (GF.gt 1) = b.map id := List.map_congr_left fun x hx => GF.one_gt (hb x hx)
  rw [this, List.map_id]
theorem mulB_inv {c : Nat} {b : Blk} (hc : c < 256) (h0 : c ≠ 0) (hb : ∀ x ∈ b, x < 256) : mulB c (mulB (GF.inv c) b) = b := by
  rw [mulB_mulB hc (GF.inv_lt hc) hb, GF.gt_inv hc h0, mulB_one hb]
theorem inv_mulB {c : Nat} {b : Blk} (hc : c < 256) (h0 : c ≠ 0) (hb : ∀ x ∈ b, x < 256) : mulB (GF.inv c) (mulB c b) = b := by
  rw [mulB_mulB (GF.inv_lt hc) hc hb, GF.gt_comm (GF.inv_lt hc) hc, GF.gt_inv hc h0, mulB_one hb]
theorem mulB_addc (a c : Nat) : ∀ (b : Blk), mulB (a ^^^ c) b = xorB (mulB a b) (mulB c b)
  | [] => rfl
  | x :: b => by
    have := mulB_addc a c b
    simp only [mulB, xorB, List.map_cons, List.zipWith_cons_cons, List.cons.injEq] at this ⊢
    exact ⟨GF.lin_Ga 8 x a c, this⟩
theorem mulB_zero (c n : Nat) : mulB c (zeroB n) = zeroB n := by
  simp [mulB, zeroB, List.map_replicate, GF.gt_zero]
theorem foldB_start : ∀ (bs : List Blk) (z w : Blk), bs.foldl xorB (xorB z w) = xorB z (bs.foldl xorB w)
  | [], _, _ => rfl
  | b :: bs, z, w => by
    rw [List.foldl_cons, List.foldl_cons, xorB_assoc]
    exact foldB_start bs z (xorB w b)
theorem sumB_split {n : Nat} {A B : List Blk} {x : Blk} (hx : x.length = n) : sumB n (A ++ x :: B) = xorB x (sumB n (A ++ B)) := by
  unfold sumB
  rw [List.foldl_append, List.foldl_append, List.foldl_cons, xorB_comm _ x]
  exact foldB_start B x _
theorem set_split {α : Type} {xs : List α} {g : Nat} (h : g < xs.length) (b : α) : xs.set g b = xs.take g ++ b :: xs.drop (g + 1) := by
  rw [List.set_eq_take_append_cons_drop, if_pos h]
theorem sumB_set {n g : Nat} {xs : List Blk} {b : Blk} (hg : g < xs.length) (hb : b.length = n) (hz : (xs.getD g []).length = n) : sumB n (xs.set g b) = xorB (xorB (sumB n xs) (xs.getD g [])) b := by
  have e : xs = xs.take g ++ xs.getD g [] :: xs.drop (g + 1) := by
    rw [← set_split hg]
    refine (List.ext_getElem (by simp) fun i h1 h2 => ?_)
    rw [List.getElem_set]
    split
    · next e => subst e; simp [List.getD, hg]
    · rfl
  have s1 := sumB_split (n := n) (A := xs.take g) (B := xs.drop (g + 1)) hb
  have s2 := sumB_split (n := n) (A := xs.take g) (B := xs.drop (g + 1)) hz
  rw [← e] at s2
  rw [set_split hg, s1, s2]
  rw [xorB_comm (xs.getD g []) _, xorB_assoc, xorB_assoc, xorB_comm b]
  congr 1
  rw [← xorB_assoc, xorB_self n _ hz, zero_xorB hb]
theorem turnB_set {g : Nat} {xs : List Blk} {b : Blk} (hg : g < xs.length) : turnB (xs.set g b) = (turnB xs).set g (mulB (GF.pw g) b) := by
  refine List.ext_getElem (by simp [turnB]) fun i h1 h2 => ?_
  simp [turnB] at h1
  rw [List.getElem_set]
  simp only [turnB, List.getElem_map, List.getElem_range]
  rw [List.getD_eq_getElem?_getD, List.getElem?_set]
  by_cases e : g = i
  · subst e
    rw [if_pos rfl, if_pos rfl, if_pos hg]
    rfl
  · rw [if_neg e, if_neg e, List.getD_eq_getElem?_getD]
theorem turnB_getD {xs : List Blk} {g : Nat} (hg : g < xs.length) : (turnB xs).getD g [] = mulB (GF.pw g) (xs.getD g []) := by
  rw [List.getD_eq_getElem?_getD, turnB, List.getElem?_map, List.getElem?_range hg]
  rfl
abbrev Row := List (Option Blk)
def WfO (n : Nat) (r : Row) : Prop := ∀ o ∈ r, ∀ b, o = some b → BlkOk' b n
def known (r : Row) : List Nat := (List.range r.length).filter fun i => (r.getD i none).isSome
def goneP (k : Nat) (r : Row) : List Nat := (List.range k).filter fun i => (r.getD i none).isNone
def data0 (n k : Nat) (r : Row) : List Blk := (r.take k).map fun o => o.getD (zeroB n)
def byP (n : Nat) (d0 : List Blk) (P : Blk) : Blk := xorB P (sumB n d0)
def byQ (n : Nat) (d0 : List Blk) (g : Nat) (Qb : Blk) : Blk := mulB (GF.inv (GF.pw g)) (xorB Qb (sumB n (turnB d0)))
def byPQ (n : Nat) (d0 : List Blk) (g h : Nat) (P Qb : Blk) : Blk := mulB (GF.inv (GF.pw g ^^^ GF.pw h)) (xorB (xorB Qb (sumB n (turnB d0))) (mulB (GF.pw h) (xorB P (sumB n d0))))
def dataTold (p n : Nat) (r : Row) : List Blk :=
  let k := r.length - p
  let d0 := data0 n k r
  match goneP k r with
  | [] => d0
  | [g] => match r.getD k none with
    | some P => d0.set g (byP n d0 P)
    | none => d0.set g (byQ n d0 g ((r.getD (k + 1) none).getD []))
  | g :: h :: _ =>
    let P := (r.getD k none).getD []
    let Qb := (r.getD (k + 1) none).getD []
    let one := byPQ n d0 g h P Qb
    (d0.set g one).set h (xorB (xorB P (sumB n d0)) one)
theorem filter_two {α : Type} (f : α → Bool) : ∀ l : List α, (l.filter f).length + (l.filter fun x => !f x).length = l.length
  | [] => rfl
  | x :: l => by
    have := filter_two f l
    cases e : f x <;> simp [List.filter_cons, e] <;> omega
def Hides (p n : Nat) (ds : List Blk) (r : Row) : Prop := r.length = ds.length + p ∧ ∀ i b, r.getD i none = some b → (ds ++ parB p n ds).getD i [] = b
theorem data0_len {n k : Nat} {r : Row} (h : k ≤ r.length) : (data0 n k r).length = k := by simp [data0]; omega
theorem data0_at {n k i : Nat} {r : Row} (h : k ≤ r.length) (hi : i < k) : (data0 n k r).getD i [] = (r.getD i none).getD (zeroB n) := by
  unfold data0
  rw [List.getD_eq_getElem?_getD, List.getElem?_map, List.getElem?_take, if_pos hi, List.getElem?_eq_getElem (by omega), List.getD_eq_getElem?_getD, List.getElem?_eq_getElem (by omega)]
  rfl
theorem gone_mem {k i : Nat} {r : Row} : i ∈ goneP k r ↔ i < k ∧ r.getD i none = none := by
  unfold goneP
  rw [List.mem_filter, List.mem_range, Option.isNone_iff_eq_none]
theorem blks_ext {xs ys : List Blk} (hl : xs.length = ys.length) (h : ∀ i, i < xs.length → xs.getD i [] = ys.getD i []) : xs = ys := by
  refine List.ext_getElem hl fun i h1 h2 => ?_
  have := h i h1
  rw [List.getD_eq_getElem?_getD, List.getD_eq_getElem?_getD, List.getElem?_eq_getElem h1, List.getElem?_eq_getElem h2] at this
  exact this
theorem getD_set {xs : List Blk} {g i : Nat} {b : Blk} (hg : g < xs.length) : (xs.set g b).getD i [] = if g = i then b else xs.getD i [] := by
  rw [List.getD_eq_getElem?_getD, List.getElem?_set]
  by_cases e : g = i
  · subst e; rw [if_pos rfl, if_pos rfl, if_pos hg]; rfl
  · rw [if_neg e, if_neg e, List.getD_eq_getElem?_getD]
theorem data_set {ds : List Blk} {g : Nat} : ds.set g (ds.getD g []) = ds := by
  refine List.ext_getElem (by simp) fun i h1 h2 => ?_
  rw [List.getElem_set]
  split
  · next e => subst e; simp [List.getD, h2]
  · rfl
section
variable {p n : Nat} {ds : List Blk} {r : Row}
theorem Hides.data (h : Hides p n ds r) {i : Nat} (hi : i < ds.length) (b : Blk) (e : r.getD i none = some b) : ds.getD i [] = b := by
  have := h.2 i b e
  rwa [List.getD_eq_getElem?_getD, List.getElem?_append_left hi, ← List.getD_eq_getElem?_getD] at this
theorem Hides.par (h : Hides p n ds r) {j : Nat} (b : Blk) (e : r.getD (ds.length + j) none = some b) : (parB p n ds).getD j [] = b := by
  have := h.2 _ b e
  rwa [List.getD_eq_getElem?_getD, List.getElem?_append_right (by omega), Nat.add_sub_cancel_left, ← List.getD_eq_getElem?_getD] at this
theorem hides_d0 (h : Hides p n ds r) {i : Nat} (hi : i < ds.length) : (data0 n ds.length r).getD i [] = if r.getD i none = none then zeroB n else ds.getD i [] := by
  rw [data0_at (by rw [h.1]; omega) hi]
  cases e : r.getD i none with
  | none => rw [if_pos rfl]; rfl
  | some b => rw [if_neg (fun z => nomatch z), h.data hi b e]; rfl
theorem dataTold_code (p1 : 1 ≤ p) (p2 : p ≤ 2) (hw : WfR n ds) (hl : ds.length ≤ 255) (h : Hides p n ds r) (hk : ds.length ≤ (known r).length) : dataTold p n r = ds := by
  have ek : r.length - p = ds.length := by rw [h.1]; omega
  have dl : (data0 n ds.length r).length = ds.length := data0_len (by rw [h.1]; omega)
  have wd : ∀ i, i < ds.length → BlkOk' (ds.getD i []) n := fun i hi => hw _ (getD_mem hi)
  have ws := sumB_wf hw
  have wt := sumB_wf (turnB_wf hw)
  have count : (known r).length + (goneP ds.length r).length ≤ ds.length + ((List.range p).filter fun j => (r.getD (ds.length + j) none).isSome).length := by
    unfold known goneP
    rw [h.1, List.range_add, List.filter_append, List.length_append, List.filter_map, List.length_map]
    have c : ((List.range ds.length).filter fun i => (r.getD i none).isSome).length + ((List.range ds.length).filter fun i => (r.getD i none).isNone).length = ds.length := by
      have := filter_two (fun i => (r.getD i none).isSome) (List.range ds.length)
      rw [List.length_range] at this
      have e : (fun i => (r.getD i none).isNone) = fun i => !(r.getD i none).isSome := by
        funext i; cases r.getD i none <;> rfl
      rw [e]
      omega
    have e2 : ((fun i => (r.getD i none).isSome) ∘ fun x => ds.length + x) = fun j => (r.getD (ds.length + j) none).isSome := rfl
    rw [e2]
    omega
  have pcount : ((List.range p).filter fun j => (r.getD (ds.length + j) none).isSome).length ≤ p := by
    have := List.length_filter_le (fun j => (r.getD (ds.length + j) none).isSome) (List.range p)
    rwa [List.length_range] at this
  unfold dataTold
  simp only [ek]
  have sorted : ∀ i, i ∈ goneP ds.length r ↔ i < ds.length ∧ r.getD i none = none := fun i => gone_mem
  have nd : (goneP ds.length r).Nodup := List.Pairwise.filter _ List.nodup_range
  generalize hg : goneP ds.length r = G at *
  match G, hg with
  | [], hg =>
    refine blks_ext dl fun i hi => ?_
    rw [dl] at hi
    rw [hides_d0 h hi, if_neg]
    intro e
    exact absurd ((sorted i).mpr ⟨hi, e⟩) (List.not_mem_nil)
  | [g], hg =>
    obtain ⟨g1, g2⟩ := (sorted g).mp (by simp)
    have only : ∀ i, i < ds.length → i ≠ g → r.getD i none ≠ none := fun i hi hne e => hne (by simpa using (sorted i).mpr ⟨hi, e⟩)
    have ed : data0 n ds.length r = ds.set g (zeroB n) := blks_ext (by rw [dl, List.length_set]) fun i hi => by
      rw [dl] at hi
      rw [hides_d0 h hi, getD_set g1]
      by_cases e : g = i
      · subst e; rw [if_pos g2, if_pos rfl]
      · rw [if_neg (only i hi (Ne.symm e)), if_neg e]
    have zl : (zeroB n).length = n := by simp [zeroB]
    have s0 : sumB n (ds.set g (zeroB n)) = xorB (sumB n ds) (ds.getD g []) := by
      rw [sumB_set g1 zl (wd g g1).1, xorB_zero n _ (xorB_wf ws (wd g g1)).1]
    have t0 : sumB n (turnB (ds.set g (zeroB n))) = xorB (sumB n (turnB ds)) (mulB (GF.pw g) (ds.getD g [])) := by
      have wm := mulB_wf (GF.gp_lt 2 g) (wd g g1)
      rw [turnB_set g1, mulB_zero, sumB_set (by rw [turnB_len]; exact g1) zl (by rw [turnB_getD g1]; exact wm.1), turnB_getD g1, xorB_zero n _ (xorB_wf wt wm).1]
    cases eP : r.getD ds.length none with
    | some P =>
      have hP : sumB n ds = P := by
        have := h.par (j := 0) P (by simpa using eP)
        unfold parB at this
        split at this <;> exact this
      simp only [ed, byP, s0, List.set_set]
      rw [← hP, xorB_cancel ws.1 (wd g g1).1, data_set]
    | none =>
      have hp : p = 2 := by
        rcases (show p = 1 ∨ p = 2 by omega) with e | e
        · subst e
          rw [List.getD_eq_getElem?_getD] at eP
          have : ((List.range 1).filter fun j => (r.getD (ds.length + j) none).isSome).length = 0 := by
            simp [eP]
          simp only [List.length_singleton] at count
          omega
        · exact e
      subst hp
      have eQ : ∃ Qb, r.getD (ds.length + 1) none = some Qb := by
        cases eQ : r.getD (ds.length + 1) none with
        | some Qb => exact ⟨Qb, rfl⟩
        | none =>
          rw [List.getD_eq_getElem?_getD] at eP eQ
          have : ((List.range 2).filter fun j => (r.getD (ds.length + j) none).isSome).length = 0 := by
            simp [List.range_succ, eP, eQ]
          simp only [List.length_singleton] at count
          omega
      obtain ⟨Qb, eQ⟩ := eQ
      have hQ : sumB n (turnB ds) = Qb := h.par (j := 1) Qb eQ
      have wm := mulB_wf (GF.gp_lt 2 g) (wd g g1)
      simp only [ed, byQ, t0, List.set_set, eQ, Option.getD_some]
      rw [← hQ, xorB_cancel wt.1 wm.1, inv_mulB (GF.gp_lt 2 g) (GF.pw_ne0 g) (wd g g1).2, data_set]
  | g :: hh :: rest, hg =>
    obtain ⟨g1, g2⟩ := (sorted g).mp (by simp)
    obtain ⟨h1, h2⟩ := (sorted hh).mp (by simp)
    have hne : g ≠ hh := by
      intro e
      rw [e] at nd
      simp at nd
    have rest0 : rest = [] := by
      simp only [List.length_cons] at count
      have : rest.length = 0 := by omega
      exact List.length_eq_zero_iff.mp this
    subst rest0
    simp only [List.length_cons, List.length_nil] at count
    have hp : p = 2 := by omega
    subst hp
    have both : (r.getD ds.length none).isSome = true ∧ (r.getD (ds.length + 1) none).isSome = true := by
      have c2 : 2 ≤ ((List.range 2).filter fun j => (r.getD (ds.length + j) none).isSome).length := by omega
      have e3 : (List.range 2).filter (fun j => (r.getD (ds.length + j) none).isSome) = (if (r.getD ds.length none).isSome then [0] else []) ++ (if (r.getD (ds.length + 1) none).isSome then [1] else []) := by
        rw [show List.range 2 = [0, 1] from rfl]
        cases e1 : (r.getD (ds.length + 0) none).isSome <;> cases e2 : (r.getD (ds.length + 1) none).isSome <;> rw [Nat.add_zero] at e1 <;> simp only [List.filter_cons, List.filter_nil, Nat.add_zero, e1, e2] <;> rfl
      rw [e3] at c2
      cases e1 : (r.getD ds.length none).isSome <;> cases e2 : (r.getD (ds.length + 1) none).isSome <;> rw [e1, e2] at c2 <;> first | exact ⟨rfl, rfl⟩ | (exact absurd c2 (by decide))
    obtain ⟨P, eP⟩ := Option.isSome_iff_exists.mp both.1
    obtain ⟨Qb, eQ⟩ := Option.isSome_iff_exists.mp both.2
    have hP : sumB n ds = P := h.par (p := 2) (j := 0) P (by simpa using eP)
    have hQ : sumB n (turnB ds) = Qb := h.par (p := 2) (j := 1) Qb eQ
    have only : ∀ i, i < ds.length → i ≠ g → i ≠ hh → r.getD i none ≠ none := fun i hi a b e => by
      have := (sorted i).mpr ⟨hi, e⟩
      simp [a, b] at this
    have zl : (zeroB n).length = n := by simp [zeroB]
    have ed : data0 n ds.length r = (ds.set g (zeroB n)).set hh (zeroB n) := blks_ext (by rw [dl, List.length_set, List.length_set]) fun i hi => by
      rw [dl] at hi
      rw [hides_d0 h hi, getD_set (by rw [List.length_set]; exact h1), getD_set g1]
      by_cases e : hh = i
      · subst e; rw [if_pos h2, if_pos rfl]
      · rw [if_neg e]
        by_cases e2 : g = i
        · subst e2; rw [if_pos g2, if_pos rfl]
        · rw [if_neg (only i hi (Ne.symm e2) (Ne.symm e)), if_neg e2]
    have wg := wd g g1
    have wh := wd hh h1
    have mg := mulB_wf (GF.gp_lt 2 g) wg
    have mh := mulB_wf (GF.gp_lt 2 hh) wh
    have hd : (ds.set g (zeroB n)).getD hh [] = ds.getD hh [] := by rw [getD_set g1, if_neg hne]
    have s0 : sumB n ((ds.set g (zeroB n)).set hh (zeroB n)) = xorB (xorB (sumB n ds) (ds.getD g [])) (ds.getD hh []) := by
      rw [sumB_set (by rw [List.length_set]; exact h1) zl (by rw [hd]; exact wh.1), hd, sumB_set g1 zl wg.1, xorB_zero n _ (xorB_wf ws wg).1, xorB_zero n _ (xorB_wf (xorB_wf ws wg) wh).1]
    have t0 : sumB n (turnB ((ds.set g (zeroB n)).set hh (zeroB n))) = xorB (xorB (sumB n (turnB ds)) (mulB (GF.pw g) (ds.getD g []))) (mulB (GF.pw hh) (ds.getD hh [])) := by
      have e1 : ((turnB ds).set g (zeroB n)).getD hh [] = mulB (GF.pw hh) (ds.getD hh []) := by
        rw [getD_set (by rw [turnB_len]; exact g1), if_neg hne, turnB_getD h1]
      rw [turnB_set (by rw [List.length_set]; exact h1), turnB_set g1, mulB_zero, mulB_zero, sumB_set (by rw [List.length_set, turnB_len]; exact h1) zl (by rw [e1]; exact mh.1), e1, sumB_set (by rw [turnB_len]; exact g1) zl (by rw [turnB_getD g1]; exact mg.1), turnB_getD g1, xorB_zero n _ (xorB_wf wt mg).1, xorB_zero n _ (xorB_wf (xorB_wf wt mg) mh).1]
    have first : xorB P (sumB n ((ds.set g (zeroB n)).set hh (zeroB n))) = xorB (ds.getD g []) (ds.getD hh []) := by
      rw [s0, ← hP, xorB_assoc, xorB_cancel ws.1 (xorB_wf wg wh).1]
    have second : xorB Qb (sumB n (turnB ((ds.set g (zeroB n)).set hh (zeroB n)))) = xorB (mulB (GF.pw g) (ds.getD g [])) (mulB (GF.pw hh) (ds.getD hh [])) := by
      rw [t0, ← hQ, xorB_assoc, xorB_cancel wt.1 (xorB_wf mg mh).1]
    have lean0 : GF.pw g ^^^ GF.pw hh ≠ 0 := fun e => GF.pw_inj (i := g) (j := hh) (by omega) (by omega) hne (by
      have := congrArg (fun x => x ^^^ GF.pw hh) e
      simpa [Nat.xor_assoc] using this)
    have leanl : GF.pw g ^^^ GF.pw hh < 256 := GF.xor8 (GF.gp_lt 2 g) (GF.gp_lt 2 hh)
    have one : byPQ n ((ds.set g (zeroB n)).set hh (zeroB n)) g hh P Qb = ds.getD g [] := by
      unfold byPQ
      rw [first, second, mulB_xor (GF.pw hh), xorB_assoc]
      have mhg := mulB_wf (GF.gp_lt 2 hh) wg
      rw [xorB_comm (mulB (GF.pw hh) (ds.getD hh [])) _, xorB_assoc, xorB_self n _ mh.1, xorB_zero n _ mhg.1, ← mulB_addc, inv_mulB leanl lean0 wg.2]
    simp only [ed, eP, eQ, Option.getD_some, one, first]
    rw [xorB_comm (ds.getD g []) (ds.getD hh []), xorB_assoc, xorB_self n _ wg.1, xorB_zero n _ wh.1]
    refine blks_ext (by simp) fun i hi => ?_
    rw [getD_set (by simpa using h1), getD_set (by simpa using g1), getD_set (by simpa using h1), getD_set g1]
    by_cases e : hh = i
    · subst e; rw [if_pos rfl]
    · rw [if_neg e]
      by_cases e2 : g = i
      · subst e2; rw [if_pos rfl]
      · rw [if_neg e2, if_neg e, if_neg e2]
theorem count_ok {r : Row} {k p : Nat} (hl : r.length = k + p) : (known r).length + (goneP k r).length = k + ((List.range p).filter fun j => (r.getD (k + j) none).isSome).length := by
  unfold known goneP
  rw [hl, List.range_add, List.filter_append, List.length_append, List.filter_map, List.length_map]
  have c := filter_two (fun i => (r.getD i none).isSome) (List.range k)
  rw [List.length_range] at c
  have e : (fun i => (r.getD i none).isNone) = fun i => !(r.getD i none).isSome := by
    funext i; cases r.getD i none <;> rfl
  have e2 : ((fun i => (r.getD i none).isSome) ∘ fun x => k + x) = fun j => (r.getD (k + j) none).isSome := rfl
  rw [e, e2]
  omega
theorem two_known {r : Row} {k : Nat} : ((List.range 2).filter fun j => (r.getD (k + j) none).isSome) = (if (r.getD k none).isSome then [0] else []) ++ (if (r.getD (k + 1) none).isSome then [1] else []) := by
  rw [show List.range 2 = [0, 1] from rfl]
  cases e1 : (r.getD (k + 0) none).isSome <;> cases e2 : (r.getD (k + 1) none).isSome <;> rw [Nat.add_zero] at e1 <;> simp only [List.filter_cons, List.filter_nil, Nat.add_zero, e1, e2] <;> rfl
theorem gone_cases {r : Row} {k p : Nat} (hl : r.length = k + p) (p1 : 1 ≤ p) (p2 : p ≤ 2) (hk : k ≤ (known r).length) :
    goneP k r = [] ∨ (∃ g P, goneP k r = [g] ∧ r.getD k none = some P) ∨ (∃ g Qb, p = 2 ∧ goneP k r = [g] ∧ r.getD k none = none ∧ r.getD (k + 1) none = some Qb) ∨
      (∃ g h P Qb, p = 2 ∧ goneP k r = [g, h] ∧ r.getD k none = some P ∧ r.getD (k + 1) none = some Qb) := by
  have c := count_ok hl
  have one : p = 1 → ((List.range p).filter fun j => (r.getD (k + j) none).isSome) = if (r.getD k none).isSome then [0] else [] := by
    rintro rfl
    cases e1 : (r.getD (k + 0) none).isSome <;> rw [Nat.add_zero] at e1 <;> simp only [show List.range 1 = [0] from rfl, List.filter_cons, List.filter_nil, Nat.add_zero, e1] <;> rfl
  have hp : p = 1 ∨ p = 2 := by omega
  cases eP : r.getD k none with
  | none =>
    rcases hp with e | e
    · rw [one e, eP] at c
      simp at c
      left
      exact List.length_eq_zero_iff.mp (by omega)
    · subst e
      rw [two_known, eP] at c
      cases eQ : r.getD (k + 1) none with
      | none =>
        rw [eQ] at c
        simp at c
        left
        exact List.length_eq_zero_iff.mp (by omega)
      | some Qb =>
        rw [eQ] at c
        simp at c
        match hg : goneP k r with
        | [] => exact .inl rfl
        | [g] => exact .inr (.inr (.inl ⟨g, Qb, rfl, rfl, rfl, rfl⟩))
        | g :: h :: t => rw [hg] at c; simp at c; omega
  | some P =>
    rcases hp with e | e
    · rw [one e, eP] at c
      simp at c
      match hg : goneP k r with
      | [] => exact .inl rfl
      | [g] => exact .inr (.inl ⟨g, P, rfl, rfl⟩)
      | g :: h :: t => rw [hg] at c; simp at c; omega
    · subst e
      rw [two_known, eP] at c
      match hg : goneP k r with
      | [] => exact .inl rfl
      | [g] => exact .inr (.inl ⟨g, P, rfl, rfl⟩)
      | [g, h] =>
        cases eQ : r.getD (k + 1) none with
        | none => rw [eQ, hg] at c; simp at c; omega
        | some Qb => exact .inr (.inr (.inr ⟨g, h, P, Qb, rfl, rfl, rfl, rfl⟩))
      | g :: h :: u :: t =>
        rw [hg] at c
        cases eQ : r.getD (k + 1) none <;> rw [eQ] at c <;> simp at c <;> omega
theorem rowO (r : Row) (i : Nat) (h : i < r.length) : (r.map oD)[i]? = some (oD (r.getD i none)) := by
  rw [List.getElem?_map, List.getElem?_eq_getElem h]
  simp [List.getD, h]
theorem data0_wf {n k : Nat} {r : Row} (hw : WfO n r) : WfR n (data0 n k r) := fun b hb => by
  obtain ⟨o, ho, rfl⟩ := List.mem_map.mp hb
  cases o with
  | none => exact zeroB_wf
  | some b => exact hw _ (List.mem_of_mem_take ho) b rfl
theorem getD_some {r : Row} {i : Nat} {b : Blk} (h : r.getD i none = some b) : i < r.length ∧ some b ∈ r := by
  rw [List.getD_eq_getElem?_getD] at h
  cases e : r[i]? with
  | none => rw [e] at h; cases h
  | some o =>
    rw [e] at h
    have e2 : o = some b := h
    subst e2
    exact ⟨(List.getElem?_eq_some_iff.mp e).1, List.mem_of_getElem? e⟩
theorem filterMap_getD (r : Row) : (List.range r.length).filterMap (fun i => r.getD i none) = r.filterMap id := by
  have e : (List.range r.length).map (fun i => r.getD i none) = r := by
    refine List.ext_getElem (by simp) fun i h1 h2 => ?_
    simp [List.getD, h2]
  have : (List.range r.length).filterMap (fun i => r.getD i none) = ((List.range r.length).map fun i => r.getD i none).filterMap id := by
    rw [List.filterMap_map]; rfl
  rw [this, e]
theorem set_wf {n g : Nat} {xs : List Blk} {b : Blk} (hw : WfR n xs) (hb : BlkOk' b n) : WfR n (xs.set g b) := fun c hc => by
  rcases List.mem_or_eq_of_mem_set hc with h | h
  · exact hw c h
  · rw [h]; exact hb
theorem dataTold_len {p n : Nat} {r : Row} (p1 : 1 ≤ p) (p2 : p ≤ 2) (pl : p ≤ r.length) (hk : r.length - p ≤ (known r).length) : (dataTold p n r).length = r.length - p := by
  have dl : (data0 n (r.length - p) r).length = r.length - p := data0_len (by omega)
  unfold dataTold
  simp only []
  split
  · exact dl
  · split <;> simp [dl]
  · simp [dl]
theorem dataTold_wf {p n : Nat} {r : Row} (p1 : 1 ≤ p) (p2 : p ≤ 2) (pl : p ≤ r.length) (hw : WfO n r) (hk : r.length - p ≤ (known r).length) : WfR n (dataTold p n r) := by
  have dw := data0_wf (k := r.length - p) hw
  have ws := sumB_wf dw
  have wt := sumB_wf (turnB_wf dw)
  have c4 := gone_cases (k := r.length - p) (by omega) p1 p2 hk
  unfold dataTold
  rcases c4 with e | ⟨g, P, e, eP⟩ | ⟨g, Qb, hp, e, eP, eQ⟩ | ⟨g, h, P, Qb, hp, e, eP, eQ⟩
  · simp only [e]; exact dw
  · simp only [e, eP]
    exact set_wf dw (xorB_wf (hw _ (getD_some eP).2 P rfl) ws)
  · simp only [e, eP, eQ, Option.getD_some]
    exact set_wf dw (mulB_wf (GF.inv_lt (GF.gp_lt 2 g)) (xorB_wf (hw _ (getD_some eQ).2 Qb rfl) wt))
  · simp only [e, eP, eQ, Option.getD_some]
    have wP := hw _ (getD_some eP).2 P rfl
    have wQ := hw _ (getD_some eQ).2 Qb rfl
    have one : BlkOk' (byPQ n (data0 n (r.length - p) r) g h P Qb) n := mulB_wf (GF.inv_lt (GF.xor8 (GF.gp_lt 2 g) (GF.gp_lt 2 h))) (xorB_wf (xorB_wf wQ wt) (mulB_wf (GF.gp_lt 2 h) (xorB_wf wP ws)))
    exact set_wf (set_wf dw one) (xorB_wf (xorB_wf wP ws) one)
theorem getD_range (r : Row) : (List.range r.length).map (fun i => r.getD i none) = r := by
  refine List.ext_getElem (by simp) fun i h1 h2 => ?_
  simp [List.getD, h2]
theorem known_len (r : Row) : (known r).length = (r.filter Option.isSome).length := by
  have e : r.filter Option.isSome = (known r).map fun i => r.getD i none := by
    unfold known
    conv => lhs; rw [← getD_range r]
    rw [List.filter_map]; rfl
  rw [e, List.length_map]
theorem known_set (r : Row) (v : Nat) : (known r).length ≤ (known (r.set v none)).length + 1 := by
  rw [known_len, known_len]
  by_cases h : v < r.length
  · have e : r = r.take v ++ r.getD v none :: r.drop (v + 1) := by
      refine List.ext_getElem (by simp; omega) fun i h1 h2 => ?_
      by_cases hi : i < v
      · rw [List.getElem_append_left (by simp; omega), List.getElem_take]
      · rw [List.getElem_append_right (by simp; omega)]
        by_cases hv : i = v
        · subst hv
          simp [List.getD, h, Nat.min_eq_left (Nat.le_of_lt h)]
        · have : i - (r.take v).length = (i - v - 1) + 1 := by simp; omega
          simp only [this, List.getElem_cons_succ, List.getElem_drop]
          congr 1; omega
    have e2 : r.set v none = r.take v ++ none :: r.drop (v + 1) := by rw [set_split h]
    rw [e2]
    conv => lhs; rw [e]
    rw [List.filter_append, List.filter_append, List.filter_cons, List.filter_cons]
    cases r.getD v none <;> simp <;> omega
  · rw [List.set_eq_of_length_le (by omega)]; omega
theorem hid_set {r r' : Row} {v : Nat} (h : r'.length = r.length ∧ ∀ i b, r'.getD i none = some b → r.getD i none = some b) : (r'.set v none).length = r.length ∧ ∀ i b, (r'.set v none).getD i none = some b → r.getD i none = some b := by
  refine ⟨by simp [h.1], fun i b e => h.2 i b ?_⟩
  rw [List.getD_eq_getElem?_getD, List.getElem?_set] at e
  by_cases hv : v = i
  · subst hv
    rw [if_pos rfl] at e
    split at e <;> cases e
  · rw [if_neg hv] at e
    rw [List.getD_eq_getElem?_getD]; exact e
def rowOf (bs : List Blk) : Row := bs.map some
theorem known_rowOf (bs : List Blk) : (known (rowOf bs)).length = bs.length := by
  rw [known_len, rowOf, List.filter_map, List.length_map, List.filter_eq_self.mpr]
  intro b _; rfl
theorem rowOf_get {bs : List Blk} {i : Nat} {b : Blk} (h : (rowOf bs).getD i none = some b) : bs.getD i [] = b := by
  rw [rowOf, List.getD_eq_getElem?_getD, List.getElem?_map] at h
  rw [List.getD_eq_getElem?_getD]
  cases e : bs[i]? with
  | none => rw [e] at h; cases h
  | some c => rw [e] at h; cases h; rfl
theorem hides_of {p n : Nat} {ds : List Blk} {r' : Row} (h : r'.length = (rowOf (ds ++ parB p n ds)).length ∧ ∀ i b, r'.getD i none = some b → (rowOf (ds ++ parB p n ds)).getD i none = some b) (pl : (parB p n ds).length = p) : Hides p n ds r' :=
  ⟨by rw [h.1, rowOf, List.length_map, List.length_append, pl], fun i b e => rowOf_get (h.2 i b e)⟩
theorem hides_wf {p n : Nat} {ds : List Blk} {r : Row} (h : Hides p n ds r) (hw : WfR n ds) (pw : WfR n (parB p n ds)) (pl : (parB p n ds).length = p) : WfO n r := fun o ho b e => by
  subst e
  obtain ⟨i, hi, e⟩ := List.mem_iff_getElem.mp ho
  have e2 : r.getD i none = some b := by rw [List.getD_eq_getElem?_getD, List.getElem?_eq_getElem hi, e]; rfl
  have e3 := h.2 i b e2
  have hl : i < (ds ++ parB p n ds).length := by rw [List.length_append, pl, ← h.1]; exact hi
  have hm : b ∈ ds ++ parB p n ds := by rw [← e3]; exact getD_mem hl
  rcases List.mem_append.mp hm with q | q
  · exact hw b q
  · exact pw b q
theorem map_erase {α β : Type} (f : α → β) : ∀ (L : List α) (a : Nat), (L.map f).eraseIdx a = (L.eraseIdx a).map f
  | [], _ => rfl
  | x :: L, 0 => rfl
  | x :: L, a + 1 => by simp [List.eraseIdx_cons_succ, map_erase f L a]
end
end Law
namespace Law
open PySem L2 HC PyProof.Rows
def filledR (p n : Nat) (r : Row) : List Blk := dataTold p n r ++ parB p n (dataTold p n r)
def holdsB (p n : Nat) (r : Row) : Bool := decide ((known r).length < r.length - p) || (List.range r.length).all fun i => (r.getD i none).isNone || decide (r.getD i none = some ((filledR p n r).getD i []))
def wrongs (p n : Nat) (r : Row) : List Nat := (List.range r.length).filter fun j => holdsB p n (r.set j none)
def verdictD (p n : Nat) (r : Row) : Dv :=
  if p < r.length - (known r).length then .tup [.str ("lost" : Str)]
  else if r.length - (known r).length = p then .tup [.str ("bare" : Str)]
  else if holdsB p n r = true then .tup [.str ("holds" : Str)]
  else if p = 2 ∧ r.length - (known r).length = 0 then (match wrongs p n r with | [] => .tup [.str ("unlike" : Str)] | j :: _ => .tup [.str ("wrong" : Str), dn j])
  else .tup [.str ("unlike" : Str)]
theorem bD_inj {b c : Blk} (h : bD b = bD c) : b = c := by
  have h2 := Dv.tup.inj h
  refine List.map_inj_right (f := fun n => dn n) (fun x y e => ?_) |>.mp h2
  have := Dv.int.inj e
  omega
theorem cut_set {r : Row} {j : Nat} {x : Option Blk} (hj : j < r.length) : cutA (r.map oD) none (some (j : Int)) ++ [oD x] ++ cutA (r.map oD) (some ((j : Int) + 1)) none = (r.set j x).map oD := by
  have c2 : cutA (r.map oD) (some ((j : Int) + 1)) none = (r.map oD).drop (j + 1) := cut_from (r.map oD) (j + 1) (by simp; omega)
  rw [c2, cut_to _ _ (by simp; omega), List.set_eq_take_append_cons_drop, if_pos hj, List.map_append, List.map_cons, List.map_take, List.map_drop]
  simp
theorem known_le (r : Row) : (known r).length ≤ r.length := by
  have := List.length_filter_le (fun i => (r.getD i none).isSome) (List.range r.length)
  rwa [List.length_range] at this
section
variable {p n : Nat} {ds : List Blk} {r : Row}
theorem holds_of (p1 : 1 ≤ p) (p2 : p ≤ 2) (hw : WfR n ds) (hl : ds.length ≤ 255) (h : Hides p n ds r) : holdsB p n r = true := by
  unfold holdsB
  by_cases hk : (known r).length < r.length - p
  · rw [decide_eq_true hk, Bool.true_or]
  · have e := dataTold_code p1 p2 hw hl h (by have := h.1; omega)
    rw [Bool.or_eq_true, List.all_eq_true]
    right
    intro i _
    rw [Bool.or_eq_true, decide_eq_true_eq]
    cases q : r.getD i none with
    | none => left; rfl
    | some b =>
      right
      rw [filledR, e, h.2 i b q]
theorem holds_inv (p1 : 1 ≤ p) (p2 : p ≤ 2) (pl : p ≤ r.length) (hw : WfO n r) (hk : r.length - p ≤ (known r).length) (h : holdsB p n r = true) : WfR n (dataTold p n r) ∧ (dataTold p n r).length = r.length - p ∧ Hides p n (dataTold p n r) r := by
  have dl := dataTold_len (n := n) p1 p2 pl hk
  refine ⟨dataTold_wf p1 p2 pl hw hk, dl, by omega, fun i b e => ?_⟩
  unfold holdsB at h
  rw [decide_eq_false (by omega), Bool.false_or, List.all_eq_true] at h
  have hi := (getD_some e).1
  have := h i (List.mem_range.mpr hi)
  rw [e] at this
  simp only [Option.isNone_some, Bool.false_or, decide_eq_true_eq, Option.some.injEq] at this
  exact this.symm
theorem hides_one {es : List Blk} (p1 : 1 ≤ p) (p2 : p ≤ 2) (hw : WfR n ds) (hw' : WfR n es) (hl : ds.length ≤ 255) (h : Hides p n ds r) (h' : Hides p n es r) (hk : ds.length ≤ (known r).length) : ds = es := by
  have e := dataTold_code p1 p2 hw hl h hk
  have hle : es.length = ds.length := by have := h.1; have := h'.1; omega
  have e' := dataTold_code p1 p2 hw' (by omega) h' (by omega)
  rw [← e, ← e']
end
section
variable {p n g : Nat} {ds : List Blk} {b : Blk}
def wrongR (p n g : Nat) (ds : List Blk) (b : Blk) : Row := (rowOf (ds ++ parB p n ds)).set g (some b)
theorem rowOf_at {bs : List Blk} {i : Nat} (h : i < bs.length) : (rowOf bs).getD i none = some (bs.getD i []) := by
  rw [rowOf, List.getD_eq_getElem?_getD, List.getElem?_map, List.getElem?_eq_getElem h, List.getD_eq_getElem?_getD, List.getElem?_eq_getElem h]
  rfl
theorem getD_setO {r : Row} {g i : Nat} {o : Option Blk} (hg : g < r.length) : (r.set g o).getD i none = if g = i then o else r.getD i none := by
  rw [List.getD_eq_getElem?_getD, List.getElem?_set]
  by_cases e : g = i
  · subst e; rw [if_pos rfl, if_pos rfl, if_pos hg]; rfl
  · rw [if_neg e, if_neg e, List.getD_eq_getElem?_getD]
theorem row_len (p1 : 1 ≤ p) (p2 : p ≤ 2) : (rowOf (ds ++ parB p n ds)).length = ds.length + p := by
  rw [rowOf, List.length_map, List.length_append, parB_len p1 p2]
theorem known_set1 (r : Row) (v : Nat) (b : Blk) : (known r).length ≤ (known (r.set v (some b))).length := by
  by_cases h : v < r.length
  · unfold known
    rw [List.length_set]
    rw [← List.countP_eq_length_filter, ← List.countP_eq_length_filter]
    refine List.countP_mono_left ?_
    intro i _ hi
    rw [getD_setO h]
    split
    · rfl
    · exact hi
  · rw [List.set_eq_of_length_le (by omega)]; exact Nat.le_refl _
theorem wrong_known (p1 : 1 ≤ p) (p2 : p ≤ 2) (hg : g < ds.length + p) : (known (wrongR p n g ds b)).length = ds.length + p := by
  have h1 := known_set1 (rowOf (ds ++ parB p n ds)) g b
  have h2 := known_le (wrongR p n g ds b)
  have h3 := known_rowOf (ds ++ parB p n ds)
  rw [List.length_append, parB_len p1 p2] at h3
  have h4 := row_len (n := n) (ds := ds) p1 p2
  unfold wrongR at *
  rw [List.length_set] at h2
  omega
theorem wrong_len (p1 : 1 ≤ p) (p2 : p ≤ 2) : (wrongR p n g ds b).length = ds.length + p := by
  rw [wrongR, List.length_set, row_len p1 p2]
theorem wrong_wf (hw : WfR n ds) (hb : BlkOk' b n) : WfO n (wrongR p n g ds b) := fun o ho c e => by
  subst e
  rcases List.mem_or_eq_of_mem_set ho with h | h
  · obtain ⟨x, hx, e⟩ := List.mem_map.mp h
    cases e
    rcases List.mem_append.mp hx with q | q
    · exact hw _ q
    · exact parB_wf hw _ q
  · cases h; exact hb
theorem set_wfo {r : Row} {j : Nat} (hw : WfO n r) : WfO n (r.set j none) := fun o ho c e => by
  subst e
  rcases List.mem_or_eq_of_mem_set ho with h | h
  · exact hw _ h c rfl
  · cases h
theorem wrong_hide {es : List Blk} {r : Row} (p1 : 1 ≤ p) (p2 : p ≤ 2) (hw : WfR n ds) (hw' : WfR n es) (hl : ds.length ≤ 255) (hg : g < ds.length + p) (hr : r.length = ds.length + p) (hs : ∀ i c, r.getD i none = some c → i ≠ g → (rowOf (ds ++ parB p n ds)).getD i none = some c) (h : Hides p n es r)
    (hk : ds.length + 1 ≤ (known r).length ∨ (ds.length ≤ (known r).length ∧ r.getD g none = none)) : es = ds := by
  have hh : Hides p n es (r.set g none) := ⟨by rw [List.length_set]; exact h.1, fun i c e => by
    rw [getD_setO (by omega)] at e
    split at e
    · cases e
    · exact h.2 i c e⟩
  have hd : Hides p n ds (r.set g none) := ⟨by rw [List.length_set]; exact hr, fun i c e => by
    rw [getD_setO (by omega)] at e
    split at e
    · cases e
    · next ne => exact rowOf_get (hs i c e (Ne.symm ne))⟩
  have hc := known_set r g
  refine (hides_one p1 p2 hw hw' hl hd hh ?_).symm
  rcases hk with hk | ⟨hk, e0⟩
  · omega
  · have e1 : r.set g none = r := by
      refine List.ext_getElem (by simp) fun i h1 h2 => ?_
      rw [List.getElem_set]
      split
      · next e =>
        subst e
        rw [List.getD_eq_getElem?_getD, List.getElem?_eq_getElem h2] at e0
        exact e0.symm
      · rfl
    rw [e1]; exact hk
theorem wrong_not (p1 : 1 ≤ p) (p2 : p ≤ 2) (hw : WfR n ds) (hl : ds.length ≤ 255) (hg : g < ds.length + p) (hb : BlkOk' b n) (hne : (ds ++ parB p n ds).getD g [] ≠ b) : holdsB p n (wrongR p n g ds b) = false := by
  cases q : holdsB p n (wrongR p n g ds b) with
  | false => rfl
  | true =>
    have kn := wrong_known (n := n) (b := b) (ds := ds) p1 p2 hg
    have ln := wrong_len (n := n) (g := g) (b := b) (ds := ds) p1 p2
    obtain ⟨h1, h2, h3⟩ := holds_inv p1 p2 (by omega) (wrong_wf hw hb) (by omega) q
    have e := wrong_hide p1 p2 hw h1 hl hg ln (fun i c e hi => by
      rw [wrongR, getD_setO (by rw [row_len p1 p2]; exact hg), if_neg (Ne.symm hi)] at e
      exact e) h3 (.inl (by omega))
    rw [e] at h3
    have := h3.2 g b (by rw [wrongR, getD_setO (by rw [row_len p1 p2]; exact hg), if_pos rfl])
    exact absurd this hne
theorem wrong_places2 (hw : WfR n ds) (hl : ds.length ≤ 255) (hg : g < ds.length + 2) (hb : BlkOk' b n) (hne : (ds ++ parB 2 n ds).getD g [] ≠ b) {j : Nat} (hj : j < ds.length + 2) : holdsB 2 n ((wrongR 2 n g ds b).set j none) = decide (j = g) := by
  have ln := wrong_len (n := n) (g := g) (b := b) (ds := ds) (p := 2) (by decide) (by decide)
  have kn := wrong_known (n := n) (b := b) (ds := ds) (p := 2) (by decide) (by decide) hg
  have rl := row_len (n := n) (ds := ds) (p := 2) (by decide) (by decide)
  by_cases e : j = g
  · subst e
    rw [decide_eq_true rfl]
    refine holds_of (ds := ds) (by decide) (by decide) hw hl ⟨by rw [List.length_set]; exact ln, fun i c e => ?_⟩
    rw [getD_setO (by omega)] at e
    split at e
    · cases e
    · next ne =>
      rw [wrongR, getD_setO (by omega), if_neg ne] at e
      exact rowOf_get e
  · rw [decide_eq_false e]
    cases q : holdsB 2 n ((wrongR 2 n g ds b).set j none) with
    | false => rfl
    | true =>
      have kj := known_set (wrongR 2 n g ds b) j
      obtain ⟨h1, h2, h3⟩ := holds_inv (by decide) (by decide) (by rw [List.length_set]; omega) (set_wfo (wrong_wf hw hb)) (by rw [List.length_set]; omega) q
      have e2 := wrong_hide (g := g) (by decide) (by decide) hw h1 hl hg (by rw [List.length_set]; exact ln) (fun i c e hi => by
        rw [getD_setO (by omega)] at e
        split at e
        · cases e
        · rw [wrongR, getD_setO (by omega), if_neg (Ne.symm hi)] at e
          exact e) h3 (.inl (by omega))
      rw [e2] at h3
      have := h3.2 g b (by rw [getD_setO (by omega), if_neg e, wrongR, getD_setO (by omega), if_pos rfl])
      exact absurd this hne
theorem filter_one : ∀ (m g : Nat), g < m → (List.range m).filter (fun j => decide (j = g)) = [g]
  | 0, g, h => by omega
  | m + 1, g, h => by
    rw [List.range_succ, List.filter_append]
    by_cases e : g = m
    · subst e
      have : (List.range g).filter (fun j => decide (j = g)) = [] := List.filter_eq_nil_iff.mpr fun j hj => by
        have := List.mem_range.mp hj
        simp; omega
      rw [this]; simp
    · rw [filter_one m g (by omega)]
      simp [show ¬ m = g from fun h => e h.symm]
theorem v_wrong (hw : WfR n ds) (hl : ds.length ≤ 255) (hg : g < ds.length + 2) (hb : BlkOk' b n) (hne : (ds ++ parB 2 n ds).getD g [] ≠ b) : verdictD 2 n (wrongR 2 n g ds b) = .tup [.str ("wrong" : Str), dn g] := by
  have ln := wrong_len (n := n) (g := g) (b := b) (ds := ds) (p := 2) (by decide) (by decide)
  have kn := wrong_known (n := n) (b := b) (ds := ds) (p := 2) (by decide) (by decide) hg
  have ws : wrongs 2 n (wrongR 2 n g ds b) = [g] := by
    unfold wrongs
    rw [ln]
    have : (List.range (ds.length + 2)).filter (fun j => holdsB 2 n ((wrongR 2 n g ds b).set j none)) = (List.range (ds.length + 2)).filter fun j => decide (j = g) :=
      List.filter_congr fun j hj => wrong_places2 hw hl hg hb hne (List.mem_range.mp hj)
    rw [this, filter_one _ _ hg]
  unfold verdictD
  rw [if_neg (by omega), if_neg (by omega), wrong_not (by decide) (by decide) hw hl hg hb hne, if_neg (by decide), if_pos ⟨rfl, by omega⟩, ws]
theorem v_unlike (hw : WfR n ds) (hl : ds.length ≤ 255) (hg : g < ds.length + 1) (hb : BlkOk' b n) (hne : (ds ++ parB 1 n ds).getD g [] ≠ b) : verdictD 1 n (wrongR 1 n g ds b) = .tup [.str ("unlike" : Str)] := by
  have ln := wrong_len (n := n) (g := g) (b := b) (ds := ds) (p := 1) (by decide) (by decide)
  have kn := wrong_known (n := n) (b := b) (ds := ds) (p := 1) (by decide) (by decide) hg
  unfold verdictD
  rw [if_neg (by omega), if_neg (by omega), wrong_not (by decide) (by decide) hw hl hg hb hne, if_neg (by decide), if_neg (by omega)]
theorem v_holds {r : Row} (p1 : 1 ≤ p) (p2 : p ≤ 2) (hw : WfR n ds) (hl : ds.length ≤ 255) (h : Hides p n ds r) (hk : ds.length + 1 ≤ (known r).length) : verdictD p n r = .tup [.str ("holds" : Str)] := by
  have := h.1
  unfold verdictD
  rw [if_neg (by omega), if_neg (by omega), holds_of p1 p2 hw hl h, if_pos rfl]
end
end Law
namespace Law
open PySem L2 HC PyProof.Rows
section
variable {n : Nat} {ds : List Blk}
theorem code_of {r : Row} (hw : WfO n r) (hl : r.length = ds.length + 2) (hk : (known r).length + 2 ≥ ds.length + 2) (h : holdsB 2 n r = true) : ∃ es, WfR n es ∧ es.length = ds.length ∧ Hides 2 n es r := by
  obtain ⟨h1, h2, h3⟩ := holds_inv (p := 2) (by decide) (by decide) (by omega) hw (by omega) h
  exact ⟨_, h1, by omega, h3⟩
theorem set_get {r : Row} {g i : Nat} {c : Blk} (hg : g < r.length) (e : (r.set g none).getD i none = some c) : i ≠ g ∧ r.getD i none = some c := by
  rw [getD_setO hg] at e
  split at e
  · cases e
  · next ne => exact ⟨Ne.symm ne, e⟩
theorem hides_set {es : List Blk} {r : Row} {g : Nat} (hg : g < r.length) (h : Hides 2 n es r) : Hides 2 n es (r.set g none) := ⟨by rw [List.length_set]; exact h.1, fun i c e => h.2 i c (set_get hg e).2⟩
theorem set_same {r : Row} {g : Nat} {b : Blk} (hg : g < r.length) : (r.set g (some b)).getD g none = some b := by
  rw [getD_setO hg, if_pos rfl]
variable {g h : Nat} {b c : Blk}
def twoR (n g h : Nat) (ds : List Blk) (b c : Blk) : Row := (wrongR 2 n g ds b).set h (some c)
theorem two_len : (twoR n g h ds b c).length = ds.length + 2 := by rw [twoR, List.length_set, wrong_len (by decide) (by decide)]
theorem twoR_known (hg : g < ds.length + 2) : (known (twoR n g h ds b c)).length = ds.length + 2 := by
  have h1 := known_set1 (wrongR 2 n g ds b) h c
  have h2 := known_le (twoR n g h ds b c)
  have h3 := wrong_known (n := n) (b := b) (ds := ds) (p := 2) (by decide) (by decide) hg
  have h4 := two_len (n := n) (g := g) (h := h) (ds := ds) (b := b) (c := c)
  unfold twoR at *
  omega
theorem set_wf1 {r : Row} {j : Nat} {c : Blk} (hw : WfO n r) (hc : BlkOk' c n) : WfO n (r.set j (some c)) := fun o ho d e => by
  subst e
  rcases List.mem_or_eq_of_mem_set ho with h | h
  · exact hw _ h d rfl
  · cases h; exact hc
theorem two_wf (hw : WfR n ds) (hb : BlkOk' b n) (hc : BlkOk' c n) : WfO n (twoR n g h ds b c) := set_wf1 (wrong_wf hw hb) hc
theorem two_not (hw : WfR n ds) (hl : ds.length ≤ 255) (hg : g < ds.length + 2) (hh : h < ds.length + 2) (hgh : g ≠ h) (hb : BlkOk' b n) (hc : BlkOk' c n) (hne : (ds ++ parB 2 n ds).getD g [] ≠ b) : holdsB 2 n (twoR n g h ds b c) = false := by
  cases q : holdsB 2 n (twoR n g h ds b c) with
  | false => rfl
  | true =>
    have kn := twoR_known (n := n) (h := h) (b := b) (c := c) hg
    have ln := two_len (n := n) (g := g) (h := h) (ds := ds) (b := b) (c := c)
    obtain ⟨es, ew, el, eh⟩ := code_of (two_wf hw hb hc) ln (by omega) q
    have rl := row_len (n := n) (ds := ds) (p := 2) (by decide) (by decide)
    have wl := wrong_len (n := n) (g := g) (b := b) (ds := ds) (p := 2) (by decide) (by decide)
    have e1 := hides_set (g := h) (by rw [List.length_set]; omega) (hides_set (g := g) (by omega) eh)
    have d1 : Hides 2 n ds (((twoR n g h ds b c).set g none).set h none) := ⟨by rw [List.length_set, List.length_set]; exact ln, fun i x e => by
      obtain ⟨n1, e⟩ := set_get (by rw [List.length_set]; omega) e
      obtain ⟨n2, e⟩ := set_get (by omega) e
      rw [twoR, getD_setO (by omega), if_neg (Ne.symm n1), wrongR, getD_setO (by omega), if_neg (Ne.symm n2)] at e
      exact rowOf_get e⟩
    have k1 := known_set (twoR n g h ds b c) g
    have k2 := known_set ((twoR n g h ds b c).set g none) h
    have e := hides_one (by decide) (by decide) hw ew hl d1 e1 (by omega)
    subst e
    have := eh.2 g b (by rw [twoR, getD_setO (by omega), if_neg (Ne.symm hgh), wrongR, set_same (by omega)])
    exact absurd this hne
theorem one_wrong {r : Row} (hl : ds.length ≤ 255) (hw : WfO n r) (ln : r.length = ds.length + 2) (kn : (known r).length = ds.length + 2) (hno : holdsB 2 n r = false) {i j : Nat} (hi : i < r.length) (hj : j < r.length) (h1 : holdsB 2 n (r.set i none) = true) (h2 : holdsB 2 n (r.set j none) = true) : i = j := by
  by_cases e : i = j
  · exact e
  · exfalso
    have ki := known_set r i
    have kj := known_set r j
    obtain ⟨es, ew, el, eh⟩ := code_of (ds := ds) (set_wfo hw) (by rw [List.length_set]; exact ln) (by omega) h1
    obtain ⟨fs, fw, fl, fh⟩ := code_of (ds := ds) (set_wfo hw) (by rw [List.length_set]; exact ln) (by omega) h2
    have e1 := hides_set (g := j) (by rw [List.length_set]; omega) eh
    have f1 := hides_set (g := i) (by rw [List.length_set]; omega) fh
    rw [List.set_comm _ _ (Ne.symm e)] at f1
    have kk := known_set (r.set i none) j
    have ef := hides_one (by decide) (by decide) ew fw (by omega) e1 f1 (by omega)
    subst ef
    have all : Hides 2 n es r := ⟨by have := eh.1; rwa [List.length_set] at this, fun x b ex => by
      by_cases q : x = i
      · subst q
        exact fh.2 x b (by rw [getD_setO hj, if_neg (Ne.symm e)]; exact ex)
      · exact eh.2 x b (by rw [getD_setO hi, if_neg (Ne.symm q)]; exact ex)⟩
    rw [holds_of (by decide) (by decide) ew (by omega) all] at hno
    cases hno
theorem filter_le_one (f : Nat → Bool) : ∀ (m : Nat), (∀ i j, i < m → j < m → f i = true → f j = true → i = j) → ((List.range m).filter f).length ≤ 1
  | 0, _ => by simp
  | m + 1, h => by
    rw [List.range_succ, List.filter_append, List.length_append]
    have ih := filter_le_one f m fun i j hi hj => h i j (by omega) (by omega)
    cases q : f m with
    | false =>
      have : ([m].filter f).length = 0 := by simp [q]
      omega
    | true =>
      have : (List.range m).filter f = [] := List.filter_eq_nil_iff.mpr fun i hi hf => by
        have hi := List.mem_range.mp hi
        have := h i m (by omega) (by omega) hf q
        omega
      rw [this]
      have : ([m].filter f).length ≤ 1 := Nat.le_trans (List.length_filter_le _ _) (by simp)
      simpa using this
theorem wrongs_le {r : Row} (hl : ds.length ≤ 255) (hw : WfO n r) (ln : r.length = ds.length + 2) (kn : (known r).length = ds.length + 2) (hno : holdsB 2 n r = false) : (wrongs 2 n r).length ≤ 1 :=
  filter_le_one _ _ fun i j hi hj h1 h2 => one_wrong hl hw ln kn hno hi hj h1 h2
theorem known_count (r : Row) : (known r).length = r.countP Option.isSome := by
  have e : (List.range r.length).map (fun i => r.getD i none) = r := by
    refine List.ext_getElem (by simp) fun i h1 h2 => ?_
    simp [List.getD, h2]
  unfold known
  rw [← List.countP_eq_length_filter]
  have := List.countP_map (p := Option.isSome) (f := fun i => r.getD i none) (l := List.range r.length)
  rw [e] at this
  rw [this]
  rfl
theorem known_less {r : Row} {g : Nat} {b : Blk} (hb : r.getD g none = some b) : (known (r.set g none)).length + 1 = (known r).length := by
  obtain ⟨hg, hm⟩ := getD_some hb
  have e : r[g] = some b := by
    rw [List.getD_eq_getElem?_getD, List.getElem?_eq_getElem hg] at hb
    exact hb
  rw [known_count, known_count, List.countP_set hg, e]
  have : 0 < r.countP Option.isSome := List.countP_pos_iff.mpr ⟨_, hm, rfl⟩
  simp
  omega
theorem v_bare {r : Row} (hl : r.length = ds.length + 2) (hk : (known r).length = ds.length) : verdictD 2 n r = .tup [.str ("bare" : Str)] := by
  unfold verdictD
  rw [if_neg (by omega), if_pos (by omega)]
end
end Law
namespace Law
open PySem L2 HC PyProof.Rows
def SX (f : Nat → Nat) : Nat → Nat
  | 0 => 0
  | k + 1 => SX f k ^^^ f k
theorem SX_congr {f g : Nat → Nat} : ∀ {k}, (∀ i, i < k → f i = g i) → SX f k = SX g k
  | 0, _ => rfl
  | k + 1, h => by rw [SX, SX, SX_congr fun i hi => h i (by omega), h k (by omega)]
theorem SX_zero {f : Nat → Nat} : ∀ {k}, (∀ i, i < k → f i = 0) → SX f k = 0
  | 0, _ => rfl
  | k + 1, h => by rw [SX, SX_zero fun i hi => h i (by omega), h k (by omega)]; rfl
theorem SX_xor (f g : Nat → Nat) : ∀ k, SX (fun i => f i ^^^ g i) k = SX f k ^^^ SX g k
  | 0 => (Nat.xor_self 0).symm
  | k + 1 => by rw [SX, SX, SX, SX_xor f g k, GF.xor4]
theorem SX_gt (c : Nat) (f : Nat → Nat) : ∀ k, SX (fun i => GF.gt c (f i)) k = GF.gt c (SX f k)
  | 0 => (GF.gt_zero c).symm
  | k + 1 => by
    rw [SX, SX, SX_gt c f k]
    exact (GF.lin_Gb 8 c _ _).symm
theorem SX_lt {f : Nat → Nat} : ∀ {k}, (∀ i, i < k → f i < 256) → SX f k < 256
  | 0, _ => by show 0 < 256; decide
  | k + 1, h => GF.xor8 (SX_lt fun i hi => h i (by omega)) (h k (by omega))
theorem SX_one {f : Nat → Nat} {j : Nat} : ∀ {k}, j < k → (∀ i, i < k → i ≠ j → f i = 0) → SX f k = f j
  | 0, h, _ => by omega
  | k + 1, h, hz => by
    rw [SX]
    by_cases e : j = k
    · subst e
      rw [SX_zero fun i hi => hz i (by omega) (by omega), Nat.zero_xor]
    · rw [SX_one (j := j) (by omega) fun i hi => hz i (by omega), hz k (by omega) (Ne.symm e), Nat.xor_zero]
theorem gt_xor_l (a b c : Nat) : GF.gt (a ^^^ b) c = GF.gt a c ^^^ GF.gt b c := GF.lin_Ga 8 c a b
theorem gt_xor_r (a b c : Nat) : GF.gt a (b ^^^ c) = GF.gt a b ^^^ GF.gt a c := GF.lin_Gb 8 a b c
def LV (k : Nat) (l : Blk) (v : Nat → Nat) : Nat := SX (fun i => GF.gt (l.getD i 0) (v i)) k
structure Lk (k : Nat) (l : Blk) : Prop where
  len : l.length = k
  lt : ∀ x ∈ l, x < 256
theorem Lk.get {k : Nat} {l : Blk} (h : Lk k l) (i : Nat) : l.getD i 0 < 256 := by
  rw [List.getD_eq_getElem?_getD]
  by_cases hi : i < l.length
  · rw [List.getElem?_eq_getElem hi]; exact h.lt _ (List.getElem_mem hi)
  · rw [List.getElem?_eq_none (by omega)]; show 0 < 256; decide
theorem LV_mul {k f : Nat} {l : Blk} {v : Nat → Nat} (hl : Lk k l) (hf : f < 256) (hv : ∀ i, v i < 256) : LV k (mulB f l) v = GF.gt f (LV k l v) := by
  unfold LV
  rw [← SX_gt]
  refine SX_congr fun i hi => ?_
  rw [mulB_getD (by rw [hl.len]; exact hi), GF.gt_assoc hf (hl.get i) (hv i)]
theorem LV_add {k : Nat} {l m : Blk} {v : Nat → Nat} (hl : Lk k l) (hm : Lk k m) : LV k (xorB l m) v = LV k l v ^^^ LV k m v := by
  unfold LV
  rw [← SX_xor]
  refine SX_congr fun i hi => ?_
  rw [xorB_getD (by rw [hl.len]; exact hi) (by rw [hm.len]; exact hi), gt_xor_l]
theorem Lk.mul {k f : Nat} {l : Blk} (h : Lk k l) (hf : f < 256) : Lk k (mulB f l) := ⟨by rw [mulB, List.length_map, h.len], fun x hx => by
  obtain ⟨y, _, rfl⟩ := List.mem_map.mp hx
  exact GF.gt_lt y hf⟩
theorem Lk.add {k : Nat} {l m : Blk} (h : Lk k l) (h' : Lk k m) : Lk k (xorB l m) := by
  have := xorB_wf (n := k) ⟨h.len, h.lt⟩ ⟨h'.len, h'.lt⟩
  exact ⟨this.1, this.2⟩
abbrev Eq2 := Blk × Blk
def eD (e : Eq2) : Dv := .rol [.rol (e.1.map fun n => dn n), .rol (e.2.map fun n => dn n)]
def scaleR (f : Nat) (e : Eq2) : Eq2 := (mulB f e.1, mulB f e.2)
def lessR (a b : Eq2) (f : Nat) : Eq2 := (xorB a.1 (mulB f b.1), xorB a.2 (mulB f b.2))
def Tells (k n : Nat) (D : Nat → Blk) (e : Eq2) : Prop := ∀ t, t < n → LV k e.1 (fun i => (D i).getD t 0) = e.2.getD t 0
structure EqOk (k n : Nat) (e : Eq2) : Prop where
  l : Lk k e.1
  b : Lk n e.2
theorem EqOk.scale {k n f : Nat} {e : Eq2} (h : EqOk k n e) (hf : f < 256) : EqOk k n (scaleR f e) := ⟨h.l.mul hf, h.b.mul hf⟩
theorem EqOk.less {k n f : Nat} {a b : Eq2} (h : EqOk k n a) (h' : EqOk k n b) (hf : f < 256) : EqOk k n (lessR a b f) := ⟨h.l.add (h'.l.mul hf), h.b.add (h'.b.mul hf)⟩
def Dok (n : Nat) (D : Nat → Blk) : Prop := ∀ i, Lk n (D i)
theorem scale_back {k n f : Nat} {e : Eq2} {D : Nat → Blk} (h : EqOk k n e) (hf : f < 256) (f0 : f ≠ 0) (hD : Dok n D) (q : Tells k n D (scaleR f e)) : Tells k n D e := fun t ht => by
  have := q t ht
  unfold scaleR at this
  simp only at this
  rw [LV_mul h.l hf (fun i => (hD i).get t), mulB_getD (by rw [h.b.len]; exact ht)] at this
  exact GF.gt_cancel hf f0 (SX_lt fun i _ => GF.gt_lt _ (h.l.get i)) (h.b.get t) this
theorem less_back {k n f : Nat} {a b : Eq2} {D : Nat → Blk} (ha : EqOk k n a) (hb : EqOk k n b) (hf : f < 256) (hD : Dok n D) (q : Tells k n D (lessR a b f)) (q' : Tells k n D b) : Tells k n D a := fun t ht => by
  have h1 := q t ht
  have h2 := q' t ht
  unfold lessR at h1
  simp only at h1
  rw [LV_add ha.l (hb.l.mul hf), LV_mul hb.l hf (fun i => (hD i).get t), h2, xorB_getD (by rw [ha.b.len]; exact ht) (by rw [(hb.b.mul hf).len]; exact ht), mulB_getD (by rw [hb.b.len]; exact ht)] at h1
  have := congrArg (· ^^^ GF.gt f (b.2.getD t 0)) h1
  simp only [Nat.xor_assoc, Nat.xor_self, Nat.xor_zero] at this
  exact this
def Ker (k : Nat) (R : Nat → Eq2) : Prop := ∀ v : Nat → Nat, (∀ i, v i < 256) → (∀ j, j < k → LV k (R j).1 v = 0) → ∀ i, i < k → v i = 0
def Sol (k n : Nat) (R R0 : Nat → Eq2) : Prop := ∀ D, Dok n D → (∀ j, j < k → Tells k n D (R j)) → ∀ j, j < k → Tells k n D (R0 j)
def Form (k c : Nat) (R : Nat → Eq2) : Prop := ∀ j, j < k → ∀ i, i < c → (R j).1.getD i 0 = if j = i then 1 else 0
structure Inv (k n c : Nat) (R R0 : Nat → Eq2) : Prop where
  ok : ∀ j, j < k → EqOk k n (R j)
  ker : Ker k R
  sol : Sol k n R R0
  form : Form k c R
def swapR (R : Nat → Eq2) (c a : Nat) (i : Nat) : Eq2 := if i = a then R c else if i = c then R a else R i
def scaleAt (R : Nat → Eq2) (c f : Nat) (i : Nat) : Eq2 := if i = c then scaleR f (R i) else R i
def lessAt (R : Nat → Eq2) (c m : Nat) (i : Nat) : Eq2 := if i < m ∧ i ≠ c then lessR (R i) (R c) ((R i).1.getD c 0) else R i
section
variable {k n c : Nat} {R R0 : Nat → Eq2}
theorem swap_has {a j : Nat} (hc : c < k) (ha : a < k) (hj : j < k) : ∃ i, i < k ∧ swapR R c a i = R j := by
  by_cases e : j = c
  · exact ⟨a, ha, by rw [swapR, if_pos rfl, e]⟩
  · by_cases e2 : j = a
    · by_cases e3 : c = a
      · exact absurd (e2.trans e3.symm) e
      · exact ⟨c, hc, by rw [swapR, if_neg e3, if_pos rfl, e2]⟩
    · exact ⟨j, hj, by rw [swapR, if_neg e2, if_neg e]⟩
theorem Inv.swap {a : Nat} (h : Inv k n c R R0) (hc : c ≤ a) (ha : a < k) : Inv k n c (swapR R c a) R0 where
  ok := fun j hj => by unfold swapR; split; exact h.ok _ (by omega); split; exact h.ok _ ha; exact h.ok _ hj
  ker := fun v hv hz => h.ker v hv fun j hj => by
    obtain ⟨i, hi, e⟩ := swap_has (R := R) (c := c) (a := a) (by omega) ha hj
    rw [← e]; exact hz i hi
  sol := fun D hD q => h.sol D hD fun j hj => by
    obtain ⟨i, hi, e⟩ := swap_has (R := R) (c := c) (a := a) (by omega) ha hj
    rw [← e]; exact q i hi
  form := fun j hj i hi => by
    unfold swapR
    split
    · next e => rw [h.form c (by omega) i hi, if_neg (by omega), if_neg (by omega)]
    · split
      · next e => rw [h.form a ha i hi, if_neg (by omega), if_neg (by omega)]
      · exact h.form j hj i hi
theorem Inv.scale {f : Nat} (h : Inv k n c R R0) (hc : c < k) (hf : f < 256) (f0 : f ≠ 0) : Inv k n c (scaleAt R c f) R0 where
  ok := fun j hj => by unfold scaleAt; split; exact (h.ok _ hj).scale hf; exact h.ok _ hj
  ker := fun v hv hz => h.ker v hv fun j hj => by
    have := hz j hj
    unfold scaleAt at this
    split at this
    · rw [scaleR, LV_mul (h.ok j hj).l hf hv] at this
      exact GF.gt_cancel hf f0 (SX_lt fun i _ => GF.gt_lt _ ((h.ok j hj).l.get i)) (by decide) (this.trans (GF.gt_zero f).symm)
    · exact this
  sol := fun D hD q => h.sol D hD fun j hj => by
    have := q j hj
    unfold scaleAt at this
    split at this
    · exact scale_back (h.ok j hj) hf f0 hD this
    · exact this
  form := fun j hj i hi => by
    unfold scaleAt
    split
    · next e =>
      rw [scaleR, mulB_getD (by rw [(h.ok j hj).l.len]; omega), h.form j hj i hi, if_neg (by omega), GF.gt_zero]
    · exact h.form j hj i hi
theorem Inv.less (h : Inv k n c R R0) (hc : c < k) (hp : (R c).1.getD c 0 = 1) : Inv k n (c + 1) (lessAt R c k) R0 := by
  have cc : lessAt R c k c = R c := by rw [lessAt, if_neg (by omega)]
  have oj : ∀ j, j < k → j ≠ c → lessAt R c k j = lessR (R j) (R c) ((R j).1.getD c 0) := fun j hj e => by rw [lessAt, if_pos ⟨hj, e⟩]
  have ol := fun j hj => (h.ok j hj).l
  refine ⟨fun j hj => ?_, fun v hv hz => h.ker v hv fun j hj => ?_, fun D hD q => h.sol D hD fun j hj => ?_, fun j hj i hi => ?_⟩
  · by_cases e : j = c
    · rw [e, cc]; exact h.ok c hc
    · rw [oj j hj e]; exact (h.ok j hj).less (h.ok c hc) ((ol j hj).get c)
  · have zc := hz c hc
    rw [cc] at zc
    by_cases e : j = c
    · rw [e]; exact zc
    · have := hz j hj
      rw [oj j hj e, lessR, LV_add (ol j hj) ((ol c hc).mul ((ol j hj).get c)), LV_mul (ol c hc) ((ol j hj).get c) hv, zc, GF.gt_zero, Nat.xor_zero] at this
      exact this
  · have zc := q c hc
    rw [cc] at zc
    by_cases e : j = c
    · rw [e]; exact zc
    · have := q j hj
      rw [oj j hj e] at this
      exact less_back (h.ok j hj) (h.ok c hc) ((ol j hj).get c) hD this zc
  · have fl : ∀ i, i < k → (lessR (R j) (R c) ((R j).1.getD c 0)).1.getD i 0 = (R j).1.getD i 0 ^^^ GF.gt ((R j).1.getD c 0) ((R c).1.getD i 0) := fun i hi => by
      rw [lessR, xorB_getD (by rw [(ol j hj).len]; exact hi) (by rw [((ol c hc).mul ((ol j hj).get c)).len]; exact hi), mulB_getD (by rw [(ol c hc).len]; exact hi)]
    by_cases e : j = c
    · subst e
      rw [cc]
      by_cases e2 : i = j
      · subst e2; rw [hp, if_pos rfl]
      · exact h.form j hj i (by omega)
    · rw [oj j hj e, fl i (by omega)]
      by_cases e2 : i = c
      · subst e2
        rw [hp, GF.gt_one ((ol j hj).get i), Nat.xor_self, if_neg e]
      · rw [h.form c hc i (by omega), if_neg (Ne.symm e2), GF.gt_zero, Nat.xor_zero]
        exact h.form j hj i (by omega)
theorem Inv.pivot (h : Inv k n c R R0) (hc : c < k) : ∃ a, c ≤ a ∧ a < k ∧ (R a).1.getD c 0 ≠ 0 := by
  refine Classical.byContradiction fun hn => ?_
  have hz : ∀ a, c ≤ a → a < k → (R a).1.getD c 0 = 0 := fun a h1 h2 => Classical.byContradiction fun e => hn ⟨a, h1, h2, e⟩
  have bad := h.ker (fun i => if i = c then 1 else if i < c then (R i).1.getD c 0 else 0) (fun i => by
    by_cases e : i = c
    · rw [if_pos e]; decide
    · rw [if_neg e]
      by_cases e2 : i < c
      · rw [if_pos e2]; exact (h.ok i (by omega)).l.get c
      · rw [if_neg e2]; decide) (fun j hj => ?_) c hc
  · rw [if_pos rfl] at bad
    exact absurd bad (by decide)
  · have ol := (h.ok j hj).l
    unfold LV
    by_cases hjc : j < c
    ·
      have e : SX (fun i => GF.gt ((R j).1.getD i 0) (if i = c then 1 else if i < c then (R i).1.getD c 0 else 0)) k
          = SX (fun i => (if i = c then (R j).1.getD c 0 else 0) ^^^ (if i = j then (R j).1.getD c 0 else 0)) k := SX_congr fun i hi => by
        by_cases e1 : i = c
        · subst e1
          rw [if_pos rfl, if_pos rfl, if_neg (by omega), GF.gt_one (ol.get i), Nat.xor_zero]
        · rw [if_neg e1, if_neg e1, Nat.zero_xor]
          by_cases e2 : i < c
          · rw [if_pos e2, h.form j hj i e2]
            by_cases e3 : i = j
            · subst e3; rw [if_pos rfl, if_pos rfl, GF.one_gt (ol.get c)]
            · rw [if_neg (Ne.symm e3), if_neg e3, GF.zero_gt]
          · rw [if_neg e2, GF.gt_zero, if_neg (by omega)]
      rw [e, SX_xor, SX_one (j := c) hc (fun i _ ne => if_neg ne), SX_one (j := j) hj (fun i _ ne => if_neg ne), if_pos rfl, if_pos rfl, Nat.xor_self]
    · refine SX_zero fun i hi => ?_
      show GF.gt ((R j).1.getD i 0) (if i = c then 1 else if i < c then (R i).1.getD c 0 else 0) = 0
      by_cases e1 : i = c
      · subst e1; rw [hz j (by omega) hj, GF.zero_gt]
      · rw [if_neg e1]
        by_cases e2 : i < c
        · rw [h.form j hj i e2, if_neg (by omega), GF.zero_gt]
        · rw [if_neg e2, GF.gt_zero]
theorem Inv.done (h : Inv k n k R R0) : ∀ j, j < k → Tells k n (fun i => if i < k then (R i).2 else zeroB n) (R0 j) := by
  have hD : Dok n (fun i => if i < k then (R i).2 else zeroB n) := fun i => by
    by_cases e : i < k
    · simp only [if_pos e]; exact (h.ok i e).b
    · simp only [if_neg e]; exact ⟨zeroB_wf.1, zeroB_wf.2⟩
  refine h.sol _ hD fun j hj t ht => ?_
  unfold LV
  rw [SX_one (j := j) hj (fun i hi ne => by rw [h.form j hj i hi, if_neg (Ne.symm ne), GF.zero_gt]), h.form j hj j hj, if_pos rfl]
  simp only [if_pos hj]
  exact GF.one_gt ((h.ok j hj).b.get t)
end
end Law
namespace Law
open PySem L2 HC PyProof.Rows
def lineF (k place : Nat) : Blk := if place < k then (List.range k).map fun c => if place = c then 1 else 0 else if place = k then List.replicate k 1 else (List.range k).map GF.pw
theorem lineF_ok (k place : Nat) : Lk k (lineF k place) := by
  unfold lineF
  split
  · refine ⟨by simp, fun x hx => ?_⟩
    obtain ⟨c, _, rfl⟩ := List.mem_map.mp hx
    split <;> decide
  · split
    · exact ⟨by simp, fun x hx => by rw [(List.mem_replicate.mp hx).2]; decide⟩
    · refine ⟨by simp, fun x hx => ?_⟩
      obtain ⟨c, _, rfl⟩ := List.mem_map.mp hx
      exact GF.gp_lt 2 c
section
variable {p n k : Nat} {ds : List Blk}
theorem getB_len (hw : WfR n ds) {i : Nat} (h : i < ds.length) : (ds.getD i []).length = n := (hw _ (getD_mem h)).1
theorem getB_lt (hw : WfR n ds) (i t : Nat) : (ds.getD i []).getD t 0 < 256 := by
  by_cases h : i < ds.length
  · exact (Lk.mk (hw _ (getD_mem h)).1 (hw _ (getD_mem h)).2).get t
  · have e : ds.getD i [] = [] := by rw [List.getD_eq_getElem?_getD, List.getElem?_eq_none (by omega)]; rfl
    rw [e]
    simp
theorem sum_at (hw : WfR n ds) {t : Nat} (ht : t < n) : ∀ m, m ≤ ds.length → (sumB n (ds.take m)).getD t 0 = SX (fun i => (ds.getD i []).getD t 0) m
  | 0, _ => by rw [List.take_zero]; show (zeroB n).getD t 0 = 0; simp [zeroB, List.getD, ht]
  | m + 1, h => by
    have hm : m < ds.length := by omega
    have wt : WfR n (ds.take m) := fun b hb => hw b (List.mem_of_mem_take hb)
    have e : ds.take (m + 1) = ds.take m ++ [ds.getD m []] := by
      rw [List.take_add_one, List.getElem?_eq_getElem hm, List.getD_eq_getElem?_getD, List.getElem?_eq_getElem hm]; rfl
    rw [e, sumB_snoc, xorB_getD (by rw [(sumB_wf wt).1]; exact ht) (by rw [getB_len hw hm]; exact ht), sum_at hw ht m (by omega)]
    rfl
theorem sum_all (hw : WfR n ds) {t : Nat} (ht : t < n) : (sumB n ds).getD t 0 = SX (fun i => (ds.getD i []).getD t 0) ds.length := by
  have := sum_at hw ht ds.length (Nat.le_refl _)
  rwa [List.take_length] at this
theorem code_at (p1 : 1 ≤ p) (p2 : p ≤ 2) (hw : WfR n ds) (hl : ds.length = k) {t place : Nat} (ht : t < n) (hp : place < k + p) : LV k (lineF k place) (fun i => (ds.getD i []).getD t 0) = ((ds ++ parB p n ds).getD place []).getD t 0 := by
  unfold LV lineF
  by_cases h1 : place < k
  · rw [if_pos h1, SX_one (j := place) h1 (fun i hi ne => ?_)]
    · have e : ((List.range k).map fun c => if place = c then 1 else 0).getD place 0 = 1 := by simp [List.getD, h1]
      rw [e, GF.one_gt (getB_lt hw place t)]
      congr 1
      rw [List.getD_eq_getElem?_getD, List.getD_eq_getElem?_getD, List.getElem?_append_left (by omega)]
    · have e : ((List.range k).map fun c => if place = c then 1 else 0).getD i 0 = 0 := by simp [List.getD, hi]; omega
      rw [e, GF.zero_gt]
  · rw [if_neg h1]
    by_cases h2 : place = k
    · rw [if_pos h2]
      have e : (ds ++ parB p n ds).getD place [] = sumB n ds := by
        rw [List.getD_eq_getElem?_getD, List.getElem?_append_right (by omega), hl, h2, Nat.sub_self]
        unfold parB
        split <;> rfl
      rw [e, sum_all hw ht, hl]
      refine SX_congr fun i hi => ?_
      have e : (List.replicate k 1).getD i 0 = 1 := by simp [List.getD, hi]
      rw [e, GF.one_gt (getB_lt hw i t)]
    · rw [if_neg h2]
      have pp : p = 2 := by omega
      subst pp
      have e : (ds ++ parB 2 n ds).getD place [] = sumB n (turnB ds) := by
        rw [List.getD_eq_getElem?_getD, List.getElem?_append_right (by omega), hl, show place - k = 1 by omega]
        rfl
      rw [e, sum_all (turnB_wf hw) ht, turnB_len, hl]
      refine SX_congr fun i hi => ?_
      have e : ((List.range k).map GF.pw).getD i 0 = GF.pw i := by simp [List.getD, hi]
      rw [e, turnB_getD (by omega), mulB_getD (by rw [getB_len hw (by omega)]; exact ht)]
end
def firstP (k : Nat) (r : Row) : List Nat := (known r).take k
def maskW (k : Nat) (r : Row) (f : Nat → Option Blk) : Row := (List.range r.length).map fun i => if i ∈ firstP k r then f i else none
def maskR (k : Nat) (r : Row) : Row := maskW k r fun i => r.getD i none
section
variable {p n k : Nat} {r : Row}
theorem known_mem {i : Nat} : i ∈ known r ↔ i < r.length ∧ (r.getD i none).isSome = true := by
  unfold known
  rw [List.mem_filter, List.mem_range]
theorem mask_get {f : Nat → Option Blk} {i : Nat} {b : Blk} (h : (maskW k r f).getD i none = some b) : i ∈ firstP k r ∧ f i = some b := by
  unfold maskW at h
  rw [List.getD_eq_getElem?_getD, List.getElem?_map] at h
  by_cases hi : i < r.length
  · rw [List.getElem?_range hi] at h
    simp only [Option.map_some, Option.getD_some] at h
    split at h
    · next q => exact ⟨q, h⟩
    · cases h
  · rw [List.getElem?_eq_none (by simp; omega)] at h
    cases h
theorem mask_len {f : Nat → Option Blk} : (maskW k r f).length = r.length := by simp [maskW]
theorem mask_known {f : Nat → Option Blk} (hf : ∀ i, i ∈ firstP k r → (f i).isSome = true) (hk : k ≤ (known r).length) : k ≤ (known (maskW k r f)).length := by
  have e : known (maskW k r f) = (known r).filter fun i => decide (i ∈ firstP k r) := by
    unfold known
    rw [mask_len, List.filter_filter]
    refine List.filter_congr fun i hi => ?_
    have hi := List.mem_range.mp hi
    have g : (maskW k r f).getD i none = if i ∈ firstP k r then f i else none := by
      unfold maskW
      rw [List.getD_eq_getElem?_getD, List.getElem?_map, List.getElem?_range hi]
      rfl
    rw [g]
    by_cases q : i ∈ firstP k r
    · rw [if_pos q, hf i q, decide_eq_true q]
      have := known_mem.mp (List.mem_of_mem_take q)
      rw [this.2]
      rfl
    · rw [if_neg q, decide_eq_false q]
      rfl
  rw [e]
  have s : (firstP k r).length = k := by rw [firstP, List.length_take]; omega
  have t : (known r).filter (fun i => decide (i ∈ firstP k r)) = (firstP k r).filter (fun i => decide (i ∈ firstP k r)) ++ ((known r).drop k).filter (fun i => decide (i ∈ firstP k r)) := by
    rw [← List.filter_append]
    unfold firstP
    rw [List.take_append_drop]
  have u : (firstP k r).filter (fun i => decide (i ∈ firstP k r)) = firstP k r := List.filter_eq_self.mpr fun i hi => decide_eq_true hi
  rw [t, u, List.length_append, s]
  omega
def eqR (k : Nat) (r : Row) (j : Nat) : Eq2 := (lineF k ((firstP k r).getD j 0), (r.getD ((firstP k r).getD j 0) none).getD [])
theorem first_len (hk : k ≤ (known r).length) : (firstP k r).length = k := by rw [firstP, List.length_take]; omega
theorem first_get (hk : k ≤ (known r).length) {j : Nat} (hj : j < k) : (firstP k r).getD j 0 ∈ firstP k r := by
  rw [List.getD_eq_getElem?_getD, List.getElem?_eq_getElem (by rw [first_len hk]; exact hj)]
  exact List.getElem_mem _
theorem first_known {i : Nat} (h : i ∈ firstP k r) : i < r.length ∧ ∃ b, r.getD i none = some b := by
  have := known_mem.mp (List.mem_of_mem_take h)
  exact ⟨this.1, Option.isSome_iff_exists.mp this.2⟩
theorem zero_hides (p1 : 1 ≤ p) (p2 : p ≤ 2) (hr : r.length = k + p) {v : Nat → Nat} (hv : ∀ i, v i < 256) (hz : ∀ i, i ∈ firstP k r → LV k (lineF k i) v = 0) : Hides p 1 ((List.range k).map fun i => [v i]) (maskW k r fun _ => some [0]) := by
  have wv : WfR 1 ((List.range k).map fun i => [v i]) := fun b hb => by
    obtain ⟨i, _, rfl⟩ := List.mem_map.mp hb
    exact ⟨rfl, fun x hx => by rw [List.mem_singleton.mp hx]; exact hv i⟩
  refine ⟨by rw [mask_len]; simp; exact hr, fun i b e => ?_⟩
  obtain ⟨hm, e⟩ := mask_get e
  cases e
  have hi := (first_known hm).1
  have h := code_at (p := p) (k := k) (t := 0) (place := i) p1 p2 wv (by simp) (by decide) (by omega)
  have e2 : LV k (lineF k i) (fun m => (((List.range k).map fun i => [v i]).getD m []).getD 0 0) = LV k (lineF k i) v := by
    unfold LV
    refine SX_congr fun m hm => ?_
    congr 1
    simp [List.getD, hm]
  rw [e2, hz i hm] at h
  have wp : WfR 1 ((List.range k).map (fun i => [v i]) ++ parB p 1 ((List.range k).map fun i => [v i])) := fun b hb => by
    rcases List.mem_append.mp hb with q | q
    · exact wv b q
    · exact parB_wf wv b q
  have l1 := getB_len wp (i := i) (by rw [List.length_append, parB_len p1 p2]; simp; omega)
  generalize ((List.range k).map (fun i => [v i]) ++ parB p 1 ((List.range k).map fun i => [v i])).getD i [] = c at h l1
  match c, l1 with
  | [x], _ => exact congrArg (fun z => [z]) h.symm
theorem inv_first (p1 : 1 ≤ p) (p2 : p ≤ 2) (k255 : k ≤ 255) (hr : r.length = k + p) (hw : WfO n r) (hk : k ≤ (known r).length) : Inv k n 0 (eqR k r) (eqR k r) where
  ok := fun j hj => by
    obtain ⟨h1, b, h2⟩ := first_known (first_get hk hj)
    refine ⟨lineF_ok k _, ?_⟩
    have e : (eqR k r j).2 = b := by unfold eqR; rw [h2]; rfl
    rw [e]
    have := hw _ (getD_some h2).2 b rfl
    exact ⟨this.1, this.2⟩
  ker := fun v hv hz i hi => by
    have hz2 : ∀ i, i ∈ firstP k r → LV k (lineF k i) v = 0 := fun i hi => by
      obtain ⟨j, hj, e⟩ := List.mem_iff_getElem.mp hi
      have hj2 : j < k := by rw [first_len hk] at hj; exact hj
      have := hz j hj2
      unfold eqR at this
      rw [List.getD_eq_getElem?_getD, List.getElem?_eq_getElem hj] at this
      simp only [Option.getD_some, e] at this
      exact this
    have h1 := zero_hides p1 p2 hr hv hz2
    have h0 := zero_hides (v := fun _ => 0) p1 p2 hr (fun _ => by decide) (fun i _ => by
      unfold LV
      exact SX_zero fun i _ => GF.gt_zero _)
    have wv : ∀ v : Nat → Nat, (∀ i, v i < 256) → WfR 1 ((List.range k).map fun i => [v i]) := fun v hv b hb => by
      obtain ⟨i, _, rfl⟩ := List.mem_map.mp hb
      exact ⟨rfl, fun x hx => by rw [List.mem_singleton.mp hx]; exact hv i⟩
    have e := hides_one p1 p2 (wv v hv) (wv (fun _ => 0) fun _ => by decide) (by simp; exact k255) h1 h0 (by
      have := mask_known (k := k) (r := r) (f := fun _ => some [0]) (fun _ _ => rfl) hk
      simp only [List.length_map, List.length_range]
      exact this)
    have := congrArg (fun l => l[i]?) e
    simp [hi] at this
    exact this
  sol := fun D hD q => q
  form := fun j hj i hi => by omega
theorem done_hides (p1 : 1 ≤ p) (p2 : p ≤ 2) (hr : r.length = k + p) (hw : WfO n r) (hk : k ≤ (known r).length) {R : Nat → Eq2} (h : Inv k n k R (eqR k r)) :
    WfR n ((List.range k).map fun i => (R i).2) ∧ Hides p n ((List.range k).map fun i => (R i).2) (maskR k r) := by
  have wv : WfR n ((List.range k).map fun i => (R i).2) := fun b hb => by
    obtain ⟨i, hi, rfl⟩ := List.mem_map.mp hb
    have := (h.ok i (List.mem_range.mp hi)).b
    exact ⟨this.len, this.lt⟩
  refine ⟨wv, by rw [maskR, mask_len]; simp; exact hr, fun i b e => ?_⟩
  obtain ⟨hm, e⟩ := mask_get e
  have hi := (first_known hm).1
  obtain ⟨j, hj, ej⟩ := List.mem_iff_getElem.mp hm
  have hj2 : j < k := by rw [first_len hk] at hj; exact hj
  have hd := h.done j hj2
  have bw := hw _ (getD_some e).2 b rfl
  have eR : eqR k r j = (lineF k i, b) := by
    unfold eqR
    rw [List.getD_eq_getElem?_getD, List.getElem?_eq_getElem hj]
    simp only [Option.getD_some, ej, e]
  rw [eR] at hd
  have wp : WfR n ((List.range k).map (fun i => (R i).2) ++ parB p n ((List.range k).map fun i => (R i).2)) := fun b hb => by
    rcases List.mem_append.mp hb with q | q
    · exact wv b q
    · exact parB_wf wv b q
  have l1 := getB_len wp (i := i) (by rw [List.length_append, parB_len p1 p2]; simp; omega)
  refine List.ext_getElem (by rw [l1, bw.1]) fun t h1 h2 => ?_
  have ht : t < n := by rw [l1] at h1; exact h1
  have c1 := code_at (p := p) (k := k) (t := t) (place := i) p1 p2 wv (by simp) ht (by omega)
  have c2 := hd t ht
  have e2 : LV k (lineF k i) (fun m => (((List.range k).map fun i => (R i).2).getD m []).getD t 0) = LV k (lineF k i) (fun i => (if i < k then (R i).2 else zeroB n).getD t 0) := by
    unfold LV
    refine SX_congr fun m hm => ?_
    congr 1
    simp [List.getD, hm]
  rw [e2, c2] at c1
  rw [List.getD_eq_getElem?_getD, List.getElem?_eq_getElem h2] at c1
  have h3 : (((List.range k).map (fun i => (R i).2) ++ parB p n ((List.range k).map fun i => (R i).2)).getD i [])[t]? = some b[t] := by
    rw [List.getElem?_eq_getElem h1]
    rw [List.getD_eq_getElem?_getD, List.getElem?_eq_getElem h1] at c1
    exact congrArg some c1.symm
  rw [List.getElem?_eq_getElem h1] at h3
  exact Option.some.inj h3
theorem holds_law {es : List Blk} (p1 : 1 ≤ p) (p2 : p ≤ 2) (k255 : k ≤ 255) (hr : r.length = k + p) (hk : k ≤ (known r).length) (hw : WfO n r) (ew : WfR n es) (el : es.length = k) (eh : Hides p n es (maskR k r)) :
    holdsB p n r = (known r).all fun i => decide (r.getD i none = some ((es ++ parB p n es).getD i [])) := by
  have mk := mask_known (k := k) (r := r) (f := fun i => r.getD i none) (fun i hi => by
    obtain ⟨_, b, e⟩ := first_known hi
    rw [e]; rfl) hk
  refine Bool.eq_iff_iff.mpr ⟨fun h => ?_, fun h => ?_⟩
  · obtain ⟨h1, h2, h3⟩ := holds_inv p1 p2 (by omega) hw (by omega) h
    have hm : Hides p n (dataTold p n r) (maskR k r) := ⟨by rw [maskR, mask_len]; exact h3.1, fun i b e => h3.2 i b (mask_get e).2⟩
    have e := hides_one p1 p2 ew h1 (by omega) eh hm (by rw [el]; exact mk)
    rw [e, List.all_eq_true]
    intro i hi
    obtain ⟨b, q⟩ := Option.isSome_iff_exists.mp (known_mem.mp hi).2
    rw [q, h3.2 i b q]
    exact decide_eq_true rfl
  · refine holds_of p1 p2 ew (by omega) ⟨by omega, fun i b e => ?_⟩
    rw [List.all_eq_true] at h
    have := of_decide_eq_true (h i (known_mem.mpr ⟨(getD_some e).1, by rw [e]; rfl⟩))
    rw [e] at this
    exact (Option.some.inj this).symm
end
end Law
namespace Law
open PySem L2 HC PyProof.Rows
def oneB (L : List Nat) : List Blk := L.map fun x => [x]
def codeB (p : Nat) (L : List Nat) : List Nat := L ++ (parB p 1 (oneB L)).map fun b => b.getD 0 0
def openB (p : Nat) (r : Row) (place : Nat) (t : List Int) : Bool :=
  decide (t.length = r.length) && (t.all fun x => decide (0 ≤ x) && decide (x ≤ 255)) && decide (t.getD place 0 ≠ 0) && ((List.range r.length).all fun i => (r.getD i none).isNone || decide (t.getD i 0 = 0)) && decide ((codeB p ((t.take (r.length - p)).map Int.toNat)).map (fun (n : Nat) => (n : Int)) = t)
theorem oneB_wf {L : List Nat} (h : ∀ x ∈ L, x < 256) : WfR 1 (oneB L) := fun b hb => by
  obtain ⟨x, hx, rfl⟩ := List.mem_map.mp hb
  exact ⟨rfl, fun y hy => by rw [List.mem_singleton.mp hy]; exact h x hx⟩
theorem one_get {b : Blk} (h : b.length = 1) : bD b = .tup [dn (b.getD 0 0)] := by
  match b, h with
  | [x], _ => rfl
theorem bytes_of {t : List Int} (h : (t.all fun x => decide (0 ≤ x) && decide (x ≤ 255)) = true) : ∃ L : List Nat, t = L.map (fun (n : Nat) => (n : Int)) ∧ ∀ x ∈ L, x < 256 := by
  refine ⟨t.map Int.toNat, ?_, fun x hx => ?_⟩
  · rw [List.map_map]
    refine (List.map_id t).symm.trans (List.map_congr_left fun x hx => ?_)
    have := List.all_eq_true.mp h x hx
    rw [Bool.and_eq_true, decide_eq_true_eq, decide_eq_true_eq] at this
    show x = ((x.toNat : Nat) : Int)
    omega
  · obtain ⟨y, hy, rfl⟩ := List.mem_map.mp hx
    have := List.all_eq_true.mp h y hy
    rw [Bool.and_eq_true, decide_eq_true_eq, decide_eq_true_eq] at this
    omega
theorem openB_len {p : Nat} {r : Row} {place : Nat} {t : List Int} (h : t.length ≠ r.length) : openB p r place t = false := by
  unfold openB; rw [decide_eq_false h]; rfl
theorem openB_byte {p : Nat} {r : Row} {place : Nat} {t : List Int} (h : (t.all fun x => decide (0 ≤ x) && decide (x ≤ 255)) = false) : openB p r place t = false := by
  unfold openB; rw [h]; cases decide (t.length = r.length) <;> rfl
theorem openB_place {p : Nat} {r : Row} {place : Nat} {t : List Int} (h : t.getD place 0 = 0) : openB p r place t = false := by
  unfold openB; rw [decide_eq_false (p := t.getD place 0 ≠ 0) (fun q => q h)]
  cases (decide (t.length = r.length) && t.all fun x => decide (0 ≤ x) && decide (x ≤ 255)) <;> rfl
theorem openB_some {p : Nat} {r : Row} {place i : Nat} {t : List Int} {b : Blk} (hi : r.getD i none = some b) (h : t.getD i 0 ≠ 0) : openB p r place t = false := by
  have e : ((List.range r.length).all fun i => (r.getD i none).isNone || decide (t.getD i 0 = 0)) = false := by
    cases q : (List.range r.length).all fun i => (r.getD i none).isNone || decide (t.getD i 0 = 0) with
    | false => rfl
    | true =>
      have := List.all_eq_true.mp q i (List.mem_range.mpr (getD_some hi).1)
      rw [hi, decide_eq_false h] at this
      cases this
  unfold openB; rw [e, Bool.and_false, Bool.false_and]
theorem openB_rest {p : Nat} {r : Row} {place : Nat} {t : List Int} (h1 : t.length = r.length) (h2 : (t.all fun x => decide (0 ≤ x) && decide (x ≤ 255)) = true) (h3 : t.getD place 0 ≠ 0) (h4 : ∀ i b, r.getD i none = some b → t.getD i 0 = 0) : openB p r place t = decide ((codeB p ((t.take (r.length - p)).map Int.toNat)).map (fun (n : Nat) => (n : Int)) = t) := by
  have e : ((List.range r.length).all fun i => (r.getD i none).isNone || decide (t.getD i 0 = 0)) = true := List.all_eq_true.mpr fun i _ => by
    cases q : r.getD i none with
    | none => rfl
    | some b => rw [h4 i b q]; rfl
  unfold openB; rw [e, h2, decide_eq_true h1, decide_eq_true h3]; rfl
theorem int_map_inj {A B : List Int} (h : A.map Dv.int = B.map Dv.int) : A = B := (List.map_inj_right (f := Dv.int) fun x y e => Dv.int.inj e).mp h
theorem firsts (bs : List Blk) : (List.range (bs.map bD).length).map (fun i => dn ((bs.getD i []).getD 0 0)) = (bs.map fun b => b.getD 0 0).map fun n => dn n := by
  rw [List.length_map]
  refine List.ext_getElem (by simp) fun i h1 h2 => ?_
  simp at h1
  simp [List.getD, h1]
theorem codeB_eq (p : Nat) (L : List Nat) : (oneB L ++ parB p 1 (oneB L)).map (fun b => b.getD 0 0) = codeB p L := by
  rw [List.map_append, codeB]
  congr 1
  rw [oneB, List.map_map]
  exact (List.map_congr_left fun x _ => rfl).trans (List.map_id L)
theorem codeB_len {p : Nat} {L : List Nat} (p1 : 1 ≤ p) (p2 : p ≤ 2) : (codeB p L).length = L.length + p := by
  rw [codeB, List.length_append, List.length_map, parB_len p1 p2]
theorem cut_any (xs : List Dv) (k : Nat) : cutA xs none (some (k : Int)) = xs.take k := by
  by_cases h : k ≤ xs.length
  · exact cut_to xs k h
  · unfold cutA
    rw [HT.sIx_nat]
    show (xs.drop 0).take (min k xs.length - 0) = xs.take k
    rw [Nat.sub_zero, Nat.min_eq_right (by omega), List.drop_zero, List.take_of_length_le (by omega), List.take_of_length_le (by omega)]
theorem known_more {r : Row} {g : Nat} {b : Blk} (hg : g < r.length) (hn : r.getD g none = none) : (known (r.set g (some b))).length = (known r).length + 1 := by
  have e : r[g] = none := by
    rw [List.getD_eq_getElem?_getD, List.getElem?_eq_getElem hg] at hn
    exact hn
  rw [known_count, known_count, List.countP_set hg, e]
  simp
theorem filter_parts (f : Nat → Bool) : ∀ l : List Nat, (l.filter f).length + (l.filter fun x => !f x).length = l.length
  | [] => rfl
  | x :: l => by
    have ih := filter_parts f l
    rw [List.filter_cons, List.filter_cons]
    cases f x <;> simp <;> omega
def noughtR (k : Nat) (r : Row) : Row := maskW k r fun _ => some [0]
theorem nought_known {k : Nat} {r : Row} : (known (noughtR k r)).length + ((List.range r.length).filter fun x => !decide (x ∈ firstP k r)).length = r.length := by
  have e : known (noughtR k r) = (List.range r.length).filter fun x => decide (x ∈ firstP k r) := by
    unfold known noughtR
    rw [mask_len]
    refine List.filter_congr fun i hi => ?_
    have hi := List.mem_range.mp hi
    unfold maskW
    rw [List.getD_eq_getElem?_getD, List.getElem?_map, List.getElem?_range hi]
    by_cases q : i ∈ firstP k r
    · simp [q]
    · simp [q]
  rw [e, filter_parts (fun x => decide (x ∈ firstP k r)) (List.range r.length), List.length_range]
theorem nought_none {k x : Nat} {r : Row} (h : x ∉ firstP k r) : (noughtR k r).getD x none = none := by
  cases q : (noughtR k r).getD x none with
  | none => rfl
  | some b => exact absurd (mask_get q).1 h
theorem nought_wf {k : Nat} {r : Row} : WfO 1 (noughtR k r) := fun o ho b e => by
  subst e
  unfold noughtR maskW at ho
  obtain ⟨i, _, q⟩ := List.mem_map.mp ho
  split at q
  · cases q; exact ⟨rfl, fun x hx => by rw [List.mem_singleton.mp hx]; decide⟩
  · cases q
end Law
namespace Law
open PySem L2 HC PyProof.Rows
theorem take_before {L : List Nat} (hs : L.Pairwise (· < ·)) {k i : Nat} (h : i ∈ L.take k) : (L.filter fun x => decide (x < i)).length < k := by
  obtain ⟨j, hj, e⟩ := List.mem_iff_getElem.mp h
  rw [List.length_take] at hj
  rw [List.getElem_take] at e
  have jl : j < L.length := by omega
  have z : (L.drop j).filter (fun x => decide (x < i)) = [] := by
    rw [List.filter_eq_nil_iff]
    intro x hx
    obtain ⟨m, hm, e2⟩ := List.mem_iff_getElem.mp hx
    rw [List.getElem_drop] at e2
    rw [List.length_drop] at hm
    rw [decide_eq_true_eq, ← e, ← e2]
    rcases Nat.eq_zero_or_pos m with z | z
    · subst z; simp
    · have := List.pairwise_iff_getElem.mp hs j (j + m) jl (by omega) (by omega)
      omega
  have s : L.filter (fun x => decide (x < i)) = (L.take j).filter (fun x => decide (x < i)) ++ (L.drop j).filter (fun x => decide (x < i)) := by
    rw [← List.filter_append, List.take_append_drop]
  rw [s, z, List.append_nil]
  have := List.length_filter_le (fun x => decide (x < i)) (L.take j)
  rw [List.length_take] at this
  omega
theorem known_sorted (r : Row) : (known r).Pairwise (· < ·) := List.Pairwise.filter _ List.pairwise_lt_range
theorem known_before {r : Row} {i : Nat} (hi : i ≤ r.length) : ((known r).filter fun x => decide (x < i)).length = ((List.range i).filter fun x => (r.getD x none).isSome).length := by
  unfold known
  obtain ⟨m, hm⟩ : ∃ m, r.length = i + m := ⟨r.length - i, by omega⟩
  rw [hm, List.range_add, List.filter_append, List.filter_append, List.length_append]
  have z : ((List.map (fun x => i + x) (List.range m)).filter fun x => (r.getD x none).isSome).filter (fun x => decide (x < i)) = [] := by
    rw [List.filter_eq_nil_iff]
    intro x hx
    obtain ⟨y, _, rfl⟩ := List.mem_map.mp (List.mem_filter.mp hx).1
    simp
  rw [z, List.length_nil, Nat.add_zero]
  congr 1
  refine List.filter_eq_self.mpr fun x hx => ?_
  exact decide_eq_true (List.mem_range.mp (List.mem_filter.mp hx).1)
theorem data_count {r : Row} {k : Nat} (hk : k ≤ r.length) : ((List.range k).filter fun x => (r.getD x none).isSome).length + (goneP k r).length = k := by
  have c := filter_two (fun i => (r.getD i none).isSome) (List.range k)
  rw [List.length_range] at c
  have e : (fun i => (r.getD i none).isNone) = fun i => !(r.getD i none).isSome := by
    funext i; cases r.getD i none <;> rfl
  unfold goneP
  rw [e]
  omega
section
variable {p n k : Nat} {r : Row}
theorem told_agrees (p1 : 1 ≤ p) (p2 : p ≤ 2) (k255 : k ≤ 255) (hl : r.length = k + p) (hw : WfO n r) (hk : k ≤ (known r).length) : Hides p n (dataTold p n r) (maskR k r) := by
  have ek : r.length - p = k := by omega
  have dl := dataTold_len (n := n) (r := r) p1 p2 (by omega) (by omega)
  rw [ek] at dl
  refine ⟨by rw [maskR, mask_len, hl, dl], fun i b hb => ?_⟩
  obtain ⟨hm, hb2⟩ := mask_get hb
  clear hb
  have hb := hb2
  clear hb2
  have tb := take_before (known_sorted r) hm
  have il : i < r.length := (known_mem.mp (List.mem_of_mem_take hm)).1
  rw [known_before (Nat.le_of_lt il)] at tb
  have d0l : (data0 n k r).length = k := data0_len (by omega)
  have d0w := data0_wf (k := k) hw
  have zl : (zeroB n).length = n := by simp [zeroB]
  have ws := sumB_wf d0w
  have wt := sumB_wf (turnB_wf d0w)
  have gm : ∀ i, i ∈ goneP k r ↔ i < k ∧ r.getD i none = none := fun i => gone_mem
  have dc := data_count (r := r) (k := k) (by omega)
  have d0i : i < k → (data0 n k r).getD i [] = b := fun hi => by rw [data0_at (by omega) hi, hb]; rfl
  have gz : ∀ g, g ∈ goneP k r → (data0 n k r).getD g [] = zeroB n := fun g hg => by
    obtain ⟨h1, h2⟩ := (gm g).mp hg
    rw [data0_at (by omega) h1, h2]
    rfl
  have app : ∀ (xs : List Blk), xs.length = k → (xs ++ parB p n xs).getD i [] = if i < k then xs.getD i [] else (parB p n xs).getD (i - k) [] := fun xs hx => by
    by_cases h : i < k
    · rw [if_pos h, List.getD_eq_getElem?_getD, List.getElem?_append_left (by omega), ← List.getD_eq_getElem?_getD]
    · rw [if_neg h, List.getD_eq_getElem?_getD, List.getElem?_append_right (by omega), hx, ← List.getD_eq_getElem?_getD]
  have par0 : ∀ xs : List Blk, (parB p n xs).getD 0 [] = sumB n xs := fun xs => by unfold parB; split <;> rfl
  have par1 : p = 2 → ∀ xs : List Blk, (parB p n xs).getD 1 [] = sumB n (turnB xs) := fun e xs => by subst e; rfl
  rw [app _ dl]
  unfold dataTold
  simp only [ek]
  rcases gone_cases (k := k) hl p1 p2 hk with e | ⟨g, P, e, eP⟩ | ⟨g, Qb, hp, e, eP, eQ⟩ | ⟨g, h, P, Qb, hp, e, eP, eQ⟩
  · simp only [e]
    by_cases hi : i < k
    · rw [if_pos hi]
      exact d0i hi
    · exfalso
      rw [e] at dc
      obtain ⟨m, hm2⟩ : ∃ m, i = k + m := ⟨i - k, by omega⟩
      rw [hm2, List.range_add, List.filter_append, List.length_append] at tb
      simp only [List.length_nil] at dc
      omega
  · simp only [e, eP]
    have g1 : g < k := ((gm g).mp (by rw [e]; simp)).1
    have gn : r.getD g none = none := ((gm g).mp (by rw [e]; simp)).2
    have gz := gz g (by rw [e]; simp)
    have wP := hw _ (getD_some eP).2 P rfl
    have bw : BlkOk' (byP n (data0 n k r) P) n := xorB_wf wP ws
    by_cases hi : i < k
    · rw [if_pos hi, getD_set (by omega), if_neg (fun z => by rw [z] at gn; rw [hb] at gn; cases gn)]
      exact d0i hi
    · rw [if_neg hi]
      have ik : i = k := by
        rcases Nat.lt_or_ge k i with h | h
        · exfalso
          rw [e] at dc
          obtain ⟨m, hm2⟩ : ∃ m, i = (k + 1) + m := ⟨i - (k + 1), by omega⟩
          rw [hm2, List.range_add, List.filter_append, List.length_append, List.range_succ, List.filter_append, List.length_append] at tb
          have : ([k].filter fun x => (r.getD x none).isSome) = [k] := by simp only [List.filter_cons, eP]; rfl
          rw [this] at tb
          simp only [List.length_cons, List.length_nil] at dc tb
          omega
        · omega
      subst ik
      rw [eP] at hb
      cases hb
      rw [Nat.sub_self, par0, sumB_set (by omega) bw.1 (by rw [gz]; exact zl), gz, xorB_zero n _ ws.1]
      exact xorB_cancel' ws.1 wP.1
  · simp only [e, eP, eQ, Option.getD_some]
    have g1 : g < k := ((gm g).mp (by rw [e]; simp)).1
    have gn : r.getD g none = none := ((gm g).mp (by rw [e]; simp)).2
    have gz := gz g (by rw [e]; simp)
    have wQ := hw _ (getD_some eQ).2 Qb rfl
    have xq : BlkOk' (xorB Qb (sumB n (turnB (data0 n k r)))) n := xorB_wf wQ wt
    have bw : BlkOk' (byQ n (data0 n k r) g Qb) n := mulB_wf (GF.inv_lt (GF.gp_lt 2 g)) xq
    by_cases hi : i < k
    · rw [if_pos hi, getD_set (by omega), if_neg (fun z => by rw [z] at gn; rw [hb] at gn; cases gn)]
      exact d0i hi
    · rw [if_neg hi]
      have ik : i = k + 1 := by
        rcases Nat.lt_or_ge k i with h | h
        · omega
        · have : i = k := by omega
          rw [this, eP] at hb; cases hb
      subst ik
      rw [eQ] at hb
      cases hb
      have mw := mulB_wf (GF.gp_lt 2 g) bw
      rw [show k + 1 - k = 1 by omega, par1 hp, turnB_set (by omega), sumB_set (by rw [turnB_len]; omega) mw.1 (by rw [turnB_getD (by omega), gz, mulB_zero]; exact zl), turnB_getD (by omega), gz, mulB_zero, xorB_zero n _ wt.1]
      unfold byQ
      rw [mulB_inv (GF.gp_lt 2 g) (GF.pw_ne0 g) xq.2]
      exact xorB_cancel' wt.1 wQ.1
  · simp only [e, eP, eQ, Option.getD_some]
    have g1 : g < k := ((gm g).mp (by rw [e]; simp)).1
    have gn : r.getD g none = none := ((gm g).mp (by rw [e]; simp)).2
    have h1 : h < k := ((gm h).mp (by rw [e]; simp)).1
    have hn : r.getD h none = none := ((gm h).mp (by rw [e]; simp)).2
    have gh : g ≠ h := by
      have nd : (goneP k r).Nodup := List.Pairwise.filter _ List.nodup_range
      rw [e] at nd
      intro z
      rw [z] at nd
      simp at nd
    have gzg := gz g (by rw [e]; simp)
    have gzh := gz h (by rw [e]; simp)
    have wP := hw _ (getD_some eP).2 P rfl
    have wQ := hw _ (getD_some eQ).2 Qb rfl
    have wPs : BlkOk' (xorB P (sumB n (data0 n k r))) n := xorB_wf wP ws
    have wQs : BlkOk' (xorB Qb (sumB n (turnB (data0 n k r)))) n := xorB_wf wQ wt
    have lean0 : GF.pw g ^^^ GF.pw h ≠ 0 := fun e => GF.pw_inj (i := g) (j := h) (by omega) (by omega) gh (by
      have := congrArg (fun x => x ^^^ GF.pw h) e
      simpa [Nat.xor_assoc] using this)
    have leanl : GF.pw g ^^^ GF.pw h < 256 := GF.xor8 (GF.gp_lt 2 g) (GF.gp_lt 2 h)
    have wR : BlkOk' (xorB (xorB Qb (sumB n (turnB (data0 n k r)))) (mulB (GF.pw h) (xorB P (sumB n (data0 n k r))))) n := xorB_wf wQs (mulB_wf (GF.gp_lt 2 h) wPs)
    have one : BlkOk' (byPQ n (data0 n k r) g h P Qb) n := mulB_wf (GF.inv_lt leanl) wR
    have onel : mulB (GF.pw g ^^^ GF.pw h) (byPQ n (data0 n k r) g h P Qb) = xorB (xorB Qb (sumB n (turnB (data0 n k r)))) (mulB (GF.pw h) (xorB P (sumB n (data0 n k r)))) := mulB_inv leanl lean0 wR.2
    generalize byPQ n (data0 n k r) g h P Qb = u at one onel ⊢
    have two : BlkOk' (xorB (xorB P (sumB n (data0 n k r))) u) n := xorB_wf wPs one
    have sh : ((data0 n k r).set g u).getD h [] = zeroB n := by rw [getD_set (by omega), if_neg gh, gzh]
    by_cases hi : i < k
    · rw [if_pos hi, getD_set (by rw [List.length_set]; omega), if_neg (fun z => by rw [z] at hn; rw [hb] at hn; cases hn), getD_set (by omega), if_neg (fun z => by rw [z] at gn; rw [hb] at gn; cases gn)]
      exact d0i hi
    · rw [if_neg hi]
      rcases Nat.lt_or_ge k i with h2 | h2
      · have ik : i = k + 1 := by omega
        subst ik
        rw [eQ] at hb
        cases hb
        have mg := mulB_wf (GF.gp_lt 2 g) one
        have mh := mulB_wf (GF.gp_lt 2 h) two
        have tg : (turnB ((data0 n k r).set g u)).getD h [] = zeroB n := by rw [turnB_getD (by rw [List.length_set]; omega), sh, mulB_zero]
        have tg0 : (turnB (data0 n k r)).getD g [] = zeroB n := by rw [turnB_getD (by omega), gzg, mulB_zero]
        rw [show k + 1 - k = 1 by omega, par1 hp, turnB_set (by rw [List.length_set]; omega), sumB_set (by rw [turnB_len, List.length_set]; omega) mh.1 (by rw [tg]; exact zl), tg,
          turnB_set (by omega), sumB_set (by rw [turnB_len]; omega) mg.1 (by rw [tg0]; exact zl), tg0, xorB_zero n _ wt.1, xorB_zero n _ (xorB_wf wt mg).1]
        have mP := mulB_wf (GF.gp_lt 2 h) wPs
        have mu := mulB_wf (GF.gp_lt 2 h) one
        have e1 : xorB (mulB (GF.pw g) u) (mulB (GF.pw h) (xorB (xorB P (sumB n (data0 n k r))) u)) = xorB b (sumB n (turnB (data0 n k r))) := by
          rw [mulB_xor, xorB_comm (mulB (GF.pw h) (xorB P (sumB n (data0 n k r)))) _, ← xorB_assoc, ← mulB_addc, onel, xorB_assoc, xorB_self n _ mP.1, xorB_zero n _ wQs.1]
        rw [xorB_assoc, e1]
        exact xorB_cancel' wt.1 wQ.1
      · have ik : i = k := by omega
        subst ik
        rw [eP] at hb
        cases hb
        rw [Nat.sub_self, par0, sumB_set (by rw [List.length_set]; omega) two.1 (by rw [sh]; exact zl), sh, sumB_set (by omega) one.1 (by rw [gzg]; exact zl), gzg, xorB_zero n _ ws.1, xorB_zero n _ (xorB_wf ws one).1]
        rw [xorB_assoc, xorB_cancel' one.1 wPs.1]
        exact xorB_cancel' ws.1 wP.1
end
end Law
namespace Law
open PySem L2 HC PyProof.Rows
theorem LV_vadd {k : Nat} {l : Blk} {v w : Nat → Nat} : LV k l (fun i => v i ^^^ w i) = LV k l v ^^^ LV k l w := by
  unfold LV
  rw [← SX_xor]
  exact SX_congr fun i _ => gt_xor_r _ _ _
theorem LV_vmul {k c : Nat} {l : Blk} {v : Nat → Nat} (hl : Lk k l) (hc : c < 256) (hv : ∀ i, v i < 256) : LV k l (fun i => GF.gt c (v i)) = GF.gt c (LV k l v) := by
  unfold LV
  rw [← SX_gt]
  refine SX_congr fun i _ => ?_
  rw [GF.gt_assoc (hl.get i) hc (hv i), GF.gt_comm (hl.get i) hc, ← GF.gt_assoc hc (hl.get i) (hv i)]
theorem LV_vzero {k : Nat} {l : Blk} : LV k l (fun _ => 0) = 0 := SX_zero fun i _ => GF.gt_zero _
theorem LV_sum {k : Nat} {l : Blk} {c : Nat → Nat} {w : Nat → Nat → Nat} (hl : Lk k l) (hc : ∀ m, c m < 256) (hw : ∀ m i, w m i < 256) : ∀ q, LV k l (fun i => SX (fun m => GF.gt (c m) (w m i)) q) = SX (fun m => GF.gt (c m) (LV k l (w m))) q
  | 0 => LV_vzero
  | q + 1 => by
    show LV k l (fun i => SX (fun m => GF.gt (c m) (w m i)) q ^^^ GF.gt (c q) (w q i)) = _
    rw [LV_vadd, LV_sum hl hc hw q, LV_vmul hl (hc q) (hw q)]
    rfl
def unitW (k : Nat) (r : Row) (one : Nat) : Row := maskW k r fun i => if i = one then some [1] else some [0]
theorem first_mask {k : Nat} {r : Row} {f : Nat → Option Blk} (hf : ∀ i, i ∈ firstP k r → (f i).isSome = true) (hk : k ≤ (known r).length) {i : Nat} (hi : i ∈ firstP k r) : i ∈ firstP k (maskW k r f) := by
  have e : known (maskW k r f) = (known r).filter fun i => decide (i ∈ firstP k r) := by
    unfold known
    rw [mask_len, List.filter_filter]
    refine List.filter_congr fun i hi => ?_
    have hi := List.mem_range.mp hi
    have g : (maskW k r f).getD i none = if i ∈ firstP k r then f i else none := by
      unfold maskW
      rw [List.getD_eq_getElem?_getD, List.getElem?_map, List.getElem?_range hi]
      rfl
    rw [g]
    by_cases q : i ∈ firstP k r
    · rw [if_pos q, hf i q, decide_eq_true q]
      have := known_mem.mp (List.mem_of_mem_take q)
      rw [this.2]
      rfl
    · rw [if_neg q, decide_eq_false q]
      rfl
  have s : (firstP k r).length = k := first_len hk
  have t : (known r).filter (fun i => decide (i ∈ firstP k r)) = (firstP k r).filter (fun i => decide (i ∈ firstP k r)) ++ ((known r).drop k).filter (fun i => decide (i ∈ firstP k r)) := by
    rw [← List.filter_append]
    unfold firstP
    rw [List.take_append_drop]
  have u : (firstP k r).filter (fun i => decide (i ∈ firstP k r)) = firstP k r := List.filter_eq_self.mpr fun i hi => decide_eq_true hi
  show i ∈ (known (maskW k r f)).take k
  rw [e, t, u, List.take_append_of_le_length (by omega), List.take_of_length_le (by omega)]
  exact hi
section
variable {p n k : Nat} {r : Row}
theorem mask_at {f : Nat → Option Blk} {i : Nat} (hi : i ∈ firstP k r) : (maskW k r f).getD i none = f i := by
  have il := (first_known hi).1
  unfold maskW
  rw [List.getD_eq_getElem?_getD, List.getElem?_map, List.getElem?_range il]
  simp only [Option.map_some, Option.getD_some]
  rw [if_pos hi]
theorem unit_some {one : Nat} : ∀ i, i ∈ firstP k r → ((fun i => if i = one then some [1] else some [0] : Nat → Option Blk) i).isSome = true := fun i _ => by
  show (if i = one then some [1] else some [0] : Option Blk).isSome = true
  split <;> rfl
theorem unit_wf {one : Nat} : WfO 1 (unitW k r one) := fun o ho b e => by
  subst e
  obtain ⟨i, _, e⟩ := List.mem_map.mp ho
  split at e
  · have e : (if i = one then some [1] else some [0] : Option Blk) = some b := e
    split at e <;> (cases e; exact ⟨rfl, fun x hx => by rw [List.mem_singleton.mp hx]; decide⟩)
  · cases e
def unitD (p k : Nat) (r : Row) (one : Nat) : List Blk := dataTold p 1 (unitW k r one)
theorem unit_len {one : Nat} (hr : r.length = k + p) : (unitW k r one).length = k + p := by rw [unitW, mask_len, hr]
theorem unit_data {one : Nat} (p1 : 1 ≤ p) (p2 : p ≤ 2) (hr : r.length = k + p) (hk : k ≤ (known r).length) : (unitD p k r one).length = k ∧ WfR 1 (unitD p k r one) := by
  have ul := unit_len (one := one) hr
  have uk : k ≤ (known (unitW k r one)).length := mask_known unit_some hk
  have := dataTold_len (n := 1) (r := unitW k r one) p1 p2 (by omega) (by omega)
  exact ⟨by rw [unitD, this]; omega, dataTold_wf p1 p2 (by omega) unit_wf (by omega)⟩
theorem unit_code {one i : Nat} (p1 : 1 ≤ p) (p2 : p ≤ 2) (k255 : k ≤ 255) (hr : r.length = k + p) (hk : k ≤ (known r).length) (hi : i ∈ firstP k r) :
    (unitD p k r one ++ parB p 1 (unitD p k r one)).getD i [] = if i = one then [1] else [0] := by
  have ul := unit_len (one := one) hr
  have uk : k ≤ (known (unitW k r one)).length := mask_known unit_some hk
  have h := told_agrees (n := 1) p1 p2 k255 ul unit_wf uk
  have e : (maskR k (unitW k r one)).getD i none = (unitW k r one).getD i none := mask_at (first_mask unit_some hk hi)
  have e2 : (unitW k r one).getD i none = if i = one then some [1] else some [0] := mask_at hi
  have e3 : (maskR k (unitW k r one)).getD i none = some (if i = one then [1] else [0]) := by rw [e, e2]; split <;> rfl
  exact h.2 i _ e3
def facP (p k : Nat) (r : Row) (place one : Nat) : Nat := ((unitD p k r one ++ parB p 1 (unitD p k r one)).getD place []).getD 0 0
theorem code_lt {ds : List Blk} (hw : WfR n ds) (i t : Nat) : ((ds ++ parB p n ds).getD i []).getD t 0 < 256 := by
  refine getB_lt (n := n) (ds := ds ++ parB p n ds) (fun b hb => ?_) i t
  rcases List.mem_append.mp hb with h | h
  · exact hw b h
  · exact parB_wf hw b h
theorem told_by_factors {n2 : Nat} {ds : List Blk} (p1 : 1 ≤ p) (p2 : p ≤ 2) (k255 : k ≤ 255) (hr : r.length = k + p) (hk : k ≤ (known r).length) (wr : WfO n2 r) (hw : WfR n ds) (hl : ds.length = k) {place t : Nat} (hp : place < k + p) (ht : t < n) :
    ((ds ++ parB p n ds).getD place []).getD t 0 = SX (fun m => GF.gt (((ds ++ parB p n ds).getD ((firstP k r).getD m 0) []).getD t 0) (facP p k r place ((firstP k r).getD m 0))) k := by
  have ud := fun one => unit_data (one := one) p1 p2 hr hk
  have clt := fun i => code_lt (p := p) hw i t
  have wlt : ∀ m i, (((unitD p k r ((firstP k r).getD m 0)).getD i []).getD 0 0) < 256 := fun m i => getB_lt (ud _).2 i 0
  have ker := (inv_first (n := n2) p1 p2 k255 hr wr hk).ker
  have uc : ∀ m place, place < k + p → LV k (lineF k place) (fun i => ((unitD p k r ((firstP k r).getD m 0)).getD i []).getD 0 0) = facP p k r place ((firstP k r).getD m 0) := fun m place hp => code_at p1 p2 (ud _).2 (ud _).1 (by decide) hp
  have fl : ∀ j, j < k → (firstP k r).getD j 0 < k + p := fun j hj => by rw [← hr]; exact (first_known (first_get hk hj)).1
  have nd : (firstP k r).Nodup := (List.Pairwise.imp (fun h => Nat.ne_of_lt h) (known_sorted r)).sublist (List.take_sublist _ _)
  have fac1 : ∀ j m, j < k → m < k → facP p k r ((firstP k r).getD j 0) ((firstP k r).getD m 0) = if m = j then 1 else 0 := fun j m hj hm => by
    unfold facP
    rw [unit_code p1 p2 k255 hr hk (first_get hk hj)]
    by_cases e : m = j
    · rw [e, if_pos rfl, if_pos rfl]; rfl
    · rw [if_neg e, if_neg]
      · rfl
      · intro z
        have fL := first_len hk
        rw [List.getD_eq_getElem?_getD, List.getD_eq_getElem?_getD, List.getElem?_eq_getElem (by omega), List.getElem?_eq_getElem (by omega)] at z
        exact e ((List.getElem_inj nd).mp z).symm
  have zero := ker (fun i => (ds.getD i []).getD t 0 ^^^ SX (fun m => GF.gt (((ds ++ parB p n ds).getD ((firstP k r).getD m 0) []).getD t 0) (((unitD p k r ((firstP k r).getD m 0)).getD i []).getD 0 0)) k) (fun i => GF.xor8 (getB_lt hw i t) (SX_lt fun m _ => GF.gt_lt _ (clt _))) (fun j hj => by
    show LV k (lineF k ((firstP k r).getD j 0)) _ = 0
    rw [LV_vadd, LV_sum (lineF_ok _ _) (fun m => clt _) wlt, code_at p1 p2 hw hl ht (fl j hj)]
    rw [SX_congr (g := fun m => if m = j then ((ds ++ parB p n ds).getD ((firstP k r).getD j 0) []).getD t 0 else 0) (fun m hm => by
      rw [uc m _ (fl j hj), fac1 j m hj hm]
      by_cases e : m = j
      · rw [if_pos e, if_pos e, e, GF.gt_comm (clt _) (by decide), GF.one_gt (clt _)]
      · rw [if_neg e, if_neg e, GF.gt_zero])]
    rw [SX_one (j := j) hj (fun m _ ne => if_neg ne), if_pos rfl, Nat.xor_self])
  have eqv : ∀ i, i < k → (ds.getD i []).getD t 0 = SX (fun m => GF.gt (((ds ++ parB p n ds).getD ((firstP k r).getD m 0) []).getD t 0) (((unitD p k r ((firstP k r).getD m 0)).getD i []).getD 0 0)) k := fun i hi => by
    have z := zero i hi
    have := congrArg (fun x => x ^^^ SX (fun m => GF.gt (((ds ++ parB p n ds).getD ((firstP k r).getD m 0) []).getD t 0) (((unitD p k r ((firstP k r).getD m 0)).getD i []).getD 0 0)) k) z
    simpa [Nat.xor_assoc] using this
  rw [← code_at p1 p2 hw hl ht hp]
  have : LV k (lineF k place) (fun i => (ds.getD i []).getD t 0) = LV k (lineF k place) (fun i => SX (fun m => GF.gt (((ds ++ parB p n ds).getD ((firstP k r).getD m 0) []).getD t 0) (((unitD p k r ((firstP k r).getD m 0)).getD i []).getD 0 0)) k) := by
    unfold LV
    exact SX_congr fun i hi => congrArg (GF.gt ((lineF k place).getD i 0)) (eqv i hi)
  rw [this, LV_sum (lineF_ok _ _) (fun m => clt _) wlt]
  exact SX_congr fun m _ => by rw [uc m place hp]
end
end Law
namespace Law
open PySem L2 HC PyProof.Rows
def unitG (many : Nat) (ps : List Nat) (one : Nat) : Row := (List.range many).map fun i => if i = one then some [1] else if i ∈ ps then some [0] else none
theorem unit_eq {k : Nat} {r : Row} {one : Nat} (h : one ∈ firstP k r) : unitG r.length (firstP k r) one = unitW k r one := by
  unfold unitG unitW maskW
  refine List.map_congr_left fun i _ => ?_
  by_cases e : i = one
  · subst e; rw [if_pos rfl, if_pos h]; simp
  · rw [if_neg e]
    by_cases q : i ∈ firstP k r
    · rw [if_pos q, if_pos q]; simp [e]
    · rw [if_neg q, if_neg q]
def noughtG (many : Nat) (ps : List Nat) : Row := (List.range many).map fun i => if i ∈ ps then some [0] else none
theorem noughtG_nil (many : Nat) : noughtG many [] = List.replicate many none := by
  unfold noughtG
  refine List.ext_getElem (by simp) fun i h1 h2 => ?_
  simp
theorem noughtG_put {many x : Nat} {ps : List Nat} (h : x < many) : (noughtG many ps).set x (some [0]) = noughtG many (ps ++ [x]) := by
  unfold noughtG
  refine List.ext_getElem (by simp) fun i h1 h2 => ?_
  rw [List.getElem_set]
  simp only [List.getElem_map, List.getElem_range, List.mem_append, List.mem_singleton]
  by_cases e : x = i
  · subst e; simp
  · rw [if_neg e]
    by_cases q : i ∈ ps
    · rw [if_pos q, if_pos (.inl q)]
    · rw [if_neg q, if_neg (fun z => z.elim q fun z => e z.symm)]
theorem noughtG_one {many one : Nat} {ps : List Nat} (h : one < many) : (noughtG many ps).set one (some [1]) = unitG many ps one := by
  unfold noughtG unitG
  refine List.ext_getElem (by simp) fun i h1 h2 => ?_
  rw [List.getElem_set]
  simp only [List.getElem_map, List.getElem_range]
  by_cases e : one = i
  · subst e; simp
  · rw [if_neg e, if_neg (Ne.symm e)]
end Law
namespace Law
open PySem L2 HC PyProof.Rows
def pairL (l : List (Nat × Nat)) : Dv := .tup (l.map fun x => .tup [dn x.1, dn x.2])
def sumP (cs : List Blk) (l : List (Nat × Nat)) (t i : Nat) : Nat := SX (fun m => GF.gt (l.getD m (0, 0)).2 ((cs.getD (l.getD m (0, 0)).1 []).getD t 0)) i
def sumPB (cs : List Blk) (l : List (Nat × Nat)) (n i : Nat) : Blk := (List.range n).map fun t => sumP cs l t i
def unitE (k c : Nat) : List Blk := (List.range k).map fun j => [if j = c then 1 else 0]
theorem unitE_wf {k c : Nat} : WfR 1 (unitE k c) := fun b hb => by
  obtain ⟨j, _, rfl⟩ := List.mem_map.mp hb
  exact ⟨rfl, fun x hx => by rw [List.mem_singleton.mp hx]; split <;> decide⟩
theorem unitE_len {k c : Nat} : (unitE k c).length = k := by simp [unitE]
end Law
namespace Law
open PySem L2 HC PyProof.Rows
section
variable {p n k : Nat} {r : Row}
theorem fac_pos (p1 : 1 ≤ p) (p2 : p ≤ 2) (k255 : k ≤ 255) (hr : r.length = k + p) (hk : k ≤ (known r).length) {place one : Nat} (hp : place < r.length) (hn : r.getD place none = none) (h1 : one ∈ firstP k r) : facP p k r place one ≠ 0 := by
  intro z
  have ud := unit_data (one := one) p1 p2 hr hk
  have ul := unit_len (one := one) hr
  have uk : k ≤ (known (unitW k r one)).length := mask_known unit_some hk
  have ol := (first_known h1).1
  have ne : place ≠ one := fun e => by
    obtain ⟨b, hb⟩ := (first_known h1).2
    rw [← e, hn] at hb; cases hb
  have pF : place ∉ firstP k r := fun h => by
    obtain ⟨b, hb⟩ := (first_known h).2
    rw [hn] at hb; cases hb
  have un : (unitW k r one).getD place none = none := by
    cases e : (unitW k r one).getD place none with
    | none => rfl
    | some b => exact absurd (mask_get e).1 pF
  have u1 := known_set (unitW k r one) one
  have u2n : ((unitW k r one).set one none).getD place none = none := by
    rw [List.getD_eq_getElem?_getD, List.getElem?_set, if_neg (Ne.symm ne), ← List.getD_eq_getElem?_getD]
    exact un
  have u2 := known_more (r := (unitW k r one).set one none) (g := place) (b := [0]) (by rw [List.length_set, ul]; omega) u2n
  obtain ⟨r2, e2⟩ : ∃ r2 : Row, r2 = ((unitW k r one).set one none).set place (some [0]) := ⟨_, rfl⟩
  rw [← e2] at u2
  have l2 : r2.length = k + p := by rw [e2, List.length_set, List.length_set, ul]
  have get2 : ∀ i b, r2.getD i none = some b → b = [0] ∧ (i = place ∨ (i ∈ firstP k r ∧ i ≠ one)) := fun i b h => by
    rw [e2, List.getD_eq_getElem?_getD, List.getElem?_set] at h
    by_cases e : place = i
    · rw [if_pos e] at h
      split at h
      · cases h; exact ⟨rfl, .inl e.symm⟩
      · cases h
    · rw [if_neg e, List.getElem?_set] at h
      by_cases e3 : one = i
      · rw [if_pos e3] at h
        split at h <;> cases h
      · rw [if_neg e3, ← List.getD_eq_getElem?_getD] at h
        obtain ⟨q1, q2⟩ := mask_get h
        have q2 : (if i = one then some [1] else some [0] : Option Blk) = some b := q2
        rw [if_neg (Ne.symm e3)] at q2
        cases q2
        exact ⟨rfl, .inr ⟨q1, Ne.symm e3⟩⟩
  have w2 : WfO 1 r2 := fun o ho b e => by
    subst e
    obtain ⟨i, hi, e⟩ := List.mem_iff_getElem.mp ho
    have := (get2 i b (by rw [List.getD_eq_getElem?_getD, List.getElem?_eq_getElem hi, e]; rfl)).1
    rw [this]
    exact ⟨rfl, fun x hx => by rw [List.mem_singleton.mp hx]; decide⟩
  have k2 : k ≤ (known r2).length := by omega
  have v0 := (inv_first (n := 1) p1 p2 k255 l2 w2 k2).ker (fun i => ((unitD p k r one).getD i []).getD 0 0) (fun i => getB_lt ud.2 i 0) (fun j hj => by
    show LV k (lineF k ((firstP k r2).getD j 0)) _ = 0
    have fm := first_get k2 hj
    obtain ⟨fl, b, fb⟩ := first_known fm
    rw [code_at p1 p2 ud.2 ud.1 (by decide) (by omega)]
    rcases (get2 _ b fb).2 with e | ⟨e, e3⟩
    · rw [e]; exact z
    · rw [unit_code p1 p2 k255 hr hk e, if_neg e3]; rfl)
  have one1 := code_at (t := 0) (place := one) p1 p2 ud.2 ud.1 (by decide) (by omega)
  rw [unit_code p1 p2 k255 hr hk h1, if_pos rfl] at one1
  have : LV k (lineF k one) (fun i => ((unitD p k r one).getD i []).getD 0 0) = 0 := by
    unfold LV
    exact SX_zero fun i hi => (congrArg (GF.gt ((lineF k one).getD i 0)) (v0 i hi)).trans (GF.gt_zero _)
  rw [this] at one1
  exact absurd one1 (by decide)
theorem fac_lt (p1 : 1 ≤ p) (p2 : p ≤ 2) (hr : r.length = k + p) (hk : k ≤ (known r).length) (place one : Nat) : facP p k r place one < 256 :=
  code_lt (unit_data p1 p2 hr hk).2 place 0
def facL (p k : Nat) (r : Row) (place : Nat) : List (Nat × Nat) := (firstP k r).map fun one => (one, facP p k r place one)
theorem facL_at {place m : Nat} (hm : m < (firstP k r).length) : (facL p k r place).getD m (0, 0) = ((firstP k r).getD m 0, facP p k r place ((firstP k r).getD m 0)) := by
  rw [facL, List.getD_eq_getElem?_getD, List.getElem?_map, List.getElem?_eq_getElem hm, List.getD_eq_getElem?_getD, List.getElem?_eq_getElem hm]
  rfl
theorem facs_tell (p1 : 1 ≤ p) (p2 : p ≤ 2) (k255 : k ≤ 255) (hr : r.length = k + p) (hk : k ≤ (known r).length) (wr : WfO n r) {ds : List Blk} {m : Nat} (hw : WfR m ds) (hl : ds.length = k) {place t : Nat} (hp : place < k + p) (ht : t < m) :
    sumP (ds ++ parB p m ds) (facL p k r place) t (facL p k r place).length = ((ds ++ parB p m ds).getD place []).getD t 0 := by
  have fl := first_len hk
  have ll : (facL p k r place).length = k := by rw [facL, List.length_map, fl]
  rw [told_by_factors p1 p2 k255 hr hk wr hw hl hp ht, ll]
  unfold sumP
  refine SX_congr fun i hi => ?_
  rw [facL_at (by omega)]
  exact GF.gt_comm (fac_lt p1 p2 hr hk _ _) (code_lt hw _ _)
end
end Law
namespace Law
open PySem L2 HC PyProof.Rows
def othersP (r : Row) (place : Nat) : List Nat := (List.range r.length).filter fun i => (r.getD i none).isNone && !decide (i = place)
def noughtsP (k : Nat) (r : Row) (place : Nat) : List Nat := known r ++ (othersP r place).take (k - 1 - (known r).length)
def openW (k : Nat) (r : Row) (place : Nat) : Row := unitG r.length (noughtsP k r place) place
def openD (p k : Nat) (r : Row) (place : Nat) : List Blk := dataTold p 1 (openW k r place)
def openC (p k : Nat) (r : Row) (place : Nat) : List Blk := openD p k r place ++ parB p 1 (openD p k r place)
section
variable {p n k : Nat} {r : Row} {place : Nat}
theorem unitG_get {many one i : Nat} {ps : List Nat} (hi : i < many) : (unitG many ps one).getD i none = if i = one then some [1] else if i ∈ ps then some [0] else none := by
  unfold unitG
  rw [List.getD_eq_getElem?_getD, List.getElem?_map, List.getElem?_range hi]
  rfl
theorem others_mem {i : Nat} : i ∈ othersP r place ↔ i < r.length ∧ r.getD i none = none ∧ i ≠ place := by
  unfold othersP
  rw [List.mem_filter, List.mem_range, Bool.and_eq_true, Option.isNone_iff_eq_none]
  simp
theorem noughts_nodup : (noughtsP k r place).Nodup := by
  refine List.nodup_append.mpr ⟨List.Pairwise.filter _ List.nodup_range, (List.Nodup.sublist (List.take_sublist _ _) (List.Pairwise.filter _ List.nodup_range)), fun a ha b hb e => ?_⟩
  subst e
  obtain ⟨_, h1⟩ := known_mem.mp ha
  obtain ⟨_, h2, _⟩ := others_mem.mp (List.mem_of_mem_take hb)
  rw [h2] at h1; cases h1
theorem noughts_lt {i : Nat} (h : i ∈ noughtsP k r place) : i < r.length := by
  rcases List.mem_append.mp h with h | h
  · exact (known_mem.mp h).1
  · exact (others_mem.mp (List.mem_of_mem_take h)).1
theorem noughts_ne (hn : r.getD place none = none) : place ∉ noughtsP k r place := fun h => by
  rcases List.mem_append.mp h with h | h
  · have := (known_mem.mp h).2
    rw [hn] at this; cases this
  · exact (others_mem.mp (List.mem_of_mem_take h)).2.2 rfl
theorem others_len (hp : place < r.length) (hn : r.getD place none = none) : (known r).length + (othersP r place).length + 1 = r.length := by
  have c := filter_two (fun i => (r.getD i none).isSome) (List.range r.length)
  rw [List.length_range] at c
  have e : ((List.range r.length).filter fun i => !(r.getD i none).isSome).Perm (place :: othersP r place) := by
    refine (List.perm_ext_iff_of_nodup (List.Pairwise.filter _ List.nodup_range) (List.nodup_cons.mpr ⟨fun h => (others_mem.mp h).2.2 rfl, List.Pairwise.filter _ List.nodup_range⟩)).mpr fun i => ?_
    rw [List.mem_filter, List.mem_range, List.mem_cons, others_mem]
    constructor
    · rintro ⟨h1, h2⟩
      have h2 : r.getD i none = none := by cases q : r.getD i none with
        | none => rfl
        | some b => rw [q] at h2; cases h2
      by_cases q : i = place
      · exact .inl q
      · exact .inr ⟨h1, h2, q⟩
    · rintro (rfl | ⟨h1, h2, _⟩)
      · exact ⟨hp, by rw [hn]; rfl⟩
      · exact ⟨h1, by rw [h2]; rfl⟩
  have l := e.length_eq
  rw [List.length_cons] at l
  show ((List.range r.length).filter fun i => (r.getD i none).isSome).length + _ + 1 = _
  omega
theorem noughts_len (hr : r.length = k + p) (p1 : 1 ≤ p) (hp : place < r.length) (hn : r.getD place none = none) (hk : (known r).length < k) : (noughtsP k r place).length = k - 1 := by
  have := others_len hp hn
  unfold noughtsP
  rw [List.length_append, List.length_take]
  omega
theorem open_known (hr : r.length = k + p) (p1 : 1 ≤ p) (hp : place < r.length) (hn : r.getD place none = none) (hk : (known r).length < k) : (known (openW k r place)).length = k := by
  have nl := noughts_len hr p1 hp hn hk
  have ul : (openW k r place).length = r.length := by simp [openW, unitG]
  have e : (known (openW k r place)).Perm (place :: noughtsP k r place) := by
    refine (List.perm_ext_iff_of_nodup (List.Pairwise.filter _ List.nodup_range) (List.nodup_cons.mpr ⟨noughts_ne hn, noughts_nodup⟩)).mpr fun i => ?_
    show i ∈ known (openW k r place) ↔ _
    rw [known_mem, ul, List.mem_cons]
    constructor
    · rintro ⟨h1, h2⟩
      rw [openW, unitG_get h1] at h2
      by_cases q : i = place
      · exact .inl q
      · rw [if_neg q] at h2
        by_cases q2 : i ∈ noughtsP k r place
        · exact .inr q2
        · rw [if_neg q2] at h2; cases h2
    · rintro (rfl | h)
      · exact ⟨hp, by rw [openW, unitG_get hp, if_pos rfl]; rfl⟩
      · have hl := noughts_lt h
        refine ⟨hl, ?_⟩
        rw [openW, unitG_get hl]
        by_cases q : i = place
        · rw [if_pos q]; rfl
        · rw [if_neg q, if_pos h]; rfl
  rw [e.length_eq, List.length_cons, nl]
  omega
theorem open_wf : WfO 1 (openW k r place) := fun o ho b e => by
  subst e
  obtain ⟨i, _, e⟩ := List.mem_map.mp ho
  split at e
  · cases e; exact ⟨rfl, fun x hx => by rw [List.mem_singleton.mp hx]; decide⟩
  · split at e
    · cases e; exact ⟨rfl, fun x hx => by rw [List.mem_singleton.mp hx]; decide⟩
    · cases e
theorem open_data (p1 : 1 ≤ p) (p2 : p ≤ 2) (hr : r.length = k + p) (hp : place < r.length) (hn : r.getD place none = none) (hk : (known r).length < k) : (openD p k r place).length = k ∧ WfR 1 (openD p k r place) := by
  have ok := open_known hr p1 hp hn hk
  have ul : (openW k r place).length = r.length := by simp [openW, unitG]
  have := dataTold_len (n := 1) (r := openW k r place) p1 p2 (by omega) (by omega)
  exact ⟨by rw [openD, this]; omega, dataTold_wf p1 p2 (by omega) open_wf (by omega)⟩
theorem open_code (p1 : 1 ≤ p) (p2 : p ≤ 2) (k255 : k ≤ 255) (hr : r.length = k + p) (hp : place < r.length) (hn : r.getD place none = none) (hk : (known r).length < k) {i : Nat} (hi : i = place ∨ (r.getD i none).isSome = true) :
    (openC p k r place).getD i [] = if i = place then [1] else [0] := by
  have ok := open_known hr p1 hp hn hk
  have ul : (openW k r place).length = r.length := by simp [openW, unitG]
  have h := told_agrees (n := 1) p1 p2 k255 (by rw [ul, hr]) open_wf (by omega : k ≤ (known (openW k r place)).length)
  have il : i < r.length := by
    rcases hi with e | e
    · omega
    · obtain ⟨b, hb⟩ := Option.isSome_iff_exists.mp e
      exact (getD_some hb).1
  have e2 : (openW k r place).getD i none = some (if i = place then [1] else [0]) := by
    rw [openW, unitG_get il]
    by_cases q : i = place
    · rw [if_pos q, if_pos q]
    · rw [if_neg q, if_neg q, if_pos]
      rcases hi with e | e
      · exact absurd e q
      · exact List.mem_append.mpr (.inl (known_mem.mpr ⟨il, e⟩))
  have fm : i ∈ firstP k (openW k r place) := by
    unfold firstP
    rw [List.take_of_length_le (by omega)]
    exact known_mem.mpr ⟨by rw [ul]; exact il, by rw [e2]; rfl⟩
  have e3 : (maskR k (openW k r place)).getD i none = some (if i = place then [1] else [0]) := by rw [maskR, mask_at fm, e2]
  exact h.2 i _ e3
end
end Law
namespace Law
open PySem L2 HC PyProof.Rows
section
variable {p n k : Nat} {r : Row} {place : Nat}
theorem code_list {O : List Nat} (p1 : 1 ≤ p) (p2 : p ≤ 2) (hl : O.length = k + p) (ho : ∀ x ∈ O, x < 256) (h : ∀ i, i < k + p → O.getD i 0 = LV k (lineF k i) (fun j => O.getD j 0)) : codeB p (O.take k) = O := by
  have tl : (O.take k).length = k := by rw [List.length_take]; omega
  have tw : WfR 1 (oneB (O.take k)) := oneB_wf fun x hx => ho x (List.mem_of_mem_take hx)
  have ol : (oneB (O.take k)).length = k := by rw [oneB, List.length_map, tl]
  refine List.ext_getElem (by rw [codeB_len p1 p2, tl, hl]) fun i h1 h2 => ?_
  have hi : i < k + p := by omega
  have e1 : (codeB p (O.take k))[i] = ((oneB (O.take k) ++ parB p 1 (oneB (O.take k))).getD i []).getD 0 0 := by
    have cl : i < (oneB (O.take k) ++ parB p 1 (oneB (O.take k))).length := by rw [List.length_append, ol, parB_len p1 p2]; omega
    have : (codeB p (O.take k))[i]? = some (((oneB (O.take k) ++ parB p 1 (oneB (O.take k))).getD i []).getD 0 0) := by
      rw [← codeB_eq, List.getElem?_map, List.getElem?_eq_getElem cl, List.getD_eq_getElem?_getD (l := oneB (O.take k) ++ parB p 1 (oneB (O.take k))), List.getElem?_eq_getElem cl]
      rfl
    rw [List.getElem?_eq_getElem h1] at this
    exact Option.some.inj this
  have e2 : O[i] = O.getD i 0 := by rw [List.getD_eq_getElem?_getD, List.getElem?_eq_getElem h2]; rfl
  rw [e1, e2, h i hi, ← code_at p1 p2 tw ol (by decide) hi]
  unfold LV
  refine SX_congr fun j hj => congrArg (GF.gt ((lineF k i).getD j 0)) ?_
  have jl : j < O.length := by omega
  show ((oneB (O.take k)).getD j []).getD 0 0 = O.getD j 0
  rw [oneB, List.getD_eq_getElem?_getD (l := (O.take k).map fun x => [x]), List.getElem?_map, List.getElem?_take, if_pos hj, List.getElem?_eq_getElem jl, List.getD_eq_getElem?_getD (l := O), List.getElem?_eq_getElem jl]
  rfl
def openL (p k : Nat) (r : Row) (place : Nat) : List Nat := (openC p k r place).map fun b => b.getD 0 0
def otherL (cs : List Blk) (L : List Nat) : List Nat := cs.zipWith (fun b x => b.getD 0 0 ^^^ x) L
structure OpenOk (p k : Nat) (r : Row) (place : Nat) (L : List Nat) : Prop where
  len : L.length = k + p
  lt : ∀ x ∈ L, x < 256
  code : codeB p (L.take k) = L
  one : L.getD place 0 = 1
  zero : ∀ i, (r.getD i none).isSome = true → L.getD i 0 = 0
  eqs : ∀ i, i < k + p → L.getD i 0 = LV k (lineF k i) (fun j => L.getD j 0)
theorem getD_map0 {cs : List Blk} {i : Nat} (h : i < cs.length) : (cs.map fun b => b.getD 0 0).getD i 0 = (cs.getD i []).getD 0 0 := by
  rw [List.getD_eq_getElem?_getD (l := cs.map fun b => b.getD 0 0), List.getElem?_map, List.getElem?_eq_getElem h, List.getD_eq_getElem?_getD (l := cs), List.getElem?_eq_getElem h]
  rfl
theorem open_ok (p1 : 1 ≤ p) (p2 : p ≤ 2) (k255 : k ≤ 255) (hr : r.length = k + p) (hp : place < r.length) (hn : r.getD place none = none) (hk : (known r).length < k) : OpenOk p k r place (openL p k r place) := by
  have ud := open_data p1 p2 hr hp hn hk
  have cl : (openC p k r place).length = k + p := by rw [openC, List.length_append, ud.1, parB_len p1 p2]
  have ll : (openL p k r place).length = k + p := by rw [openL, List.length_map, cl]
  have g : ∀ i, i < k + p → (openL p k r place).getD i 0 = ((openC p k r place).getD i []).getD 0 0 := fun i hi => getD_map0 (by omega)
  have lt : ∀ x ∈ openL p k r place, x < 256 := fun x hx => by
    obtain ⟨i, hi, rfl⟩ := List.mem_iff_getElem.mp hx
    have := g i (by omega)
    rw [List.getD_eq_getElem?_getD, List.getElem?_eq_getElem hi] at this
    rw [show (openL p k r place)[i] = ((openC p k r place).getD i []).getD 0 0 from this]
    exact code_lt ud.2 i 0
  have eqs : ∀ i, i < k + p → (openL p k r place).getD i 0 = LV k (lineF k i) (fun j => (openL p k r place).getD j 0) := fun i hi => by
    rw [g i hi, openC, ← code_at p1 p2 ud.2 ud.1 (by decide) hi]
    unfold LV
    refine SX_congr fun j hj => congrArg (GF.gt ((lineF k i).getD j 0)) ?_
    show ((openD p k r place).getD j []).getD 0 0 = (openL p k r place).getD j 0
    rw [g j (by omega), openC, List.getD_eq_getElem?_getD (l := openD p k r place ++ _), List.getElem?_append_left (by omega), ← List.getD_eq_getElem?_getD]
  refine ⟨ll, lt, code_list p1 p2 ll lt eqs, ?_, fun i hi => ?_, eqs⟩
  · rw [g place (by omega), open_code p1 p2 k255 hr hp hn hk (.inl rfl), if_pos rfl]; rfl
  · obtain ⟨b, hb⟩ := Option.isSome_iff_exists.mp hi
    have il := (getD_some hb).1
    rw [g i (by omega), open_code p1 p2 k255 hr hp hn hk (.inr hi), if_neg (fun e => by rw [e, hn] at hb; cases hb)]
    rfl
theorem other_code {bs : List Blk} {L : List Nat} (p1 : 1 ≤ p) (p2 : p ≤ 2) (hw : WfR n bs) (n0 : 0 < n) (hl : bs.length = k) (h : OpenOk p k r place L) :
    (otherL (bs ++ parB p n bs) L).length = k + p ∧ (∀ x ∈ otherL (bs ++ parB p n bs) L, x < 256) ∧ codeB p ((otherL (bs ++ parB p n bs) L).take k) = otherL (bs ++ parB p n bs) L := by
  have cl : (bs ++ parB p n bs).length = k + p := by rw [List.length_append, hl, parB_len p1 p2]
  have ol : (otherL (bs ++ parB p n bs) L).length = k + p := by rw [otherL, List.length_zipWith, cl, h.len]; omega
  have g : ∀ i, i < k + p → (otherL (bs ++ parB p n bs) L).getD i 0 = ((bs ++ parB p n bs).getD i []).getD 0 0 ^^^ L.getD i 0 := fun i hi => by
    have h1 : i < (bs ++ parB p n bs).length := by omega
    have h2 : i < L.length := by rw [h.len]; exact hi
    rw [otherL, List.getD_eq_getElem?_getD (l := List.zipWith _ _ _), List.getElem?_zipWith, List.getElem?_eq_getElem h1, List.getElem?_eq_getElem h2, List.getD_eq_getElem?_getD (l := bs ++ _), List.getElem?_eq_getElem h1, List.getD_eq_getElem?_getD (l := L), List.getElem?_eq_getElem h2]
    rfl
  have lt : ∀ x ∈ otherL (bs ++ parB p n bs) L, x < 256 := fun x hx => by
    obtain ⟨i, hi, rfl⟩ := List.mem_iff_getElem.mp hx
    have := g i (by omega)
    rw [List.getD_eq_getElem?_getD, List.getElem?_eq_getElem hi] at this
    rw [show (otherL (bs ++ parB p n bs) L)[i] = _ from this]
    refine GF.xor8 (code_lt hw i 0) ?_
    have il : i < L.length := by rw [h.len]; omega
    rw [List.getD_eq_getElem?_getD, List.getElem?_eq_getElem il]
    exact h.lt _ (List.getElem_mem il)
  refine ⟨ol, lt, code_list p1 p2 ol lt fun i hi => ?_⟩
  rw [g i hi, ← code_at p1 p2 hw hl n0 hi, h.eqs i hi, ← LV_vadd]
  unfold LV
  refine SX_congr fun j hj => congrArg (GF.gt ((lineF k i).getD j 0)) ?_
  show (bs.getD j []).getD 0 0 ^^^ L.getD j 0 = (otherL (bs ++ parB p n bs) L).getD j 0
  rw [g j (by omega), List.getD_eq_getElem?_getD (l := bs ++ _), List.getElem?_append_left (by omega), ← List.getD_eq_getElem?_getD]
end
end Law
namespace Law
open PySem L2 HC PyProof.Rows
def pnB : Nat → Dv → Bool
  | _, .non => true
  | _, .bl _ => true
  | _, .int _ => true
  | _, .str x => PyData.canLay0 (.str x)
  | n + 1, .tup xs => decide (xs.length ≤ 1000) && xs.all (pnB n)
  | n + 1, .rol xs => decide (xs.length ≤ 1000) && xs.all (pnB n)
  | _, _ => false
theorem pnB_ok : ∀ {n : Nat} {d : Dv}, pnB n d = true → Pn n d
  | 0, .non, _ => trivial
  | 0, .bl _, _ => trivial
  | 0, .int _, _ => trivial
  | 0, .str x, h => h
  | n + 1, .non, _ => trivial
  | n + 1, .bl _, _ => trivial
  | n + 1, .int _, _ => trivial
  | n + 1, .str x, h => h
  | n + 1, .tup xs, h => by
    simp only [pnB, Bool.and_eq_true, decide_eq_true_eq, List.all_eq_true] at h
    exact ⟨le_line (by omega), fun d hd => pnB_ok (h.2 d hd)⟩
  | n + 1, .rol xs, h => by
    simp only [pnB, Bool.and_eq_true, decide_eq_true_eq, List.all_eq_true] at h
    exact ⟨le_line (by omega), fun d hd => pnB_ok (h.2 d hd)⟩
theorem pn_tup {n : Nat} {xs : List Dv} (hl : xs.length ≤ 1000000) (h : ∀ d ∈ xs, Pn n d) : Pn (n + 1) (.tup xs) := ⟨le_line hl, h⟩
theorem pn_rol {n : Nat} {xs : List Dv} (hl : xs.length ≤ 1000000) (h : ∀ d ∈ xs, Pn n d) : Pn (n + 1) (.rol xs) := ⟨le_line hl, h⟩
theorem Pn.le {n : Nat} {d : Dv} (h : Pn n d) : ∀ k, Pn (n + k) d
  | 0 => h
  | k + 1 => Pn.up (Pn.le h k)
theorem pn_set {n : Nat} {xs : List Dv} {i : Nat} {d : Dv} (h : Pn (n + 1) (.tup xs)) (hd : Pn n d) : Pn (n + 1) (.tup (xs.set i d)) := ⟨by rw [List.length_set]; exact h.1, fun e he => by
  rcases List.mem_or_eq_of_mem_set he with q | q
  · exact h.2 e q
  · rw [q]; exact hd⟩
theorem nr_tup {xs : List Dv} (a : Addr) : Dv.tup xs ≠ .ref a := fun e => Dv.noConfusion e
theorem nr_rol {xs : List Dv} (a : Addr) : Dv.rol xs ≠ .ref a := fun e => Dv.noConfusion e
theorem nr_non (a : Addr) : Dv.non ≠ .ref a := fun e => Dv.noConfusion e
theorem nr_int {i : Int} (a : Addr) : Dv.int i ≠ .ref a := fun e => Dv.noConfusion e
theorem nr_str {i : Str} (a : Addr) : Dv.str i ≠ .ref a := fun e => Dv.noConfusion e
theorem nr_bl {i : Bool} (a : Addr) : Dv.bl i ≠ .ref a := fun e => Dv.noConfusion e
theorem le_k {n m : Nat} (h : Nat.ble n m = true) : n ≤ m := Nat.le_of_ble_eq_true h
structure BigOk (s : Store) : Prop where
  ok : s.Ok
  len : s.journal.length ≤ 10
  rows : 2 ≤ s.head.rows
  width : s.head.par + 2 ≤ s.head.width
  first : ∃ bs : List Blk, s.disks.getD 0 none = some (bs.map some) ∧ bs.length = s.head.rows ∧ ∀ b ∈ bs, BlkOk' b s.head.size
end Law
namespace Law
open PySem L2 HC PyProof.Rows
set_option maxHeartbeats 1000000
local macro_rules | `(tactic| infer_instance) => `(tactic| (first | exact True.intro | omega | assumption | decide | (dsimp only; omega) | exact lt_line (by omega) | exact le_line (by omega) | exact lt_line (by simp <;> omega) | exact le_line (by simp <;> omega) | exact ⟨by decide, by decide, by decide⟩ | exact ⟨by omega, by omega, by omega⟩ | exact List.cons_ne_nil _ _ | exact CMul_l (by omega) | exact CMul_r (by omega) | exact tyM_list (by (first | exact mup_same | assumption | (exact look_new (by assumption) (by assumption)) | (exact look_new (look_new (by assumption) (by assumption)) (by assumption)))) | (first | exact mup_same | assumption | (exact look_new (by assumption) (by assumption)) | (exact look_new (look_new (by assumption) (by assumption)) (by assumption))) | (simp only [List.length_cons, List.length_nil, List.length_map, List.length_replicate, List.length_append, rangeA_len] <;> omega)))
local macro_rules | `(tactic| decreasing_tactic) => `(tactic| ((conv => whnf); repeat (first | (refine And.intro (by infer_instance) ?_; (conv => whnf)) | (refine And.intro (by infer_instance) fun _ hr => fz_new hr ?_; (conv => whnf)) | (refine fun _ hr => fz_new hr ?_; (conv => whnf)) | (refine onIf_ndecF (by with_reducible rfl) ?_; (conv => whnf)) | (refine onIf_decT (by with_reducible rfl) ?_; (conv => whnf)) | (refine onIf_decT (by omega) ?_; (conv => whnf)) | (refine onIf_decF (by omega) ?_; (conv => whnf)) | (refine onIf_ndecT (by omega) ?_; (conv => whnf)) | (refine onIf_ndecF (by omega) ?_; (conv => whnf)) | (refine onIf_decT (congrArg Dv.int (by omega)) ?_; (conv => whnf)) | (refine onIf_decF (fun h => absurd (Dv.int.inj h) (by omega)) ?_; (conv => whnf)) | (refine onIf_ndecT (fun h => absurd (Dv.int.inj h) (by omega)) ?_; (conv => whnf)) | (refine onIf_ndecF (congrArg Dv.int (by omega)) ?_; (conv => whnf)) | (refine ⟨_, (by (first | exact kit_ii | exact kit_ib | exact kit_it | exact kit_is | exact kit_bi | exact kit_bb | exact kit_bt | exact kit_bs | exact kit_ti | exact kit_tb | exact kit_tt | exact kit_ts | exact kit_si | exact kit_sb | exact kit_st | exact kit_ss | exact kit_ni | exact kit_nb | exact kit_nt | exact kit_ns | exact kit_li | exact kit_lb | exact kit_lt | exact kit_ls)), ?_⟩; (conv => whnf)) | (refine onS_of (itemsA_l (by (first | exact mup_same | assumption | (exact look_new (by assumption) (by assumption)) | (exact look_new (look_new (by assumption) (by assumption)) (by assumption))))) ?_; (conv => whnf)) | (refine onS_of (lstA_l (by (first | exact mup_same | assumption | (exact look_new (by assumption) (by assumption)) | (exact look_new (look_new (by assumption) (by assumption)) (by assumption))))) ?_; (conv => whnf)) | (refine onS_of (lstC_l (by (first | exact mup_same | assumption | (exact look_new (by assumption) (by assumption)) | (exact look_new (look_new (by assumption) (by assumption)) (by assumption))))) ?_; (conv => whnf)) | (refine onS_of (lenA_l (by (first | exact mup_same | assumption | (exact look_new (by assumption) (by assumption)) | (exact look_new (look_new (by assumption) (by assumption)) (by assumption))))) ?_; (conv => whnf)))))
def top (i : Nat) : Stmt := PySem.Challenge.pw_lostdisk_k10_filled_by_the_first.main.body.getD i (.Pass ⟨0, 0, 0, 0⟩)
def xcs : List Str := [("TooFew" : Str)]
abbrev s_law_begin : Stmt := top 36
abbrev s_law_next : Stmt := top 37
abbrev s_law_block : Stmt := top 42
abbrev s_law_data : Stmt := top 44
abbrev s_law_field : Stmt := top 39
abbrev s_law_holed : Stmt := top 45
abbrev s_block_of : Stmt := top 11
abbrev s_known_places : Stmt := top 29
abbrev s_noughted : Stmt := top 30
abbrev s_byte_sum : Stmt := top 4
abbrev s_block_sum : Stmt := top 9
abbrev s_byte_times : Stmt := top 5
abbrev s_block_times : Stmt := top 10
abbrev s_byte_inverse : Stmt := top 7
abbrev s_byte_power : Stmt := top 6
abbrev s_sum_of : Stmt := top 27
abbrev s_parities_of : Stmt := top 28
abbrev s_one_told : Stmt := top 31
abbrev s_two_told : Stmt := top 32
abbrev s_data_told : Stmt := top 33
abbrev s_row_filled : Stmt := top 34
abbrev s_law_refused : Stmt := top 52
abbrev s_law_times : Stmt := top 40
abbrev s_law_row : Stmt := top 41
abbrev s_law_same : Stmt := top 46
abbrev s_law_many : Stmt := top 38
abbrev s_law_shape : Stmt := top 43
abbrev s_law_less : Stmt := top 48
abbrev s_law_line : Stmt := top 47
abbrev s_law_solved : Stmt := top 49
abbrev s_law_known : Stmt := top 50
abbrev s_law_spoilt : Stmt := top 51
abbrev s_law : Stmt := top 53
abbrev N_law_begin : List Str := [("_law_script" : Str)]
theorem sc_law_begin : FnScope [("_law_script" : Str)] [("_law_script" : Str)] (defScope s_law_begin) := ⟨rfl, rfl, rfl, by decide +kernel, rfl, by decide +kernel, by decide +kernel⟩
abbrev N_law_next : List Str := [("_law_draws" : Str), ("_law_many_here" : Str), ("_law_cell" : Str), ("_law_digit" : Str)]
theorem sc_law_next : FnScope [("_law_draws" : Str), ("_law_many_here" : Str), ("_law_cell" : Str), ("_law_digit" : Str)] [("_law_draws" : Str), ("_law_many_here" : Str)] (defScope s_law_next) := ⟨rfl, rfl, rfl, by decide +kernel, rfl, by decide +kernel, by decide +kernel⟩
abbrev N_law_block : List Str := [("_law_draws" : Str), ("_law_size" : Str), ("_law_way" : Str), ("_law_k" : Str)]
theorem sc_law_block : FnScope [("_law_draws" : Str), ("_law_size" : Str), ("_law_way" : Str), ("_law_k" : Str)] [("_law_draws" : Str), ("_law_size" : Str)] (defScope s_law_block) := ⟨rfl, rfl, rfl, by decide +kernel, rfl, by decide +kernel, by decide +kernel⟩
abbrev N_law_data : List Str := [("_law_draws" : Str), ("_law_many_here" : Str), ("_law_size" : Str), ("_law_k" : Str)]
theorem sc_law_data : FnScope [("_law_draws" : Str), ("_law_many_here" : Str), ("_law_size" : Str), ("_law_k" : Str)] [("_law_draws" : Str), ("_law_many_here" : Str), ("_law_size" : Str)] (defScope s_law_data) := ⟨rfl, rfl, rfl, by decide +kernel, rfl, by decide +kernel, by decide +kernel⟩
abbrev N_law_field : List Str := [("_law_powers" : Str), ("_law_whose" : Str), ("_law_byte" : Str), ("_law_k" : Str)]
theorem sc_law_field : FnScope [("_law_powers" : Str), ("_law_whose" : Str), ("_law_byte" : Str), ("_law_k" : Str)] [] (defScope s_law_field) := ⟨rfl, rfl, rfl, by decide +kernel, rfl, by decide +kernel, by decide +kernel⟩
abbrev N_law_holed : List Str := [("_law_draws" : Str), ("_law_row_here" : Str), ("_law_gone" : Str), ("_law_blocks" : Str), ("_law_left" : Str), ("_law_k" : Str)]
theorem sc_law_holed : FnScope [("_law_draws" : Str), ("_law_row_here" : Str), ("_law_gone" : Str), ("_law_blocks" : Str), ("_law_left" : Str), ("_law_k" : Str)] [("_law_draws" : Str), ("_law_row_here" : Str), ("_law_gone" : Str)] (defScope s_law_holed) := ⟨rfl, rfl, rfl, by decide +kernel, rfl, by decide +kernel, by decide +kernel⟩
abbrev N_block_of : List Str := [("many" : Str)]
theorem sc_block_of : FnScope [("many" : Str)] [("many" : Str)] (defScope s_block_of) := ⟨rfl, rfl, rfl, by decide +kernel, rfl, by decide +kernel, by decide +kernel⟩
abbrev N_known_places : List Str := [("blocks" : Str), ("place" : Str), ("block" : Str)]
theorem sc_known_places : FnScope [("blocks" : Str), ("place" : Str), ("block" : Str)] [("blocks" : Str)] (defScope s_known_places) := ⟨rfl, rfl, rfl, by decide +kernel, rfl, by decide +kernel, by decide +kernel⟩
abbrev N_noughted : List Str := [("data" : Str), ("size" : Str), ("block" : Str)]
theorem sc_noughted : FnScope [("data" : Str), ("size" : Str), ("block" : Str)] [("data" : Str)] (defScope s_noughted) := ⟨rfl, rfl, rfl, by decide +kernel, rfl, by decide +kernel, by decide +kernel⟩
abbrev N_byte_sum : List Str := [("a" : Str), ("b" : Str)]
theorem sc_byte_sum : FnScope [("a" : Str), ("b" : Str)] [("a" : Str), ("b" : Str)] (defScope s_byte_sum) := ⟨rfl, rfl, rfl, by decide +kernel, rfl, by decide +kernel, by decide +kernel⟩
abbrev N_block_sum : List Str := [("one" : Str), ("other" : Str), ("a" : Str), ("b" : Str)]
theorem sc_block_sum : FnScope [("one" : Str), ("other" : Str), ("a" : Str), ("b" : Str)] [("one" : Str), ("other" : Str)] (defScope s_block_sum) := ⟨rfl, rfl, rfl, by decide +kernel, rfl, by decide +kernel, by decide +kernel⟩
abbrev N_byte_times : List Str := [("a" : Str), ("b" : Str), ("product" : Str)]
theorem sc_byte_times : FnScope [("a" : Str), ("b" : Str), ("product" : Str)] [("a" : Str), ("b" : Str)] (defScope s_byte_times) := ⟨rfl, rfl, rfl, by decide +kernel, rfl, by decide +kernel, by decide +kernel⟩
abbrev N_block_times : List Str := [("a" : Str), ("block" : Str), ("b" : Str)]
theorem sc_block_times : FnScope [("a" : Str), ("block" : Str), ("b" : Str)] [("a" : Str), ("block" : Str)] (defScope s_block_times) := ⟨rfl, rfl, rfl, by decide +kernel, rfl, by decide +kernel, by decide +kernel⟩
abbrev N_byte_inverse : List Str := [("a" : Str), ("square" : Str), ("inverse" : Str), ("turn" : Str)]
theorem sc_byte_inverse : FnScope [("a" : Str), ("square" : Str), ("inverse" : Str), ("turn" : Str)] [("a" : Str)] (defScope s_byte_inverse) := ⟨rfl, rfl, rfl, by decide +kernel, rfl, by decide +kernel, by decide +kernel⟩
abbrev N_byte_power : List Str := [("k" : Str), ("power" : Str), ("turn" : Str)]
theorem sc_byte_power : FnScope [("k" : Str), ("power" : Str), ("turn" : Str)] [("k" : Str)] (defScope s_byte_power) := ⟨rfl, rfl, rfl, by decide +kernel, rfl, by decide +kernel, by decide +kernel⟩
abbrev N_sum_of : List Str := [("blocks" : Str), ("total" : Str), ("block" : Str)]
theorem sc_sum_of : FnScope [("blocks" : Str), ("total" : Str), ("block" : Str)] [("blocks" : Str)] (defScope s_sum_of) := ⟨rfl, rfl, rfl, by decide +kernel, rfl, by decide +kernel, by decide +kernel⟩
abbrev N_parities_of : List Str := [("data" : Str), ("parities" : Str), ("plain" : Str), ("place" : Str), ("block" : Str)]
theorem sc_parities_of : FnScope [("data" : Str), ("parities" : Str), ("plain" : Str), ("place" : Str), ("block" : Str)] [("data" : Str), ("parities" : Str)] (defScope s_parities_of) := ⟨rfl, rfl, rfl, by decide +kernel, rfl, by decide +kernel, by decide +kernel⟩
abbrev N_one_told : List Str := [("data" : Str), ("place" : Str), ("parity" : Str), ("which" : Str), ("lacking" : Str)]
theorem sc_one_told : FnScope [("data" : Str), ("place" : Str), ("parity" : Str), ("which" : Str), ("lacking" : Str)] [("data" : Str), ("place" : Str), ("parity" : Str), ("which" : Str)] (defScope s_one_told) := ⟨rfl, rfl, rfl, by decide +kernel, rfl, by decide +kernel, by decide +kernel⟩
abbrev N_two_told : List Str := [("data" : Str), ("place" : Str), ("other" : Str), ("both" : Str), ("plain" : Str), ("turned" : Str), ("first" : Str), ("second" : Str), ("lean" : Str), ("one" : Str)]
theorem sc_two_told : FnScope [("data" : Str), ("place" : Str), ("other" : Str), ("both" : Str), ("plain" : Str), ("turned" : Str), ("first" : Str), ("second" : Str), ("lean" : Str), ("one" : Str)] [("data" : Str), ("place" : Str), ("other" : Str), ("both" : Str)] (defScope s_two_told) := ⟨rfl, rfl, rfl, by decide +kernel, rfl, by decide +kernel, by decide +kernel⟩
abbrev N_data_told : List Str := [("blocks" : Str), ("parities" : Str), ("many" : Str), ("gone" : Str), ("told" : Str), ("data" : Str), ("place" : Str), ("block" : Str)]
theorem sc_data_told : FnScope [("blocks" : Str), ("parities" : Str), ("many" : Str), ("gone" : Str), ("told" : Str), ("data" : Str), ("place" : Str), ("block" : Str)] [("blocks" : Str), ("parities" : Str)] (defScope s_data_told) := ⟨rfl, rfl, rfl, by decide +kernel, rfl, by decide +kernel, by decide +kernel⟩
abbrev N_row_filled : List Str := [("blocks" : Str), ("parities" : Str), ("data" : Str)]
theorem sc_row_filled : FnScope [("blocks" : Str), ("parities" : Str), ("data" : Str)] [("blocks" : Str), ("parities" : Str)] (defScope s_row_filled) := ⟨rfl, rfl, rfl, by decide +kernel, rfl, by decide +kernel, by decide +kernel⟩
abbrev N_law_refused : List Str := [("_law_blocks" : Str), ("_law_parities" : Str), ("_law_caught" : Str), ("error" : Str)]
theorem sc_law_refused : FnScope [("_law_blocks" : Str), ("_law_parities" : Str), ("_law_caught" : Str), ("error" : Str)] [("_law_blocks" : Str), ("_law_parities" : Str)] (defScope s_law_refused) := ⟨rfl, rfl, rfl, by decide +kernel, rfl, by decide +kernel, by decide +kernel⟩
abbrev N_law_times : List Str := [("_law_field_here" : Str), ("_law_one" : Str), ("_law_other" : Str)]
theorem sc_law_times : FnScope [("_law_field_here" : Str), ("_law_one" : Str), ("_law_other" : Str)] [("_law_field_here" : Str), ("_law_one" : Str), ("_law_other" : Str)] (defScope s_law_times) := ⟨rfl, rfl, rfl, by decide +kernel, rfl, by decide +kernel, by decide +kernel⟩
abbrev N_law_row : List Str := [("_law_field_here" : Str), ("_law_data_here" : Str), ("_law_parities" : Str), ("_law_size" : Str), ("_law_plain" : Str), ("_law_turned" : Str), ("_law_place" : Str), ("_law_block_here" : Str), ("_law_k" : Str)]
theorem sc_law_row : FnScope [("_law_field_here" : Str), ("_law_data_here" : Str), ("_law_parities" : Str), ("_law_size" : Str), ("_law_plain" : Str), ("_law_turned" : Str), ("_law_place" : Str), ("_law_block_here" : Str), ("_law_k" : Str)] [("_law_field_here" : Str), ("_law_data_here" : Str), ("_law_parities" : Str)] (defScope s_law_row) := ⟨rfl, rfl, rfl, by decide +kernel, rfl, by decide +kernel, by decide +kernel⟩
abbrev N_law_same : List Str := [("_law_one" : Str), ("_law_due" : Str), ("_law_mine" : Str), ("_law_other" : Str)]
theorem sc_law_same : FnScope [("_law_one" : Str), ("_law_due" : Str), ("_law_mine" : Str), ("_law_other" : Str)] [("_law_one" : Str), ("_law_due" : Str)] (defScope s_law_same) := ⟨rfl, rfl, rfl, by decide +kernel, rfl, by decide +kernel, by decide +kernel⟩
abbrev N_law_many : List Str := [("_law_draws" : Str), ("_law_few" : Str), ("_law_most" : Str)]
theorem sc_law_many : FnScope [("_law_draws" : Str), ("_law_few" : Str), ("_law_most" : Str)] [("_law_draws" : Str), ("_law_few" : Str), ("_law_most" : Str)] (defScope s_law_many) := ⟨rfl, rfl, rfl, by decide +kernel, rfl, by decide +kernel, by decide +kernel⟩
abbrev N_law_shape : List Str := [("_law_draws" : Str), ("_law_parities" : Str)]
theorem sc_law_shape : FnScope [("_law_draws" : Str), ("_law_parities" : Str)] [("_law_draws" : Str)] (defScope s_law_shape) := ⟨rfl, rfl, rfl, by decide +kernel, rfl, by decide +kernel, by decide +kernel⟩
abbrev N_law_less : List Str := [("_law_field_here" : Str), ("_law_row_here" : Str), ("_law_other" : Str), ("_law_factor" : Str), ("_law_line_here" : Str), ("_law_one" : Str), ("_law_two" : Str)]
theorem sc_law_less : FnScope [("_law_field_here" : Str), ("_law_row_here" : Str), ("_law_other" : Str), ("_law_factor" : Str), ("_law_line_here" : Str), ("_law_one" : Str), ("_law_two" : Str)] [("_law_field_here" : Str), ("_law_row_here" : Str), ("_law_other" : Str), ("_law_factor" : Str)] (defScope s_law_less) := ⟨rfl, rfl, rfl, by decide +kernel, rfl, by decide +kernel, by decide +kernel⟩
abbrev N_law_line : List Str := [("_law_field_here" : Str), ("_law_many_here" : Str), ("_law_place" : Str), ("_law_k" : Str)]
theorem sc_law_line : FnScope [("_law_field_here" : Str), ("_law_many_here" : Str), ("_law_place" : Str), ("_law_k" : Str)] [("_law_field_here" : Str), ("_law_many_here" : Str), ("_law_place" : Str)] (defScope s_law_line) := ⟨rfl, rfl, rfl, by decide +kernel, rfl, by decide +kernel, by decide +kernel⟩
abbrev N_law_solved : List Str := [("_law_field_here" : Str), ("_law_blocks" : Str), ("_law_parities" : Str), ("_law_many_here" : Str), ("_law_places" : Str), ("_law_rows" : Str), ("_law_k" : Str), ("_law_at" : Str), ("_law_back" : Str), ("_law_j" : Str), ("_law_place" : Str), ("_law_block_here" : Str), ("_law_part" : Str), ("_law_byte" : Str), ("_law_row_here" : Str)]
theorem sc_law_solved : FnScope [("_law_field_here" : Str), ("_law_blocks" : Str), ("_law_parities" : Str), ("_law_many_here" : Str), ("_law_places" : Str), ("_law_rows" : Str), ("_law_k" : Str), ("_law_at" : Str), ("_law_back" : Str), ("_law_j" : Str), ("_law_place" : Str), ("_law_block_here" : Str), ("_law_part" : Str), ("_law_byte" : Str), ("_law_row_here" : Str)] [("_law_field_here" : Str), ("_law_blocks" : Str), ("_law_parities" : Str)] (defScope s_law_solved) := ⟨rfl, rfl, rfl, by decide +kernel, rfl, by decide +kernel, by decide +kernel⟩
abbrev N_law_known : List Str := [("_law_blocks" : Str), ("_law_place" : Str), ("_law_block_here" : Str)]
theorem sc_law_known : FnScope [("_law_blocks" : Str), ("_law_place" : Str), ("_law_block_here" : Str)] [("_law_blocks" : Str)] (defScope s_law_known) := ⟨rfl, rfl, rfl, by decide +kernel, rfl, by decide +kernel, by decide +kernel⟩
abbrev N_law_spoilt : List Str := [("_law_draws" : Str), ("_law_row_here" : Str), ("_law_many_here" : Str), ("_law_blocks" : Str), ("_law_left" : Str), ("_law_k" : Str), ("_law_place" : Str), ("_law_block_here" : Str), ("_law_at" : Str), ("_law_more" : Str), ("_law_byte" : Str)]
theorem sc_law_spoilt : FnScope [("_law_draws" : Str), ("_law_row_here" : Str), ("_law_many_here" : Str), ("_law_blocks" : Str), ("_law_left" : Str), ("_law_k" : Str), ("_law_place" : Str), ("_law_block_here" : Str), ("_law_at" : Str), ("_law_more" : Str), ("_law_byte" : Str)] [("_law_draws" : Str), ("_law_row_here" : Str), ("_law_many_here" : Str)] (defScope s_law_spoilt) := ⟨rfl, rfl, rfl, by decide +kernel, rfl, by decide +kernel, by decide +kernel⟩
abbrev N_law : List Str := [("_law_script" : Str), ("_law_draws" : Str), ("_law_field_here" : Str), ("_law_turn" : Str), ("_law_parities" : Str), ("_law_many_here" : Str), ("_law_size" : Str), ("_law_row_here" : Str), ("_law_gone" : Str), ("_law_blocks" : Str)]
theorem sc_law : FnScope [("_law_script" : Str), ("_law_draws" : Str), ("_law_field_here" : Str), ("_law_turn" : Str), ("_law_parities" : Str), ("_law_many_here" : Str), ("_law_size" : Str), ("_law_row_here" : Str), ("_law_gone" : Str), ("_law_blocks" : Str)] [("_law_script" : Str)] (defScope s_law) := ⟨rfl, rfl, rfl, by decide +kernel, rfl, by decide +kernel, by decide +kernel⟩
def innerOf (s : Stmt) (j : Nat) : Stmt := match s with | .ClassDef _ _ _ b _ _ _ _ _ _ _ => b.getD j (.Pass ⟨0, 0, 0, 0⟩) | _ => s
set_option maxHeartbeats 0 in
structure Tx (K : PySem.W.Frag) (mg : Str → Option Value) where
  n_ValueError : mg ("ValueError" : Str) = none
  n_all : mg ("all" : Str) = none
  n_bool : mg ("bool" : Str) = none
  n_enumerate : mg ("enumerate" : Str) = none
  n_int : mg ("int" : Str) = none
  n_isinstance : mg ("isinstance" : Str) = none
  n_len : mg ("len" : Str) = none
  n_list : mg ("list" : Str) = none
  n_max : mg ("max" : Str) = none
  n_min : mg ("min" : Str) = none
  n_range : mg ("range" : Str) = none
  n_str : mg ("str" : Str) = none
  n_tuple : mg ("tuple" : Str) = none
  n_zip : mg ("zip" : Str) = none
  c_MODULUS : ∃ t, mg ("MODULUS" : Str) = some (.int 285 t)
  c_ROUND : ∃ t, mg ("ROUND" : Str) = some (.int 255 t)
  c_TOP : ∃ t, mg ("TOP" : Str) = some (.int 256 t)
  f_law_begin : Addr
  d_law_begin : FuncData
  F_law_begin : Fun K ("_law_begin" : Str) ("_law_begin" : Str) s_law_begin f_law_begin d_law_begin
  m_law_begin : mg ("_law_begin" : Str) = some (.ref f_law_begin)
  b_law_begin : Binds K d_law_begin [("_law_script" : Str)] []
  f_law_next : Addr
  d_law_next : FuncData
  F_law_next : Fun K ("_law_next" : Str) ("_law_next" : Str) s_law_next f_law_next d_law_next
  m_law_next : mg ("_law_next" : Str) = some (.ref f_law_next)
  b_law_next : Binds K d_law_next [("_law_draws" : Str), ("_law_many_here" : Str)] []
  f_law_block : Addr
  d_law_block : FuncData
  F_law_block : Fun K ("_law_block" : Str) ("_law_block" : Str) s_law_block f_law_block d_law_block
  m_law_block : mg ("_law_block" : Str) = some (.ref f_law_block)
  b_law_block : Binds K d_law_block [("_law_draws" : Str), ("_law_size" : Str)] []
  f_law_data : Addr
  d_law_data : FuncData
  F_law_data : Fun K ("_law_data" : Str) ("_law_data" : Str) s_law_data f_law_data d_law_data
  m_law_data : mg ("_law_data" : Str) = some (.ref f_law_data)
  b_law_data : Binds K d_law_data [("_law_draws" : Str), ("_law_many_here" : Str), ("_law_size" : Str)] []
  f_law_field : Addr
  d_law_field : FuncData
  F_law_field : Fun K ("_law_field" : Str) ("_law_field" : Str) s_law_field f_law_field d_law_field
  m_law_field : mg ("_law_field" : Str) = some (.ref f_law_field)
  b_law_field : Binds K d_law_field [] []
  f_law_holed : Addr
  d_law_holed : FuncData
  F_law_holed : Fun K ("_law_holed" : Str) ("_law_holed" : Str) s_law_holed f_law_holed d_law_holed
  m_law_holed : mg ("_law_holed" : Str) = some (.ref f_law_holed)
  b_law_holed : Binds K d_law_holed [("_law_draws" : Str), ("_law_row_here" : Str), ("_law_gone" : Str)] []
  f_block_of : Addr
  d_block_of : FuncData
  F_block_of : Fun K ("block_of" : Str) ("block_of" : Str) s_block_of f_block_of d_block_of
  m_block_of : mg ("block_of" : Str) = some (.ref f_block_of)
  b_block_of : Binds K d_block_of [("many" : Str)] []
  f_known_places : Addr
  d_known_places : FuncData
  F_known_places : Fun K ("known_places" : Str) ("known_places" : Str) s_known_places f_known_places d_known_places
  m_known_places : mg ("known_places" : Str) = some (.ref f_known_places)
  b_known_places : Binds K d_known_places [("blocks" : Str)] []
  f_noughted : Addr
  d_noughted : FuncData
  F_noughted : Fun K ("noughted" : Str) ("noughted" : Str) s_noughted f_noughted d_noughted
  m_noughted : mg ("noughted" : Str) = some (.ref f_noughted)
  b_noughted : Binds K d_noughted [("data" : Str)] []
  f_byte_sum : Addr
  d_byte_sum : FuncData
  F_byte_sum : Fun K ("byte_sum" : Str) ("byte_sum" : Str) s_byte_sum f_byte_sum d_byte_sum
  m_byte_sum : mg ("byte_sum" : Str) = some (.ref f_byte_sum)
  b_byte_sum : Binds K d_byte_sum [("a" : Str), ("b" : Str)] []
  f_block_sum : Addr
  d_block_sum : FuncData
  F_block_sum : Fun K ("block_sum" : Str) ("block_sum" : Str) s_block_sum f_block_sum d_block_sum
  m_block_sum : mg ("block_sum" : Str) = some (.ref f_block_sum)
  b_block_sum : Binds K d_block_sum [("one" : Str), ("other" : Str)] []
  f_byte_times : Addr
  d_byte_times : FuncData
  F_byte_times : Fun K ("byte_times" : Str) ("byte_times" : Str) s_byte_times f_byte_times d_byte_times
  m_byte_times : mg ("byte_times" : Str) = some (.ref f_byte_times)
  b_byte_times : Binds K d_byte_times [("a" : Str), ("b" : Str)] []
  f_block_times : Addr
  d_block_times : FuncData
  F_block_times : Fun K ("block_times" : Str) ("block_times" : Str) s_block_times f_block_times d_block_times
  m_block_times : mg ("block_times" : Str) = some (.ref f_block_times)
  b_block_times : Binds K d_block_times [("a" : Str), ("block" : Str)] []
  f_byte_inverse : Addr
  d_byte_inverse : FuncData
  F_byte_inverse : Fun K ("byte_inverse" : Str) ("byte_inverse" : Str) s_byte_inverse f_byte_inverse d_byte_inverse
  m_byte_inverse : mg ("byte_inverse" : Str) = some (.ref f_byte_inverse)
  b_byte_inverse : Binds K d_byte_inverse [("a" : Str)] []
  f_byte_power : Addr
  d_byte_power : FuncData
  F_byte_power : Fun K ("byte_power" : Str) ("byte_power" : Str) s_byte_power f_byte_power d_byte_power
  m_byte_power : mg ("byte_power" : Str) = some (.ref f_byte_power)
  b_byte_power : Binds K d_byte_power [("k" : Str)] []
  f_sum_of : Addr
  d_sum_of : FuncData
  F_sum_of : Fun K ("sum_of" : Str) ("sum_of" : Str) s_sum_of f_sum_of d_sum_of
  m_sum_of : mg ("sum_of" : Str) = some (.ref f_sum_of)
  b_sum_of : Binds K d_sum_of [("blocks" : Str)] []
  f_parities_of : Addr
  d_parities_of : FuncData
  F_parities_of : Fun K ("parities_of" : Str) ("parities_of" : Str) s_parities_of f_parities_of d_parities_of
  m_parities_of : mg ("parities_of" : Str) = some (.ref f_parities_of)
  b_parities_of : Binds K d_parities_of [("data" : Str), ("parities" : Str)] []
  f_one_told : Addr
  d_one_told : FuncData
  F_one_told : Fun K ("one_told" : Str) ("one_told" : Str) s_one_told f_one_told d_one_told
  m_one_told : mg ("one_told" : Str) = some (.ref f_one_told)
  b_one_told : Binds K d_one_told [("data" : Str), ("place" : Str), ("parity" : Str), ("which" : Str)] []
  f_two_told : Addr
  d_two_told : FuncData
  F_two_told : Fun K ("two_told" : Str) ("two_told" : Str) s_two_told f_two_told d_two_told
  m_two_told : mg ("two_told" : Str) = some (.ref f_two_told)
  b_two_told : Binds K d_two_told [("data" : Str), ("place" : Str), ("other" : Str), ("both" : Str)] []
  f_data_told : Addr
  d_data_told : FuncData
  F_data_told : Fun K ("data_told" : Str) ("data_told" : Str) s_data_told f_data_told d_data_told
  m_data_told : mg ("data_told" : Str) = some (.ref f_data_told)
  b_data_told : Binds K d_data_told [("blocks" : Str), ("parities" : Str)] []
  f_row_filled : Addr
  d_row_filled : FuncData
  F_row_filled : Fun K ("row_filled" : Str) ("row_filled" : Str) s_row_filled f_row_filled d_row_filled
  m_row_filled : mg ("row_filled" : Str) = some (.ref f_row_filled)
  b_row_filled : Binds K d_row_filled [("blocks" : Str), ("parities" : Str)] []
  f_law_refused : Addr
  d_law_refused : FuncData
  F_law_refused : Fun K ("_law_refused" : Str) ("_law_refused" : Str) s_law_refused f_law_refused d_law_refused
  m_law_refused : mg ("_law_refused" : Str) = some (.ref f_law_refused)
  b_law_refused : Binds K d_law_refused [("_law_blocks" : Str), ("_law_parities" : Str)] []
  f_law_times : Addr
  d_law_times : FuncData
  F_law_times : Fun K ("_law_times" : Str) ("_law_times" : Str) s_law_times f_law_times d_law_times
  m_law_times : mg ("_law_times" : Str) = some (.ref f_law_times)
  b_law_times : Binds K d_law_times [("_law_field_here" : Str), ("_law_one" : Str), ("_law_other" : Str)] []
  f_law_row : Addr
  d_law_row : FuncData
  F_law_row : Fun K ("_law_row" : Str) ("_law_row" : Str) s_law_row f_law_row d_law_row
  m_law_row : mg ("_law_row" : Str) = some (.ref f_law_row)
  b_law_row : Binds K d_law_row [("_law_field_here" : Str), ("_law_data_here" : Str), ("_law_parities" : Str)] []
  f_law_same : Addr
  d_law_same : FuncData
  F_law_same : Fun K ("_law_same" : Str) ("_law_same" : Str) s_law_same f_law_same d_law_same
  m_law_same : mg ("_law_same" : Str) = some (.ref f_law_same)
  b_law_same : Binds K d_law_same [("_law_one" : Str), ("_law_due" : Str)] []
  f_law_many : Addr
  d_law_many : FuncData
  F_law_many : Fun K ("_law_many" : Str) ("_law_many" : Str) s_law_many f_law_many d_law_many
  m_law_many : mg ("_law_many" : Str) = some (.ref f_law_many)
  b_law_many : Binds K d_law_many [("_law_draws" : Str), ("_law_few" : Str), ("_law_most" : Str)] []
  f_law_shape : Addr
  d_law_shape : FuncData
  F_law_shape : Fun K ("_law_shape" : Str) ("_law_shape" : Str) s_law_shape f_law_shape d_law_shape
  m_law_shape : mg ("_law_shape" : Str) = some (.ref f_law_shape)
  b_law_shape : Binds K d_law_shape [("_law_draws" : Str)] []
  f_law_less : Addr
  d_law_less : FuncData
  F_law_less : Fun K ("_law_less" : Str) ("_law_less" : Str) s_law_less f_law_less d_law_less
  m_law_less : mg ("_law_less" : Str) = some (.ref f_law_less)
  b_law_less : Binds K d_law_less [("_law_field_here" : Str), ("_law_row_here" : Str), ("_law_other" : Str), ("_law_factor" : Str)] []
  f_law_line : Addr
  d_law_line : FuncData
  F_law_line : Fun K ("_law_line" : Str) ("_law_line" : Str) s_law_line f_law_line d_law_line
  m_law_line : mg ("_law_line" : Str) = some (.ref f_law_line)
  b_law_line : Binds K d_law_line [("_law_field_here" : Str), ("_law_many_here" : Str), ("_law_place" : Str)] []
  f_law_solved : Addr
  d_law_solved : FuncData
  F_law_solved : Fun K ("_law_solved" : Str) ("_law_solved" : Str) s_law_solved f_law_solved d_law_solved
  m_law_solved : mg ("_law_solved" : Str) = some (.ref f_law_solved)
  b_law_solved : Binds K d_law_solved [("_law_field_here" : Str), ("_law_blocks" : Str), ("_law_parities" : Str)] []
  f_law_known : Addr
  d_law_known : FuncData
  F_law_known : Fun K ("_law_known" : Str) ("_law_known" : Str) s_law_known f_law_known d_law_known
  m_law_known : mg ("_law_known" : Str) = some (.ref f_law_known)
  b_law_known : Binds K d_law_known [("_law_blocks" : Str)] []
  f_law_spoilt : Addr
  d_law_spoilt : FuncData
  F_law_spoilt : Fun K ("_law_spoilt" : Str) ("_law_spoilt" : Str) s_law_spoilt f_law_spoilt d_law_spoilt
  m_law_spoilt : mg ("_law_spoilt" : Str) = some (.ref f_law_spoilt)
  b_law_spoilt : Binds K d_law_spoilt [("_law_draws" : Str), ("_law_row_here" : Str), ("_law_many_here" : Str)] []
  f_law : Addr
  d_law : FuncData
  F_law : Fun K ("law" : Str) ("law" : Str) s_law f_law d_law
  m_law : mg ("law" : Str) = some (.ref f_law)
  b_law : Binds K d_law [("_law_script" : Str)] []
  ca_TooFew : Addr
  na_TooFew : PySem.W.nsIn K mainGlobals ("TooFew" : Str) = some (some (.ref ca_TooFew))
  ga_TooFew : mg ("TooFew" : Str) = some (.ref ca_TooFew)
  ca_Gone : Addr
  na_Gone : PySem.W.nsIn K mainGlobals ("Gone" : Str) = some (some (.ref ca_Gone))
  ga_Gone : mg ("Gone" : Str) = some (.ref ca_Gone)
  ca_Growing : Addr
  na_Growing : PySem.W.nsIn K mainGlobals ("Growing" : Str) = some (some (.ref ca_Growing))
  ga_Growing : mg ("Growing" : Str) = some (.ref ca_Growing)
  ca_Halfway : Addr
  na_Halfway : PySem.W.nsIn K mainGlobals ("Halfway" : Str) = some (some (.ref ca_Halfway))
  ga_Halfway : mg ("Halfway" : Str) = some (.ref ca_Halfway)
  ca_Lost : Addr
  na_Lost : PySem.W.nsIn K mainGlobals ("Lost" : Str) = some (some (.ref ca_Lost))
  ga_Lost : mg ("Lost" : Str) = some (.ref ca_Lost)
  ca_NoPlace : Addr
  na_NoPlace : PySem.W.nsIn K mainGlobals ("NoPlace" : Str) = some (some (.ref ca_NoPlace))
  ga_NoPlace : mg ("NoPlace" : Str) = some (.ref ca_NoPlace)
  ca_NoSpare : Addr
  na_NoSpare : PySem.W.nsIn K mainGlobals ("NoSpare" : Str) = some (some (.ref ca_NoSpare))
  ga_NoSpare : mg ("NoSpare" : Str) = some (.ref ca_NoSpare)
  ca_NoStore : Addr
  na_NoStore : PySem.W.nsIn K mainGlobals ("NoStore" : Str) = some (some (.ref ca_NoStore))
  ga_NoStore : mg ("NoStore" : Str) = some (.ref ca_NoStore)
  ca_NoText : Addr
  na_NoText : PySem.W.nsIn K mainGlobals ("NoText" : Str) = some (some (.ref ca_NoText))
  ga_NoText : mg ("NoText" : Str) = some (.ref ca_NoText)
  ca_NotGrowing : Addr
  na_NotGrowing : PySem.W.nsIn K mainGlobals ("NotGrowing" : Str) = some (some (.ref ca_NotGrowing))
  ga_NotGrowing : mg ("NotGrowing" : Str) = some (.ref ca_NotGrowing)
  ca_There : Addr
  na_There : PySem.W.nsIn K mainGlobals ("There" : Str) = some (some (.ref ca_There))
  ga_There : mg ("There" : Str) = some (.ref ca_There)
  ca_Untold : Addr
  na_Untold : PySem.W.nsIn K mainGlobals ("Untold" : Str) = some (some (.ref ca_Untold))
  ga_Untold : mg ("Untold" : Str) = some (.ref ca_Untold)
  ca_DiskError : Addr
  na_DiskError : PySem.W.nsIn K mainGlobals ("DiskError" : Str) = some (some (.ref ca_DiskError))
  ga_DiskError : mg ("DiskError" : Str) = some (.ref ca_DiskError)
  xc_TooFew : XcT K mg ("TooFew" : Str)
  xk_TooFew : XcK K ca_TooFew
  k_TooFew_Gone : PySem.W.kitOne K (.ref ca_TooFew) (.ref ca_Gone) = some false
  k_TooFew_Growing : PySem.W.kitOne K (.ref ca_TooFew) (.ref ca_Growing) = some false
  k_TooFew_Halfway : PySem.W.kitOne K (.ref ca_TooFew) (.ref ca_Halfway) = some false
  k_TooFew_Lost : PySem.W.kitOne K (.ref ca_TooFew) (.ref ca_Lost) = some false
  k_TooFew_NoPlace : PySem.W.kitOne K (.ref ca_TooFew) (.ref ca_NoPlace) = some false
  k_TooFew_NoSpare : PySem.W.kitOne K (.ref ca_TooFew) (.ref ca_NoSpare) = some false
  k_TooFew_NoStore : PySem.W.kitOne K (.ref ca_TooFew) (.ref ca_NoStore) = some false
  k_TooFew_NoText : PySem.W.kitOne K (.ref ca_TooFew) (.ref ca_NoText) = some false
  k_TooFew_NotGrowing : PySem.W.kitOne K (.ref ca_TooFew) (.ref ca_NotGrowing) = some false
  k_TooFew_There : PySem.W.kitOne K (.ref ca_TooFew) (.ref ca_There) = some false
  k_TooFew_TooFew : PySem.W.kitOne K (.ref ca_TooFew) (.ref ca_TooFew) = some true
  k_TooFew_Untold : PySem.W.kitOne K (.ref ca_TooFew) (.ref ca_Untold) = some false
  k_TooFew_ValueError : PySem.W.kitOne K (.ref ca_TooFew) (.type "ValueError") = some true
  e_TooFew_DiskError : PySem.W.exmOne K (.ref ca_TooFew) (.ref ca_DiskError) = some true
variable {P : Program} {w : World} {K : PySem.W.Frag} {mg : Str → Option Value} {base : Heap}
def sp_law_begin : ASp := fun ds M Q => ∃ ns : List Int, ds = [.rol (ns.map Dv.int)] ∧ ns.length ≤ 63 ∧ ∀ p q M', DPot p q M' → Sub M M' → Q (.ref p) M'
def t_law_begin : RS := (aRet (aDisp (((aC (.str ("cells" : Str))), (aFz (aFn acLst (aCons (aFz (aSl (aVar 0) aoN (aoS (aC (.int 63))))) aNil)))) :: (((aC (.str ("at" : Str))), (aC (.int 0))) :: (((aC (.str ("left" : Str))), (aC (.int 0))) :: (((aC (.str ("seed" : Str))), (aC (.int 1000003))) :: []))))))
theorem len_law_begin : ∀ ds M Q, sp_law_begin ds M Q → ds.length = 1 := by
  rintro ds M Q ⟨ns, rfl, _⟩
  rfl
theorem spec_law_begin : ∀ ds M Q, sp_law_begin ds M Q → t_law_begin (retD Q) (startA 1 ds) M := by
  rintro ds M Q ⟨ns, rfl, hl, k⟩
  have ec : cutA (ns.map Dv.int) none (some 63) = (ns.take 63).map Dv.int := by
    unfold cutA
    have e : HT.sIx (ns.map Dv.int).length (ns.map Dv.int).length (some 63) = min 63 ns.length := by
      have := HT.sIx_nat (ns.map Dv.int).length (ns.map Dv.int).length 63
      rw [List.length_map] at this ⊢
      exact this
    rw [e]
    show ((ns.map Dv.int).drop 0).take (min 63 ns.length - 0) = _
    rw [List.drop_zero, Nat.sub_zero, ← List.map_take]
    congr 1
    rw [List.take_eq_take_min (l := ns) (i := 63)]
  decreasing_tactic
  intro p hp
  decreasing_tactic
  rw [ec, mup_mup]
  exact ⟨_, Sub.refl _, k p p _ ⟨rfl, ns.take 63, 0, 0, 1000003, mup_same, by decide, by decide, by decide, by decide⟩ (Sub.new hp)⟩
theorem ok_law_begin (T : Tx K mg) : FnA P w K mg base 1 T.f_law_begin T.d_law_begin [("_law_script" : Str)] sp_law_begin :=
  fnA T.F_law_begin sc_law_begin len_law_begin (fun cdv A outer s H E hr => by
    have hu1 := hu_of hr
    have hu64 := hr.units
    exact (ass_one (as_ret (ae_disp (app_cons ae_str (ae_fz (ae_callTy call_list_of abc_lst (aa_cons (ae_fz (ae_slice (av 0) ao_none (ao_some ae_int))) aa_nil) T.n_list boot_list)) (app_cons ae_str ae_int (app_cons ae_str ae_int (app_cons ae_str ae_int app_nil)))) rfl rfl (fun z => by cases z) (by decide))))) spec_law_begin
def sp_law_next : ASp := fun ds M Q => ∃ p q, ∃ m : Int, ds = [.ref p, .int m] ∧ DPot p q M ∧ 0 < m ∧ m < 1000000000000000000000000 ∧
  ∀ (v : Nat) M', DPot p q M' → But p q M M' → (v : Int) < m → Q (dn v) M'
def tk_law_next_3 : RS := (aRet (aOp aMod (aOp aDiv (aOp aMod (aOp aMul (aOp aIx (aVar 0) (aC (.str ("seed" : Str)))) (aOp aIx (aVar 0) (aC (.str ("seed" : Str))))) (aC (.int 2305843009213693921))) (aC (.int 65537))) (aVar 1)))
def tk_law_next_2 : RS := aSeq (aAsg (aOp aMod (aOp aAdd (aOp aMul (aOp aIx (aVar 0) (aC (.str ("seed" : Str)))) (aC (.int 1181783497276652981))) (aC (.int 12345678910987))) (aC (.int 2305843009213693951))) (agSub (aVar 0) (aC (.str ("seed" : Str))) asSet)) (tk_law_next_3)
def tk_law_next_1 : RS := aSeq (aIfS (aB (aOp aGt (aOp aIx (aVar 0) (aC (.str ("left" : Str)))) (aC (.int 0)))) (aSeq (aAsg (aOp aMod (aOp aIx (aVar 0) (aC (.str ("left" : Str)))) (aVar 1)) (agName 3))
    (aSeq (aAsg (aOp aDiv (aOp aIx (aVar 0) (aC (.str ("left" : Str)))) (aVar 1)) (agSub (aVar 0) (aC (.str ("left" : Str))) asSet))
    (aRet (aVar 3)))) aNext) (tk_law_next_2)
def t_law_next : RS := aSeq (aIfS (aAnd (aB (aOp aEq (aOp aIx (aVar 0) (aC (.str ("left" : Str)))) (aC (.int 0)))) (aB (aOp aLt (aOp aIx (aVar 0) (aC (.str ("at" : Str)))) (aFn acLen (aCons (aOp aIx (aVar 0) (aC (.str ("cells" : Str)))) aNil))))) (aSeq (aAsg (aOp aIx (aOp aIx (aVar 0) (aC (.str ("cells" : Str)))) (aOp aIx (aVar 0) (aC (.str ("at" : Str))))) (agName 2))
    (aSeq (aAsg (aOp aAdd (aOp aIx (aVar 0) (aC (.str ("at" : Str)))) (aC (.int 1))) (agSub (aVar 0) (aC (.str ("at" : Str))) asSet))
    (aSeq (aAsg (aOp aMod (aOp aAdd (aOp aAdd (aOp aMul (aOp aIx (aVar 0) (aC (.str ("seed" : Str)))) (aC (.int 7368787))) (aOp aMod (aVar 2) (aOp aPow (aC (.int 10)) (aC (.int 30))))) (aC (.int 11))) (aC (.int 2305843009213693951))) (agSub (aVar 0) (aC (.str ("seed" : Str))) asSet))
    (aAsg (aOp aMul (aVar 2) (aFn acInt (aCons (aOp aGe (aVar 2) (aOp aPow (aC (.int 10)) (aC (.int 18)))) aNil))) (agSub (aVar 0) (aC (.str ("left" : Str))) asSet))))) aNext) (tk_law_next_1)
theorem len_law_next : ∀ ds M Q, sp_law_next ds M Q → ds.length = 2 := by
  rintro ds M Q ⟨p, q, m, rfl, _⟩
  rfl
theorem spec_law_next : ∀ ds M Q, sp_law_next ds M Q → t_law_next (retD Q) (startA 4 ds) M := by
  rintro ds M Q ⟨p, q, m, rfl, hd0, m0, m1, k0⟩
  have k : ∀ v M', DPot p q M' → But p q M M' → 0 ≤ v → v < m → Q (.int v) M' := fun v M' h1 h2 h3 h4 => by
    obtain ⟨n, rfl⟩ := Int.eq_ofNat_of_zero_le h3
    exact k0 n M' h1 h2 h4
  have tail : ∀ M1 x2, DPot p q M1 → But p q M M1 → tk_law_next_1 (retD Q) [some (.ref p), some (.int m), x2, none] M1 := by
    rintro M1 x2 ⟨e, cells, a, l, s, hp, a0, l0, s0, s1⟩ hb
    ((repeat ((conv => whnf); simp only [lenA_r, itemsA_r, lstA_r, lstC_s, Option.map_some, atI_0, ixN_0, mup_same, mup_mup, true_and, and_true, List.map_cons, List.map_nil, List.length_cons, List.length_map, List.length_nil, List.set_cons_zero, List.set_cons_succ, List.cons_append, List.nil_append, List.getElem?_cons_zero, List.getElem?_cons_succ, hp, potQ])); (conv => whnf))
    by_cases hz : 0 < l
    · refine onIf_decT hz ?_
      ((repeat ((conv => whnf); simp only [lenA_r, itemsA_r, lstA_r, lstC_s, Option.map_some, atI_0, ixN_0, mup_same, mup_mup, true_and, and_true, List.map_cons, List.map_nil, List.length_cons, List.length_map, List.length_nil, List.set_cons_zero, List.set_cons_succ, List.cons_append, List.nil_append, List.getElem?_cons_zero, List.getElem?_cons_succ, hp, potQ])); (conv => whnf))
      refine ⟨m0, ?_⟩
      ((repeat ((conv => whnf); simp only [lenA_r, itemsA_r, lstA_r, lstC_s, Option.map_some, atI_0, ixN_0, mup_same, mup_mup, true_and, and_true, List.map_cons, List.map_nil, List.length_cons, List.length_map, List.length_nil, List.set_cons_zero, List.set_cons_succ, List.cons_append, List.nil_append, List.getElem?_cons_zero, List.getElem?_cons_succ, hp, potQ])); (conv => whnf))
      refine ⟨⟨m0, m1⟩, ?_⟩
      ((repeat ((conv => whnf); simp only [lenA_r, itemsA_r, lstA_r, lstC_s, Option.map_some, atI_0, ixN_0, mup_same, mup_mup, true_and, and_true, List.map_cons, List.map_nil, List.length_cons, List.length_map, List.length_nil, List.set_cons_zero, List.set_cons_succ, List.cons_append, List.nil_append, List.getElem?_cons_zero, List.getElem?_cons_succ, hp, potQ])); (conv => whnf))
      refine ⟨(by first | decide | omega | (dsimp only; decide) | (dsimp only; omega)), ?_⟩
      rw [put_left]
      exact retSub (Sub.refl _) (k _ _ (DPot.set e a0 (Int.ediv_nonneg l0 (by omega)) s0 s1) hb.p (Int.emod_nonneg _ (by omega)) (Int.emod_lt_of_pos _ m0))
    · refine onIf_decF hz ?_
      ((repeat ((conv => whnf); simp only [lenA_r, itemsA_r, lstA_r, lstC_s, Option.map_some, atI_0, ixN_0, mup_same, mup_mup, true_and, and_true, List.map_cons, List.map_nil, List.length_cons, List.length_map, List.length_nil, List.set_cons_zero, List.set_cons_succ, List.cons_append, List.nil_append, List.getElem?_cons_zero, List.getElem?_cons_succ, hp, potQ])); (conv => whnf))
      refine ⟨(by infer_instance), ?_⟩
      decreasing_tactic
      ((repeat ((conv => whnf); simp only [lenA_r, itemsA_r, lstA_r, lstC_s, Option.map_some, atI_0, ixN_0, mup_same, mup_mup, true_and, and_true, List.map_cons, List.map_nil, List.length_cons, List.length_map, List.length_nil, List.set_cons_zero, List.set_cons_succ, List.cons_append, List.nil_append, List.getElem?_cons_zero, List.getElem?_cons_succ, hp, potQ])); (conv => whnf))
      refine ⟨show 4 < sizeLine by decide, ?_⟩
      rw [put_seed]
      have y0 : 0 ≤ (s * 1181783497276652981 + 12345678910987) % 2305843009213693951 := Int.emod_nonneg _ (by decide)
      have y1 : (s * 1181783497276652981 + 12345678910987) % 2305843009213693951 < 2305843009213693951 := Int.emod_lt_of_pos _ (by decide)
      generalize (s * 1181783497276652981 + 12345678910987) % 2305843009213693951 = y at y0 y1 ⊢
      ((repeat ((conv => whnf); simp only [lenA_r, itemsA_r, lstA_r, lstC_s, Option.map_some, atI_0, ixN_0, mup_same, mup_mup, true_and, and_true, List.map_cons, List.map_nil, List.length_cons, List.length_map, List.length_nil, List.set_cons_zero, List.set_cons_succ, List.cons_append, List.nil_append, List.getElem?_cons_zero, List.getElem?_cons_succ])); (conv => whnf))
      refine ⟨(by infer_instance), ?_⟩
      decreasing_tactic
      exact retSub (Sub.refl _) (k _ _ (DPot.set e a0 l0 y0 y1) hb.p (Int.emod_nonneg _ (by omega)) (Int.emod_lt_of_pos _ m0))
  obtain ⟨e, cells, a, l, s, hp, a0, l0, s0, s1⟩ := id hd0
  have hd0' := tail M none hd0 (But.refl p q M)
  ((repeat ((conv => whnf); simp only [lenA_r, itemsA_r, lstA_r, lstC_s, Option.map_some, atI_0, ixN_0, mup_same, mup_mup, true_and, and_true, List.map_cons, List.map_nil, List.length_cons, List.length_map, List.length_nil, List.set_cons_zero, List.set_cons_succ, List.cons_append, List.nil_append, List.getElem?_cons_zero, List.getElem?_cons_succ, hp, potQ])); (conv => whnf))
  refine ⟨trivial, trivial, ?_⟩
  rw [HC.dec_int]
  by_cases hz : l = 0
  · rw [decide_eq_true hz]
    ((repeat ((conv => whnf); simp only [lenA_r, itemsA_r, lstA_r, lstC_s, Option.map_some, atI_0, ixN_0, mup_same, mup_mup, true_and, and_true, List.map_cons, List.map_nil, List.length_cons, List.length_map, List.length_nil, List.set_cons_zero, List.set_cons_succ, List.cons_append, List.nil_append, List.getElem?_cons_zero, List.getElem?_cons_succ, hp, potQ])); (conv => whnf))
    by_cases ha : a < (cells.length : Int)
    · obtain ⟨j, rfl⟩ := Int.eq_ofNat_of_zero_le a0
      have hj : j < cells.length := by omega
      refine onIf_decT ha ?_
      have ej : atI (cells.map Dv.int) (j : Int) = some (.int cells[j]) := HC.atI_nat (by rw [List.getElem?_map, List.getElem?_eq_getElem hj]; rfl)
      generalize cells[j] = c at ej
      ((repeat ((conv => whnf); simp only [lenA_r, itemsA_r, lstA_r, lstC_s, Option.map_some, atI_0, ixN_0, mup_same, mup_mup, true_and, and_true, List.map_cons, List.map_nil, List.length_cons, List.length_map, List.length_nil, List.set_cons_zero, List.set_cons_succ, List.cons_append, List.nil_append, List.getElem?_cons_zero, List.getElem?_cons_succ, hp, potQ, ej])); (conv => whnf))
      refine ⟨(by first | decide | omega | (dsimp only; decide) | (dsimp only; omega)), ?_⟩
      rw [put_at]
      ((repeat ((conv => whnf); simp only [lenA_r, itemsA_r, lstA_r, lstC_s, Option.map_some, atI_0, ixN_0, mup_same, mup_mup, true_and, and_true, List.map_cons, List.map_nil, List.length_cons, List.length_map, List.length_nil, List.set_cons_zero, List.set_cons_succ, List.cons_append, List.nil_append, List.getElem?_cons_zero, List.getElem?_cons_succ])); (conv => whnf))
      refine ⟨(by infer_instance), ?_⟩
      decreasing_tactic
      have t30 : (0 : Int) < 10 ^ (30 : Int).toNat := by decide
      refine ⟨t30, ?_⟩
      decreasing_tactic
      ((repeat ((conv => whnf); simp only [lenA_r, itemsA_r, lstA_r, lstC_s, Option.map_some, atI_0, ixN_0, mup_same, mup_mup, true_and, and_true, List.map_cons, List.map_nil, List.length_cons, List.length_map, List.length_nil, List.set_cons_zero, List.set_cons_succ, List.cons_append, List.nil_append, List.getElem?_cons_zero, List.getElem?_cons_succ])); (conv => whnf))
      refine ⟨show 4 < sizeLine by decide, ?_⟩
      rw [put_seed]
      have y0 : 0 ≤ (s * 7368787 + c % 10 ^ (30 : Int).toNat + 11) % 2305843009213693951 := Int.emod_nonneg _ (by decide)
      have y1 : (s * 7368787 + c % 10 ^ (30 : Int).toNat + 11) % 2305843009213693951 < 2305843009213693951 := Int.emod_lt_of_pos _ (by decide)
      generalize (s * 7368787 + c % 10 ^ (30 : Int).toNat + 11) % 2305843009213693951 = y at y0 y1 ⊢
      ((repeat ((conv => whnf); simp only [lenA_r, itemsA_r, lstA_r, lstC_s, Option.map_some, atI_0, ixN_0, mup_same, mup_mup, true_and, and_true, List.map_cons, List.map_nil, List.length_cons, List.length_map, List.length_nil, List.set_cons_zero, List.set_cons_succ, List.cons_append, List.nil_append, List.getElem?_cons_zero, List.getElem?_cons_succ])); (conv => whnf))
      refine ⟨⟨by decide, by decide, by decide⟩, ?_⟩
      by_cases hc : 10 ^ (18 : Int).toNat ≤ c
      · have hd : decide ((10 : Int) ^ (18 : Int).toNat ≤ c) = true := decide_eq_true hc
        have h18 : (0 : Int) ≤ (10 : Int) ^ (18 : Int).toNat := by decide
        decreasing_tactic
        simp only [hd, if_true, Int.mul_one]
        ((repeat ((conv => whnf); simp only [lenA_r, itemsA_r, lstA_r, lstC_s, Option.map_some, atI_0, ixN_0, mup_same, mup_mup, true_and, and_true, List.map_cons, List.map_nil, List.length_cons, List.length_map, List.length_nil, List.set_cons_zero, List.set_cons_succ, List.cons_append, List.nil_append, List.getElem?_cons_zero, List.getElem?_cons_succ])); (conv => whnf))
        refine ⟨show 4 < sizeLine by decide, ?_⟩
        rw [put_left]
        exact tail _ _ (DPot.set e (by omega) (Int.le_trans h18 hc) y0 y1) (But.refl p q M).p
      · have hd : decide ((10 : Int) ^ (18 : Int).toNat ≤ c) = false := decide_eq_false hc
        decreasing_tactic
        simp only [hd, Bool.false_eq_true, if_false, Int.mul_zero]
        ((repeat ((conv => whnf); simp only [lenA_r, itemsA_r, lstA_r, lstC_s, Option.map_some, atI_0, ixN_0, mup_same, mup_mup, true_and, and_true, List.map_cons, List.map_nil, List.length_cons, List.length_map, List.length_nil, List.set_cons_zero, List.set_cons_succ, List.cons_append, List.nil_append, List.getElem?_cons_zero, List.getElem?_cons_succ])); (conv => whnf))
        refine ⟨show 4 < sizeLine by decide, ?_⟩
        rw [put_left]
        exact tail _ _ (DPot.set e (by omega) (Int.le_refl 0) y0 y1) (But.refl p q M).p
    · refine onIf_decF ha ?_
      exact hd0'
  · rw [decide_eq_false hz]
    exact hd0'
theorem ok_law_next (T : Tx K mg) : FnA P w K mg base 1 T.f_law_next T.d_law_next [("_law_draws" : Str), ("_law_many_here" : Str)] sp_law_next :=
  fnA T.F_law_next sc_law_next len_law_next (fun cdv A outer s H E hr => by
    have hu1 := hu_of hr
    have hu64 := hr.units
    exact (ass_cons (as_if (AW.pt (aw_and (at_eq hu64 (ae_ix hu1 (av 0) ae_str) ae_int) (aw_and1 (at_lt (ae_ix hu1 (av 0) ae_str) (ae_callB call_len abc_len (aa_cons (ae_ix hu1 (av 0) ae_str) aa_nil) T.n_len boot_len))))) (ass_cons (as_set 2 sc_law_next.nd (ae_ix hu1 (ae_ix hu1 (av 0) ae_str) (ae_ix hu1 (av 0) ae_str)))
    (ass_cons (as_asg (ae_add (ae_ix hu1 (av 0) ae_str) ae_int) (ag_sub hu1 (av 0) ae_str))
    (ass_cons (as_asg (ae_mod (ae_add (ae_add (ae_mul (ae_ix hu1 (av 0) ae_str) ae_int) (ae_mod (av 2) (ae_pow ae_int ae_int))) ae_int) ae_int) (ag_sub hu1 (av 0) ae_str))
    (ass_one (as_asg (ae_mul (av 2) (ae_callTy call_int1 abc_int (aa_cons (ae_ge (av 2) (ae_pow ae_int ae_int)) aa_nil) T.n_int boot_int)) (ag_sub hu1 (av 0) ae_str)))))) ass_nil)
    (ass_cons (as_if (at_gt (ae_ix hu1 (av 0) ae_str) ae_int) (ass_cons (as_set 3 sc_law_next.nd (ae_mod (ae_ix hu1 (av 0) ae_str) (av 1)))
    (ass_cons (as_asg (ae_div (ae_ix hu1 (av 0) ae_str) (av 1)) (ag_sub hu1 (av 0) ae_str))
    (ass_one (as_ret (av 3))))) ass_nil)
    (ass_cons (as_asg (ae_mod (ae_add (ae_mul (ae_ix hu1 (av 0) ae_str) ae_int) ae_int) ae_int) (ag_sub hu1 (av 0) ae_str))
    (ass_one (as_ret (ae_mod (ae_div (ae_mod (ae_mul (ae_ix hu1 (av 0) ae_str) (ae_ix hu1 (av 0) ae_str)) ae_int) ae_int) (av 1)))))))) spec_law_next
def sp_law_block : ASp := fun ds M Q => ∃ p q, ∃ size : Nat, ds = [.ref p, dn size] ∧ DPot p q M ∧ size ≤ 1000 ∧
  ∀ (b : Blk) M', DPot p q M' → But p q M M' → BlkOk' b size → Q (bD b) M'
def tk_law_block_2 : RS := (aRet (aFn acTup (aCons (aFz (aLc (aiR1 (aCons (aVar 1) aNil)) (.nm 3) [3] aYes (aCall sp_law_next (aCons (aVar 0) (aCons (aC (.int 256)) aNil))))) aNil)))
def tk_law_block_1 : RS := aSeq (aIfS (aB (aOp aLt (aVar 2) (aC (.int 2)))) (aRet (aOp aMul (aTup (aCons (aOp aMul (aVar 2) (aC (.int 255))) aNil)) (aVar 1))) aNext) (tk_law_block_2)
def t_law_block : RS := aSeq (aAsg (aCall sp_law_next (aCons (aVar 0) (aCons (aC (.int 5)) aNil))) (agName 2)) (tk_law_block_1)
theorem len_law_block : ∀ ds M Q, sp_law_block ds M Q → ds.length = 2 := by
  rintro ds M Q ⟨p, q, size, rfl, _⟩
  rfl
theorem spec_law_block : ∀ ds M Q, sp_law_block ds M Q → t_law_block (retD Q) (startA 4 ds) M := by
  rintro ds M Q ⟨p, q, size, rfl, hd, hz, k⟩
  decreasing_tactic
  (refine ⟨_, _, _, rfl, by assumption, (by infer_instance), (by infer_instance), fun a Ma da ba la => ?_⟩; decreasing_tactic)
  by_cases ha : a < 2
  · refine onIf_decT (show (a : Int) < 2 by omega) ?_
    decreasing_tactic
    have e : (List.replicate (size : Int).toNat [Dv.int ((a : Int) * 255)]).flatten = (List.replicate size (a * 255)).map fun n => dn n := by
      rw [Int.toNat_natCast, List.flatten_replicate_singleton, List.map_replicate]
      congr 1
    rw [e]
    exact retEnd (k (List.replicate size (a * 255)) _ da ba ⟨by simp, fun x hx => by rw [(List.mem_replicate.mp hx).2]; omega⟩)
  · refine onIf_decF (show ¬ (a : Int) < 2 by omega) ?_
    decreasing_tactic
    intro r hr
    have rp := da.nep hr
    have rq := da.neq hr
    refine lcW_inv (fun i M' => ∃ b : Blk, DPot p q M' ∧ But p q Ma (mdel M' r) ∧ M' r = some (.lst (b.map fun n => dn n)) ∧ b.length = i ∧ ∀ x ∈ b, x < 256) ⟨[], da.put rp rq, by rw [mdel_put]; exact (But.refl p q Ma).del hr, mup_same, rfl, fun o ho => by simp at ho⟩ (fun _ _ _ _ => trivial) ?_ ?_
    · rintro i d M' hi ⟨b, hd, hb, hl, hlen, hbs⟩
      obtain ⟨hi, rfl⟩ := rangeA_get hi
      refine ⟨_, rfl, ?_⟩
      decreasing_tactic
      (refine ⟨_, _, _, rfl, by assumption, (by infer_instance), (by infer_instance), fun x Mx dx bx lx => ?_⟩; decreasing_tactic)
      have hl2 := bx.at rp rq hl
      refine ⟨_, hl2, lt_line (by simp; omega), _, Sub.refl _, b ++ [x], dx.put rp rq, by rw [mdel_put]; exact hb.trans bx.mdel2, by rw [mup_same]; simp, by simp [hlen], fun y hy => ?_⟩
      rcases List.mem_append.mp hy with h3 | h3
      · exact hbs y h3
      · rw [List.mem_singleton.mp h3]; omega
    · rintro M' ⟨b, hd, hb, hl, hlen, hbs⟩
      rw [rangeA_len, Int.toNat_natCast] at hlen
      refine fz_del hl ?_
      decreasing_tactic
      exact retEnd (k b _ (hd.del rp rq) (ba.trans hb) ⟨hlen, hbs⟩)
theorem ok_law_block (T : Tx K mg) : FnA P w K mg base 2 T.f_law_block T.d_law_block [("_law_draws" : Str), ("_law_size" : Str)] sp_law_block :=
  fnA T.F_law_block sc_law_block len_law_block (fun cdv A outer s H E hr => by
    have hu1 := hu_of hr
    have hu64 := hr.units
    exact (ass_cons (as_set 2 sc_law_block.nd (ae_call (ok_law_next T) (hr.mono (by decide)) T.m_law_next T.F_law_next.kp T.b_law_next (aa_cons (av 0) (aa_cons ae_int aa_nil))))
    (ass_cons (as_if (at_lt (av 2) ae_int) (ass_one (as_ret (ae_mul (ae_tup (aa_cons (ae_mul (av 2) ae_int) aa_nil)) (av 1)))) ass_nil)
    (ass_one (as_ret (ae_callTy call_tuple_of abc_tup (aa_cons (ae_fz (ae_lc (own := [(("_law_k" : Str), 3)]) (tg := (.nm 3)) (by decide) rfl sc_law_block.nd (ai_range1 T.n_range (aa_cons (av 1) aa_nil)) (blkOk_by (own := [(("_law_k" : Str), 3)]) (N := N_law_block) (sc := defScope s_law_block) (by decide +kernel)) (fun _ _ _ _ _ => (pgt_name 3 sc_law_block.nd)) (fun _ _ _ _ _ => ats_nil) (fun _ _ _ _ _ => (ae_call (ok_law_next T) (hr.mono (by decide)) T.m_law_next T.F_law_next.kp T.b_law_next (aa_cons (av 0) (aa_cons ae_int aa_nil)))))) aa_nil) T.n_tuple boot_tuple)))))) spec_law_block
def sp_law_data : ASp := fun ds M Q => ∃ p q, ∃ many size : Nat, ds = [.ref p, dn many, dn size] ∧ DPot p q M ∧ many ≤ 1000 ∧ size ≤ 1000 ∧
  ∀ (bs : List Blk) M', DPot p q M' → But p q M M' → bs.length = many → WfR size bs → Q (.rol (bs.map bD)) M'
def t_law_data : RS := (aRet (aFz (aLc (aiR1 (aCons (aVar 1) aNil)) (.nm 3) [3] aYes (aCall sp_law_block (aCons (aVar 0) (aCons (aVar 2) aNil))))))
theorem len_law_data : ∀ ds M Q, sp_law_data ds M Q → ds.length = 3 := by
  rintro ds M Q ⟨p, q, many, size, rfl, _⟩
  rfl
theorem spec_law_data : ∀ ds M Q, sp_law_data ds M Q → t_law_data (retD Q) (startA 4 ds) M := by
  rintro ds M Q ⟨p, q, many, size, rfl, hd, hm, hz, k⟩
  decreasing_tactic
  intro r hr
  have rp := hd.nep hr
  have rq := hd.neq hr
  refine lcW_inv (fun i M' => ∃ bs : List Blk, DPot p q M' ∧ But p q M (mdel M' r) ∧ M' r = some (.lst (bs.map bD)) ∧ bs.length = i ∧ WfR size bs) ⟨[], hd.put rp rq, by rw [mdel_put]; exact (But.refl p q M).del hr, mup_same, rfl, fun o ho => by simp at ho⟩ (fun _ _ _ _ => trivial) ?_ ?_
  · rintro i d M' hi ⟨bs, hd, hb, hl, hlen, hbs⟩
    obtain ⟨hi, rfl⟩ := rangeA_get hi
    refine ⟨_, rfl, ?_⟩
    decreasing_tactic
    refine ⟨p, q, size, rfl, hd, hz, fun b Mb db bb okb => ?_⟩
    have hl2 := bb.at rp rq hl
    refine ⟨_, hl2, lt_line (by simp; omega), _, Sub.refl _, bs ++ [b], db.put rp rq, by rw [mdel_put]; exact hb.trans bb.mdel2, by rw [mup_same]; simp, by simp [hlen], fun y hy => ?_⟩
    rcases List.mem_append.mp hy with h3 | h3
    · exact hbs y h3
    · rw [List.mem_singleton.mp h3]; exact okb
  · rintro M' ⟨bs, hd, hb, hl, hlen, hbs⟩
    rw [rangeA_len, Int.toNat_natCast] at hlen
    refine fz_del hl ?_
    exact retEnd (k bs _ (hd.del rp rq) hb hlen hbs)
theorem ok_law_data (T : Tx K mg) : FnA P w K mg base 3 T.f_law_data T.d_law_data [("_law_draws" : Str), ("_law_many_here" : Str), ("_law_size" : Str)] sp_law_data :=
  fnA T.F_law_data sc_law_data len_law_data (fun cdv A outer s H E hr => by
    have hu1 := hu_of hr
    have hu64 := hr.units
    exact (ass_one (as_ret (ae_fz (ae_lc (own := [(("_law_k" : Str), 3)]) (tg := (.nm 3)) (by decide) rfl sc_law_data.nd (ai_range1 T.n_range (aa_cons (av 1) aa_nil)) (blkOk_by (own := [(("_law_k" : Str), 3)]) (N := N_law_data) (sc := defScope s_law_data) (by decide +kernel)) (fun _ _ _ _ _ => (pgt_name 3 sc_law_data.nd)) (fun _ _ _ _ _ => ats_nil) (fun _ _ _ _ _ => (ae_call (ok_law_block T) (hr.mono (by decide)) T.m_law_block T.F_law_block.kp T.b_law_block (aa_cons (av 0) (aa_cons (av 2) aa_nil))))))))) spec_law_data
def sp_law_field : ASp := fun ds M Q => ds = [] ∧ ∀ w M', M w = none → Field w M' → Sub M M' → Q (fieldD w) M'
def tk_law_field_3 : RS := (aRet (aTup (aCons (aFz (aVar 0)) (aCons (aVar 1) aNil))))
def tk_law_field_2 : RS := aSeq (aFor (aiR1 (aCons (aC (.int 255)) aNil)) (agName 3) (aSeq (aDrop (aMth "list" amApp (aVar 0) (aCons (aVar 2) aNil)))
    (aSeq (aAsg (aVar 3) (agSub (aVar 1) (aVar 2) asSet))
    (aSeq (aAsg (aOp aMul (aVar 2) (aC (.int 2))) (agName 2))
    (aIfS (aB (aOp aGt (aVar 2) (aC (.int 255)))) (aAsg (aOp aXor (aVar 2) (aC (.int 285))) (agName 2)) aNext))))) (tk_law_field_3)
def tk_law_field_1 : RS := aSeq (aAsg (aC (.int 1)) (agName 2)) (tk_law_field_2)
def t_law_field : RS := aSeq (aPar 0 1 (aCons (aLst aNil) (aCons aDnew aNil))) (tk_law_field_1)
theorem len_law_field : ∀ ds M Q, sp_law_field ds M Q → ds.length = 0 := by
  rintro ds M Q ⟨rfl, _⟩
  rfl
theorem spec_law_field : ∀ ds M Q, sp_law_field ds M Q → t_law_field (retD Q) (startA 4 ds) M := by
  rintro ds M Q ⟨rfl, k⟩
  decreasing_tactic
  intro r hr
  decreasing_tactic
  intro w hw
  have hrw : w ≠ r := (ne_of_new mup_same hw).symm
  have hw' : M w = none := (mup_none hw).2
  decreasing_tactic
  refine forW_inv (fun i ρ M' => ∃ x3, ρ = [some (.ref r), some (.ref w), some (dn (GF.pw i)), x3] ∧ M' r = some (.lst ((List.range i).map fun k => dn (GF.pw k))) ∧ M' w = some (.dic (logD i)) ∧ Sub M (mdel (mdel M' r) w)) ?_ (fun _ _ _ _ _ => trivial) ?_ ?_
  · refine ⟨none, rfl, ?_, ?_, ?_⟩
    · rw [mup_ne hrw.symm, mup_same]; rfl
    · rw [mup_same]; rfl
    · rw [mdel_mup_ne hrw, mdel_put, mdel_put]
      exact mdel_of (mdel_of (Sub.refl M) hr) hw'
  · rintro i d ρ M' hi ⟨x3, rfl, hl, hd, hs⟩
    obtain ⟨hi2, rfl⟩ := rangeA_get hi
    rw [Int.zero_add]
    have hi : i < 255 := hi2
    have b256 : GF.pw i < 256 := GF.gp_lt 2 i
    decreasing_tactic
    have hd2 : mup M' r (.lst ((List.range i).map (fun k => dn (GF.pw k)) ++ [dn (GF.pw i)])) w = some (.dic (logD i)) := by rw [mup_ne hrw]; exact hd
    ((repeat ((conv => whnf); simp only [lenA_r, itemsA_r, lstA_r, lstC_s, Option.map_some, atI_0, ixN_0, mup_same, mup_mup, true_and, and_true, List.map_cons, List.map_nil, List.length_cons, List.length_map, List.length_nil, List.set_cons_zero, List.set_cons_succ, List.cons_append, List.nil_append, List.getElem?_cons_zero, List.getElem?_cons_succ, hd2])); (conv => whnf))
    refine ⟨lt_line (by rw [logD_len]; omega), ?_⟩
    rw [logD_put hi]
    have fin : ∀ d x3, d = dn (GF.pw (i + 1)) → wk (fun ρ M' => ∃ x3, ρ = [some (.ref r), some (.ref w), some (dn (GF.pw (i + 1))), x3] ∧ M' r = some (.lst ((List.range (i + 1)).map fun k => dn (GF.pw k))) ∧ M' w = some (.dic (logD (i + 1))) ∧ Sub M (mdel (mdel M' r) w)) [some (.ref r), some (.ref w), some d, x3]
        (mup (mup M' r (.lst ((List.range i).map (fun k => dn (GF.pw k)) ++ [dn (GF.pw i)]))) w (.dic (logD (i + 1)))) := fun d x3 ed => by
      subst ed
      refine wk_of ⟨x3, rfl, ?_, mup_same, ?_⟩
      · rw [mup_ne hrw.symm, mup_same, List.range_succ, List.map_append]; rfl
      · rw [mdel_mup_ne hrw, mdel_put, mdel_put]; exact hs
    by_cases hb : 255 < GF.pw i * 2
    · have ep : GF.pw (i + 1) = GF.pw i * 2 ^^^ 285 := by rw [pw_succ, xt_big b256 (by omega)]
      decreasing_tactic
      have e : dn (GF.pw i * 2 ^^^ 285) = Dv.int (Builtin.bitXor ((GF.pw i : Int) * 2) 285) := congrArg Dv.int (xorI (by rw [Int.natCast_mul]; rfl) rfl).symm
      exact fin _ _ (by rw [ep, e])
    · have ep : GF.pw (i + 1) = GF.pw i * 2 := by rw [pw_succ, xt_small (by omega)]
      decreasing_tactic
      have e : dn (GF.pw i * 2) = Dv.int ((GF.pw i : Int) * 2) := congrArg Dv.int (by rw [Int.natCast_mul]; rfl)
      exact fin _ _ (by rw [ep, e])
  · rintro ρ M' ⟨x3, rfl, hl, hd, hs⟩
    rw [rangeA_len] at hl hd
    decreasing_tactic
    refine ⟨mdel M' r, mdel_same, mdel_sub, ?_⟩
    decreasing_tactic
    refine retEnd (k w (mdel M' r) hw' ?_ ?_)
    · show mdel M' r w = _
      rw [mdel_ne hrw]; exact hd
    · exact hs.trans mdel_sub
theorem ok_law_field (T : Tx K mg) : FnA P w K mg base 1 T.f_law_field T.d_law_field [] sp_law_field :=
  fnA T.F_law_field sc_law_field len_law_field (fun cdv A outer s H E hr => by
    have hu1 := hu_of hr
    have hu64 := hr.units
    exact (ass_cons (as_par 0 1 rfl sc_law_field.nd (aa_cons (ae_lst aa_nil) (aa_cons ae_dnew aa_nil)))
    (ass_cons (as_set 2 sc_law_field.nd ae_int)
    (ass_cons (as_for PassesOwn.never rfl (ai_range1 T.n_range (aa_cons ae_int aa_nil)) (ag_name 3 sc_law_field.nd) (ass_cons (as_expr (ae_append (av 0) (aa_cons (av 2) aa_nil)))
    (ass_cons (as_asg (av 3) (ag_sub hu1 (av 1) (av 2)))
    (ass_cons (as_set 2 sc_law_field.nd (ae_mul (av 2) ae_int))
    (ass_one (as_if (at_gt (av 2) ae_int) (ass_one (as_set 2 sc_law_field.nd (ae_xor (av 2) ae_int))) ass_nil))))))
    (ass_one (as_ret (ae_tup (aa_cons (ae_fz (av 0)) (aa_cons (av 1) aa_nil))))))))) spec_law_field
def Hid (r r' : Row) : Prop := r'.length = r.length ∧ ∀ i b, r'.getD i none = some b → r.getD i none = some b
def sp_law_holed : ASp := fun ds M Q => ∃ p q, ∃ r : Row, ∃ gone : Nat, ds = [.ref p, .tup (r.map oD), dn gone] ∧ DPot p q M ∧ r.length ≤ 100 ∧ gone ≤ 1000 ∧ (∀ x, x < r.length → (r.getD x none).isSome = true) ∧ (known r).length = r.length ∧
  ∀ (r' : Row) M', DPot p q M' → But p q M M' → Hid r r' → (known r').length + min gone r.length = r.length → Q (.tup (r'.map oD)) M'
theorem known_less1 {r : Row} {v : Nat} (hv : v < r.length) (h : (r.getD v none).isSome = true) : (known (r.set v none)).length + 1 = (known r).length := by
  obtain ⟨b, hb⟩ := Option.isSome_iff_exists.mp h
  have e : (r.set v none).set v (some b) = r := by
    rw [List.set_set]
    refine List.ext_getElem (by simp) fun i h1 h2 => ?_
    rw [List.getElem_set]
    split
    · next e => subst e; rw [List.getD_eq_getElem?_getD, List.getElem?_eq_getElem h2] at hb; exact hb.symm
    · rfl
  have := known_more (r := r.set v none) (g := v) (b := b) (by rw [List.length_set]; exact hv) (by rw [List.getD_eq_getElem?_getD, List.getElem?_set]; simp [hv])
  rw [e] at this
  exact this.symm
theorem erase_ne {L : List Nat} {a : Nat} (nd : L.Nodup) (ha : a < L.length) : ∀ x ∈ L.eraseIdx a, x ≠ L[a] := fun x hx e => by
  have e1 : L = L.take a ++ L[a] :: L.drop (a + 1) := by
    rw [List.getElem_cons_drop, List.take_append_drop]
  rw [List.eraseIdx_eq_take_drop_succ] at hx
  rw [e1] at nd
  rw [e] at hx
  obtain ⟨_, h2, h3⟩ := List.nodup_append.mp nd
  rcases List.mem_append.mp hx with q | q
  · exact h3 _ q _ List.mem_cons_self rfl
  · exact (List.nodup_cons.mp h2).1 q
def tk_law_holed_3 : RS := (aRet (aFn acTup (aCons (aVar 3) aNil)))
def tk_law_holed_2 : RS := aSeq (aFor (aiR1 (aCons (aFn acMin2 (aCons (aVar 2) (aCons (aFn acLen (aCons (aVar 1) aNil)) aNil))) aNil)) (agName 5) (aAsg (aC .non) (agSub (aVar 3) (aMth "list" amPop (aVar 4) (aCons (aCall sp_law_next (aCons (aVar 0) (aCons (aFn acLen (aCons (aVar 4) aNil)) aNil))) aNil)) asSet))) (tk_law_holed_3)
def tk_law_holed_1 : RS := aSeq (aAsg (aLstR1 (aFn acLen (aCons (aVar 1) aNil))) (agName 4)) (tk_law_holed_2)
def t_law_holed : RS := aSeq (aAsg (aFn acLst (aCons (aVar 1) aNil)) (agName 3)) (tk_law_holed_1)
theorem len_law_holed : ∀ ds M Q, sp_law_holed ds M Q → ds.length = 3 := by
  rintro ds M Q ⟨p, q, r, gone, rfl, _⟩
  rfl
theorem spec_law_holed : ∀ ds M Q, sp_law_holed ds M Q → t_law_holed (retD Q) (startA 6 ds) M := by
  rintro ds M Q ⟨p, q, r, gone, rfl, hd, hl, hg, hall, hkr, k⟩
  decreasing_tactic
  intro r0 hr
  have rp := hd.nep hr
  have rq := hd.neq hr
  decreasing_tactic
  intro t ht
  have hrt : r0 ≠ t := ne_of_new mup_same ht
  have ht0 : M t = none := (mup_none ht).2
  have tp := hd.nep ht0
  have tq := hd.neq ht0
  have ehl : ((r.map oD).length : Int) = (r.length : Int) := by rw [List.length_map]
  decreasing_tactic
  refine forW_inv (fun i ρ M' => ∃ x5, ∃ r' : Row, ∃ L : List Nat, ρ = [some (.ref p), some (.tup (r.map oD)), some (dn gone), some (.ref r0), some (.ref t), x5] ∧ DPot p q M' ∧ But p q M (mdel (mdel M' r0) t) ∧ M' r0 = some (.lst (r'.map oD)) ∧ M' t = some (.lst (L.map fun n => dn n)) ∧ L.length + i = r.length ∧ (∀ x ∈ L, x < r.length) ∧ Hid r r' ∧ L.Nodup ∧ (∀ x ∈ L, (r'.getD x none).isSome = true) ∧ (known r').length + i = r.length) ?_ (fun _ _ _ _ _ => trivial) ?_ ?_
  · refine ⟨none, r, List.range r.length, rfl, (hd.put rp rq).put tp tq, ?_, ?_, ?_, by simp, fun x hx => List.mem_range.mp hx, ⟨rfl, fun i b e => e⟩, List.nodup_range, fun x hx => hall x (List.mem_range.mp hx), by omega⟩
    · rw [mdel_mup_ne hrt.symm, mdel_put, mdel_put]
      exact ((But.refl p q M).del hr).del ht0
    · rw [mup_ne hrt, mup_same]
    · rw [mup_same]
      simp [rangeA, List.map_map, Function.comp_def, dn]
  · rintro i d ρ M' hi ⟨x5, r', L, rfl, hd, hb, hl, hL, hlen, hLt, hh, hnd, hsm, hkn⟩
    obtain ⟨hi2, rfl⟩ := rangeA_get hi
    have hig : i < r.length := by
      revert hi2
      rw [ehl]
      split <;> omega
    decreasing_tactic
    have eLl : ((L.map fun n => dn n).length : Int) = (L.length : Int) := by rw [List.length_map]
    refine ⟨p, q, _, rfl, hd, by rw [eLl]; omega, by rw [eLl]; omega, fun a Ma da ba la => ?_⟩
    rw [eLl] at la
    have hl2 := ba.at rp rq hl
    have hL2 := ba.at tp tq hL
    have haL : a < L.length := by omega
    have ga : (L.map fun n => dn n)[a]? = some (dn L[a]) := by rw [List.getElem?_map, List.getElem?_eq_getElem haL]; rfl
    have hv : L[a] < r.length := hLt _ (List.getElem_mem haL)
    have hmem : ∀ x ∈ L.eraseIdx a, x < r.length := fun x hx => hLt x (List.mem_of_mem_eraseIdx hx)
    have hel : (L.eraseIdx a).length + 1 = L.length := by rw [List.length_eraseIdx, if_pos haL]; omega
    have hne := erase_ne hnd haL
    have hvs := hsm _ (List.getElem_mem haL)
    have hnd2 : (L.eraseIdx a).Nodup := hnd.sublist (List.eraseIdx_sublist _ _)
    have hsm2 : ∀ x ∈ L.eraseIdx a, (r'.getD x none).isSome = true := fun x hx => hsm x (List.mem_of_mem_eraseIdx hx)
    generalize L[a] = v at ga hv hne hvs
    have nv : ixN (r'.map oD).length (v : Int) = some v := ixN_nat (by rw [List.length_map, hh.1]; exact hv)
    rw [List.length_map] at nv
    have hl3 : mup Ma t (.lst ((L.map fun n => dn n).eraseIdx a)) r0 = some (.lst (r'.map oD)) := by rw [mup_ne hrt]; exact hl2
    ((repeat ((conv => whnf); simp only [lenA_r, itemsA_r, lstA_r, lstC_s, Option.map_some, atI_0, ixN_0, mup_same, mup_mup, true_and, and_true, List.map_cons, List.map_nil, List.length_cons, List.length_map, List.length_nil, List.set_cons_zero, List.set_cons_succ, List.cons_append, List.nil_append, List.getElem?_cons_zero, List.getElem?_cons_succ, hL2, Int.toNat_natCast, ga])); (conv => whnf))
    decreasing_tactic
    ((repeat ((conv => whnf); simp only [lenA_r, itemsA_r, lstA_r, lstC_s, Option.map_some, atI_0, ixN_0, mup_same, mup_mup, true_and, and_true, List.map_cons, List.map_nil, List.length_cons, List.length_map, List.length_nil, List.set_cons_zero, List.set_cons_succ, List.cons_append, List.nil_append, List.getElem?_cons_zero, List.getElem?_cons_succ, hl3, nv])); (conv => whnf))
    refine wk_of ⟨_, r'.set v none, L.eraseIdx a, rfl, (da.put tp tq).put rp rq, ?_, ?_, ?_, by omega, hmem, hid_set hh, hnd2, fun x hx => (by
      rw [List.getD_eq_getElem?_getD, List.getElem?_set, if_neg (Ne.symm (hne x hx)), ← List.getD_eq_getElem?_getD]
      exact hsm2 x hx), (by have := known_less1 (r := r') (v := v) (by rw [hh.1]; exact hv) hvs; omega)⟩
    · rw [mdel_put, mdel_mup_ne hrt.symm, mdel_put]
      exact hb.trans ((ba.mdel2).mdel2)
    · rw [mup_same, List.map_set]; rfl
    · rw [mup_ne hrt.symm, mup_same, map_erase]
  · rintro ρ M' ⟨x5, r', L, rfl, hd, hb, hl, hL, hlen, hLt, hh, hnd, hsm, hkn⟩
    rw [rangeA_len] at hkn hlen
    decreasing_tactic
    refine ⟨mdel (mdel M' r0) t, mdel_sub.trans mdel_sub, k r' _ ((hd.del rp rq).del tp tq) hb hh ?_⟩
    revert hkn
    rw [ehl]
    split <;> omega
theorem ok_law_holed (T : Tx K mg) : FnA P w K mg base 2 T.f_law_holed T.d_law_holed [("_law_draws" : Str), ("_law_row_here" : Str), ("_law_gone" : Str)] sp_law_holed :=
  fnA T.F_law_holed sc_law_holed len_law_holed (fun cdv A outer s H E hr => by
    have hu1 := hu_of hr
    have hu64 := hr.units
    exact (ass_cons (as_set 3 sc_law_holed.nd (ae_callTy call_list_of abc_lst (aa_cons (av 1) aa_nil) T.n_list boot_list))
    (ass_cons (as_set 4 sc_law_holed.nd (ae_listR1 rfl T.n_list T.n_range (ae_callB call_len abc_len (aa_cons (av 1) aa_nil) T.n_len boot_len)))
    (ass_cons (as_for PassesOwn.never rfl (ai_range1 T.n_range (aa_cons (ae_callB (call_min2 rfl) abc_min2 (aa_cons (av 2) (aa_cons (ae_callB call_len abc_len (aa_cons (av 1) aa_nil) T.n_len boot_len) aa_nil)) T.n_min boot_min) aa_nil)) (ag_name 5 sc_law_holed.nd) (ass_one (as_asg ae_non (ag_sub hu1 (av 3) (ae_popAt (av 4) (aa_cons (ae_call (ok_law_next T) (hr.mono (by decide)) T.m_law_next T.F_law_next.kp T.b_law_next (aa_cons (av 0) (aa_cons (ae_callB call_len abc_len (aa_cons (av 4) aa_nil) T.n_len boot_len) aa_nil))) aa_nil))))))
    (ass_one (as_ret (ae_callTy call_tuple_of abc_tup (aa_cons (av 3) aa_nil) T.n_tuple boot_tuple))))))) spec_law_holed
def sp_block_of : ASp := fun ds M Q => ∃ n : Nat, ds = [dn n] ∧ n ≤ 1000 ∧ Q (bD (zeroB n)) M
def t_block_of : RS := (aRet (aOp aMul (aTup (aCons (aC (.int 0)) aNil)) (aVar 0)))
theorem len_block_of : ∀ ds M Q, sp_block_of ds M Q → ds.length = 1 := by
  rintro ds M Q ⟨n, rfl, _⟩
  rfl
theorem spec_block_of : ∀ ds M Q, sp_block_of ds M Q → t_block_of (retD Q) (startA 1 ds) M := by
  rintro ds M Q ⟨n, rfl, hl, k⟩
  decreasing_tactic
  rw [Int.toNat_natCast, List.flatten_replicate_singleton]
  have e : bD (zeroB n) = .tup (List.replicate n (.int 0)) := by simp [bD, zeroB, List.map_replicate, dn]
  rw [e] at k
  exact retEnd k
theorem ok_block_of (T : Tx K mg) : FnA P w K mg base 1 T.f_block_of T.d_block_of [("many" : Str)] sp_block_of :=
  fnA T.F_block_of sc_block_of len_block_of (fun cdv A outer s H E hr => by
    have hu1 := hu_of hr
    have hu64 := hr.units
    exact (ass_one (as_ret (ae_mul (ae_tup (aa_cons ae_int aa_nil)) (av 0))))) spec_block_of
def sp_known_places : ASp := fun ds M Q => ∃ d, ∃ r : Row, ds = [d] ∧ RowM d (r.map oD) M ∧ r.length ≤ 1000 ∧ Q (.rol ((known r).map fun n => dn n)) M
def t_known_places : RS := (aRet (aFz (aLc (aiEnum (aCons (aVar 0) aNil)) (.tp [(.nm 1), (.nm 2)]) [1, 2] (aB (aOp aIsNot (aVar 2) (aC .non))) (aVar 1))))
theorem len_known_places : ∀ ds M Q, sp_known_places ds M Q → ds.length = 1 := by
  rintro ds M Q ⟨d, r, rfl, _⟩
  rfl
theorem spec_known_places : ∀ ds M Q, sp_known_places ds M Q → t_known_places (retD Q) (startA 3 ds) M := by
  rintro ds M Q ⟨d, r, rfl, hd, hl, k⟩
  decreasing_tactic
  refine onS_of hd.items ?_
  refine lcFk_opt (fun i => if (r.getD i none).isSome then some (dn i) else none) (fun M' s => (hd.sub s).items) (by rw [enumD_len]; exact le_line (by simp; omega)) (fun i d hi M' N hs q => ?_) ?_
  · obtain ⟨f, hf, rfl⟩ := enumD_get' hi
    rw [List.getElem?_map] at hf
    obtain ⟨o, ho, rfl⟩ := Option.map_eq_some_iff.mp hf
    rw [List.getD_eq_getElem?_getD, ho] at q
    refine ⟨_, rfl, ?_⟩
    cases o with
    | none => decreasing_tactic; exact q
    | some b => decreasing_tactic; exact q
  · rw [enumD_len, List.length_map]
    have e : (List.range r.length).filterMap (fun i => if (r.getD i none).isSome then some (dn i) else none) = (known r).map fun n => dn n := by
      unfold known
      rw [← List.filterMap_eq_map', List.filterMap_filter]
    rw [e]
    exact retEnd k
theorem ok_known_places (T : Tx K mg) : FnA P w K mg base 1 T.f_known_places T.d_known_places [("blocks" : Str)] sp_known_places :=
  fnA T.F_known_places sc_known_places len_known_places (fun cdv A outer s H E hr => by
    have hu1 := hu_of hr
    have hu64 := hr.units
    exact (ass_one (as_ret (ae_fz (ae_lc (own := [(("place" : Str), 1), (("block" : Str), 2)]) (tg := (.tp [(.nm 1), (.nm 2)])) (by decide) rfl sc_known_places.nd (ai_enum T.n_enumerate (aa_cons (av 0) aa_nil)) (blkOk_by (own := [(("place" : Str), 1), (("block" : Str), 2)]) (N := N_known_places) (sc := defScope s_known_places) (by decide +kernel)) (fun _ _ _ _ _ => (pgt_tup rfl (pgts_cons (pgt_name 1 sc_known_places.nd) (pgts_cons (pgt_name 2 sc_known_places.nd) pgts_nil)))) (fun _ _ _ _ _ => (ats_one (at_isnot (av 2) ae_non))) (fun _ _ _ _ _ => (av 1))))))) spec_known_places
def sp_noughted : ASp := fun ds M Q => ∃ d, ∃ r : Row, ∃ n : Nat, ds = [d] ∧ RowM d (r.map oD) M ∧ r.length ≤ 1000 ∧ n ≤ 1000 ∧ WfO n r ∧ (∃ b, some b ∈ r) ∧ Q (.rol (r.map fun o => bD (o.getD (zeroB n)))) M
def tk_noughted_1 : RS := (aRet (aFz (aLc (aiSeq (aVar 0)) (.nm 2) [2] aYes (aIf (aB (aOp aIs (aVar 2) (aC .non))) (aCall sp_block_of (aCons (aVar 1) aNil)) (aVar 2)))))
def t_noughted : RS := aSeq (aAsg (aFn acMax (aCons (aFz (aLc (aiSeq (aVar 0)) (.nm 2) [2] (aB (aOp aIsNot (aVar 2) (aC .non))) (aFn acLen (aCons (aVar 2) aNil)))) aNil)) (agName 1)) (tk_noughted_1)
theorem len_noughted : ∀ ds M Q, sp_noughted ds M Q → ds.length = 1 := by
  rintro ds M Q ⟨d, r, n, rfl, _⟩
  rfl
theorem spec_noughted : ∀ ds M Q, sp_noughted ds M Q → t_noughted (retD Q) (startA 3 ds) M := by
  rintro ds M Q ⟨d, r, n, rfl, hd, hl, hn, hw, ⟨b0, hb0⟩, k⟩
  decreasing_tactic
  refine onS_of hd.items ?_
  refine lcFk_opt (fun i => match r.getD i none with | some b => some (dn n) | none => none) (fun M' s => (hd.sub s).items) (le_line (by simp; omega)) (fun i d hi M' N hs q => ?_) ?_
  · rw [List.getElem?_map] at hi
    obtain ⟨o, ho, rfl⟩ := Option.map_eq_some_iff.mp hi
    rw [List.getD_eq_getElem?_getD, ho] at q
    refine ⟨_, rfl, ?_⟩
    cases o with
    | none => decreasing_tactic; exact q
    | some b =>
      have wb := hw _ (List.mem_of_getElem? ho) b rfl
      decreasing_tactic
      have e : Dv.int ((b.map fun n => dn n).length : Int) = dn n := by rw [List.length_map, wb.1]
      rw [← e] at q
      first | exact q | exact ⟨trivial, q⟩ | (decreasing_tactic; exact q)
  · have nm : ∀ x ∈ (List.range (r.map oD).length).filterMap (fun i => match r.getD i none with | some b => some (dn n) | none => none), x = dn n := fun x hx => by
      obtain ⟨i, _, e⟩ := List.mem_filterMap.mp hx
      cases q : r.getD i none with
      | none => rw [q] at e; cases e
      | some b => rw [q] at e; exact (Option.some.inj e).symm
    have ne : (List.range (r.map oD).length).filterMap (fun i => match r.getD i none with | some b => some (dn n) | none => none) ≠ [] := fun e => by
      obtain ⟨i, hi, e2⟩ := List.mem_iff_getElem.mp hb0
      have hm : dn n ∈ (List.range (r.map oD).length).filterMap (fun i => match r.getD i none with | some b => some (dn n) | none => none) := by
        refine List.mem_filterMap.mpr ⟨i, List.mem_range.mpr (by simpa using hi), ?_⟩
        rw [List.getD_eq_getElem?_getD, List.getElem?_eq_getElem hi, e2]
        rfl
      rw [e] at hm
      cases hm
    generalize (List.range (r.map oD).length).filterMap (fun i => match r.getD i none with | some b => some (dn n) | none => none) = L at nm ne
    have eL : L = (List.replicate L.length (n : Int)).map Dv.int := by
      rw [List.map_replicate]
      exact List.eq_replicate_iff.mpr ⟨rfl, nm⟩
    have l0 : L.length ≠ 0 := fun e => ne (List.length_eq_zero_iff.mp e)
    (conv => whnf)
    refine ⟨List.replicate L.length (n : Int), by rw [← eL]; rfl, by simp; omega, fun m hm _ => ?_⟩
    have em : m = (n : Int) := (List.mem_replicate.mp hm).2
    subst em
    decreasing_tactic
    refine onS_of hd.items ?_
    refine lcFk (fun i => bD ((r.getD i none).getD (zeroB n))) (fun M' s => (hd.sub s).items) (le_line (by simp; omega)) (fun i d hi M' N hs q => ?_) ?_
    · rw [List.getElem?_map] at hi
      obtain ⟨o, ho, rfl⟩ := Option.map_eq_some_iff.mp hi
      rw [List.getD_eq_getElem?_getD, ho] at q
      refine ⟨_, rfl, ?_⟩
      cases o with
      | none =>
        decreasing_tactic
        exact ⟨n, rfl, hn, q⟩
      | some b => decreasing_tactic; exact q
    · have e : (List.range (r.map oD).length).map (fun i => bD ((r.getD i none).getD (zeroB n))) = r.map fun o => bD (o.getD (zeroB n)) := by
        rw [List.length_map]
        refine List.ext_getElem (by simp) fun i h1 h2 => ?_
        simp at h1
        simp [List.getD, h1]
      rw [e]
      exact retEnd k
theorem ok_noughted (T : Tx K mg) : FnA P w K mg base 2 T.f_noughted T.d_noughted [("data" : Str)] sp_noughted :=
  fnA T.F_noughted sc_noughted len_noughted (fun cdv A outer s H E hr => by
    have hu1 := hu_of hr
    have hu64 := hr.units
    exact (ass_cons (as_set 1 sc_noughted.nd (ae_callB (cr_max rfl) abc_max (aa_cons (ae_fz (ae_lc (own := [(("block" : Str), 2)]) (tg := (.nm 2)) (by decide) rfl sc_noughted.nd (ai_seq (av 0)) (blkOk_by (own := [(("block" : Str), 2)]) (N := N_noughted) (sc := defScope s_noughted) (by decide +kernel)) (fun _ _ _ _ _ => (pgt_name 2 sc_noughted.nd)) (fun _ _ _ _ _ => (ats_one (at_isnot (av 2) ae_non))) (fun _ _ _ _ _ => (ae_callB call_len abc_len (aa_cons (av 2) aa_nil) T.n_len boot_len)))) aa_nil) T.n_max boot_max))
    (ass_one (as_ret (ae_fz (ae_lc (own := [(("block" : Str), 2)]) (tg := (.nm 2)) (by decide) rfl sc_noughted.nd (ai_seq (av 0)) (blkOk_by (own := [(("block" : Str), 2)]) (N := N_noughted) (sc := defScope s_noughted) (by decide +kernel)) (fun _ _ _ _ _ => (pgt_name 2 sc_noughted.nd)) (fun _ _ _ _ _ => ats_nil) (fun _ _ _ _ _ => (ae_if (at_is (av 2) ae_non) (ae_call (ok_block_of T) (hr.mono (by decide)) T.m_block_of T.F_block_of.kp T.b_block_of (aa_cons (av 1) aa_nil)) (av 2))))))))) spec_noughted
theorem xor_nat (a b : Nat) : Builtin.bitXor (a : Int) (b : Int) = ((a ^^^ b : Nat) : Int) := by
  rw [Bits.bitXor_pp (by omega) (by omega), Int.toNat_natCast, Int.toNat_natCast]
def sp_byte_sum : ASp := fun ds M Q => ∃ a b : Nat, ds = [dn a, dn b] ∧ Q (dn (a ^^^ b)) M
def t_byte_sum : RS := (aRet (aOp aXor (aVar 0) (aVar 1)))
theorem len_byte_sum : ∀ ds M Q, sp_byte_sum ds M Q → ds.length = 2 := by
  rintro ds M Q ⟨a, b, rfl, _⟩
  rfl
theorem spec_byte_sum : ∀ ds M Q, sp_byte_sum ds M Q → t_byte_sum (retD Q) (startA 2 ds) M := by
  rintro ds M Q ⟨a, b, rfl, k⟩
  (conv => whnf)
  refine retEnd ?_
  show Q (.int (Builtin.bitXor (a : Int) (b : Int))) M
  rw [xor_nat]
  exact k
theorem ok_byte_sum (T : Tx K mg) : FnA P w K mg base 1 T.f_byte_sum T.d_byte_sum [("a" : Str), ("b" : Str)] sp_byte_sum :=
  fnA T.F_byte_sum sc_byte_sum len_byte_sum (fun cdv A outer s H E hr => by
    have hu1 := hu_of hr
    have hu64 := hr.units
    exact (ass_one (as_ret (ae_xor (av 0) (av 1))))) spec_byte_sum
def sp_block_sum : ASp := fun ds M Q => ∃ a b : Blk, ds = [bD a, bD b] ∧ a.length ≤ 1000 ∧ Q (bD (xorB a b)) M
def t_block_sum : RS := (aRet (aFn acTup (aCons (aFz (aLc (aiZipX (aCons (aVar 0) (aCons (aVar 1) aNil))) (.tp [(.nm 2), (.nm 3)]) [2, 3] aYes (aCall sp_byte_sum (aCons (aVar 2) (aCons (aVar 3) aNil))))) aNil)))
theorem len_block_sum : ∀ ds M Q, sp_block_sum ds M Q → ds.length = 2 := by
  rintro ds M Q ⟨a, b, rfl, _⟩
  rfl
theorem spec_block_sum : ∀ ds M Q, sp_block_sum ds M Q → t_block_sum (retD Q) (startA 4 ds) M := by
  rintro ds M Q ⟨xs, ys, rfl, hl, k⟩
  decreasing_tactic
  have zl : (zipD (xs.map fun n => dn n) (ys.map fun n => dn n)).length = min xs.length ys.length := by simp [zipD_len]
  refine lcF (fun i => dn (xs.getD i 0 ^^^ ys.getD i 0)) (fun _ => ⟨rfl, rfl⟩) (by rw [zl]; exact le_line (by omega)) (fun i d hd M' N hs q => ?_) ?_
  · obtain ⟨x, y, hx, hy, rfl⟩ := zipD_get' hd
    rw [List.getElem?_map] at hx hy
    obtain ⟨a, ha, rfl⟩ := Option.map_eq_some_iff.mp hx
    obtain ⟨b, hb, rfl⟩ := Option.map_eq_some_iff.mp hy
    rw [List.getD_eq_getElem?_getD, List.getD_eq_getElem?_getD, ha, hb] at q
    exact ⟨_, rfl, a, b, rfl, q⟩
  · rw [zl]
    have e : (List.range (min xs.length ys.length)).map (fun i => dn (xs.getD i 0 ^^^ ys.getD i 0)) = (xorB xs ys).map fun n => dn n := by
      refine List.ext_getElem (by simp [xorB]) fun i h1 h2 => ?_
      simp at h1
      have ha : i < List.length xs := by omega
      have hb : i < List.length ys := by omega
      simp [xorB, List.getD, ha, hb]
    rw [e]
    decreasing_tactic
    exact retEnd k
theorem ok_block_sum (T : Tx K mg) : FnA P w K mg base 2 T.f_block_sum T.d_block_sum [("one" : Str), ("other" : Str)] sp_block_sum :=
  fnA T.F_block_sum sc_block_sum len_block_sum (fun cdv A outer s H E hr => by
    have hu1 := hu_of hr
    have hu64 := hr.units
    exact (ass_one (as_ret (ae_callTy call_tuple_of abc_tup (aa_cons (ae_fz (ae_lc (own := [(("a" : Str), 2), (("b" : Str), 3)]) (tg := (.tp [(.nm 2), (.nm 3)])) (by decide) rfl sc_block_sum.nd (ai_zipX T.n_zip (aa_cons (av 0) (aa_cons (av 1) aa_nil))) (blkOk_by (own := [(("a" : Str), 2), (("b" : Str), 3)]) (N := N_block_sum) (sc := defScope s_block_sum) (by decide +kernel)) (fun _ _ _ _ _ => (pgt_tup rfl (pgts_cons (pgt_name 2 sc_block_sum.nd) (pgts_cons (pgt_name 3 sc_block_sum.nd) pgts_nil)))) (fun _ _ _ _ _ => ats_nil) (fun _ _ _ _ _ => (ae_call (ok_byte_sum T) (hr.mono (by decide)) T.m_byte_sum T.F_byte_sum.kp T.b_byte_sum (aa_cons (av 2) (aa_cons (av 3) aa_nil)))))) aa_nil) T.n_tuple boot_tuple)))) spec_block_sum
def sp_byte_times : ASp := fun ds M Q => ∃ a b : Nat, ds = [dn a, dn b] ∧ a < 256 ∧ b < 256 ∧ Q (dn (GF.gt a b)) M
def tk_byte_times_2 : RS := (aRet (aVar 2))
def tk_byte_times_1 : RS := aSeq (aWhile (aB (aOp aGt (aVar 1) (aC (.int 0)))) (aSeq (aIfS (aB (aOp aEq (aOp aBand (aVar 1) (aC (.int 1))) (aC (.int 1)))) (aAsg (aOp aXor (aVar 2) (aVar 0)) (agName 2)) aNext)
    (aSeq (aAsg (aOp aShl (aVar 0) (aC (.int 1))) (agName 0))
    (aSeq (aIfS (aB (aOp aGe (aVar 0) (aC (.int 256)))) (aAsg (aOp aXor (aVar 0) (aC (.int 285))) (agName 0)) aNext)
    (aAsg (aOp aShr (aVar 1) (aC (.int 1))) (agName 1)))))) (tk_byte_times_2)
def t_byte_times : RS := aSeq (aAsg (aC (.int 0)) (agName 2)) (tk_byte_times_1)
theorem len_byte_times : ∀ ds M Q, sp_byte_times ds M Q → ds.length = 2 := by
  rintro ds M Q ⟨a, b, rfl, _⟩
  rfl
theorem spec_byte_times : ∀ ds M Q, sp_byte_times ds M Q → t_byte_times (retD Q) (startA 3 ds) M := by
  rintro ds M Q ⟨a0, b0, rfl, ha0, hb0, k⟩
  (conv => whnf)
  refine ⟨fun n ρ M' => ∃ a b p : Nat, b < 2 ^ n ∧ a < 256 ∧ p ^^^ GF.G n a b = GF.gt a0 b0 ∧ ρ = [some (dn a), some (dn b), some (dn p)] ∧ M' = M, ⟨8, a0, b0, 0, hb0, ha0, Nat.zero_xor _, rfl, rfl⟩, ?_⟩
  rintro n ρ M' ⟨a, b, p, hb, ha, hp, rfl, rfl⟩
  (conv => whnf)
  refine onIf_dec (fun hz => ?_) (fun hz => ?_)
  · cases n with
    | zero => exact absurd hb (by simp; omega)
    | succ n =>
    have hb2 : b / 2 < 2 ^ n := by rw [Nat.pow_succ] at hb; omega
    (conv => whnf)
    refine ⟨trivial, trivial, ?_⟩
    have hG : p ^^^ ((if b.testBit 0 then a else 0) ^^^ GF.G n (GF.xt a) (b / 2)) = GF.gt a0 b0 := hp
    rw [Nat.testBit_zero] at hG
    refine onIf_dec (fun ho => ?_) (fun ho => ?_)
    · have ho : Builtin.bitAnd (b : Int) 1 = 1 := Dv.int.inj ho
      rw [and1_nat] at ho
      rw [if_pos (decide_eq_true (by omega)), ← Nat.xor_assoc] at hG
      (conv => whnf)
      refine ⟨⟨by omega, by omega, by omega⟩, ?_⟩
      (conv => whnf)
      refine onIf_dec (fun hg => ?_) (fun hg => ?_)
      · have hg : (256 : Int) ≤ (a : Int) * 2 ^ (1 : Int).toNat := hg
        rw [dbl_nat] at hg
        (conv => whnf)
        refine ⟨show (0 : Int) ≤ 1 by decide, ?_⟩
        (conv => whnf)
        refine wk_of ⟨n, by omega, GF.xt a, b / 2, p ^^^ a, hb2, GF.xt_lt ha, hG, ?_, rfl⟩
        simp only [List.set_cons_zero, List.set_cons_succ]
        rw [dbl_nat, xorI (x := ((a * 2 : Nat) : Int)) (y := 285) (a := a * 2) (b := 285) rfl rfl, half_nat, ← xt_big ha (by omega), xorI (x := (p : Int)) (y := (a : Int)) rfl rfl]
      · have hg : ¬ (256 : Int) ≤ (a : Int) * 2 ^ (1 : Int).toNat := hg
        rw [dbl_nat] at hg
        (conv => whnf)
        refine ⟨show (0 : Int) ≤ 1 by decide, ?_⟩
        (conv => whnf)
        refine wk_of ⟨n, by omega, GF.xt a, b / 2, p ^^^ a, hb2, GF.xt_lt ha, hG, ?_, rfl⟩
        simp only [List.set_cons_zero, List.set_cons_succ]
        rw [dbl_nat, half_nat, xt_small (a := a) (by omega), xorI (x := (p : Int)) (y := (a : Int)) rfl rfl]
    · have ho : ¬ Builtin.bitAnd (b : Int) 1 = 1 := fun h => ho (congrArg Dv.int h)
      rw [and1_nat] at ho
      rw [if_neg (by simp; omega), Nat.zero_xor] at hG
      (conv => whnf)
      refine ⟨⟨by omega, by omega, by omega⟩, ?_⟩
      (conv => whnf)
      refine onIf_dec (fun hg => ?_) (fun hg => ?_)
      · have hg : (256 : Int) ≤ (a : Int) * 2 ^ (1 : Int).toNat := hg
        rw [dbl_nat] at hg
        (conv => whnf)
        refine ⟨show (0 : Int) ≤ 1 by decide, ?_⟩
        (conv => whnf)
        refine wk_of ⟨n, by omega, GF.xt a, b / 2, p, hb2, GF.xt_lt ha, hG, ?_, rfl⟩
        simp only [List.set_cons_zero, List.set_cons_succ]
        rw [dbl_nat, xorI (x := ((a * 2 : Nat) : Int)) (y := 285) (a := a * 2) (b := 285) rfl rfl, half_nat, ← xt_big ha (by omega)]
      · have hg : ¬ (256 : Int) ≤ (a : Int) * 2 ^ (1 : Int).toNat := hg
        rw [dbl_nat] at hg
        (conv => whnf)
        refine ⟨show (0 : Int) ≤ 1 by decide, ?_⟩
        (conv => whnf)
        refine wk_of ⟨n, by omega, GF.xt a, b / 2, p, hb2, GF.xt_lt ha, hG, ?_, rfl⟩
        simp only [List.set_cons_zero, List.set_cons_succ]
        rw [dbl_nat, half_nat, xt_small (a := a) (by omega)]
  · have : b = 0 := by omega
    subst this
    rw [GF.G_zero, Nat.xor_zero] at hp
    subst hp
    exact retEnd k
theorem ok_byte_times (T : Tx K mg) : FnA P w K mg base 1 T.f_byte_times T.d_byte_times [("a" : Str), ("b" : Str)] sp_byte_times :=
  fnA T.F_byte_times sc_byte_times len_byte_times (fun cdv A outer s H E hr => by
    have hu1 := hu_of hr
    have hu64 := hr.units
    exact (ass_cons (as_set 2 sc_byte_times.nd ae_int)
    (ass_cons (as_while PassesOwn.never (at_gt (av 1) ae_int) (ass_cons (as_if (at_eq hu64 (ae_band (av 1) ae_int) ae_int) (ass_one (as_set 2 sc_byte_times.nd (ae_xor (av 2) (av 0)))) ass_nil)
    (ass_cons (as_set 0 sc_byte_times.nd (ae_shl (av 0) ae_int))
    (ass_cons (as_if (at_ge (av 0) (ae_gint rfl T.c_TOP.choose_spec)) (ass_one (as_set 0 sc_byte_times.nd (ae_xor (av 0) (ae_gint rfl T.c_MODULUS.choose_spec)))) ass_nil)
    (ass_one (as_set 1 sc_byte_times.nd (ae_shr (av 1) ae_int)))))))
    (ass_one (as_ret (av 2)))))) spec_byte_times
def sp_block_times : ASp := fun ds M Q => ∃ c : Nat, ∃ b : Blk, ds = [dn c, bD b] ∧ c < 256 ∧ b.length ≤ 1000 ∧ (∀ x ∈ b, x < 256) ∧ Q (bD (mulB c b)) M
def t_block_times : RS := (aRet (aFn acTup (aCons (aFz (aLc (aiSeq (aVar 1)) (.nm 2) [2] aYes (aCall sp_byte_times (aCons (aVar 0) (aCons (aVar 2) aNil))))) aNil)))
theorem len_block_times : ∀ ds M Q, sp_block_times ds M Q → ds.length = 2 := by
  rintro ds M Q ⟨c, b, rfl, _⟩
  rfl
theorem spec_block_times : ∀ ds M Q, sp_block_times ds M Q → t_block_times (retD Q) (startA 3 ds) M := by
  rintro ds M Q ⟨c, b, rfl, hc, hl, hb, k⟩
  decreasing_tactic
  refine lcF (fun i => dn (GF.gt c (b.getD i 0))) (fun _ => rfl) (le_line (by simp; omega)) (fun i d hd M' N hs q => ?_) ?_
  · rw [List.getElem?_map] at hd
    obtain ⟨x, hx, rfl⟩ := Option.map_eq_some_iff.mp hd
    rw [List.getD_eq_getElem?_getD, hx] at q
    exact ⟨_, rfl, c, x, rfl, hc, hb x (List.mem_of_getElem? hx), q⟩
  · have e : (List.range (b.map fun n => dn n).length).map (fun i => dn (GF.gt c (b.getD i 0))) = (mulB c b).map fun n => dn n := by
      refine List.ext_getElem (by simp [mulB]) fun i h1 h2 => ?_
      simp at h1
      simp [mulB, List.getD, h1]
    rw [e]
    decreasing_tactic
    exact retEnd k
theorem ok_block_times (T : Tx K mg) : FnA P w K mg base 2 T.f_block_times T.d_block_times [("a" : Str), ("block" : Str)] sp_block_times :=
  fnA T.F_block_times sc_block_times len_block_times (fun cdv A outer s H E hr => by
    have hu1 := hu_of hr
    have hu64 := hr.units
    exact (ass_one (as_ret (ae_callTy call_tuple_of abc_tup (aa_cons (ae_fz (ae_lc (own := [(("b" : Str), 2)]) (tg := (.nm 2)) (by decide) rfl sc_block_times.nd (ai_seq (av 1)) (blkOk_by (own := [(("b" : Str), 2)]) (N := N_block_times) (sc := defScope s_block_times) (by decide +kernel)) (fun _ _ _ _ _ => (pgt_name 2 sc_block_times.nd)) (fun _ _ _ _ _ => ats_nil) (fun _ _ _ _ _ => (ae_call (ok_byte_times T) (hr.mono (by decide)) T.m_byte_times T.F_byte_times.kp T.b_byte_times (aa_cons (av 0) (aa_cons (av 2) aa_nil)))))) aa_nil) T.n_tuple boot_tuple)))) spec_block_times
def sp_byte_inverse : ASp := fun ds M Q => ∃ a : Nat, ds = [dn a] ∧ a < 256 ∧ Q (dn (GF.inv a)) M
def tk_byte_inverse_3 : RS := (aRet (aVar 2))
def tk_byte_inverse_2 : RS := aSeq (aFor (aiR1 (aCons (aC (.int 6)) aNil)) (agName 3) (aSeq (aAsg (aCall sp_byte_times (aCons (aVar 1) (aCons (aVar 1) aNil))) (agName 1))
    (aAsg (aCall sp_byte_times (aCons (aVar 2) (aCons (aVar 1) aNil))) (agName 2)))) (tk_byte_inverse_3)
def tk_byte_inverse_1 : RS := aSeq (aAsg (aVar 1) (agName 2)) (tk_byte_inverse_2)
def t_byte_inverse : RS := aSeq (aAsg (aCall sp_byte_times (aCons (aVar 0) (aCons (aVar 0) aNil))) (agName 1)) (tk_byte_inverse_1)
theorem len_byte_inverse : ∀ ds M Q, sp_byte_inverse ds M Q → ds.length = 1 := by
  rintro ds M Q ⟨a, rfl, _⟩
  rfl
theorem spec_byte_inverse : ∀ ds M Q, sp_byte_inverse ds M Q → t_byte_inverse (retD Q) (startA 4 ds) M := by
  rintro ds M Q ⟨a, rfl, ha, k⟩
  (conv => whnf)
  refine ⟨a, a, rfl, ha, ha, ?_⟩
  (conv => whnf)
  refine ⟨(by first | decide | omega | (dsimp only; decide) | (dsimp only; omega)), ?_⟩
  refine forW_inv (fun i ρ M' => ∃ x, ρ = [some (dn a), some (dn (GF.invS i a).1), some (dn (GF.invS i a).2), x] ∧ M' = M) ⟨none, rfl, rfl⟩ (fun _ _ _ _ _ => trivial) ?_ ?_
  · rintro i d ρ M' hd ⟨x, rfl, rfl⟩
    have hi := GF.invS_lt ha i
    (conv => whnf)
    refine ⟨_, _, rfl, hi.1, hi.1, ?_⟩
    (conv => whnf)
    refine ⟨_, _, rfl, hi.2, GF.gt_lt _ hi.1, ?_⟩
    (conv => whnf)
    exact wk_of ⟨_, rfl, rfl⟩
  · rintro ρ M' ⟨x, rfl, rfl⟩
    exact retEnd k
theorem ok_byte_inverse (T : Tx K mg) : FnA P w K mg base 2 T.f_byte_inverse T.d_byte_inverse [("a" : Str)] sp_byte_inverse :=
  fnA T.F_byte_inverse sc_byte_inverse len_byte_inverse (fun cdv A outer s H E hr => by
    have hu1 := hu_of hr
    have hu64 := hr.units
    exact (ass_cons (as_set 1 sc_byte_inverse.nd (ae_call (ok_byte_times T) (hr.mono (by decide)) T.m_byte_times T.F_byte_times.kp T.b_byte_times (aa_cons (av 0) (aa_cons (av 0) aa_nil))))
    (ass_cons (as_set 2 sc_byte_inverse.nd (av 1))
    (ass_cons (as_for PassesOwn.never rfl (ai_range1 T.n_range (aa_cons ae_int aa_nil)) (ag_name 3 sc_byte_inverse.nd) (ass_cons (as_set 1 sc_byte_inverse.nd (ae_call (ok_byte_times T) (hr.mono (by decide)) T.m_byte_times T.F_byte_times.kp T.b_byte_times (aa_cons (av 1) (aa_cons (av 1) aa_nil))))
    (ass_one (as_set 2 sc_byte_inverse.nd (ae_call (ok_byte_times T) (hr.mono (by decide)) T.m_byte_times T.F_byte_times.kp T.b_byte_times (aa_cons (av 2) (aa_cons (av 1) aa_nil)))))))
    (ass_one (as_ret (av 2))))))) spec_byte_inverse
def sp_byte_power : ASp := fun ds M Q => ∃ k : Nat, ds = [dn k] ∧ Q (dn (GF.pw k)) M
def tk_byte_power_2 : RS := (aRet (aVar 1))
def tk_byte_power_1 : RS := aSeq (aFor (aiR1 (aCons (aOp aMod (aVar 0) (aC (.int 255))) aNil)) (agName 2) (aAsg (aCall sp_byte_times (aCons (aVar 1) (aCons (aC (.int 2)) aNil))) (agName 1))) (tk_byte_power_2)
def t_byte_power : RS := aSeq (aAsg (aC (.int 1)) (agName 1)) (tk_byte_power_1)
theorem len_byte_power : ∀ ds M Q, sp_byte_power ds M Q → ds.length = 1 := by
  rintro ds M Q ⟨k, rfl, _⟩
  rfl
theorem spec_byte_power : ∀ ds M Q, sp_byte_power ds M Q → t_byte_power (retD Q) (startA 3 ds) M := by
  rintro ds M Q ⟨n, rfl, k⟩
  (conv => whnf)
  refine ⟨show (0 : Int) < 255 by decide, ?_⟩
  (conv => whnf)
  refine ⟨⟨by omega, by omega⟩, ?_⟩
  have en : ((n : Int) % 255).toNat = n % 255 := by omega
  rw [en]
  refine forW_inv (fun i ρ M' => ∃ x, ρ = [some (dn n), some (dn (GF.pw i)), x] ∧ M' = M) ⟨none, rfl, rfl⟩ (fun _ _ _ _ _ => trivial) ?_ ?_
  · rintro i d ρ M' hd ⟨x, rfl, rfl⟩
    (conv => whnf)
    refine ⟨GF.pw i, 2, rfl, GF.gp_lt 2 i, by decide, ?_⟩
    (conv => whnf)
    exact wk_of ⟨_, rfl, rfl⟩
  · rintro ρ M' ⟨x, rfl, rfl⟩
    rw [rangeA_len, GF.pw_mod]
    exact retEnd k
theorem ok_byte_power (T : Tx K mg) : FnA P w K mg base 2 T.f_byte_power T.d_byte_power [("k" : Str)] sp_byte_power :=
  fnA T.F_byte_power sc_byte_power len_byte_power (fun cdv A outer s H E hr => by
    have hu1 := hu_of hr
    have hu64 := hr.units
    exact (ass_cons (as_set 1 sc_byte_power.nd ae_int)
    (ass_cons (as_for PassesOwn.never rfl (ai_range1 T.n_range (aa_cons (ae_mod (av 0) (ae_gint rfl T.c_ROUND.choose_spec)) aa_nil)) (ag_name 2 sc_byte_power.nd) (ass_one (as_set 1 sc_byte_power.nd (ae_call (ok_byte_times T) (hr.mono (by decide)) T.m_byte_times T.F_byte_times.kp T.b_byte_times (aa_cons (av 1) (aa_cons ae_int aa_nil))))))
    (ass_one (as_ret (av 1)))))) spec_byte_power
def sp_sum_of : ASp := fun ds M Q => ∃ d, ∃ bs : List Blk, ∃ n : Nat, ds = [d] ∧ RowM d (bs.map bD) M ∧ bs ≠ [] ∧ n ≤ 1000 ∧ WfR n bs ∧ Q (bD (sumB n bs)) M
def tk_sum_of_2 : RS := (aRet (aVar 1))
def tk_sum_of_1 : RS := aSeq (aFor (aiSeq (aVar 0)) (agName 2) (aAsg (aCall sp_block_sum (aCons (aVar 1) (aCons (aVar 2) aNil))) (agName 1))) (tk_sum_of_2)
def t_sum_of : RS := aSeq (aAsg (aCall sp_block_of (aCons (aFn acLen (aCons (aOp aIx (aVar 0) (aC (.int 0))) aNil)) aNil)) (agName 1)) (tk_sum_of_1)
theorem len_sum_of : ∀ ds M Q, sp_sum_of ds M Q → ds.length = 1 := by
  rintro ds M Q ⟨d, bs, n, rfl, _⟩
  rfl
theorem spec_sum_of : ∀ ds M Q, sp_sum_of ds M Q → t_sum_of (retD Q) (startA 3 ds) M := by
  rintro ds M Q ⟨d, bs, n, rfl, hd, h0, hn, hw, k⟩
  have main : ∀ ρ1, ρ1 = [some d, some (bD (zeroB n)), none] → tk_sum_of_1 (retD Q) ρ1 M := by
    rintro ρ1 rfl
    refine onS_of hd.items ?_
    refine forW_inv (fun i ρ M' => ∃ x2, ρ = [some d, some (bD (sumB n (bs.take i))), x2] ∧ M' = M) ⟨none, rfl, rfl⟩ (fun _ _ M' _ h => by obtain ⟨_, _, e⟩ := h; rw [e]; exact hd.items) ?_ ?_
    · rintro i d2 ρ M' hi ⟨x2, rfl, rfl⟩
      rw [List.getElem?_map] at hi
      obtain ⟨b, hb, rfl⟩ := Option.map_eq_some_iff.mp hi
      have hwi : WfR n (bs.take i) := fun c hc => hw c (List.mem_of_mem_take hc)
      decreasing_tactic
      refine ⟨_, b, rfl, by rw [(sumB_wf hwi).1]; exact hn, ?_⟩
      decreasing_tactic
      refine wk_of ⟨some (bD b), ?_, rfl⟩
      rw [List.take_add_one, hb]
      simp only [Option.toList_some, sumB_snoc]
      rfl
    · rintro ρ M' ⟨x2, rfl, rfl⟩
      rw [List.length_map, List.take_length]
      exact retEnd k
  match bs, h0 with
  | b :: bs, _ =>
  have hb := hw b (by simp)
  have i0 : atI ((b :: bs).map bD) 0 = some (bD b) := by rw [List.map_cons]; exact HC.atI_0 _ _
  rcases id hd with rfl | rfl | ⟨r, rfl, hr⟩
  · decreasing_tactic
    ((repeat ((conv => whnf); simp only [lenA_r, itemsA_r, lstA_r, lstC_s, Option.map_some, atI_0, ixN_0, mup_same, mup_mup, true_and, and_true, List.map_cons, List.map_nil, List.length_cons, List.length_map, List.length_nil, List.set_cons_zero, List.set_cons_succ, List.cons_append, List.nil_append, List.getElem?_cons_zero, List.getElem?_cons_succ, i0])); (conv => whnf))
    refine ⟨trivial, ?_⟩
    decreasing_tactic
    refine ⟨n, by rw [hb.1], hn, ?_⟩
    exact main _ rfl
  · decreasing_tactic
    ((repeat ((conv => whnf); simp only [lenA_r, itemsA_r, lstA_r, lstC_s, Option.map_some, atI_0, ixN_0, mup_same, mup_mup, true_and, and_true, List.map_cons, List.map_nil, List.length_cons, List.length_map, List.length_nil, List.set_cons_zero, List.set_cons_succ, List.cons_append, List.nil_append, List.getElem?_cons_zero, List.getElem?_cons_succ, i0])); (conv => whnf))
    refine ⟨trivial, ?_⟩
    decreasing_tactic
    refine ⟨n, by rw [hb.1], hn, ?_⟩
    exact main _ rfl
  · decreasing_tactic
    ((repeat ((conv => whnf); simp only [lenA_r, itemsA_r, lstA_r, lstC_s, Option.map_some, atI_0, ixN_0, mup_same, mup_mup, true_and, and_true, List.map_cons, List.map_nil, List.length_cons, List.length_map, List.length_nil, List.set_cons_zero, List.set_cons_succ, List.cons_append, List.nil_append, List.getElem?_cons_zero, List.getElem?_cons_succ, hr, i0])); (conv => whnf))
    refine ⟨trivial, ?_⟩
    decreasing_tactic
    refine ⟨n, by rw [hb.1], hn, ?_⟩
    exact main _ rfl
theorem ok_sum_of (T : Tx K mg) : FnA P w K mg base 3 T.f_sum_of T.d_sum_of [("blocks" : Str)] sp_sum_of :=
  fnA T.F_sum_of sc_sum_of len_sum_of (fun cdv A outer s H E hr => by
    have hu1 := hu_of hr
    have hu64 := hr.units
    exact (ass_cons (as_set 1 sc_sum_of.nd (ae_call (ok_block_of T) (hr.mono (by decide)) T.m_block_of T.F_block_of.kp T.b_block_of (aa_cons (ae_callB call_len abc_len (aa_cons (ae_ix hu1 (av 0) ae_int) aa_nil) T.n_len boot_len) aa_nil)))
    (ass_cons (as_for PassesOwn.never rfl (ai_seq (av 0)) (ag_name 2 sc_sum_of.nd) (ass_one (as_set 1 sc_sum_of.nd (ae_call (ok_block_sum T) (hr.mono (by decide)) T.m_block_sum T.F_block_sum.kp T.b_block_sum (aa_cons (av 1) (aa_cons (av 2) aa_nil))))))
    (ass_one (as_ret (av 1)))))) spec_sum_of
def sp_parities_of : ASp := fun ds M Q => ∃ d, ∃ bs : List Blk, ∃ n p : Nat, ds = [d, dn p] ∧ RowM d (bs.map bD) M ∧ bs ≠ [] ∧ bs.length ≤ 200 ∧ n ≤ 1000 ∧ WfR n bs ∧ Q (.tup ((parB p n bs).map bD)) M
def tk_parities_of_2 : RS := (aRet (aTup (aCons (aVar 2) (aCons (aCall sp_sum_of (aCons (aFz (aLc (aiEnum (aCons (aVar 0) aNil)) (.tp [(.nm 3), (.nm 4)]) [3, 4] aYes (aCall sp_block_times (aCons (aCall sp_byte_power (aCons (aVar 3) aNil)) (aCons (aVar 4) aNil))))) aNil)) aNil))))
def tk_parities_of_1 : RS := aSeq (aIfS (aB (aOp aEq (aVar 1) (aC (.int 1)))) (aRet (aTup (aCons (aVar 2) aNil))) aNext) (tk_parities_of_2)
def t_parities_of : RS := aSeq (aAsg (aCall sp_sum_of (aCons (aVar 0) aNil)) (agName 2)) (tk_parities_of_1)
theorem len_parities_of : ∀ ds M Q, sp_parities_of ds M Q → ds.length = 2 := by
  rintro ds M Q ⟨d, bs, n, p, rfl, _⟩
  rfl
theorem spec_parities_of : ∀ ds M Q, sp_parities_of ds M Q → t_parities_of (retD Q) (startA 5 ds) M := by
  rintro ds M Q ⟨d, bs, n, p, rfl, hd, h0, hbl, hn, hw, k⟩
  unfold parB at k
  decreasing_tactic
  refine ⟨d, bs, n, rfl, hd, h0, hn, hw, ?_⟩
  by_cases hp : p = 1
  · subst hp
    decreasing_tactic
    exact retEnd k
  · rw [if_neg hp] at k
    decreasing_tactic
    refine onS_of hd.items ?_
    refine lcFk (fun i => bD (mulB (GF.pw i) (bs.getD i []))) (fun M' s => (hd.sub s).items) (by rw [enumD_len]; exact le_line (by simp; omega)) (fun i d hi M' N hs q => ?_) ?_
    · obtain ⟨f, hf, rfl⟩ := enumD_get' hi
      rw [List.getElem?_map] at hf
      obtain ⟨b, hb, rfl⟩ := Option.map_eq_some_iff.mp hf
      rw [List.getD_eq_getElem?_getD, hb] at q
      have hb' := hw b (List.mem_of_getElem? hb)
      refine ⟨_, rfl, ?_⟩
      decreasing_tactic
      refine ⟨i, rfl, ?_⟩
      decreasing_tactic
      exact ⟨_, b, rfl, GF.gp_lt 2 i, by rw [hb'.1]; exact hn, hb'.2, q⟩
    · have e : (List.range (enumD (bs.map bD)).length).map (fun i => bD (mulB (GF.pw i) (bs.getD i []))) = (turnB bs).map bD := by
        rw [enumD_len, List.length_map, turnB, List.map_map]; rfl
      rw [e]
      decreasing_tactic
      refine ⟨_, turnB bs, n, rfl, .inr (.inl rfl), fun e => h0 (by have := congrArg List.length e; rw [turnB_len] at this; exact List.length_eq_zero_iff.mp this), hn, turnB_wf hw, ?_⟩
      decreasing_tactic
      exact retEnd k
theorem ok_parities_of (T : Tx K mg) : FnA P w K mg base 4 T.f_parities_of T.d_parities_of [("data" : Str), ("parities" : Str)] sp_parities_of :=
  fnA T.F_parities_of sc_parities_of len_parities_of (fun cdv A outer s H E hr => by
    have hu1 := hu_of hr
    have hu64 := hr.units
    exact (ass_cons (as_set 2 sc_parities_of.nd (ae_call (ok_sum_of T) (hr.mono (by decide)) T.m_sum_of T.F_sum_of.kp T.b_sum_of (aa_cons (av 0) aa_nil)))
    (ass_cons (as_if (at_eq hu64 (av 1) ae_int) (ass_one (as_ret (ae_tup (aa_cons (av 2) aa_nil)))) ass_nil)
    (ass_one (as_ret (ae_tup (aa_cons (av 2) (aa_cons (ae_call (ok_sum_of T) (hr.mono (by decide)) T.m_sum_of T.F_sum_of.kp T.b_sum_of (aa_cons (ae_fz (ae_lc (own := [(("place" : Str), 3), (("block" : Str), 4)]) (tg := (.tp [(.nm 3), (.nm 4)])) (by decide) rfl sc_parities_of.nd (ai_enum T.n_enumerate (aa_cons (av 0) aa_nil)) (blkOk_by (own := [(("place" : Str), 3), (("block" : Str), 4)]) (N := N_parities_of) (sc := defScope s_parities_of) (by decide +kernel)) (fun _ _ _ _ _ => (pgt_tup rfl (pgts_cons (pgt_name 3 sc_parities_of.nd) (pgts_cons (pgt_name 4 sc_parities_of.nd) pgts_nil)))) (fun _ _ _ _ _ => ats_nil) (fun _ _ _ _ _ => (ae_call (ok_block_times T) (hr.mono (by decide)) T.m_block_times T.F_block_times.kp T.b_block_times (aa_cons (ae_call (ok_byte_power T) (hr.mono (by decide)) T.m_byte_power T.F_byte_power.kp T.b_byte_power (aa_cons (av 3) aa_nil)) (aa_cons (av 4) aa_nil)))))) aa_nil)) aa_nil)))))))) spec_parities_of
def sp_one_told : ASp := fun ds M Q => ∃ d, ∃ d0 : List Blk, ∃ n g : Nat, ∃ b : Blk, ∃ which : Nat, ds = [d, dn g, bD b, dn which] ∧ RowM d (d0.map bD) M ∧ d0 ≠ [] ∧ d0.length ≤ 200 ∧ n ≤ 1000 ∧ WfR n d0 ∧ BlkOk' b n ∧
  ((which = 0 ∧ Q (bD (byP n d0 b)) M) ∨ (which = 1 ∧ Q (bD (byQ n d0 g b)) M))
def tk_one_told_2 : RS := (aRet (aCall sp_block_times (aCons (aCall sp_byte_inverse (aCons (aCall sp_byte_power (aCons (aVar 1) aNil)) aNil)) (aCons (aVar 4) aNil))))
def tk_one_told_1 : RS := aSeq (aIfS (aB (aOp aEq (aVar 3) (aC (.int 0)))) (aRet (aVar 4)) aNext) (tk_one_told_2)
def t_one_told : RS := aSeq (aAsg (aCall sp_block_sum (aCons (aVar 2) (aCons (aOp aIx (aCall sp_parities_of (aCons (aVar 0) (aCons (aC (.int 2)) aNil))) (aVar 3)) aNil))) (agName 4)) (tk_one_told_1)
theorem len_one_told : ∀ ds M Q, sp_one_told ds M Q → ds.length = 4 := by
  rintro ds M Q ⟨d, d0, n, g, b, which, rfl, _⟩
  rfl
theorem spec_one_told : ∀ ds M Q, sp_one_told ds M Q → t_one_told (retD Q) (startA 5 ds) M := by
  rintro ds M Q ⟨d, d0, n, g, b, which, rfl, hd, h0, hl, hn, hw, hb, k⟩
  have wt := sumB_wf (turnB_wf hw)
  have wx := xorB_wf hb wt
  decreasing_tactic
  refine ⟨d, d0, n, 2, rfl, hd, h0, hl, hn, hw, ?_⟩
  rcases k with ⟨rfl, k⟩ | ⟨rfl, k⟩
  · decreasing_tactic
    refine ⟨b, sumB n d0, rfl, by rw [hb.1]; exact hn, ?_⟩
    decreasing_tactic
    exact retEnd k
  · decreasing_tactic
    refine ⟨b, sumB n (turnB d0), rfl, by rw [hb.1]; exact hn, ?_⟩
    decreasing_tactic
    refine ⟨g, rfl, ?_⟩
    decreasing_tactic
    refine ⟨GF.pw g, rfl, GF.gp_lt 2 g, ?_⟩
    decreasing_tactic
    exact ⟨_, _, rfl, GF.inv_lt (GF.gp_lt 2 g), by rw [wx.1]; exact hn, wx.2, retEnd k⟩
theorem ok_one_told (T : Tx K mg) : FnA P w K mg base 5 T.f_one_told T.d_one_told [("data" : Str), ("place" : Str), ("parity" : Str), ("which" : Str)] sp_one_told :=
  fnA T.F_one_told sc_one_told len_one_told (fun cdv A outer s H E hr => by
    have hu1 := hu_of hr
    have hu64 := hr.units
    exact (ass_cons (as_set 4 sc_one_told.nd (ae_call (ok_block_sum T) (hr.mono (by decide)) T.m_block_sum T.F_block_sum.kp T.b_block_sum (aa_cons (av 2) (aa_cons (ae_ix hu1 (ae_call (ok_parities_of T) (hr.mono (by decide)) T.m_parities_of T.F_parities_of.kp T.b_parities_of (aa_cons (av 0) (aa_cons ae_int aa_nil))) (av 3)) aa_nil))))
    (ass_cons (as_if (at_eq hu64 (av 3) ae_int) (ass_one (as_ret (av 4))) ass_nil)
    (ass_one (as_ret (ae_call (ok_block_times T) (hr.mono (by decide)) T.m_block_times T.F_block_times.kp T.b_block_times (aa_cons (ae_call (ok_byte_inverse T) (hr.mono (by decide)) T.m_byte_inverse T.F_byte_inverse.kp T.b_byte_inverse (aa_cons (ae_call (ok_byte_power T) (hr.mono (by decide)) T.m_byte_power T.F_byte_power.kp T.b_byte_power (aa_cons (av 1) aa_nil)) aa_nil)) (aa_cons (av 4) aa_nil)))))))) spec_one_told
def sp_two_told : ASp := fun ds M Q => ∃ d, ∃ d0 : List Blk, ∃ n g h : Nat, ∃ P Qb : Blk, ds = [d, dn g, dn h, .tup [bD P, bD Qb]] ∧ RowM d (d0.map bD) M ∧ d0 ≠ [] ∧ d0.length ≤ 200 ∧ n ≤ 1000 ∧ WfR n d0 ∧ BlkOk' P n ∧ BlkOk' Qb n ∧
  Q (.tup [bD (byPQ n d0 g h P Qb), bD (xorB (xorB P (sumB n d0)) (byPQ n d0 g h P Qb))]) M
def tk_two_told_4 : RS := (aRet (aTup (aCons (aVar 9) (aCons (aCall sp_block_sum (aCons (aVar 6) (aCons (aVar 9) aNil))) aNil))))
def tk_two_told_3 : RS := aSeq (aAsg (aCall sp_block_times (aCons (aCall sp_byte_inverse (aCons (aVar 8) aNil)) (aCons (aCall sp_block_sum (aCons (aVar 7) (aCons (aCall sp_block_times (aCons (aCall sp_byte_power (aCons (aVar 2) aNil)) (aCons (aVar 6) aNil))) aNil))) aNil))) (agName 9)) (tk_two_told_4)
def tk_two_told_2 : RS := aSeq (aAsg (aCall sp_byte_sum (aCons (aCall sp_byte_power (aCons (aVar 1) aNil)) (aCons (aCall sp_byte_power (aCons (aVar 2) aNil)) aNil))) (agName 8)) (tk_two_told_3)
def tk_two_told_1 : RS := aSeq (aPar 6 7 (aCons (aCall sp_block_sum (aCons (aOp aIx (aVar 3) (aC (.int 0))) (aCons (aVar 4) aNil))) (aCons (aCall sp_block_sum (aCons (aOp aIx (aVar 3) (aC (.int 1))) (aCons (aVar 5) aNil))) aNil))) (tk_two_told_2)
def t_two_told : RS := aSeq (aAsg (aCall sp_parities_of (aCons (aVar 0) (aCons (aC (.int 2)) aNil))) (agTup 2 (agCons (agName 4) (agCons (agName 5) agNil)))) (tk_two_told_1)
theorem len_two_told : ∀ ds M Q, sp_two_told ds M Q → ds.length = 4 := by
  rintro ds M Q ⟨d, d0, n, g, h, P, Qb, rfl, _⟩
  rfl
theorem spec_two_told : ∀ ds M Q, sp_two_told ds M Q → t_two_told (retD Q) (startA 10 ds) M := by
  rintro ds M Q ⟨d, d0, n, g, h, P, Qb, rfl, hd, h0, hl, hn, hw, hP, hQ, k⟩
  have wp := sumB_wf hw
  have wt := sumB_wf (turnB_wf hw)
  have w1 := xorB_wf hP wp
  have w2 := xorB_wf hQ wt
  have pg : GF.pw g < 256 := GF.gp_lt 2 g
  have ph : GF.pw h < 256 := GF.gp_lt 2 h
  have w3 := mulB_wf ph w1
  have w4 := xorB_wf w2 w3
  have lean : GF.pw g ^^^ GF.pw h < 256 := GF.xor8 pg ph
  decreasing_tactic
  refine ⟨d, d0, n, 2, rfl, hd, h0, hl, hn, hw, ?_⟩
  have e2 : (parB 2 n d0).map bD = [bD (sumB n d0), bD (sumB n (turnB d0))] := rfl
  rw [e2]
  decreasing_tactic
  refine ⟨P, sumB n d0, rfl, by rw [hP.1]; exact hn, ?_⟩
  decreasing_tactic
  refine ⟨Qb, sumB n (turnB d0), rfl, by rw [hQ.1]; exact hn, ?_⟩
  decreasing_tactic
  refine ⟨g, rfl, ?_⟩
  decreasing_tactic
  refine ⟨h, rfl, ?_⟩
  decreasing_tactic
  refine ⟨_, _, rfl, ?_⟩
  decreasing_tactic
  refine ⟨_, rfl, lean, ?_⟩
  decreasing_tactic
  refine ⟨h, rfl, ?_⟩
  decreasing_tactic
  refine ⟨_, _, rfl, ph, by rw [w1.1]; exact hn, w1.2, ?_⟩
  decreasing_tactic
  refine ⟨_, _, rfl, by rw [w2.1]; exact hn, ?_⟩
  decreasing_tactic
  refine ⟨_, _, rfl, GF.inv_lt lean, by rw [w4.1]; exact hn, w4.2, ?_⟩
  decreasing_tactic
  refine ⟨_, _, rfl, by rw [w1.1]; exact hn, ?_⟩
  decreasing_tactic
  exact retEnd k
theorem ok_two_told (T : Tx K mg) : FnA P w K mg base 5 T.f_two_told T.d_two_told [("data" : Str), ("place" : Str), ("other" : Str), ("both" : Str)] sp_two_told :=
  fnA T.F_two_told sc_two_told len_two_told (fun cdv A outer s H E hr => by
    have hu1 := hu_of hr
    have hu64 := hr.units
    exact (ass_cons (as_asg (ae_call (ok_parities_of T) (hr.mono (by decide)) T.m_parities_of T.F_parities_of.kp T.b_parities_of (aa_cons (av 0) (aa_cons ae_int aa_nil))) (ag_tup rfl (ags_cons (ag_name 4 sc_two_told.nd) (ags_cons (ag_name 5 sc_two_told.nd) ags_nil))))
    (ass_cons (as_par 6 7 rfl sc_two_told.nd (aa_cons (ae_call (ok_block_sum T) (hr.mono (by decide)) T.m_block_sum T.F_block_sum.kp T.b_block_sum (aa_cons (ae_ix hu1 (av 3) ae_int) (aa_cons (av 4) aa_nil))) (aa_cons (ae_call (ok_block_sum T) (hr.mono (by decide)) T.m_block_sum T.F_block_sum.kp T.b_block_sum (aa_cons (ae_ix hu1 (av 3) ae_int) (aa_cons (av 5) aa_nil))) aa_nil)))
    (ass_cons (as_set 8 sc_two_told.nd (ae_call (ok_byte_sum T) (hr.mono (by decide)) T.m_byte_sum T.F_byte_sum.kp T.b_byte_sum (aa_cons (ae_call (ok_byte_power T) (hr.mono (by decide)) T.m_byte_power T.F_byte_power.kp T.b_byte_power (aa_cons (av 1) aa_nil)) (aa_cons (ae_call (ok_byte_power T) (hr.mono (by decide)) T.m_byte_power T.F_byte_power.kp T.b_byte_power (aa_cons (av 2) aa_nil)) aa_nil))))
    (ass_cons (as_set 9 sc_two_told.nd (ae_call (ok_block_times T) (hr.mono (by decide)) T.m_block_times T.F_block_times.kp T.b_block_times (aa_cons (ae_call (ok_byte_inverse T) (hr.mono (by decide)) T.m_byte_inverse T.F_byte_inverse.kp T.b_byte_inverse (aa_cons (av 8) aa_nil)) (aa_cons (ae_call (ok_block_sum T) (hr.mono (by decide)) T.m_block_sum T.F_block_sum.kp T.b_block_sum (aa_cons (av 7) (aa_cons (ae_call (ok_block_times T) (hr.mono (by decide)) T.m_block_times T.F_block_times.kp T.b_block_times (aa_cons (ae_call (ok_byte_power T) (hr.mono (by decide)) T.m_byte_power T.F_byte_power.kp T.b_byte_power (aa_cons (av 2) aa_nil)) (aa_cons (av 6) aa_nil))) aa_nil))) aa_nil))))
    (ass_one (as_ret (ae_tup (aa_cons (av 9) (aa_cons (ae_call (ok_block_sum T) (hr.mono (by decide)) T.m_block_sum T.F_block_sum.kp T.b_block_sum (aa_cons (av 6) (aa_cons (av 9) aa_nil))) aa_nil)))))))))) spec_two_told
def sp_data_told : ASp := fun ds M Q => ∃ r : Row, ∃ n p : Nat, ds = [.tup (r.map oD), dn p] ∧ 1 ≤ p ∧ p ≤ 2 ∧ p < r.length ∧ r.length ≤ 100 ∧ n ≤ 1000 ∧ WfO n r ∧ r.length - p ≤ (known r).length ∧ Q (.rol ((dataTold p n r).map bD)) M
def sx_data_told : XSp := fun ds M Q E => ∃ r : Row, ∃ n p : Nat, ds = [.tup (r.map oD), dn p] ∧ 1 ≤ p ∧ p ≤ 2 ∧ p < r.length ∧ r.length ≤ 100 ∧ n ≤ 1000 ∧ WfO n r ∧ ((r.length - p ≤ (known r).length ∧ Q (.rol ((dataTold p n r).map bD)) M) ∨ ((known r).length < r.length - p ∧ E "TooFew" none M))
def tk_data_told_7 (W : WXA) : RS := (aRet (aFz (aVar 5)))
def tk_data_told_6 (W : WXA) : RS := aSeq (aIfS (aB (aOp aEq (aFn acLen (aCons (aVar 3) aNil)) (aC (.int 2)))) (aAsg (aCall sp_two_told (aCons (aVar 5) (aCons (aOp aIx (aVar 3) (aC (.int 0))) (aCons (aOp aIx (aVar 3) (aC (.int 1))) (aCons (aFz (aSl (aVar 0) (aoS (aVar 2)) aoN)) aNil))))) (agTup 2 (agCons (agSub (aVar 5) (aOp aIx (aVar 3) (aC (.int 0))) asSet) (agCons (agSub (aVar 5) (aOp aIx (aVar 3) (aC (.int 1))) asSet) agNil)))) (aIfS (aB (aOp aIsNot (aOp aIx (aVar 0) (aVar 2)) (aC .non))) (aAsg (aCall sp_one_told (aCons (aVar 5) (aCons (aOp aIx (aVar 3) (aC (.int 0))) (aCons (aOp aIx (aVar 0) (aVar 2)) (aCons (aC (.int 0)) aNil))))) (agSub (aVar 5) (aOp aIx (aVar 3) (aC (.int 0))) asSet)) (aAsg (aCall sp_one_told (aCons (aVar 5) (aCons (aOp aIx (aVar 3) (aC (.int 0))) (aCons (aOp aIx (aVar 0) (aOp aAdd (aVar 2) (aC (.int 1)))) (aCons (aC (.int 1)) aNil))))) (agSub (aVar 5) (aOp aIx (aVar 3) (aC (.int 0))) asSet)))) (tk_data_told_7 W)
def tk_data_told_5 (W : WXA) : RS := aSeq (aAsg (aSl (aCall sp_noughted (aCons (aFz (aOp aAdd (aFn acLst (aCons (aFz (aSl (aVar 0) aoN (aoS (aVar 2)))) aNil)) (aLst (aCons (aCall sp_block_of (aCons (aFn acLen (aCons (aOp aIx (aVar 4) (aC (.int 0))) aNil)) aNil)) aNil)))) aNil)) aoN (aoS (aVar 2))) (agName 5)) (tk_data_told_6 W)
def tk_data_told_4 (W : WXA) : RS := aSeq (aAsg (aFz (aLc (aiSeq (aVar 0)) (.nm 7) [7] (aB (aOp aIsNot (aVar 7) (aC .non))) (aVar 7))) (agName 4)) (tk_data_told_5 W)
def tk_data_told_3 (W : WXA) : RS := aSeq (aIfS (aB (aOp aEq (aFn acLen (aCons (aVar 3) aNil)) (aC (.int 0)))) (aRet (aFz (aFn acLst (aCons (aFz (aSl (aVar 0) aoN (aoS (aVar 2)))) aNil)))) aNext) (tk_data_told_4 W)
def tk_data_told_2 (W : WXA) : RS := aSeq (aAsg (aFz (aLc (aiR1 (aCons (aVar 2) aNil)) (.nm 6) [6] (aB (aOp aIs (aOp aIx (aVar 0) (aVar 6)) (aC .non))) (aVar 6))) (agName 3)) (tk_data_told_3 W)
def tk_data_told_1 (W : WXA) : RS := aSeq (aIfS (aB (aOp aLt (aFn acLen (aCons (aCall sp_known_places (aCons (aVar 0) aNil)) aNil)) (aVar 2))) (aRaise W ("TooFew" : Str)) aNext) (tk_data_told_2 W)
def t_data_told (W : WXA) : RS := aSeq (aAsg (aOp aSub (aFn acLen (aCons (aVar 0) aNil)) (aVar 1)) (agName 2)) (tk_data_told_1 W)
theorem nox_data_told : ∀ ds M Q, sp_data_told ds M Q → sx_data_told ds M Q fun _ _ _ => False := by
  rintro ds M Q ⟨r, n, p, rfl, p1, p2, pl, rl, hn, hw, hk, kk⟩
  exact ⟨r, n, p, rfl, p1, p2, pl, rl, hn, hw, .inl ⟨hk, kk⟩⟩
theorem len_data_told : ∀ ds M Q E, sx_data_told ds M Q E → ds.length = 2 := by
  rintro ds M Q E ⟨r, n, p, rfl, _⟩
  rfl
theorem spec_data_told : ∀ ds M Q E, sx_data_told ds M Q E → t_data_told (fun c f M => ∃ M', HC.Sub M' M ∧ E c f M') (retD Q) (startA 8 ds) M := by
  rintro ds M Q E ⟨r, n, p, rfl, p1, p2, pl, rl, hn, hw, ⟨hk, kk⟩ | ⟨hk, kk⟩⟩
  rotate_left
  · have ek3 : ((r.map oD).length : Int) - (p : Int) = ((r.length - p : Nat) : Int) := by rw [List.length_map]; omega
    have klen : ((known r).map fun n => dn n).length = (known r).length := List.length_map _
    decreasing_tactic
    (dsimp only)
    rw [ek3]
    refine ⟨_, r, rfl, .inl rfl, by omega, ?_⟩
    decreasing_tactic
    exact ⟨_, HC.Sub.refl _, kk⟩
  obtain ⟨k, hkl⟩ : ∃ k, r.length = k + p := ⟨r.length - p, by omega⟩
  have ek : r.length - p = k := by omega
  rw [ek] at hk
  have k0 : 0 < k := by omega
  have ek2 : ((r.map oD).length : Int) - (p : Int) = (k : Int) := by rw [List.length_map, hkl]; omega
  have etake : cutA (r.map oD) none (some (k : Int)) = (r.take k).map oD := by
    rw [cut_to _ _ (by simp; omega), List.map_take]
  have cases4 := gone_cases hkl p1 p2 hk
  decreasing_tactic
  (dsimp only)
  rw [ek2]
  refine ⟨_, r, rfl, .inl rfl, by omega, ?_⟩
  have klen : ((known r).map fun n => dn n).length = (known r).length := List.length_map _
  decreasing_tactic
  refine lcFk_opt (fun i => if (r.getD i none).isNone then some (dn i) else none) (fun _ _ => trivial) (by rw [rangeA_len]; exact le_line (by omega)) (fun i d hi M' N hs q => ?_) ?_
  · obtain ⟨hi2, rfl⟩ := rangeA_get hi
    rw [Int.zero_add]
    have hik : i < k := by omega
    have ai : atI (r.map oD) (i : Int) = some (oD (r.getD i none)) := HC.atI_nat (rowO r i (by omega))
    refine ⟨_, rfl, ?_⟩
    ((repeat ((conv => whnf); simp only [lenA_r, itemsA_r, lstA_r, lstC_s, Option.map_some, atI_0, ixN_0, mup_same, mup_mup, true_and, and_true, List.map_cons, List.map_nil, List.length_cons, List.length_map, List.length_nil, List.set_cons_zero, List.set_cons_succ, List.cons_append, List.nil_append, List.getElem?_cons_zero, List.getElem?_cons_succ, ai])); (conv => whnf))
    cases e : r.getD i none with
    | none => rw [e] at q; decreasing_tactic; exact q
    | some b => rw [e] at q; decreasing_tactic; exact q
  · have eg : (List.range (rangeA 0 (k : Int).toNat).length).filterMap (fun i => if (r.getD i none).isNone then some (dn i) else none) = (goneP k r).map fun n => dn n := by
      rw [rangeA_len, Int.toNat_natCast]
      unfold goneP
      rw [← List.filterMap_eq_map', List.filterMap_filter]
    rw [eg]
    decreasing_tactic
    rcases cases4 with hg | h4
    ·
      have er : (r.take k).map oD = (dataTold p n r).map bD := by
        unfold dataTold
        simp only [ek, hg, data0, List.map_map]
        refine List.map_congr_left fun o ho => ?_
        cases o with
        | none =>
          obtain ⟨i, hi, e⟩ := List.mem_iff_getElem.mp ho
          simp at hi e
          have : i ∈ goneP k r := gone_mem.mpr ⟨by omega, by rw [List.getD_eq_getElem?_getD, List.getElem?_eq_getElem (by omega), e]; rfl⟩
          rw [hg] at this
          cases this
        | some b => rfl
      rw [hg]
      refine onIf_decT rfl ?_
      decreasing_tactic
      rw [etake, er]
      exact retEnd kk
    ·
      have wd0 := data0_wf (k := k) hw
      have ld0 : (data0 n k r).length = k := data0_len (by omega)
      have d00 : data0 n k r ≠ [] := fun e => by rw [e] at ld0; simp at ld0; omega
      have gl : (goneP k r).length ≠ 0 := by
        rcases h4 with ⟨g, P, e, _⟩ | ⟨g, Qb, _, e, _⟩ | ⟨g, h, P, Qb, _, e, _⟩ <;> rw [e] <;> simp
      have glt : ∀ g, g ∈ goneP k r → g < k := fun g hg => (gone_mem.mp hg).1
      have kn : ∃ b, some b ∈ r := by
        rcases h4 with ⟨g, P, _, e⟩ | ⟨g, Qb, _, _, _, e⟩ | ⟨g, h, P, Qb, _, _, e, _⟩
        · exact ⟨P, (getD_some e).2⟩
        · exact ⟨Qb, (getD_some e).2⟩
        · exact ⟨P, (getD_some e).2⟩
      have gl2 : ((goneP k r).map fun n => dn n).length ≠ 0 := by rw [List.length_map]; exact gl
      refine onIf_decF (fun e => gl2 (by have := Dv.int.inj e; omega)) ?_
      decreasing_tactic
      refine lcFk_opt (fun i => (r.getD i none).map bD) (fun _ _ => rfl) (le_line (by simp; omega)) (fun i d hi M' N hs q => ?_) ?_
      · rw [List.getElem?_map] at hi
        obtain ⟨o, ho, rfl⟩ := Option.map_eq_some_iff.mp hi
        rw [List.getD_eq_getElem?_getD, ho] at q
        refine ⟨_, rfl, ?_⟩
        cases o with
        | none => decreasing_tactic; exact q
        | some b => decreasing_tactic; exact q
      · have et : (List.range (r.map oD).length).filterMap (fun i => (r.getD i none).map bD) = (r.filterMap id).map bD := by
          rw [List.length_map]
          have := filterMap_getD r
          rw [← this, List.map_filterMap]
        rw [et]
        obtain ⟨b0, hb0⟩ := kn
        have told : ∃ b1 rest, r.filterMap id = b1 :: rest ∧ BlkOk' b1 n := by
          have hm : b0 ∈ r.filterMap id := List.mem_filterMap.mpr ⟨some b0, hb0, rfl⟩
          match hq : r.filterMap id with
          | [] => rw [hq] at hm; cases hm
          | b1 :: rest =>
            refine ⟨b1, rest, rfl, ?_⟩
            have : b1 ∈ r.filterMap id := by rw [hq]; simp
            obtain ⟨o, ho, e⟩ := List.mem_filterMap.mp this
            exact hw o ho b1 e
        obtain ⟨b1, rest, e1, w1⟩ := told
        rw [e1]
        have i0 : atI ((b1 :: rest).map bD) 0 = some (bD b1) := by rw [List.map_cons]; exact HC.atI_0 _ _
        decreasing_tactic
        rw [etake]
        intro u hu
        ((repeat ((conv => whnf); simp only [lenA_r, itemsA_r, lstA_r, lstC_s, Option.map_some, atI_0, ixN_0, mup_same, mup_mup, true_and, and_true, List.map_cons, List.map_nil, List.length_cons, List.length_map, List.length_nil, List.set_cons_zero, List.set_cons_succ, List.cons_append, List.nil_append, List.getElem?_cons_zero, List.getElem?_cons_succ, i0])); (conv => whnf))
        refine ⟨trivial, ?_⟩
        decreasing_tactic
        refine ⟨n, by rw [w1.1], hn, ?_⟩
        decreasing_tactic
        intro v hv
        have huv := look_new (x := .lst [bD (zeroB n)]) (mup_same (M := M) (a := u) (c := .lst ((r.take k).map oD))) hv
        (conv => whnf)
        refine ⟨_, _, huv, mup_same, le_line (by simp; omega), fun z hz => fz_new hz ?_⟩
        have en : (r.take k).map oD ++ [bD (zeroB n)] = (r.take k ++ [some (zeroB n)]).map oD := by simp [oD]
        rw [en]
        decreasing_tactic
        refine ⟨_, r.take k ++ [some (zeroB n)], n, rfl, .inr (.inl rfl), by simp; omega, hn, fun o ho b e => ?_, ⟨zeroB n, by simp⟩, ?_⟩
        · rcases List.mem_append.mp ho with h | h
          · exact hw o (List.mem_of_mem_take h) b e
          · rw [List.mem_singleton.mp h] at e; cases e; exact zeroB_wf
        decreasing_tactic
        have ec : cutA ((r.take k ++ [some (zeroB n)]).map fun o => bD (o.getD (zeroB n))) none (some (k : Int)) = (data0 n k r).map bD := by
          rw [cut_to _ _ (by simp; omega), ← List.map_take, List.take_append_of_le_length (by simp; omega), List.take_take, Nat.min_self, data0, List.map_map]
          rfl
        rw [ec]
        intro q hq
        have s0 : Sub M (mdel (mup (mup (mup M u (.lst ((r.take k).map oD))) v (.lst [bD (zeroB n)])) q (.lst ((data0 n k r).map bD))) q) := by
          rw [mdel_put]
          exact mdel_of ((Sub.new hu).trans (Sub.new hv)) (((Sub.new hu).trans (Sub.new hv)).free hq)
        have hq2 := mup_same (M := mup (mup M u (.lst ((r.take k).map oD))) v (.lst [bD (zeroB n)])) (a := q) (c := .lst ((data0 n k r).map bD))
        generalize mup (mup (mup M u (.lst ((r.take k).map oD))) v (.lst [bD (zeroB n)])) q (.lst ((data0 n k r).map bD)) = M3 at s0 hq2
        have ak : ∀ b, r.getD k none = some b → atI (r.map oD) (k : Int) = some (bD b) := fun b e => HC.atI_nat (by rw [rowO r k (getD_some e).1, e]; rfl)
        have delput : ∀ {c : Cell}, Sub (mdel M3 q) (mdel (mup M3 q c) q) := fun {c} => by rw [mdel_put]; exact Sub.refl _
        have delput : ∀ {c : Cell}, Sub (mdel M3 q) (mup M3 q c) := fun {c} => delput.trans mdel_sub
        rcases h4 with ⟨g, P, eg, eP⟩ | ⟨g, Qb, hp, eg, eP, eQ⟩ | ⟨g, h, P, Qb, hp, eg, eP, eQ⟩
        · have hgk := glt g (by rw [eg]; simp)
          have wP := hw _ (getD_some eP).2 P rfl
          have ng : ixN ((data0 n k r).map bD).length (g : Int) = some g := ixN_nat (by rw [List.length_map, ld0]; exact hgk)
          rw [List.length_map] at ng
          have ed : dataTold p n r = (data0 n k r).set g (byP n (data0 n k r) P) := by
            unfold dataTold
            simp only [ek, eg, eP]
          rw [eg]
          have apk := ak P eP
          decreasing_tactic
          refine onIf_decF (fun e => absurd (Dv.int.inj e) (by simp)) ?_
          decreasing_tactic
          ((repeat ((conv => whnf); simp only [lenA_r, itemsA_r, lstA_r, lstC_s, Option.map_some, atI_0, ixN_0, mup_same, mup_mup, true_and, and_true, List.map_cons, List.map_nil, List.length_cons, List.length_map, List.length_nil, List.set_cons_zero, List.set_cons_succ, List.cons_append, List.nil_append, List.getElem?_cons_zero, List.getElem?_cons_succ, apk])); (conv => whnf))
          refine ⟨_, data0 n k r, n, g, P, 0, rfl, .inr (.inr ⟨q, rfl, hq2⟩), d00, by omega, hn, wd0, wP, .inl ⟨rfl, ?_⟩⟩
          ((repeat ((conv => whnf); simp only [lenA_r, itemsA_r, lstA_r, lstC_s, Option.map_some, atI_0, ixN_0, mup_same, mup_mup, true_and, and_true, List.map_cons, List.map_nil, List.length_cons, List.length_map, List.length_nil, List.set_cons_zero, List.set_cons_succ, List.cons_append, List.nil_append, List.getElem?_cons_zero, List.getElem?_cons_succ, hq2, ng])); (conv => whnf))
          rw [← List.map_set, ← ed]
          decreasing_tactic
          refine ⟨mdel M3 q, mdel_same, ?_, retSub s0 kk⟩
          exact delput
        · have hgk := glt g (by rw [eg]; simp)
          have wQ := hw _ (getD_some eQ).2 Qb rfl
          have ng : ixN ((data0 n k r).map bD).length (g : Int) = some g := ixN_nat (by rw [List.length_map, ld0]; exact hgk)
          rw [List.length_map] at ng
          have ed : dataTold p n r = (data0 n k r).set g (byQ n (data0 n k r) g Qb) := by
            unfold dataTold
            simp only [ek, eg, eP, eQ, Option.getD_some]
          rw [eg]
          have apk : atI (r.map oD) (k : Int) = some .non := HC.atI_nat (by rw [rowO r k (by omega), eP]; rfl)
          have apq : atI (r.map oD) ((k : Int) + 1) = some (bD Qb) := by
            have := HC.atI_nat (xs := r.map oD) (i := k + 1) (x := bD Qb) (by rw [rowO r (k + 1) (getD_some eQ).1, eQ]; rfl)
            exact this
          decreasing_tactic
          refine onIf_decF (fun e => absurd (Dv.int.inj e) (by simp)) ?_
          decreasing_tactic
          ((repeat ((conv => whnf); simp only [lenA_r, itemsA_r, lstA_r, lstC_s, Option.map_some, atI_0, ixN_0, mup_same, mup_mup, true_and, and_true, List.map_cons, List.map_nil, List.length_cons, List.length_map, List.length_nil, List.set_cons_zero, List.set_cons_succ, List.cons_append, List.nil_append, List.getElem?_cons_zero, List.getElem?_cons_succ, apk, apq])); (conv => whnf))
          refine ⟨_, data0 n k r, n, g, Qb, 1, rfl, .inr (.inr ⟨q, rfl, hq2⟩), d00, by omega, hn, wd0, wQ, .inr ⟨rfl, ?_⟩⟩
          ((repeat ((conv => whnf); simp only [lenA_r, itemsA_r, lstA_r, lstC_s, Option.map_some, atI_0, ixN_0, mup_same, mup_mup, true_and, and_true, List.map_cons, List.map_nil, List.length_cons, List.length_map, List.length_nil, List.set_cons_zero, List.set_cons_succ, List.cons_append, List.nil_append, List.getElem?_cons_zero, List.getElem?_cons_succ, hq2, ng])); (conv => whnf))
          rw [← List.map_set, ← ed]
          decreasing_tactic
          refine ⟨mdel M3 q, mdel_same, ?_, retSub s0 kk⟩
          exact delput
        · have hgk := glt g (by rw [eg]; simp)
          have hhk := glt h (by rw [eg]; simp)
          have wP := hw _ (getD_some eP).2 P rfl
          have wQ := hw _ (getD_some eQ).2 Qb rfl
          have ng : ixN ((data0 n k r).map bD).length (g : Int) = some g := ixN_nat (by rw [List.length_map, ld0]; exact hgk)
          have ed : dataTold p n r = ((data0 n k r).set g (byPQ n (data0 n k r) g h P Qb)).set h (xorB (xorB P (sumB n (data0 n k r))) (byPQ n (data0 n k r) g h P Qb)) := by
            unfold dataTold
            simp only [ek, eg, eP, eQ, Option.getD_some]
          have nh : ixN (((data0 n k r).map bD).set g (bD (byPQ n (data0 n k r) g h P Qb))).length (h : Int) = some h := ixN_nat (by rw [List.length_set, List.length_map, ld0]; exact hhk)
          rw [eg]
          have ecf : cutA (r.map oD) (some (k : Int)) none = [bD P, bD Qb] := by
            rw [cut_from _ _ (by simp; omega)]
            refine List.ext_getElem? fun i => ?_
            rw [List.getElem?_drop]
            match i with
            | 0 => rw [Nat.add_zero, rowO r k (getD_some eP).1, eP]; rfl
            | 1 => rw [rowO r (k + 1) (getD_some eQ).1, eQ]; rfl
            | i + 2 =>
              rw [List.getElem?_eq_none (by rw [List.length_map]; omega)]
              simp
          decreasing_tactic
          refine onIf_decT rfl ?_
          have g0 : atI [dn g, dn h] 0 = some (dn g) := rfl
          have g1 : atI [dn g, dn h] 1 = some (dn h) := rfl
          decreasing_tactic
          ((repeat ((conv => whnf); simp only [lenA_r, itemsA_r, lstA_r, lstC_s, Option.map_some, atI_0, ixN_0, mup_same, mup_mup, true_and, and_true, List.map_cons, List.map_nil, List.length_cons, List.length_map, List.length_nil, List.set_cons_zero, List.set_cons_succ, List.cons_append, List.nil_append, List.getElem?_cons_zero, List.getElem?_cons_succ, g0, g1, ecf])); (conv => whnf))
          refine ⟨_, data0 n k r, n, g, h, P, Qb, rfl, .inr (.inr ⟨q, rfl, hq2⟩), d00, by omega, hn, wd0, wP, wQ, ?_⟩
          rw [List.length_map] at ng
          decreasing_tactic
          ((repeat ((conv => whnf); simp only [lenA_r, itemsA_r, lstA_r, lstC_s, Option.map_some, atI_0, ixN_0, mup_same, mup_mup, true_and, and_true, List.map_cons, List.map_nil, List.length_cons, List.length_map, List.length_nil, List.set_cons_zero, List.set_cons_succ, List.cons_append, List.nil_append, List.getElem?_cons_zero, List.getElem?_cons_succ, g0, hq2, ng])); (conv => whnf))
          ((repeat ((conv => whnf); simp only [lenA_r, itemsA_r, lstA_r, lstC_s, Option.map_some, atI_0, ixN_0, mup_same, mup_mup, true_and, and_true, List.map_cons, List.map_nil, List.length_cons, List.length_map, List.length_nil, List.set_cons_zero, List.set_cons_succ, List.cons_append, List.nil_append, List.getElem?_cons_zero, List.getElem?_cons_succ, g1, nh])); (conv => whnf))
          rw [← List.map_set, ← List.map_set, ← ed]
          decreasing_tactic
          refine ⟨mdel M3 q, mdel_same, ?_, retSub s0 kk⟩
          exact delput
theorem okX_data_told (T : Tx K mg) : FnX P w K mg base 6 T.f_data_told T.d_data_told [("blocks" : Str), ("parities" : Str)] sx_data_told :=
  fnX (x := ("data_told" : Str)) T.F_data_told sc_data_told len_data_told (fun cdv A outer s H E W hr tk hpx => by
    have hu1 := hu_of hr
    have hu64 := hr.units
    exact (ass_cons (as_set 2 sc_data_told.nd (ae_sub (ae_callB call_len abc_len (aa_cons (av 0) aa_nil) T.n_len boot_len) (av 1)))
    (ass_cons (as_if (at_lt (ae_callB call_len abc_len (aa_cons (ae_call (ok_known_places T) (hr.mono (by decide)) T.m_known_places T.F_known_places.kp T.b_known_places (aa_cons (av 0) aa_nil)) aa_nil) T.n_len boot_len) (av 2)) (ass_one (as_raise rfl tk T.xc_TooFew)) ass_nil)
    (ass_cons (as_fzset rfl (as_setLc 3 (own := [(("place" : Str), 6)]) (tg := (.nm 6)) (by decide) rfl sc_data_told.nd rfl rfl (sw_true rfl rfl rfl (by decide +kernel)) (ai_range1 T.n_range (aa_cons (av 2) aa_nil)) (blkOk_by (own := [(("place" : Str), 6)]) (N := N_data_told) (sc := defScope s_data_told) (by decide +kernel)) (fun _ _ _ _ _ => (pgt_name 6 sc_data_told.nd)) (fun _ _ _ _ _ => (ats_one (at_is (ae_ix hu1 (av 0) (av 6)) ae_non))) (fun _ _ _ _ _ => (av 6))))
    (ass_cons (as_if (at_eq hu64 (ae_callB call_len abc_len (aa_cons (av 3) aa_nil) T.n_len boot_len) ae_int) (ass_one (as_ret (ae_fz (ae_callTy call_list_of abc_lst (aa_cons (ae_fz (ae_slice (av 0) ao_none (ao_some (av 2)))) aa_nil) T.n_list boot_list)))) ass_nil)
    (ass_cons (as_fzset rfl (as_setLc 4 (own := [(("block" : Str), 7)]) (tg := (.nm 7)) (by decide) rfl sc_data_told.nd rfl rfl (sw_true rfl rfl rfl (by decide +kernel)) (ai_seq (av 0)) (blkOk_by (own := [(("block" : Str), 7)]) (N := N_data_told) (sc := defScope s_data_told) (by decide +kernel)) (fun _ _ _ _ _ => (pgt_name 7 sc_data_told.nd)) (fun _ _ _ _ _ => (ats_one (at_isnot (av 7) ae_non))) (fun _ _ _ _ _ => (av 7))))
    (ass_cons (as_set 5 sc_data_told.nd (ae_slice (ae_call (ok_noughted T) (hr.mono (by decide)) T.m_noughted T.F_noughted.kp T.b_noughted (aa_cons (ae_fz (ae_add (ae_callTy call_list_of abc_lst (aa_cons (ae_fz (ae_slice (av 0) ao_none (ao_some (av 2)))) aa_nil) T.n_list boot_list) (ae_lst (aa_cons (ae_call (ok_block_of T) (hr.mono (by decide)) T.m_block_of T.F_block_of.kp T.b_block_of (aa_cons (ae_callB call_len abc_len (aa_cons (ae_ix hu1 (av 4) ae_int) aa_nil) T.n_len boot_len) aa_nil)) aa_nil)))) aa_nil)) ao_none (ao_some (av 2))))
    (ass_cons (as_if (at_eq hu64 (ae_callB call_len abc_len (aa_cons (av 3) aa_nil) T.n_len boot_len) ae_int) (ass_one (as_asg (ae_call (ok_two_told T) (hr.mono (by decide)) T.m_two_told T.F_two_told.kp T.b_two_told (aa_cons (av 5) (aa_cons (ae_ix hu1 (av 3) ae_int) (aa_cons (ae_ix hu1 (av 3) ae_int) (aa_cons (ae_fz (ae_slice (av 0) (ao_some (av 2)) ao_none)) aa_nil))))) (ag_tup rfl (ags_cons (ag_sub hu1 (av 5) (ae_ix hu1 (av 3) ae_int)) (ags_cons (ag_sub hu1 (av 5) (ae_ix hu1 (av 3) ae_int)) ags_nil))))) (ass_one (as_if (at_isnot (ae_ix hu1 (av 0) (av 2)) ae_non) (ass_one (as_asg (ae_call (ok_one_told T) (hr.mono (by decide)) T.m_one_told T.F_one_told.kp T.b_one_told (aa_cons (av 5) (aa_cons (ae_ix hu1 (av 3) ae_int) (aa_cons (ae_ix hu1 (av 0) (av 2)) (aa_cons ae_int aa_nil))))) (ag_sub hu1 (av 5) (ae_ix hu1 (av 3) ae_int)))) (ass_one (as_asg (ae_call (ok_one_told T) (hr.mono (by decide)) T.m_one_told T.F_one_told.kp T.b_one_told (aa_cons (av 5) (aa_cons (ae_ix hu1 (av 3) ae_int) (aa_cons (ae_ix hu1 (av 0) (ae_add (av 2) ae_int)) (aa_cons ae_int aa_nil))))) (ag_sub hu1 (av 5) (ae_ix hu1 (av 3) ae_int)))))))
    (ass_one (as_ret (ae_fz (av 5)))))))))))) spec_data_told
theorem ok_data_told (T : Tx K mg) : FnA P w K mg base 6 T.f_data_told T.d_data_told [("blocks" : Str), ("parities" : Str)] sp_data_told := FnX.norm (okX_data_told T) nox_data_told
def sp_row_filled : ASp := fun ds M Q => ∃ r : Row, ∃ n p : Nat, ds = [.tup (r.map oD), dn p] ∧ 1 ≤ p ∧ p ≤ 2 ∧ p < r.length ∧ r.length ≤ 100 ∧ n ≤ 1000 ∧ WfO n r ∧ r.length - p ≤ (known r).length ∧ Q (.tup ((dataTold p n r ++ parB p n (dataTold p n r)).map bD)) M
def sx_row_filled : XSp := fun ds M Q E => ∃ r : Row, ∃ n p : Nat, ds = [.tup (r.map oD), dn p] ∧ 1 ≤ p ∧ p ≤ 2 ∧ p < r.length ∧ r.length ≤ 100 ∧ n ≤ 1000 ∧ WfO n r ∧ ((r.length - p ≤ (known r).length ∧ Q (.tup ((dataTold p n r ++ parB p n (dataTold p n r)).map bD)) M) ∨ ((known r).length < r.length - p ∧ E "TooFew" none M))
def tk_row_filled_1 (W : WXA) : RS := (aRet (aOp aAdd (aFn acTup (aCons (aVar 2) aNil)) (aCall sp_parities_of (aCons (aVar 2) (aCons (aVar 1) aNil)))))
def t_row_filled (W : WXA) : RS := aSeq (aAsg (aCallX sx_data_told (aCons (aVar 0) (aCons (aVar 1) aNil)) W) (agName 2)) (tk_row_filled_1 W)
theorem nox_row_filled : ∀ ds M Q, sp_row_filled ds M Q → sx_row_filled ds M Q fun _ _ _ => False := by
  rintro ds M Q ⟨r, n, p, rfl, p1, p2, pl, rl, hn, hw, hk, kk⟩
  exact ⟨r, n, p, rfl, p1, p2, pl, rl, hn, hw, .inl ⟨hk, kk⟩⟩
theorem len_row_filled : ∀ ds M Q E, sx_row_filled ds M Q E → ds.length = 2 := by
  rintro ds M Q E ⟨r, n, p, rfl, _⟩
  rfl
theorem spec_row_filled : ∀ ds M Q E, sx_row_filled ds M Q E → t_row_filled (fun c f M => ∃ M', HC.Sub M' M ∧ E c f M') (retD Q) (startA 3 ds) M := by
  rintro ds M Q E ⟨r, n, p, rfl, p1, p2, pl, rl, hn, hw, ⟨hk, kk⟩ | ⟨hk, kk⟩⟩
  rotate_left
  · decreasing_tactic
    exact ⟨r, n, p, rfl, p1, p2, pl, rl, hn, hw, .inr ⟨hk, _, HC.Sub.refl _, kk⟩⟩
  have dl := dataTold_len (n := n) (r := r) p1 p2 (by omega) hk
  have dw := dataTold_wf p1 p2 (by omega) hw hk
  have pl2 := parB_len (n := n) (bs := dataTold p n r) p1 p2
  decreasing_tactic
  refine ⟨r, n, p, rfl, p1, p2, pl, rl, hn, hw, .inl ⟨hk, ?_⟩⟩
  decreasing_tactic
  refine ⟨_, dataTold p n r, n, p, rfl, .inr (.inl rfl), fun e => by rw [e] at dl; simp at dl; omega, by omega, hn, dw, ?_⟩
  decreasing_tactic
  rw [← List.map_append]
  exact retEnd kk
theorem okX_row_filled (T : Tx K mg) : FnX P w K mg base 7 T.f_row_filled T.d_row_filled [("blocks" : Str), ("parities" : Str)] sx_row_filled :=
  fnX (x := ("row_filled" : Str)) T.F_row_filled sc_row_filled len_row_filled (fun cdv A outer s H E W hr tk hpx => by
    have hu1 := hu_of hr
    have hu64 := hr.units
    exact (ass_cons (as_set 2 sc_row_filled.nd (ae_callX tk (okX_data_told T) (hr.mono (by decide)) T.m_data_told T.F_data_told.kp T.b_data_told (aa_cons (av 0) (aa_cons (av 1) aa_nil))))
    (ass_one (as_ret (ae_add (ae_callTy call_tuple_of abc_tup (aa_cons (av 2) aa_nil) T.n_tuple boot_tuple) (ae_call (ok_parities_of T) (hr.mono (by decide)) T.m_parities_of T.F_parities_of.kp T.b_parities_of (aa_cons (av 2) (aa_cons (av 1) aa_nil)))))))) spec_row_filled
theorem ok_row_filled (T : Tx K mg) : FnA P w K mg base 7 T.f_row_filled T.d_row_filled [("blocks" : Str), ("parities" : Str)] sp_row_filled := FnX.norm (okX_row_filled T) nox_row_filled
def sp_law_refused : ASp := fun ds M Q => ∃ r : Row, ∃ n p : Nat, ds = [.tup (r.map oD), dn p] ∧ 1 ≤ p ∧ p ≤ 2 ∧ p < r.length ∧ r.length ≤ 100 ∧ n ≤ 1000 ∧ WfO n r ∧ (known r).length < r.length - p ∧ Q (.bl true) M
def tk_law_refused_3 : RS := (aRet (aAndV (aIsX (aVar 2) [(("TooFew" : Str), true)]) (aAndV (aIsX (aVar 2) [(("TooFew" : Str), true)]) (aNotV (aIsX (aVar 2) [(("TooFew" : Str), false)])))))
def tk_law_refused_2 : RS := aSeq (aIfS (aTru (aIsX (aVar 2) [(("TooFew" : Str), false)])) (aRet (aC (.bl false))) aNext) (tk_law_refused_3)
def tk_law_refused_1 : RS := aSeq (aTryAs (sxExpr (axCall sx_row_filled (aCons (aVar 0) (aCons (aVar 1) aNil)))) [(("TooFew" : Str), true)] 3 (aAsg (aVar 3) (agName 2)) (fun _ _ _ => False)) (tk_law_refused_2)
def t_law_refused : RS := aSeq (aAsg (aC .non) (agName 2)) (tk_law_refused_1)
theorem len_law_refused : ∀ ds M Q, sp_law_refused ds M Q → ds.length = 2 := by
  rintro ds M Q ⟨r, n, p, rfl, _⟩
  rfl
theorem spec_law_refused : ∀ ds M Q, sp_law_refused ds M Q → t_law_refused (retD Q) (startA 4 ds) M := by
  rintro ds M Q ⟨r, n, p, rfl, p1, p2, pl, rl, hn, hw, hk, k⟩
  decreasing_tactic
  refine ⟨r, n, p, rfl, p1, p2, pl, rl, hn, hw, .inr ⟨hk, ?_⟩⟩
  decreasing_tactic
  exact retEnd k
theorem ok_law_refused (T : Tx K mg) : FnA P w K mg base 8 T.f_law_refused T.d_law_refused [("_law_blocks" : Str), ("_law_parities" : Str)] sp_law_refused :=
  fnA T.F_law_refused sc_law_refused len_law_refused (fun cdv A outer s H E hr => by
    have hu1 := hu_of hr
    have hu64 := hr.units
    exact (ass_cons (as_set 2 sc_law_refused.nd ae_non)
    (ass_cons (as_tryAs 3 ⟨rfl, by decide, .inl T.ga_DiskError⟩ takesFW (xm_cons ⟨_, T.na_TooFew, T.e_TooFew_DiskError⟩ xm_nil) sc_law_refused.nd (fun Wk pn xe tk2 => (sxs_one (sx_expr (ax_call (takesN tk2) (okX_row_filled T) (hr.mono (by decide)) T.m_row_filled T.F_row_filled.kp T.b_row_filled (aa_cons (av 0) (aa_cons (av 1) aa_nil)))))) (fun a pn => (ass_one (as_set 2 sc_law_refused.nd (av 3)))))
    (ass_cons (as_if (at_tru (ae_isXT T.n_isinstance (av 2) (pa_cons (pe_glob (v := .ref T.ca_Gone) rfl T.ga_Gone rfl) (pa_cons (pe_glob (v := .ref T.ca_Growing) rfl T.ga_Growing rfl) (pa_cons (pe_glob (v := .ref T.ca_Halfway) rfl T.ga_Halfway rfl) (pa_cons (pe_glob (v := .ref T.ca_Lost) rfl T.ga_Lost rfl) (pa_cons (pe_glob (v := .ref T.ca_NoPlace) rfl T.ga_NoPlace rfl) (pa_cons (pe_glob (v := .ref T.ca_NoSpare) rfl T.ga_NoSpare rfl) (pa_cons (pe_glob (v := .ref T.ca_NoStore) rfl T.ga_NoStore rfl) (pa_cons (pe_glob (v := .ref T.ca_NoText) rfl T.ga_NoText rfl) (pa_cons (pe_glob (v := .ref T.ca_NotGrowing) rfl T.ga_NotGrowing rfl) pa_nil))))))))) (fun _ _ _ => rfl) (.cons (.own _) (.cons (.own _) (.cons (.own _) (.cons (.own _) (.cons (.own _) (.cons (.own _) (.cons (.own _) (.cons (.own _) (.cons (.own _) .nil))))))))) (le_line (show 9 ≤ 1000000 by decide)) (xit_cons ⟨_, T.na_TooFew, (kitAny_cons T.k_TooFew_Gone (fun _ => (kitAny_cons T.k_TooFew_Growing (fun _ => (kitAny_cons T.k_TooFew_Halfway (fun _ => (kitAny_cons T.k_TooFew_Lost (fun _ => (kitAny_cons T.k_TooFew_NoPlace (fun _ => (kitAny_cons T.k_TooFew_NoSpare (fun _ => (kitAny_cons T.k_TooFew_NoStore (fun _ => (kitAny_cons T.k_TooFew_NoText (fun _ => (kitAny_cons T.k_TooFew_NotGrowing (fun _ => rfl) (fun z => by cases z))) (fun z => by cases z))) (fun z => by cases z))) (fun z => by cases z))) (fun z => by cases z))) (fun z => by cases z))) (fun z => by cases z))) (fun z => by cases z))) (fun z => by cases z)), T.xk_TooFew⟩ xit_nil))) (ass_one (as_ret ae_bl)) ass_nil)
    (ass_one (as_ret (ae_and (ae_isX T.n_isinstance (av 2) (pe_glob (v := .ref T.ca_TooFew) rfl T.ga_TooFew rfl) (.own _) (xi_cons ⟨_, T.na_TooFew, T.k_TooFew_TooFew, T.xk_TooFew⟩ xi_nil)) (ae_and (ae_isX T.n_isinstance (av 2) (pe_bltn (v := .ty "ValueError") rfl T.n_ValueError boot_ValueError rfl) (.ty _) (xi_cons ⟨_, T.na_TooFew, T.k_TooFew_ValueError, T.xk_TooFew⟩ xi_nil)) (ae_and1 (ae_not (ae_isXT T.n_isinstance (av 2) (pa_cons (pe_glob (v := .ref T.ca_There) rfl T.ga_There rfl) (pa_cons (pe_glob (v := .ref T.ca_Untold) rfl T.ga_Untold rfl) pa_nil)) (fun _ _ _ => rfl) (.cons (.own _) (.cons (.own _) .nil)) (le_line (show 2 ≤ 1000000 by decide)) (xit_cons ⟨_, T.na_TooFew, (kitAny_cons T.k_TooFew_There (fun _ => (kitAny_cons T.k_TooFew_Untold (fun _ => rfl) (fun z => by cases z))) (fun z => by cases z)), T.xk_TooFew⟩ xit_nil)))))))))))) spec_law_refused
def sp_law_times : ASp := fun ds M Q => ∃ w, ∃ a b : Nat, ds = [fieldD w, dn a, dn b] ∧ Field w M ∧ a < 256 ∧ b < 256 ∧ Q (dn (GF.gt a b)) M
def tk_law_times_1 : RS := (aRet (aOp aIx (aOp aIx (aVar 0) (aC (.int 0))) (aOp aMod (aOp aAdd (aOp aIx (aOp aIx (aVar 0) (aC (.int 1))) (aVar 1)) (aOp aIx (aOp aIx (aVar 0) (aC (.int 1))) (aVar 2))) (aC (.int 255)))))
def t_law_times : RS := aSeq (aIfS (aOr (aB (aOp aEq (aVar 1) (aC (.int 0)))) (aB (aOp aEq (aVar 2) (aC (.int 0))))) (aRet (aC (.int 0))) aNext) (tk_law_times_1)
theorem len_law_times : ∀ ds M Q, sp_law_times ds M Q → ds.length = 3 := by
  rintro ds M Q ⟨w, a, b, rfl, _⟩
  rfl
theorem spec_law_times : ∀ ds M Q, sp_law_times ds M Q → t_law_times (retD Q) (startA 3 ds) M := by
  rintro ds M Q ⟨w, a, b, rfl, hw, ha, hb, k⟩
  by_cases a0 : a = 0
  · subst a0
    rw [GF.zero_gt] at k
    decreasing_tactic
    exact retEnd k
  by_cases b0 : b = 0
  · subst b0
    rw [GF.gt_zero] at k
    decreasing_tactic
    exact retEnd k
  have la := log_get ha a0
  have lb := log_get hb b0
  have hlt : (lg a + lg b) % 255 < 255 := Nat.mod_lt _ (by decide)
  rw [← times_lg ha hb a0 b0] at k
  unfold Field at hw
  decreasing_tactic
  ((repeat ((conv => whnf); simp only [lenA_r, itemsA_r, lstA_r, lstC_s, Option.map_some, atI_0, ixN_0, mup_same, mup_mup, true_and, and_true, List.map_cons, List.map_nil, List.length_cons, List.length_map, List.length_nil, List.set_cons_zero, List.set_cons_succ, List.cons_append, List.nil_append, List.getElem?_cons_zero, List.getElem?_cons_succ, hw, la, lb])); (conv => whnf))
  decreasing_tactic
  have e : ((lg a : Int) + (lg b : Int)) % 255 = (((lg a + lg b) % 255 : Nat) : Int) := by omega
  rw [e]
  refine onS_of (HC.atI_nat (powD_get hlt)) ?_
  exact retEnd k
theorem ok_law_times (T : Tx K mg) : FnA P w K mg base 1 T.f_law_times T.d_law_times [("_law_field_here" : Str), ("_law_one" : Str), ("_law_other" : Str)] sp_law_times :=
  fnA T.F_law_times sc_law_times len_law_times (fun cdv A outer s H E hr => by
    have hu1 := hu_of hr
    have hu64 := hr.units
    exact (ass_cons (as_if (AW.pt (aw_or (at_eq hu64 (av 1) ae_int) (aw_or1 (at_eq hu64 (av 2) ae_int)))) (ass_one (as_ret ae_int)) ass_nil)
    (ass_one (as_ret (ae_ix hu1 (ae_ix hu1 (av 0) ae_int) (ae_mod (ae_add (ae_ix hu1 (ae_ix hu1 (av 0) ae_int) (av 1)) (ae_ix hu1 (ae_ix hu1 (av 0) ae_int) (av 2))) ae_int)))))) spec_law_times
def sp_law_row : ASp := fun ds M Q => ∃ w, ∃ bs : List Blk, ∃ n p : Nat, ds = [fieldD w, .rol (bs.map bD), dn p] ∧ Field w M ∧ bs ≠ [] ∧ bs.length ≤ 200 ∧ n ≤ 1000 ∧ WfR n bs ∧ 1 ≤ p ∧ p ≤ 2 ∧ Q (.tup ((bs ++ parB p n bs).map bD)) M
def tk_law_row_3 : RS := (aRet (aFn acTup (aCons (aFz (aOp aAdd (aFn acLst (aCons (aVar 1) aNil)) (aSl (aFz (aLst (aCons (aFn acTup (aCons (aVar 4) aNil)) (aCons (aFn acTup (aCons (aVar 5) aNil)) aNil)))) aoN (aoS (aVar 2))))) aNil)))
def tk_law_row_2 : RS := aSeq (aFor (aiEnum (aCons (aVar 1) aNil)) (agTup 2 (agCons (agName 6) (agCons (agName 7) agNil))) (aFor (aiR1 (aCons (aVar 3) aNil)) (agName 8) (aSeq (aAsg (aOp aXor (aOp aIx (aVar 4) (aVar 8)) (aOp aIx (aVar 7) (aVar 8))) (agSub (aVar 4) (aVar 8) asSet))
    (aAsg (aOp aXor (aOp aIx (aVar 5) (aVar 8)) (aCall sp_law_times (aCons (aVar 0) (aCons (aOp aIx (aOp aIx (aVar 0) (aC (.int 0))) (aVar 6)) (aCons (aOp aIx (aVar 7) (aVar 8)) aNil))))) (agSub (aVar 5) (aVar 8) asSet))))) (tk_law_row_3)
def tk_law_row_1 : RS := aSeq (aPar 4 5 (aCons (aOp aMul (aLst (aCons (aC (.int 0)) aNil)) (aVar 3)) (aCons (aOp aMul (aLst (aCons (aC (.int 0)) aNil)) (aVar 3)) aNil))) (tk_law_row_2)
def t_law_row : RS := aSeq (aAsg (aFn acLen (aCons (aOp aIx (aVar 1) (aC (.int 0))) aNil)) (agName 3)) (tk_law_row_1)
theorem len_law_row : ∀ ds M Q, sp_law_row ds M Q → ds.length = 3 := by
  rintro ds M Q ⟨w, bs, n, p, rfl, _⟩
  rfl
theorem spec_law_row : ∀ ds M Q, sp_law_row ds M Q → t_law_row (retD Q) (startA 9 ds) M := by
  rintro ds M Q ⟨w, bs, n, p, rfl, hf, h0, hbl, hn, hw, p1, p2, k⟩
  have i0 : atI (bs.map bD) 0 = some (bD (bs.getD 0 [])) := HC.atI_nat (i := 0) (rowD bs 0 (by
    have : bs.length ≠ 0 := fun e => h0 (List.length_eq_zero_iff.mp e)
    omega))
  have b0 : (bs.getD 0 []).length = n := (hw _ (getD_mem (by
    have : bs.length ≠ 0 := fun e => h0 (List.length_eq_zero_iff.mp e)
    omega))).1
  have rep : (List.replicate (n : Int).toNat [Dv.int 0]).flatten = (zeroB n).map fun n => dn n := by
    rw [Int.toNat_natCast, List.flatten_replicate_singleton, zeroB, List.map_replicate]; rfl
  have cp : cutA [bD (sumB n bs), bD (sumB n (turnB bs))] none (some (p : Int)) = (parB p n bs).map bD := by
    have hp : p = 1 ∨ p = 2 := by omega
    rcases hp with rfl | rfl <;> rfl
  have main : ∀ (r t : Addr) (M4 : Ms), r ≠ t → M4 r = some (.lst ((zeroB n).map fun n => dn n)) → M4 t = some (.lst ((zeroB n).map fun n => dn n)) → Grow2 M r t M4 →
      tk_law_row_2 (retD Q) [some (fieldD w), some (.rol (bs.map bD)), some (dn p), some (dn n), some (.ref r), some (.ref t), none, none, none] M4 := by
    intro r t M4 hrt hr4 ht4 g4
    decreasing_tactic
    refine forW_inv (fun i ρ M' => ∃ x6 x7 x8, ρ = [some (fieldD w), some (.rol (bs.map bD)), some (dn p), some (dn n), some (.ref r), some (.ref t), x6, x7, x8] ∧ M' r = some (.lst ((sumB n (bs.take i)).map fun n => dn n)) ∧ M' t = some (.lst ((sumB n (turnB (bs.take i))).map fun n => dn n)) ∧ Grow2 M r t M') ⟨none, none, none, rfl, hr4, ht4, g4⟩ (fun _ _ _ _ _ => rfl) ?_ ?_
    · rintro i d ρ M' hi ⟨x6, x7, x8, rfl, hl, ht, hg⟩
      obtain ⟨f, hfi, rfl⟩ := enumD_get' hi
      rw [List.getElem?_map] at hfi
      obtain ⟨b, hb, rfl⟩ := Option.map_eq_some_iff.mp hfi
      have hib := (List.getElem?_eq_some_iff.mp hb).1
      have hbw := hw b (List.mem_of_getElem? hb)
      have hwi : WfR n (bs.take i) := fun c hc => hw c (List.mem_of_mem_take hc)
      have w1 := sumB_wf hwi
      have w2 := sumB_wf (turnB_wf hwi)
      have pi : GF.pw i < 256 := GF.gp_lt 2 i
      have w3 := mulB_wf pi hbw
      have w4 := xorB_wf w1 hbw
      have w5 := xorB_wf w2 w3
      have e1 : sumB n (bs.take (i + 1)) = xorB (sumB n (bs.take i)) b := by rw [List.take_add_one, hb]; exact sumB_snoc
      have e2 : sumB n (turnB (bs.take (i + 1))) = xorB (sumB n (turnB (bs.take i))) (mulB (GF.pw i) b) := by
        rw [List.take_add_one, hb]
        simp only [Option.toList_some, turnB_snoc, sumB_snoc, List.length_take, Nat.min_eq_left (Nat.le_of_lt hib)]
      generalize sumB n (bs.take i) = s1 at *
      generalize sumB n (turnB (bs.take i)) = s2 at *
      decreasing_tactic
      refine forW_inv (fun j ρ M' => ∃ x8, ρ = [some (fieldD w), some (.rol (bs.map bD)), some (dn p), some (dn n), some (.ref r), some (.ref t), some (dn i), some (bD b), x8] ∧ M' r = some (.lst ((mixB j s1 (xorB s1 b)).map fun n => dn n)) ∧ M' t = some (.lst ((mixB j s2 (xorB s2 (mulB (GF.pw i) b))).map fun n => dn n)) ∧ Grow2 M r t M') ?_ (fun _ _ _ _ _ => trivial) ?_ ?_
      · refine ⟨x8, rfl, ?_, ?_, hg⟩
        · rw [mixB_zero (by rw [w1.1, w4.1])]; exact hl
        · rw [mixB_zero (by rw [w2.1, w5.1])]; exact ht
      · rintro j d ρ M2 hj ⟨x8, rfl, hl, ht, hg⟩
        obtain ⟨hj2, rfl⟩ := rangeA_get hj
        rw [Int.zero_add]
        have hj : j < n := by omega
        have g1 : atI ((mixB j s1 (xorB s1 b)).map fun n => dn n) (j : Int) = some (dn (s1.getD j 0)) := HC.atI_nat (by rw [List.getElem?_map, mixB_get (by rw [w4.1]; exact hj)]; rfl)
        have g2 : atI (b.map fun n => dn n) (j : Int) = some (dn (b.getD j 0)) := HC.atI_nat (dnD b j (by rw [hbw.1]; exact hj))
        have g3 : atI ((mixB j s2 (xorB s2 (mulB (GF.pw i) b))).map fun n => dn n) (j : Int) = some (dn (s2.getD j 0)) := HC.atI_nat (by rw [List.getElem?_map, mixB_get (by rw [w5.1]; exact hj)]; rfl)
        have g4 : atI powD (i : Int) = some (dn (GF.pw i)) := HC.atI_nat (powD_get (by omega))
        have n1 : ixN (List.length (mixB j s1 (xorB s1 b))) (j : Int) = some j := ixN_nat (by rw [mixB_len, w4.1]; exact hj)
        have n3 : ixN (List.length (mixB j s2 (xorB s2 (mulB (GF.pw i) b)))) (j : Int) = some j := ixN_nat (by rw [mixB_len, w5.1]; exact hj)
        have bj : b.getD j 0 < 256 := by
          rw [List.getD_eq_getElem?_getD, List.getElem?_eq_getElem (by rw [hbw.1]; exact hj)]
          exact hbw.2 _ (List.getElem_mem _)
        have s1e : Dv.int (Builtin.bitXor ((s1.getD j 0 : Nat) : Int) ((b.getD j 0 : Nat) : Int)) = dn ((xorB s1 b).getD j 0) := by
          rw [xorB_getD (by rw [w1.1]; exact hj) (by rw [hbw.1]; exact hj)]
          exact congrArg Dv.int (xorI rfl rfl)
        have s2e : Dv.int (Builtin.bitXor ((s2.getD j 0 : Nat) : Int) ((GF.gt (GF.pw i) (b.getD j 0) : Nat) : Int)) = dn ((xorB s2 (mulB (GF.pw i) b)).getD j 0) := by
          rw [xorB_getD (by rw [w2.1]; exact hj) (by rw [w3.1]; exact hj), mulB_getD (by rw [hbw.1]; exact hj)]
          exact congrArg Dv.int (xorI rfl rfl)
        have m1 : ((mixB j s1 (xorB s1 b)).map fun n => dn n).set j (dn ((xorB s1 b).getD j 0)) = (mixB (j + 1) s1 (xorB s1 b)).map fun n => dn n := by
          rw [← mixB_set (by rw [w4.1]; exact hj), List.map_set]
        have m2 : ((mixB j s2 (xorB s2 (mulB (GF.pw i) b))).map fun n => dn n).set j (dn ((xorB s2 (mulB (GF.pw i) b)).getD j 0)) = (mixB (j + 1) s2 (xorB s2 (mulB (GF.pw i) b))).map fun n => dn n := by
          rw [← mixB_set (by rw [w5.1]; exact hj), List.map_set]
        have hf2 : Field w M2 := hf.sub hg.sub
        decreasing_tactic
        ((repeat ((conv => whnf); simp only [lenA_r, itemsA_r, lstA_r, lstC_s, Option.map_some, atI_0, ixN_0, mup_same, mup_mup, true_and, and_true, List.map_cons, List.map_nil, List.length_cons, List.length_map, List.length_nil, List.set_cons_zero, List.set_cons_succ, List.cons_append, List.nil_append, List.getElem?_cons_zero, List.getElem?_cons_succ, hl, g1, g2, n1])); (conv => whnf))
        simp only [s1e, m1]
        have ht2 : mup M2 r (.lst ((mixB (j + 1) s1 (xorB s1 b)).map fun n => dn n)) t = some (.lst ((mixB j s2 (xorB s2 (mulB (GF.pw i) b))).map fun n => dn n)) := by rw [mup_ne hrt.symm]; exact ht
        have hf3 : Field w (mup M2 r (.lst ((mixB (j + 1) s1 (xorB s1 b)).map fun n => dn n))) := hf.sub hg.r.sub
        ((repeat ((conv => whnf); simp only [lenA_r, itemsA_r, lstA_r, lstC_s, Option.map_some, atI_0, ixN_0, mup_same, mup_mup, true_and, and_true, List.map_cons, List.map_nil, List.length_cons, List.length_map, List.length_nil, List.set_cons_zero, List.set_cons_succ, List.cons_append, List.nil_append, List.getElem?_cons_zero, List.getElem?_cons_succ, ht2, g3, g4, g2])); (conv => whnf))
        refine ⟨w, GF.pw i, b.getD j 0, rfl, hf3, pi, bj, ?_⟩
        ((repeat ((conv => whnf); simp only [lenA_r, itemsA_r, lstA_r, lstC_s, Option.map_some, atI_0, ixN_0, mup_same, mup_mup, true_and, and_true, List.map_cons, List.map_nil, List.length_cons, List.length_map, List.length_nil, List.set_cons_zero, List.set_cons_succ, List.cons_append, List.nil_append, List.getElem?_cons_zero, List.getElem?_cons_succ, ht2, n3])); (conv => whnf))
        simp only [s2e, m2]
        refine wk_of ⟨_, rfl, ?_, mup_same, hg.r.t hrt.symm⟩
        rw [mup_ne hrt, mup_same]
      · rintro ρ M2 ⟨x8, rfl, hl, ht, hg⟩
        rw [rangeA_len, Int.toNat_natCast] at hl ht
        rw [mixB_all (by rw [w4.1]; exact Nat.le_refl n)] at hl
        rw [mixB_all (by rw [w5.1]; exact Nat.le_refl n)] at ht
        exact wk_of ⟨_, _, _, rfl, by rw [e1]; exact hl, by rw [e2]; exact ht, hg⟩
    · rintro ρ M' ⟨x6, x7, x8, rfl, hl, ht, hg⟩
      rw [enumD_len, List.length_map, List.take_length] at hl ht
      decreasing_tactic
      intro u hu
      have hl2 := look_new (x := .lst (bs.map bD)) hl hu
      have ht2 := look_new (x := .lst (bs.map bD)) ht hu
      decreasing_tactic
      have eb1 : Dv.tup ((sumB n bs).map fun n => dn n) = bD (sumB n bs) := rfl
      have eb2 : Dv.tup ((sumB n (turnB bs)).map fun n => dn n) = bD (sumB n (turnB bs)) := rfl
      rw [eb1, eb2, cp]
      intro v hv
      have huv := look_new (x := .lst ((parB p n bs).map bD)) (mup_same (M := M') (a := u) (c := .lst (bs.map bD))) hv
      have pl := parB_len (n := n) (bs := bs) p1 p2
      (conv => whnf)
      refine ⟨_, _, huv, mup_same, le_line (by simp; omega), fun z hz => fz_new hz ?_⟩
      decreasing_tactic
      rw [← List.map_append]
      exact retSub ((hg.sub.trans (Sub.new hu)).trans (Sub.new hv)) k
  decreasing_tactic
  ((repeat ((conv => whnf); simp only [lenA_r, itemsA_r, lstA_r, lstC_s, Option.map_some, atI_0, ixN_0, mup_same, mup_mup, true_and, and_true, List.map_cons, List.map_nil, List.length_cons, List.length_map, List.length_nil, List.set_cons_zero, List.set_cons_succ, List.cons_append, List.nil_append, List.getElem?_cons_zero, List.getElem?_cons_succ, i0])); (conv => whnf))
  refine ⟨trivial, ?_⟩
  have e0 : Dv.int (((bs.getD 0 []).map fun n => dn n).length : Int) = dn n := by rw [List.length_map, b0]
  decreasing_tactic
  rw [b0]
  intro a ha
  (conv => whnf)
  refine ⟨[.int 0], mup_same, by omega, by omega, le_line (by simp; omega), fun r hr => ?_⟩
  decreasing_tactic
  intro c hc
  (conv => whnf)
  refine ⟨[.int 0], mup_same, by omega, by omega, le_line (by simp; omega), fun t ht => ?_⟩
  have hrt : r ≠ t := fun e => by
    subst e
    rw [mup_ne (ne_of_new mup_same hc), mup_same] at ht
    cases ht
  rw [rep] at hc ht ⊢
  refine main r t _ hrt ?_ mup_same ?_
  · rw [mup_ne hrt, mup_ne (ne_of_new mup_same hc), mup_same]
  · exact fun x cc e => by
      have hr' : M r = none := (Sub.new ha).free hr
      have s1 : Sub M (mup (mup M a (.lst [.int 0])) r (.lst ((zeroB n).map fun n => dn n))) := (Sub.new ha).trans (Sub.new hr)
      have s2 := s1.trans (Sub.new (c := .lst [.int 0]) hc)
      have ht' : M t = none := s2.free ht
      rw [mdel_ne (ne_of_new e ht'), mdel_ne (ne_of_new e hr')]
      exact (s2.trans (Sub.new ht)) x cc e
theorem ok_law_row (T : Tx K mg) : FnA P w K mg base 2 T.f_law_row T.d_law_row [("_law_field_here" : Str), ("_law_data_here" : Str), ("_law_parities" : Str)] sp_law_row :=
  fnA T.F_law_row sc_law_row len_law_row (fun cdv A outer s H E hr => by
    have hu1 := hu_of hr
    have hu64 := hr.units
    exact (ass_cons (as_set 3 sc_law_row.nd (ae_callB call_len abc_len (aa_cons (ae_ix hu1 (av 1) ae_int) aa_nil) T.n_len boot_len))
    (ass_cons (as_par 4 5 rfl sc_law_row.nd (aa_cons (ae_mul (ae_lst (aa_cons ae_int aa_nil)) (av 3)) (aa_cons (ae_mul (ae_lst (aa_cons ae_int aa_nil)) (av 3)) aa_nil)))
    (ass_cons (as_for PassesOwn.never rfl (ai_enum T.n_enumerate (aa_cons (av 1) aa_nil)) (ag_tup rfl (ags_cons (ag_name 6 sc_law_row.nd) (ags_cons (ag_name 7 sc_law_row.nd) ags_nil))) (ass_one (as_for PassesOwn.never rfl (ai_range1 T.n_range (aa_cons (av 3) aa_nil)) (ag_name 8 sc_law_row.nd) (ass_cons (as_asg (ae_xor (ae_ix hu1 (av 4) (av 8)) (ae_ix hu1 (av 7) (av 8))) (ag_sub hu1 (av 4) (av 8)))
    (ass_one (as_asg (ae_xor (ae_ix hu1 (av 5) (av 8)) (ae_call (ok_law_times T) (hr.mono (by decide)) T.m_law_times T.F_law_times.kp T.b_law_times (aa_cons (av 0) (aa_cons (ae_ix hu1 (ae_ix hu1 (av 0) ae_int) (av 6)) (aa_cons (ae_ix hu1 (av 7) (av 8)) aa_nil))))) (ag_sub hu1 (av 5) (av 8))))))))
    (ass_one (as_ret (ae_callTy call_tuple_of abc_tup (aa_cons (ae_fz (ae_add (ae_callTy call_list_of abc_lst (aa_cons (av 1) aa_nil) T.n_list boot_list) (ae_slice (ae_fz (ae_lst (aa_cons (ae_callTy call_tuple_of abc_tup (aa_cons (av 4) aa_nil) T.n_tuple boot_tuple) (aa_cons (ae_callTy call_tuple_of abc_tup (aa_cons (av 5) aa_nil) T.n_tuple boot_tuple) aa_nil)))) ao_none (ao_some (av 2))))) aa_nil) T.n_tuple boot_tuple))))))) spec_law_row
def SameOk : Nat → Dv → Prop
  | _, .non => True
  | _, .int _ => True
  | _, .str x => PyData.canLay0 (.str x) = true
  | n + 1, .tup xs => xs.length ≤ sizeLine ∧ ∀ d ∈ xs, SameOk n d
  | _, _ => False
def spr_law_same : Nat → ASp
  | 0 => fun _ _ _ => False
  | n + 1 => fun ds M Q => ∃ d, ds = [d, d] ∧ SameOk n d ∧ Q (.bl true) M
def dep_law_same : Nat := 6
abbrev sp_law_same : ASp := spr_law_same 6
theorem same_block (n : Nat) {b : Blk} (h : b.length ≤ 1000000) : SameOk (n + 1) (bD b) := by
  refine ⟨le_line (by simpa using h), fun d hd => ?_⟩
  obtain ⟨x, _, rfl⟩ := List.mem_map.mp hd
  cases n <;> trivial
theorem same_row (n : Nat) {bs : List Blk} (h : bs.length ≤ 1000000) (hb : ∀ b ∈ bs, b.length ≤ 1000000) : SameOk (n + 2) (.tup (bs.map bD)) := by
  refine ⟨le_line (by simpa using h), fun d hd => ?_⟩
  obtain ⟨x, hx, rfl⟩ := List.mem_map.mp hd
  exact same_block n (hb x hx)
def tk_law_same_3 (spr : ASp) : RS := (aRet (aAndV (aFn acIsi (aCons (aVar 0) (aCons (aC (.ty "int")) aNil))) (aAndV (aNotV (aFn acIsi (aCons (aVar 0) (aCons (aC (.ty "bool")) aNil)))) (aOp aEq (aVar 0) (aVar 1)))))
def tk_law_same_2 (spr : ASp) : RS := aSeq (aIfS (aTru (aFn acIsi (aCons (aVar 1) (aCons (aC (.ty "str")) aNil)))) (aRet (aAndV (aFn acIsi (aCons (aVar 0) (aCons (aC (.ty "str")) aNil))) (aOp aEq (aVar 0) (aVar 1)))) aNext) (tk_law_same_3 spr)
def tk_law_same_1 (spr : ASp) : RS := aSeq (aIfS (aTru (aFn acIsi (aCons (aVar 1) (aCons (aC (.ty "tuple")) aNil)))) (aRet (aAndV (aFn acIsi (aCons (aVar 0) (aCons (aC (.ty "tuple")) aNil))) (aAndV (aOp aEq (aFn acLen (aCons (aVar 0) aNil)) (aFn acLen (aCons (aVar 1) aNil))) (aFn acAll (aCons (aFz (aLc (aiZipX (aCons (aVar 0) (aCons (aVar 1) aNil))) (.tp [(.nm 2), (.nm 3)]) [2, 3] aYes (aCall spr (aCons (aVar 2) (aCons (aVar 3) aNil))))) aNil))))) aNext) (tk_law_same_2 spr)
def t_law_same (spr : ASp) : RS := aSeq (aIfS (aB (aOp aIs (aVar 1) (aC .non))) (aRet (aOp aIs (aVar 0) (aC .non))) aNext) (tk_law_same_1 spr)
theorem len_law_same : ∀ n ds M Q, spr_law_same (n + 1) ds M Q → ds.length = 2 := by
  rintro n ds M Q ⟨d, rfl, _⟩
  rfl
theorem spec_law_same : ∀ n ds M Q, spr_law_same (n + 1) ds M Q → t_law_same (spr_law_same n) (retD Q) (startA 4 ds) M := by
  rintro n ds M Q ⟨d, rfl, h, k⟩
  cases d <;> first | (cases n <;> exact h.elim) | (decreasing_tactic; exact retEnd k) | skip
  case int i =>
    decreasing_tactic
    rw [dec_T (rfl : Dv.int i = Dv.int i)]
    exact retEnd k
  case str x =>
    have px : Pl 9 (.str x) := by cases n <;> exact h
    decreasing_tactic
    try refine ⟨px, px, ?_⟩
    rw [dec_T (rfl : Dv.str x = Dv.str x)]
    exact retEnd k
  case tup xs =>
  cases n with
  | zero => exact h.elim
  | succ n =>
  decreasing_tactic
  have zl : (zipD xs xs).length = xs.length := by rw [zipD_len]; omega
  refine lcF (fun _ => .bl true) (fun _ => ⟨rfl, rfl⟩) (by rw [zl]; exact h.1) (fun i d hd M' N hs q => ?_) ?_
  · obtain ⟨x, y, hx, hy, rfl⟩ := zipD_get' hd
    rw [hx] at hy
    cases hy
    exact ⟨_, rfl, x, rfl, h.2 x (List.mem_of_getElem? hx), q⟩
  · ((conv => whnf); refine ⟨_, acAll_eq, ?_⟩; rw [all_map_id])
    have e : ((List.range (zipD xs xs).length).all fun _ => true) = true := by simp
    rw [e]
    exact retEnd k
theorem okr_law_same (T : Tx K mg) : ∀ n : Nat, FnA P w K mg base (0 + n) T.f_law_same T.d_law_same [("_law_one" : Str), ("_law_due" : Str)] (spr_law_same n)
  | 0 => ⟨fun vs H Q E ⟨ds, M, Q', r, hv, q, k⟩ => q.elim, fun A outer s H args us vs Q E _ _ _ _ ⟨ds, M, Q', r, hv, q, k⟩ => q.elim⟩
  | n + 1 => fnA (k := 0 + n) T.F_law_same sc_law_same (len_law_same n) (fun cdv A outer s H E hr => by
    have hu1 := hu_of hr
    have hu64 := hr.units
    have F0 := okr_law_same T n
    have hr0 := hr
    exact (ass_cons (as_if (at_is (av 1) ae_non) (ass_one (as_ret (ae_is (av 0) ae_non))) ass_nil)
    (ass_cons (as_if (at_tru (ae_callB call_isi abc_isi (aa_cons (av 1) (aa_cons (ae_gty rfl T.n_tuple boot_tuple) aa_nil)) T.n_isinstance boot_isinstance)) (ass_one (as_ret (ae_and (ae_callB call_isi abc_isi (aa_cons (av 0) (aa_cons (ae_gty rfl T.n_tuple boot_tuple) aa_nil)) T.n_isinstance boot_isinstance) (ae_and (ae_eq hu64 (ae_callB call_len abc_len (aa_cons (av 0) aa_nil) T.n_len boot_len) (ae_callB call_len abc_len (aa_cons (av 1) aa_nil) T.n_len boot_len)) (ae_and1 (ae_callB (cr_all rfl) abc_all (aa_cons (ae_fz (ae_lc (own := [(("_law_mine" : Str), 2), (("_law_other" : Str), 3)]) (tg := (.tp [(.nm 2), (.nm 3)])) (by decide) rfl sc_law_same.nd (ai_zipX T.n_zip (aa_cons (av 0) (aa_cons (av 1) aa_nil))) (blkOk_by (own := [(("_law_mine" : Str), 2), (("_law_other" : Str), 3)]) (N := N_law_same) (sc := defScope s_law_same) (by decide +kernel)) (fun _ _ _ _ _ => (pgt_tup rfl (pgts_cons (pgt_name 2 sc_law_same.nd) (pgts_cons (pgt_name 3 sc_law_same.nd) pgts_nil)))) (fun _ _ _ _ _ => ats_nil) (fun _ _ _ _ _ => (ae_call F0 hr0 T.m_law_same T.F_law_same.kp T.b_law_same (aa_cons (av 2) (aa_cons (av 3) aa_nil)))))) aa_nil) T.n_all boot_all)))))) ass_nil)
    (ass_cons (as_if (at_tru (ae_callB call_isi abc_isi (aa_cons (av 1) (aa_cons (ae_gty rfl T.n_str boot_str) aa_nil)) T.n_isinstance boot_isinstance)) (ass_one (as_ret (ae_and (ae_callB call_isi abc_isi (aa_cons (av 0) (aa_cons (ae_gty rfl T.n_str boot_str) aa_nil)) T.n_isinstance boot_isinstance) (ae_and1 (ae_eq hu64 (av 0) (av 1)))))) ass_nil)
    (ass_one (as_ret (ae_and (ae_callB call_isi abc_isi (aa_cons (av 0) (aa_cons (ae_gty rfl T.n_int boot_int) aa_nil)) T.n_isinstance boot_isinstance) (ae_and (ae_not (ae_callB call_isi abc_isi (aa_cons (av 0) (aa_cons (ae_gty rfl T.n_bool boot_bool) aa_nil)) T.n_isinstance boot_isinstance)) (ae_and1 (ae_eq hu64 (av 0) (av 1))))))))))) (spec_law_same n)
theorem ok_law_same (T : Tx K mg) : FnA P w K mg base 6 T.f_law_same T.d_law_same [("_law_one" : Str), ("_law_due" : Str)] sp_law_same := okr_law_same T 6
def sp_law_many : ASp := fun ds M Q => ∃ p q, ∃ a b : Int, ds = [.ref p, .int a, .int b] ∧ DPot p q M ∧ 0 ≤ a ∧ a < 1000000 ∧ 0 ≤ b ∧ b < 1000000 ∧
  ∀ (v : Nat) M', DPot p q M' → But p q M M' → (v : Int) ≤ max a b → Q (dn v) M'
def tk_law_many_1 : RS := (aRet (aCall sp_law_next (aCons (aVar 0) (aCons (aOp aAdd (aVar 1) (aC (.int 1))) aNil))))
def t_law_many : RS := aSeq (aIfS (aB (aOp aEq (aCall sp_law_next (aCons (aVar 0) (aCons (aC (.int 8)) aNil))) (aC (.int 0)))) (aRet (aCall sp_law_next (aCons (aVar 0) (aCons (aOp aAdd (aVar 2) (aC (.int 1))) aNil)))) aNext) (tk_law_many_1)
theorem len_law_many : ∀ ds M Q, sp_law_many ds M Q → ds.length = 3 := by
  rintro ds M Q ⟨p, q, a, b, rfl, _⟩
  rfl
theorem spec_law_many : ∀ ds M Q, sp_law_many ds M Q → t_law_many (retD Q) (startA 3 ds) M := by
  rintro ds M Q ⟨p, q, a, b, rfl, hd, a0, a1, b0, b1, k⟩
  decreasing_tactic
  (refine ⟨_, _, _, rfl, by assumption, (by infer_instance), (by infer_instance), fun v Mv dv bv lv => ?_⟩; decreasing_tactic)
  by_cases hv : v = 0
  · subst hv
    decreasing_tactic
    (refine ⟨_, _, _, rfl, by assumption, (by infer_instance), (by infer_instance), fun w Mw dw bw lw => ?_⟩; decreasing_tactic)
    exact retEnd (k w Mw dw (bv.trans bw) (by omega))
  · decreasing_tactic
    (refine ⟨_, _, _, rfl, by assumption, (by infer_instance), (by infer_instance), fun w Mw dw bw lw => ?_⟩; decreasing_tactic)
    exact retEnd (k w Mw dw (bv.trans bw) (by omega))
theorem ok_law_many (T : Tx K mg) : FnA P w K mg base 2 T.f_law_many T.d_law_many [("_law_draws" : Str), ("_law_few" : Str), ("_law_most" : Str)] sp_law_many :=
  fnA T.F_law_many sc_law_many len_law_many (fun cdv A outer s H E hr => by
    have hu1 := hu_of hr
    have hu64 := hr.units
    exact (ass_cons (as_if (at_eq hu64 (ae_call (ok_law_next T) (hr.mono (by decide)) T.m_law_next T.F_law_next.kp T.b_law_next (aa_cons (av 0) (aa_cons ae_int aa_nil))) ae_int) (ass_one (as_ret (ae_call (ok_law_next T) (hr.mono (by decide)) T.m_law_next T.F_law_next.kp T.b_law_next (aa_cons (av 0) (aa_cons (ae_add (av 2) ae_int) aa_nil))))) ass_nil)
    (ass_one (as_ret (ae_call (ok_law_next T) (hr.mono (by decide)) T.m_law_next T.F_law_next.kp T.b_law_next (aa_cons (av 0) (aa_cons (ae_add (av 1) ae_int) aa_nil))))))) spec_law_many
def sp_law_shape : ASp := fun ds M Q => ∃ p q, ds = [.ref p] ∧ DPot p q M ∧
  ∀ (par k size : Nat) M', DPot p q M' → But p q M M' → 1 ≤ par → par ≤ 2 → 1 ≤ k → k + par ≤ 10 → 1 ≤ size → size ≤ 16 → Q (.tup [dn par, dn k, dn size]) M'
def tk_law_shape_1 : RS := (aRet (aTup (aCons (aVar 1) (aCons (aOp aAdd (aC (.int 1)) (aCall sp_law_many (aCons (aVar 0) (aCons (aC (.int 3)) (aCons (aOp aSub (aC (.int 9)) (aVar 1)) aNil))))) (aCons (aOp aAdd (aC (.int 1)) (aCall sp_law_many (aCons (aVar 0) (aCons (aC (.int 2)) (aCons (aC (.int 15)) aNil))))) aNil)))))
def t_law_shape : RS := aSeq (aAsg (aOp aAdd (aC (.int 1)) (aCall sp_law_next (aCons (aVar 0) (aCons (aC (.int 2)) aNil)))) (agName 1)) (tk_law_shape_1)
theorem len_law_shape : ∀ ds M Q, sp_law_shape ds M Q → ds.length = 1 := by
  rintro ds M Q ⟨p, q, rfl, _⟩
  rfl
theorem spec_law_shape : ∀ ds M Q, sp_law_shape ds M Q → t_law_shape (retD Q) (startA 2 ds) M := by
  rintro ds M Q ⟨p, q, rfl, hd, k⟩
  decreasing_tactic
  (refine ⟨_, _, _, rfl, by assumption, (by infer_instance), (by infer_instance), fun a Ma da ba la => ?_⟩; decreasing_tactic)
  (refine ⟨_, _, _, _, rfl, by assumption, (by infer_instance), (by infer_instance), (by infer_instance), (by infer_instance), fun b Mb db bb lb => ?_⟩; decreasing_tactic)
  (refine ⟨_, _, _, _, rfl, by assumption, (by infer_instance), (by infer_instance), (by infer_instance), (by infer_instance), fun c Mc dc bc lc => ?_⟩; decreasing_tactic)
  exact retEnd (k (1 + a) (1 + b) (1 + c) _ dc ((ba.trans bb).trans bc) (by omega) (by omega) (by omega) (by omega) (by omega) (by omega))
theorem ok_law_shape (T : Tx K mg) : FnA P w K mg base 3 T.f_law_shape T.d_law_shape [("_law_draws" : Str)] sp_law_shape :=
  fnA T.F_law_shape sc_law_shape len_law_shape (fun cdv A outer s H E hr => by
    have hu1 := hu_of hr
    have hu64 := hr.units
    exact (ass_cons (as_set 1 sc_law_shape.nd (ae_add ae_int (ae_call (ok_law_next T) (hr.mono (by decide)) T.m_law_next T.F_law_next.kp T.b_law_next (aa_cons (av 0) (aa_cons ae_int aa_nil)))))
    (ass_one (as_ret (ae_tup (aa_cons (av 1) (aa_cons (ae_add ae_int (ae_call (ok_law_many T) (hr.mono (by decide)) T.m_law_many T.F_law_many.kp T.b_law_many (aa_cons (av 0) (aa_cons ae_int (aa_cons (ae_sub ae_int (av 1)) aa_nil))))) (aa_cons (ae_add ae_int (ae_call (ok_law_many T) (hr.mono (by decide)) T.m_law_many T.F_law_many.kp T.b_law_many (aa_cons (av 0) (aa_cons ae_int (aa_cons ae_int aa_nil))))) aa_nil)))))))) spec_law_shape
def sp_law_less : ASp := fun ds M Q => ∃ w, ∃ a b : Eq2, ∃ k n f : Nat, ds = [fieldD w, eD a, eD b, dn f] ∧ Field w M ∧ EqOk k n a ∧ EqOk k n b ∧ k ≤ 1000 ∧ n ≤ 1000 ∧ f < 256 ∧ Q (eD (lessR a b f)) M
def tk_law_less_1 : RS := (aRet (aFz (aLst (aCons (aVar 4) (aCons (aFz (aLc (aiZipX (aCons (aOp aIx (aVar 1) (aC (.int 1))) (aCons (aOp aIx (aVar 2) (aC (.int 1))) aNil))) (.tp [(.nm 5), (.nm 6)]) [5, 6] aYes (aOp aXor (aVar 5) (aCall sp_law_times (aCons (aVar 0) (aCons (aVar 3) (aCons (aVar 6) aNil))))))) aNil)))))
def t_law_less : RS := aSeq (aAsg (aFz (aLc (aiZipX (aCons (aOp aIx (aVar 1) (aC (.int 0))) (aCons (aOp aIx (aVar 2) (aC (.int 0))) aNil))) (.tp [(.nm 5), (.nm 6)]) [5, 6] aYes (aOp aXor (aVar 5) (aCall sp_law_times (aCons (aVar 0) (aCons (aVar 3) (aCons (aVar 6) aNil))))))) (agName 4)) (tk_law_less_1)
theorem len_law_less : ∀ ds M Q, sp_law_less ds M Q → ds.length = 4 := by
  rintro ds M Q ⟨w, a, b, k, n, f, rfl, _⟩
  rfl
theorem zip_less {x y : Blk} {f : Nat} (e : x.length = y.length) : (List.range (zipD (x.map fun n => dn n) (y.map fun n => dn n)).length).map (fun i => dn (x.getD i 0 ^^^ GF.gt f (y.getD i 0))) = (xorB x (mulB f y)).map fun n => dn n := by
  rw [zipD_len, List.length_map, List.length_map, e, Nat.min_self]
  refine List.ext_getElem (by simp [xorB, mulB, e]) fun i h1 h2 => ?_
  simp at h1
  have hx : i < x.length := by omega
  simp [xorB, mulB, List.getD, h1, hx]
theorem spec_law_less : ∀ ds M Q, sp_law_less ds M Q → t_law_less (retD Q) (startA 7 ds) M := by
  rintro ds M Q ⟨w, a, b, k, n, f, rfl, hf, oa, ob, hk, hn, hff, kk⟩
  have e1 := oa.l.len
  have e2 := ob.l.len
  have e3 := oa.b.len
  have e4 := ob.b.len
  have g0 : ∀ x y : Dv, atI [x, y] 0 = some x := fun _ _ => rfl
  have g1 : ∀ x y : Dv, atI [x, y] 1 = some y := fun _ _ => rfl
  unfold eD
  decreasing_tactic
  ((repeat ((conv => whnf); simp only [lenA_r, itemsA_r, lstA_r, lstC_s, Option.map_some, atI_0, ixN_0, mup_same, mup_mup, true_and, and_true, List.map_cons, List.map_nil, List.length_cons, List.length_map, List.length_nil, List.set_cons_zero, List.set_cons_succ, List.cons_append, List.nil_append, List.getElem?_cons_zero, List.getElem?_cons_succ, g0])); (conv => whnf))
  refine lcF (fun i => dn (a.1.getD i 0 ^^^ GF.gt f (b.1.getD i 0))) (fun _ => ⟨rfl, rfl⟩) (by rw [zipD_len]; exact le_line (by simp; omega)) (fun i d hi M' N hs q => ?_) ?_
  · obtain ⟨x, y, hx, hy, rfl⟩ := zipD_get' hi
    rw [List.getElem?_map] at hx hy
    obtain ⟨o, ho, rfl⟩ := Option.map_eq_some_iff.mp hx
    obtain ⟨c, hc, rfl⟩ := Option.map_eq_some_iff.mp hy
    rw [List.getD_eq_getElem?_getD, List.getD_eq_getElem?_getD, ho, hc] at q
    have cl : c < 256 := ob.l.lt c (List.mem_of_getElem? hc)
    refine ⟨_, rfl, ?_⟩
    decreasing_tactic
    refine ⟨w, f, c, rfl, hf.sub hs, hff, cl, ?_⟩
    decreasing_tactic
    have e : Dv.int (Builtin.bitXor (o : Int) ((GF.gt f c : Nat) : Int)) = dn ((some o).getD 0 ^^^ GF.gt f ((some c).getD 0)) := congrArg Dv.int (xorI rfl rfl)
    rw [← e] at q
    exact q
  rw [zip_less (by omega)]
  decreasing_tactic
  ((repeat ((conv => whnf); simp only [lenA_r, itemsA_r, lstA_r, lstC_s, Option.map_some, atI_0, ixN_0, mup_same, mup_mup, true_and, and_true, List.map_cons, List.map_nil, List.length_cons, List.length_map, List.length_nil, List.set_cons_zero, List.set_cons_succ, List.cons_append, List.nil_append, List.getElem?_cons_zero, List.getElem?_cons_succ, g1])); (conv => whnf))
  refine lcF (fun i => dn (a.2.getD i 0 ^^^ GF.gt f (b.2.getD i 0))) (fun _ => ⟨rfl, rfl⟩) (by rw [zipD_len]; exact le_line (by simp; omega)) (fun i d hi M' N hs q => ?_) ?_
  · obtain ⟨x, y, hx, hy, rfl⟩ := zipD_get' hi
    rw [List.getElem?_map] at hx hy
    obtain ⟨o, ho, rfl⟩ := Option.map_eq_some_iff.mp hx
    obtain ⟨c, hc, rfl⟩ := Option.map_eq_some_iff.mp hy
    rw [List.getD_eq_getElem?_getD, List.getD_eq_getElem?_getD, ho, hc] at q
    have cl : c < 256 := ob.b.lt c (List.mem_of_getElem? hc)
    refine ⟨_, rfl, ?_⟩
    decreasing_tactic
    refine ⟨w, f, c, rfl, hf.sub hs, hff, cl, ?_⟩
    decreasing_tactic
    have e : Dv.int (Builtin.bitXor (o : Int) ((GF.gt f c : Nat) : Int)) = dn ((some o).getD 0 ^^^ GF.gt f ((some c).getD 0)) := congrArg Dv.int (xorI rfl rfl)
    rw [← e] at q
    exact q
  rw [zip_less (by omega)]
  decreasing_tactic
  exact retEnd kk
theorem ok_law_less (T : Tx K mg) : FnA P w K mg base 2 T.f_law_less T.d_law_less [("_law_field_here" : Str), ("_law_row_here" : Str), ("_law_other" : Str), ("_law_factor" : Str)] sp_law_less :=
  fnA T.F_law_less sc_law_less len_law_less (fun cdv A outer s H E hr => by
    have hu1 := hu_of hr
    have hu64 := hr.units
    exact (ass_cons (as_fzset rfl (as_setLc 4 (own := [(("_law_one" : Str), 5), (("_law_two" : Str), 6)]) (tg := (.tp [(.nm 5), (.nm 6)])) (by decide) rfl sc_law_less.nd rfl rfl (sw_true rfl rfl rfl (by decide +kernel)) (ai_zipX T.n_zip (aa_cons (ae_ix hu1 (av 1) ae_int) (aa_cons (ae_ix hu1 (av 2) ae_int) aa_nil))) (blkOk_by (own := [(("_law_one" : Str), 5), (("_law_two" : Str), 6)]) (N := N_law_less) (sc := defScope s_law_less) (by decide +kernel)) (fun _ _ _ _ _ => (pgt_tup rfl (pgts_cons (pgt_name 5 sc_law_less.nd) (pgts_cons (pgt_name 6 sc_law_less.nd) pgts_nil)))) (fun _ _ _ _ _ => ats_nil) (fun _ _ _ _ _ => (ae_xor (av 5) (ae_call (ok_law_times T) (hr.mono (by decide)) T.m_law_times T.F_law_times.kp T.b_law_times (aa_cons (av 0) (aa_cons (av 3) (aa_cons (av 6) aa_nil))))))))
    (ass_one (as_ret (ae_fz (ae_lst (aa_cons (av 4) (aa_cons (ae_fz (ae_lc (own := [(("_law_one" : Str), 5), (("_law_two" : Str), 6)]) (tg := (.tp [(.nm 5), (.nm 6)])) (by decide) rfl sc_law_less.nd (ai_zipX T.n_zip (aa_cons (ae_ix hu1 (av 1) ae_int) (aa_cons (ae_ix hu1 (av 2) ae_int) aa_nil))) (blkOk_by (own := [(("_law_one" : Str), 5), (("_law_two" : Str), 6)]) (N := N_law_less) (sc := defScope s_law_less) (by decide +kernel)) (fun _ _ _ _ _ => (pgt_tup rfl (pgts_cons (pgt_name 5 sc_law_less.nd) (pgts_cons (pgt_name 6 sc_law_less.nd) pgts_nil)))) (fun _ _ _ _ _ => ats_nil) (fun _ _ _ _ _ => (ae_xor (av 5) (ae_call (ok_law_times T) (hr.mono (by decide)) T.m_law_times T.F_law_times.kp T.b_law_times (aa_cons (av 0) (aa_cons (av 3) (aa_cons (av 6) aa_nil)))))))) aa_nil)))))))) spec_law_less
def sp_law_line : ASp := fun ds M Q => ∃ w, ∃ k place : Nat, ds = [fieldD w, dn k, dn place] ∧ 1 ≤ k ∧ k ≤ 100 ∧ place < k + 2 ∧ Q (.rol ((lineF k place).map fun n => dn n)) M
def tk_law_line_1 : RS := (aRet (aOp aIx (aFz (aLst (aCons (aFz (aOp aMul (aLst (aCons (aC (.int 1)) aNil)) (aVar 1))) (aCons (aFz (aSl (aOp aIx (aVar 0) (aC (.int 0))) aoN (aoS (aVar 1)))) aNil)))) (aOp aSub (aVar 2) (aVar 1))))
def t_law_line : RS := aSeq (aIfS (aB (aOp aLt (aVar 2) (aVar 1))) (aRet (aFz (aLc (aiR1 (aCons (aVar 1) aNil)) (.nm 3) [3] aYes (aFn acInt (aCons (aOp aEq (aVar 2) (aVar 3)) aNil))))) aNext) (tk_law_line_1)
theorem len_law_line : ∀ ds M Q, sp_law_line ds M Q → ds.length = 3 := by
  rintro ds M Q ⟨w, k, place, rfl, _⟩
  rfl
theorem spec_law_line : ∀ ds M Q, sp_law_line ds M Q → t_law_line (retD Q) (startA 4 ds) M := by
  rintro ds M Q ⟨w, k, place, rfl, k1, hk, hp, kk⟩
  decreasing_tactic
  by_cases h1 : place < k
  · rw [dec_T (show (place : Int) < (k : Int) by omega)]
    rw [lineF, if_pos h1] at kk
    decreasing_tactic
    refine lcF (fun i => dn (if place = i then 1 else 0)) (fun _ => trivial) (by rw [rangeA_len]; exact le_line (by omega)) (fun i d hi M' N hs q => ?_) ?_
    · obtain ⟨hi, rfl⟩ := rangeA_get hi
      rw [Int.zero_add]
      refine ⟨_, rfl, ?_⟩
      decreasing_tactic
      by_cases e : place = i
      · rw [if_pos e] at q
        subst e
        rw [dec_T (show dn place = Dv.int (place : Int) from rfl)]
        exact q
      · rw [if_neg e] at q
        rw [dec_F (show ¬ dn place = Dv.int (i : Int) from fun h => e (by have := Dv.int.inj h; omega))]
        exact q
    · rw [rangeA_len, Int.toNat_natCast]
      rw [List.map_map] at kk
      exact retEnd kk
  · rw [dec_F (show ¬ (place : Int) < (k : Int) by omega)]
    have h0 : atI [Dv.rol powD, Dv.ref w] 0 = some (.rol powD) := rfl
    decreasing_tactic
    intro a ha
    (conv => whnf)
    refine ⟨[.int 1], mup_same, by omega, by omega, le_line (by simp; omega), fun r hr => ?_⟩
    have rep : (List.replicate (k : Int).toNat [Dv.int 1]).flatten = (List.replicate k 1).map fun n => dn n := by
      rw [Int.toNat_natCast, List.flatten_replicate_singleton, List.map_replicate]; rfl
    rw [rep]
    refine fz_new hr ?_
    have cp : cutA powD none (some (k : Int)) = ((List.range k).map GF.pw).map fun n => dn n := by
      rw [cut_to _ _ (by simp [powD]; omega), powD, ← List.map_take, List.take_range, Nat.min_eq_left (by omega), List.map_map]
      rfl
    decreasing_tactic
    ((repeat ((conv => whnf); simp only [lenA_r, itemsA_r, lstA_r, lstC_s, Option.map_some, atI_0, ixN_0, mup_same, mup_mup, true_and, and_true, List.map_cons, List.map_nil, List.length_cons, List.length_map, List.length_nil, List.set_cons_zero, List.set_cons_succ, List.cons_append, List.nil_append, List.getElem?_cons_zero, List.getElem?_cons_succ, h0])); (conv => whnf))
    rw [cp]
    rw [lineF, if_neg h1] at kk
    by_cases h2 : place = k
    · rw [if_pos h2] at kk
      have z : (place : Int) - (k : Int) = 0 := by omega
      rw [z]
      exact ⟨M, Sub.new ha, kk⟩
    · rw [if_neg h2] at kk
      have z : (place : Int) - (k : Int) = 1 := by omega
      rw [z]
      exact ⟨M, Sub.new ha, kk⟩
theorem ok_law_line (T : Tx K mg) : FnA P w K mg base 1 T.f_law_line T.d_law_line [("_law_field_here" : Str), ("_law_many_here" : Str), ("_law_place" : Str)] sp_law_line :=
  fnA T.F_law_line sc_law_line len_law_line (fun cdv A outer s H E hr => by
    have hu1 := hu_of hr
    have hu64 := hr.units
    exact (ass_cons (as_if (at_lt (av 2) (av 1)) (ass_one (as_ret (ae_fz (ae_lc (own := [(("_law_k" : Str), 3)]) (tg := (.nm 3)) (by decide) rfl sc_law_line.nd (ai_range1 T.n_range (aa_cons (av 1) aa_nil)) (blkOk_by (own := [(("_law_k" : Str), 3)]) (N := N_law_line) (sc := defScope s_law_line) (by decide +kernel)) (fun _ _ _ _ _ => (pgt_name 3 sc_law_line.nd)) (fun _ _ _ _ _ => ats_nil) (fun _ _ _ _ _ => (ae_callTy call_int1 abc_int (aa_cons (ae_eq hu64 (av 2) (av 3)) aa_nil) T.n_int boot_int)))))) ass_nil)
    (ass_one (as_ret (ae_ix hu1 (ae_fz (ae_lst (aa_cons (ae_fz (ae_mul (ae_lst (aa_cons ae_int aa_nil)) (av 1))) (aa_cons (ae_fz (ae_slice (ae_ix hu1 (av 0) ae_int) ao_none (ao_some (av 1)))) aa_nil)))) (ae_sub (av 2) (av 1))))))) spec_law_line
def sp_law_solved : ASp := fun ds M Q => ∃ w, ∃ r : Row, ∃ n p : Nat, ds = [fieldD w, .tup (r.map oD), dn p] ∧ Field w M ∧ 1 ≤ p ∧ p ≤ 2 ∧ p < r.length ∧ r.length ≤ 100 ∧ n ≤ 1000 ∧ WfO n r ∧ r.length - p ≤ (known r).length ∧
  ∀ es : List Blk, WfR n es → es.length = r.length - p → Hides p n es (maskR (r.length - p) r) → Q (.tup ((es ++ parB p n es).map bD)) M
theorem rows_set {k c : Nat} {R : Nat → Eq2} {x : Eq2} : ((List.range k).map fun j => eD (R j)).set c (eD x) = (List.range k).map fun j => eD (if j = c then x else R j) := by
  refine List.ext_getElem (by simp) fun i h1 h2 => ?_
  rw [List.getElem_set]
  simp only [List.getElem_map, List.getElem_range]
  by_cases e : i = c
  · rw [if_pos e, if_pos e.symm]
  · rw [if_neg e, if_neg (Ne.symm e)]
theorem rows_swap {k c a : Nat} {R : Nat → Eq2} : (((List.range k).map fun j => eD (R j)).set c (eD (R a))).set a (eD (R c)) = (List.range k).map fun j => eD (swapR R c a j) := by
  rw [rows_set, rows_set]
  rfl
theorem piv_list {k c : Nat} {R : Nat → Eq2} (h : ∃ a, c ≤ a ∧ a < k ∧ (R a).1.getD c 0 ≠ 0) : ∃ a rest, (List.range (k - c)).filterMap (fun i => if (R (c + i)).1.getD c 0 = 0 then none else some (dn (c + i))) = dn a :: rest ∧ c ≤ a ∧ a < k ∧ (R a).1.getD c 0 ≠ 0 := by
  obtain ⟨a, h1, h2, h3⟩ := h
  have hm : dn a ∈ (List.range (k - c)).filterMap (fun i => if (R (c + i)).1.getD c 0 = 0 then none else some (dn (c + i))) := by
    refine List.mem_filterMap.mpr ⟨a - c, List.mem_range.mpr (by omega), ?_⟩
    rw [show c + (a - c) = a by omega, if_neg h3]
  match e : (List.range (k - c)).filterMap (fun i => if (R (c + i)).1.getD c 0 = 0 then none else some (dn (c + i))) with
  | [] => rw [e] at hm; cases hm
  | d :: rest =>
    have : d ∈ (List.range (k - c)).filterMap (fun i => if (R (c + i)).1.getD c 0 = 0 then none else some (dn (c + i))) := by rw [e]; exact List.mem_cons_self
    obtain ⟨i, hi, q⟩ := List.mem_filterMap.mp this
    have hi := List.mem_range.mp hi
    split at q
    · cases q
    · next h0 => exact ⟨c + i, rest, by rw [← Option.some.inj q], by omega, by omega, h0⟩
theorem back_one {x : Nat} (hx : x < 256) (x0 : x ≠ 0) : GF.gt (GF.pw ((255 - lg x) % 255)) x = 1 := by
  obtain ⟨h1, h2⟩ := lg_ok hx x0
  rw [GF.pw_mod]
  conv => lhs; rw [← h2]
  have := GF.gp_add (s := 2) (by decide) (255 - lg x) (lg x)
  rw [show 255 - lg x + lg x = 255 by omega] at this
  rw [show lg (GF.pw (lg x)) = lg x by rw [h2]]
  exact this.symm.trans GF.pw255
theorem xor_none {k : Nat} {l m : Blk} (hl : Lk k l) (hm : Lk k m) : xorB l (mulB 0 m) = l := by
  refine List.ext_getElem (by simp [xorB, mulB, hl.len, hm.len]) fun i h1 h2 => ?_
  simp [xorB, mulB, GF.zero_gt]
theorem less_none {k n : Nat} {a b : Eq2} (ha : EqOk k n a) (hb : EqOk k n b) : lessR a b 0 = a := by
  unfold lessR
  rw [xor_none ha.l hb.l, xor_none ha.b hb.b]
theorem lessAt_step {R : Nat → Eq2} {c m j : Nat} : lessAt R c (m + 1) j = if j = m ∧ m ≠ c then lessR (R m) (R c) ((R m).1.getD c 0) else lessAt R c m j := by
  by_cases e : j = m
  · subst e
    by_cases e2 : j = c
    · rw [if_neg (fun h => h.2 e2), lessAt, if_neg (fun h => h.2 e2), lessAt, if_neg (fun h => h.2 e2)]
    · rw [if_pos ⟨rfl, e2⟩, lessAt, if_pos ⟨by omega, e2⟩]
  · rw [if_neg (fun h => e h.1)]
    unfold lessAt
    by_cases h : j < m ∧ j ≠ c
    · rw [if_pos h, if_pos ⟨by omega, h.2⟩]
    · rw [if_neg h, if_neg (fun q => h ⟨by omega, q.2⟩)]
def tk_law_solved_4 : RS := (aRet (aCall sp_law_row (aCons (aVar 0) (aCons (aFz (aLc (aiSeq (aVar 5)) (.nm 14) [14] aYes (aFn acTup (aCons (aOp aIx (aVar 14) (aC (.int 1))) aNil)))) (aCons (aVar 2) aNil)))))
def tk_law_solved_3 : RS := aSeq (aFor (aiR1 (aCons (aVar 3) aNil)) (agName 6) (aSeq (aAsg (aOp aIx (aFz (aLc (aiR2 (aCons (aVar 6) (aCons (aVar 3) aNil))) (.nm 9) [9] (aB (aOp aNe (aOp aIx (aOp aIx (aOp aIx (aVar 5) (aVar 9)) (aC (.int 0))) (aVar 6)) (aC (.int 0)))) (aVar 9))) (aC (.int 0))) (agName 7))
    (aSeq (aAsg (aTup (aCons (aOp aIx (aVar 5) (aVar 7)) (aCons (aOp aIx (aVar 5) (aVar 6)) aNil))) (agTup 2 (agCons (agSub (aVar 5) (aVar 6) asSet) (agCons (agSub (aVar 5) (aVar 7) asSet) agNil))))
    (aSeq (aAsg (aOp aIx (aOp aIx (aVar 0) (aC (.int 0))) (aOp aMod (aOp aSub (aC (.int 255)) (aOp aIx (aOp aIx (aVar 0) (aC (.int 1))) (aOp aIx (aOp aIx (aOp aIx (aVar 5) (aVar 6)) (aC (.int 0))) (aVar 6)))) (aC (.int 255)))) (agName 8))
    (aSeq (aAsg (aFz (aLc (aiSeq (aOp aIx (aVar 5) (aVar 6))) (.nm 12) [12] aYes (aFz (aLc (aiSeq (aVar 12)) (.nm 13) [13] aYes (aCall sp_law_times (aCons (aVar 0) (aCons (aVar 8) (aCons (aVar 13) aNil)))))))) (agSub (aVar 5) (aVar 6) asSet))
    (aFor (aiR1 (aCons (aVar 3) aNil)) (agName 9) (aIfS (aAnd (aB (aOp aNe (aVar 9) (aVar 6))) (aB (aOp aNe (aOp aIx (aOp aIx (aOp aIx (aVar 5) (aVar 9)) (aC (.int 0))) (aVar 6)) (aC (.int 0))))) (aAsg (aCall sp_law_less (aCons (aVar 0) (aCons (aOp aIx (aVar 5) (aVar 9)) (aCons (aOp aIx (aVar 5) (aVar 6)) (aCons (aOp aIx (aOp aIx (aOp aIx (aVar 5) (aVar 9)) (aC (.int 0))) (aVar 6)) aNil))))) (agSub (aVar 5) (aVar 9) asSet)) aNext))))))) (tk_law_solved_4)
def tk_law_solved_2 : RS := aSeq (aAsg (aLc (aiSeq (aVar 4)) (.nm 10) [10] aYes (aFz (aLst (aCons (aCall sp_law_line (aCons (aVar 0) (aCons (aVar 3) (aCons (aVar 10) aNil)))) (aCons (aFz (aFn acLst (aCons (aOp aIx (aVar 1) (aVar 10)) aNil))) aNil))))) (agName 5)) (tk_law_solved_3)
def tk_law_solved_1 : RS := aSeq (aAsg (aFz (aSl (aFz (aLc (aiEnum (aCons (aVar 1) aNil)) (.tp [(.nm 10), (.nm 11)]) [10, 11] (aB (aOp aIsNot (aVar 11) (aC .non))) (aVar 10))) aoN (aoS (aVar 3)))) (agName 4)) (tk_law_solved_2)
def t_law_solved : RS := aSeq (aAsg (aOp aSub (aFn acLen (aCons (aVar 1) aNil)) (aVar 2)) (agName 3)) (tk_law_solved_1)
theorem len_law_solved : ∀ ds M Q, sp_law_solved ds M Q → ds.length = 3 := by
  rintro ds M Q ⟨w, r, n, p, rfl, _⟩
  rfl
theorem spec_law_solved : ∀ ds M Q, sp_law_solved ds M Q → t_law_solved (retD Q) (startA 15 ds) M := by
  rintro ds M Q ⟨w, r, n, p, rfl, hf, p1, p2, pl, rl, hn, hw, hk, kk⟩
  obtain ⟨k, hkl⟩ : ∃ k, r.length = k + p := ⟨r.length - p, by omega⟩
  have ek : r.length - p = k := by omega
  rw [ek] at hk kk
  have ek2 : ((r.map oD).length : Int) - (p : Int) = (k : Int) := by rw [List.length_map, hkl]; omega
  have i0 := inv_first p1 p2 (by omega) hkl hw hk
  decreasing_tactic
  (dsimp only)
  rw [ek2]
  refine lcF_opt (fun i => if (r.getD i none).isSome then some (dn i) else none) (fun _ => rfl) (by rw [enumD_len]; exact le_line (by simp; omega)) (fun i d hi M' N hs q => ?_) ?_
  · obtain ⟨f, hf, rfl⟩ := enumD_get' hi
    rw [List.getElem?_map] at hf
    obtain ⟨o, ho, rfl⟩ := Option.map_eq_some_iff.mp hf
    rw [List.getD_eq_getElem?_getD, ho] at q
    refine ⟨_, rfl, ?_⟩
    cases o with
    | none => decreasing_tactic; exact q
    | some b => decreasing_tactic; exact q
  have ep : (List.range (enumD (r.map oD)).length).filterMap (fun i => if (r.getD i none).isSome then some (dn i) else none) = (known r).map fun n => dn n := by
    rw [enumD_len, List.length_map]
    unfold known
    rw [← List.filterMap_eq_map', List.filterMap_filter]
  rw [ep]
  have cp : cutA ((known r).map fun n => dn n) none (some (k : Int)) = (firstP k r).map fun n => dn n := by
    rw [cut_to _ _ (by simp; omega), ← List.map_take]; rfl
  decreasing_tactic
  rw [cp]
  intro q hq
  have fl := first_len (k := k) (r := r) hk
  refine lcW_idx (fun j => eD (eqR k r j)) (fun _ => rfl) (le_line (by simp; omega)) (fun j d hj acc N hN => ?_) ?_
  · rw [List.getElem?_map] at hj
    obtain ⟨i, hi, rfl⟩ := Option.map_eq_some_iff.mp hj
    have ei : (firstP k r).getD j 0 = i := by rw [List.getD_eq_getElem?_getD, hi]; rfl
    obtain ⟨hil, b, hb⟩ := first_known (List.mem_of_getElem? hi)
    have a1 : atI (r.map oD) (i : Int) = some (bD b) := HC.atI_nat (by rw [rowO r i hil, hb]; rfl)
    have ee : eD (eqR k r j) = .rol [.rol ((lineF k i).map fun n => dn n), .rol (b.map fun n => dn n)] := by
      unfold eqR eD
      rw [ei, hb]
      rfl
    rw [ee] at hN
    refine ⟨_, rfl, ?_⟩
    decreasing_tactic
    refine ⟨w, k, i, rfl, by omega, by omega, by omega, ?_⟩
    decreasing_tactic
    ((repeat ((conv => whnf); simp only [lenA_r, itemsA_r, lstA_r, lstC_s, Option.map_some, atI_0, ixN_0, mup_same, mup_mup, true_and, and_true, List.map_cons, List.map_nil, List.length_cons, List.length_map, List.length_nil, List.set_cons_zero, List.set_cons_succ, List.cons_append, List.nil_append, List.getElem?_cons_zero, List.getElem?_cons_succ, a1])); (conv => whnf))
    intro z hz
    refine fz_new hz ?_
    decreasing_tactic
    exact lcEnd hN
  · rw [List.length_map, fl]
    decreasing_tactic
    refine forW_inv (fun c ρ M' => ∃ x6 x7 x8 x9 x10 x11 x12 x13 x14, ∃ R : Nat → Eq2, ρ = [some (fieldD w), some (.tup (r.map oD)), some (dn p), some (dn k), some (.rol ((firstP k r).map fun n => dn n)), some (.ref q), x6, x7, x8, x9, x10, x11, x12, x13, x14] ∧ Inv k n c R (eqR k r) ∧ M' q = some (.lst ((List.range k).map fun j => eD (R j))) ∧ Sub M (mdel M' q)) ⟨_, _, _, _, _, _, _, _, _, eqR k r, rfl, i0, mup_same, by rw [mdel_put]; exact mdel_of (Sub.refl _) hq⟩ (fun _ _ _ _ _ => trivial) ?_ ?_
    · rintro c d ρ M' hi ⟨x6, x7, x8, x9, x10, x11, x12, x13, x14, R, rfl, iv, hq2, hs⟩
      obtain ⟨hc, rfl⟩ := rangeA_get hi
      rw [Int.zero_add]
      have hc : c < k := by omega
      have hf2 : Field w M' := hf.sub (hs.trans mdel_sub)
      have rowAt : ∀ (R : Nat → Eq2) j, j < k → atI ((List.range k).map fun j => eD (R j)) (j : Int) = some (.rol [.rol ((R j).1.map fun n => dn n), .rol ((R j).2.map fun n => dn n)]) := fun R j hj => HC.atI_nat (by rw [List.getElem?_map, List.getElem?_range hj]; rfl)
      have g0 : ∀ x y : Dv, atI [x, y] 0 = some x := fun _ _ => rfl
      have lineAt : ∀ {l : Blk}, Lk k l → atI (l.map fun n => dn n) (c : Int) = some (dn (l.getD c 0)) := fun {l} hl => HC.atI_nat (dnD l c (by rw [hl.len]; exact hc))
      decreasing_tactic
      refine lcF_opt (fun i => if (R (c + i)).1.getD c 0 = 0 then none else some (dn (c + i))) (fun _ => trivial) (by rw [rangeA_len]; exact le_line (by omega)) (fun i d hi M2 N hs2 q2 => ?_) ?_
      · obtain ⟨hi, rfl⟩ := rangeA_get hi
        have hci : c + i < k := by omega
        have r1 := rowAt R (c + i) hci
        have r2 := lineAt (iv.ok _ hci).l
        have hq3 := hs2 _ _ hq2
        have ec : (c : Int) + (i : Int) = ((c + i : Nat) : Int) := by omega
        rw [ec]
        refine ⟨_, rfl, ?_⟩
        decreasing_tactic
        ((repeat ((conv => whnf); simp only [lenA_r, itemsA_r, lstA_r, lstC_s, Option.map_some, atI_0, ixN_0, mup_same, mup_mup, true_and, and_true, List.map_cons, List.map_nil, List.length_cons, List.length_map, List.length_nil, List.set_cons_zero, List.set_cons_succ, List.cons_append, List.nil_append, List.getElem?_cons_zero, List.getElem?_cons_succ, hq3, r1, g0, r2])); (conv => whnf))
        refine ⟨trivial, trivial, ?_⟩
        by_cases e : (R (c + i)).1.getD c 0 = 0
        · rw [if_pos e] at q2
          rw [dec_T (show dn ((R (c + i)).1.getD c 0) = Dv.int 0 by rw [e]; rfl)]
          decreasing_tactic
          exact q2
        · rw [if_neg e] at q2
          rw [dec_F (show ¬ dn ((R (c + i)).1.getD c 0) = Dv.int 0 from fun h => e (by have := Dv.int.inj h; omega))]
          decreasing_tactic
          exact q2
      · have lk : (rangeA (c : Int) ((k : Int) - (c : Int)).toNat).length = k - c := by rw [rangeA_len]; omega
        obtain ⟨a, rest, eL, ca, ak, pa⟩ := piv_list (iv.pivot hc)
        rw [lk, eL]
        have h0 : atI (dn a :: rest) 0 = some (dn a) := HC.atI_0 _ _
        have nc : ixN k (c : Int) = some c := ixN_nat hc
        have na : ixN k (a : Int) = some a := ixN_nat ak
        have rc := rowAt R c hc
        have ra := rowAt R a ak
        decreasing_tactic
        ((repeat ((conv => whnf); simp only [lenA_r, itemsA_r, lstA_r, lstC_s, Option.map_some, atI_0, ixN_0, mup_same, mup_mup, true_and, and_true, List.map_cons, List.map_nil, List.length_cons, List.length_map, List.length_nil, List.set_cons_zero, List.set_cons_succ, List.cons_append, List.nil_append, List.getElem?_cons_zero, List.getElem?_cons_succ, h0])); (conv => whnf))
        ((repeat ((conv => whnf); simp only [lenA_r, itemsA_r, lstA_r, lstC_s, Option.map_some, atI_0, ixN_0, mup_same, mup_mup, true_and, and_true, List.map_cons, List.map_nil, List.length_cons, List.length_map, List.length_nil, List.set_cons_zero, List.set_cons_succ, List.cons_append, List.nil_append, List.getElem?_cons_zero, List.getElem?_cons_succ, hq2, ra, rc, List.length_range, List.length_set, nc, na])); (conv => whnf))
        refine ⟨by decide, ?_⟩
        ((repeat ((conv => whnf); simp only [lenA_r, itemsA_r, lstA_r, lstC_s, Option.map_some, atI_0, ixN_0, mup_same, mup_mup, true_and, and_true, List.map_cons, List.map_nil, List.length_cons, List.length_map, List.length_nil, List.set_cons_zero, List.set_cons_succ, List.cons_append, List.nil_append, List.getElem?_cons_zero, List.getElem?_cons_succ, hq2, List.length_range, List.length_set, nc, na])); (conv => whnf))
        ((repeat ((conv => whnf); simp only [lenA_r, itemsA_r, lstA_r, lstC_s, Option.map_some, atI_0, ixN_0, mup_same, mup_mup, true_and, and_true, List.map_cons, List.map_nil, List.length_cons, List.length_map, List.length_nil, List.set_cons_zero, List.set_cons_succ, List.cons_append, List.nil_append, List.getElem?_cons_zero, List.getElem?_cons_succ, mup_same, List.length_range, List.length_set, nc, na])); (conv => whnf))
        have esw := rows_swap (k := k) (c := c) (a := a) (R := R)
        rw [eD, eD] at esw
        rw [esw]
        have iv1 := iv.swap ca ak
        have pv : (swapR R c a c).1.getD c 0 ≠ 0 := by
          unfold swapR
          by_cases e : c = a
          · subst e; rw [if_pos rfl]; exact pa
          · rw [if_neg e, if_pos rfl]; exact pa
        generalize swapR R c a = R1 at iv1 pv ⊢
        have rc1 := rowAt R1 c hc
        have ol1 := iv1.ok c hc
        have x256 := ol1.l.get c
        have lx := log_get x256 pv
        have hlt := (lg_ok x256 pv).1
        have la := lineAt ol1.l
        have f1 := back_one x256 pv
        have ef : ((255 : Int) - (lg ((R1 c).1.getD c 0) : Int)) % 255 = (((255 - lg ((R1 c).1.getD c 0)) % 255 : Nat) : Int) := by omega
        have powAt : atI powD (((255 - lg ((R1 c).1.getD c 0)) % 255 : Nat) : Int) = some (dn (GF.pw ((255 - lg ((R1 c).1.getD c 0)) % 255))) := HC.atI_nat (powD_get (Nat.mod_lt _ (by decide)))
        have hwq : w ≠ q := ne_of_new hf hq
        have fz : ∀ c, (mup M' q c) w = some (.dic (logD 255)) := fun c => by rw [mup_ne hwq]; exact hf2
        have gw : ∀ x y : Dv, atI [x, y] 1 = some y := fun _ _ => rfl
        ((repeat ((conv => whnf); simp only [lenA_r, itemsA_r, lstA_r, lstC_s, Option.map_some, atI_0, ixN_0, mup_same, mup_mup, true_and, and_true, List.map_cons, List.map_nil, List.length_cons, List.length_map, List.length_nil, List.set_cons_zero, List.set_cons_succ, List.cons_append, List.nil_append, List.getElem?_cons_zero, List.getElem?_cons_succ, rc1, g0, la, fz, lx, mup_same])); (conv => whnf))
        ((repeat ((conv => whnf); simp only [lenA_r, itemsA_r, lstA_r, lstC_s, Option.map_some, atI_0, ixN_0, mup_same, mup_mup, true_and, and_true, List.map_cons, List.map_nil, List.length_cons, List.length_map, List.length_nil, List.set_cons_zero, List.set_cons_succ, List.cons_append, List.nil_append, List.getElem?_cons_zero, List.getElem?_cons_succ, rc1, g0, gw, la, fz, lx, mup_same])); (conv => whnf))
        refine ⟨by decide, ?_⟩
        rw [ef]
        have f256 := GF.gp_lt 2 ((255 - lg ((R1 c).1.getD c 0)) % 255)
        have f0 := GF.pw_ne0 ((255 - lg ((R1 c).1.getD c 0)) % 255)
        generalize (255 - lg ((R1 c).1.getD c 0)) % 255 = m at powAt f1 f256 f0 ⊢
        ((repeat ((conv => whnf); simp only [lenA_r, itemsA_r, lstA_r, lstC_s, Option.map_some, atI_0, ixN_0, mup_same, mup_mup, true_and, and_true, List.map_cons, List.map_nil, List.length_cons, List.length_map, List.length_nil, List.set_cons_zero, List.set_cons_succ, List.cons_append, List.nil_append, List.getElem?_cons_zero, List.getElem?_cons_succ, powAt])); (conv => whnf))
        change GF.pw m < 256 at f256
        generalize GF.pw m = f at f1 f256 f0 ⊢
        ((repeat ((conv => whnf); simp only [lenA_r, itemsA_r, lstA_r, lstC_s, Option.map_some, atI_0, ixN_0, mup_same, mup_mup, true_and, and_true, List.map_cons, List.map_nil, List.length_cons, List.length_map, List.length_nil, List.set_cons_zero, List.set_cons_succ, List.cons_append, List.nil_append, List.getElem?_cons_zero, List.getElem?_cons_succ, rc1, mup_same])); (conv => whnf))
        have ei : [Dv.rol ((R1 c).1.map fun n => dn n), Dv.rol ((R1 c).2.map fun n => dn n)] = [(R1 c).1, (R1 c).2].map fun l => Dv.rol (l.map fun n => dn n) := rfl
        rw [ei]
        refine lcF (fun i => .rol ((mulB f ([(R1 c).1, (R1 c).2].getD i [])).map fun n => dn n)) (fun _ => rfl) (le_line (by simp)) (fun i d hi M2 N hs2 q2 => ?_) ?_
        · rw [List.getElem?_map] at hi
          obtain ⟨L, hL, rfl⟩ := Option.map_eq_some_iff.mp hi
          rw [List.getD_eq_getElem?_getD, hL] at q2
          have Lb : L.length ≤ 1000 ∧ ∀ x ∈ L, x < 256 := by
            rcases List.mem_cons.mp (List.mem_of_getElem? hL) with rfl | h
            · exact ⟨by rw [ol1.l.len]; omega, ol1.l.lt⟩
            · rw [List.mem_singleton.mp h]; exact ⟨by rw [ol1.b.len]; omega, ol1.b.lt⟩
          refine ⟨_, rfl, ?_⟩
          decreasing_tactic
          refine lcF (fun t => dn (GF.gt f (L.getD t 0))) (fun _ => rfl) (le_line (by simp; omega)) (fun t d ht M3 N3 hs3 q3 => ?_) ?_
          · rw [List.getElem?_map] at ht
            obtain ⟨x, hx, rfl⟩ := Option.map_eq_some_iff.mp ht
            rw [List.getD_eq_getElem?_getD, hx] at q3
            refine ⟨_, rfl, ?_⟩
            decreasing_tactic
            refine ⟨w, f, x, rfl, ?_, f256, Lb.2 x (List.mem_of_getElem? hx), ?_⟩
            · exact hs3 _ _ (hs2 _ _ (fz _))
            · exact q3
          · have e : (List.range (L.map fun n => dn n).length).map (fun t => dn (GF.gt f (L.getD t 0))) = (mulB f L).map fun n => dn n := by
              rw [List.length_map]
              refine List.ext_getElem (by simp [mulB]) fun i h1 h2 => ?_
              simp at h1
              simp [mulB, List.getD, h1]
            rw [e]
            exact q2
        · have e : (List.range ([(R1 c).1, (R1 c).2].map fun l => Dv.rol (l.map fun n => dn n)).length).map (fun i => Dv.rol ((mulB f ([(R1 c).1, (R1 c).2].getD i [])).map fun n => dn n)) = [.rol ((mulB f (R1 c).1).map fun n => dn n), .rol ((mulB f (R1 c).2).map fun n => dn n)] := rfl
          rw [e]
          have iv2 := iv1.scale hc f256 f0
          have p1' : (scaleAt R1 c f c).1.getD c 0 = 1 := by
            rw [scaleAt, if_pos rfl, scaleR, mulB_getD (by rw [ol1.l.len]; exact hc)]
            exact f1
          have es2 : ((List.range k).map fun j => eD (R1 j)).set c (.rol [.rol ((mulB f (R1 c).1).map fun n => dn n), .rol ((mulB f (R1 c).2).map fun n => dn n)]) = (List.range k).map fun j => eD (scaleAt R1 c f j) := by
            have := rows_set (k := k) (c := c) (R := R1) (x := scaleR f (R1 c))
            refine Eq.trans this (List.map_congr_left fun j _ => ?_)
            unfold scaleAt
            by_cases ej : j = c
            · rw [if_pos ej, if_pos ej, ej]
            · rw [if_neg ej, if_neg ej]
          decreasing_tactic
          ((repeat ((conv => whnf); simp only [lenA_r, itemsA_r, lstA_r, lstC_s, Option.map_some, atI_0, ixN_0, mup_same, mup_mup, true_and, and_true, List.map_cons, List.map_nil, List.length_cons, List.length_map, List.length_nil, List.set_cons_zero, List.set_cons_succ, List.cons_append, List.nil_append, List.getElem?_cons_zero, List.getElem?_cons_succ, mup_same, List.length_range, nc])); (conv => whnf))
          rw [es2]
          generalize scaleAt R1 c f = R2 at iv2 p1' ⊢
          refine ⟨by omega, ?_⟩
          refine forW_inv (fun m ρ M4 => ∃ x9 x10 x11 x12 x13 x14, ρ = [some (fieldD w), some (.tup (r.map oD)), some (dn p), some (dn k), some (.rol ((firstP k r).map fun n => dn n)), some (.ref q), some (.int (c : Int)), some (dn a), some (dn f), x9, x10, x11, x12, x13, x14] ∧ M4 q = some (.lst ((List.range k).map fun j => eD (lessAt R2 c m j))) ∧ Sub M (mdel M4 q)) ⟨x9, x10, x11, x12, x13, x14, rfl, ?_, ?_⟩ (fun _ _ _ _ _ => trivial) ?_ ?_
          · rw [mup_same]
            have e : ((List.range k).map fun j => eD (R2 j)) = (List.range k).map fun j => eD (lessAt R2 c 0 j) := List.map_congr_left fun j _ => by rw [lessAt, if_neg (by omega)]
            rw [e]
          · rw [mdel_put]; exact hs
          · rintro m d M4' M4 hm ⟨x9, x10, x11, x12, x13, x14, rfl, hq4, hs4⟩
            obtain ⟨hm, rfl⟩ := rangeA_get hm
            rw [Int.zero_add]
            have hm : m < k := by omega
            have hf4 : Field w M4 := hf.sub (hs4.trans mdel_sub)
            have em : lessAt R2 c m m = R2 m := by rw [lessAt, if_neg (by omega)]
            have ec : lessAt R2 c m c = R2 c := by rw [lessAt, if_neg (by omega)]
            have rm := rowAt (lessAt R2 c m) m hm
            have rcc := rowAt (lessAt R2 c m) c hc
            rw [em] at rm
            rw [ec] at rcc
            have lm := lineAt (iv2.ok m hm).l
            have nm : ixN k (m : Int) = some m := ixN_nat hm
            have same : (¬ (m ≠ c ∧ (R2 m).1.getD c 0 ≠ 0)) → ((List.range k).map fun j => eD (lessAt R2 c (m + 1) j)) = (List.range k).map fun j => eD (lessAt R2 c m j) := fun hn => List.map_congr_left fun j _ => by
              rw [lessAt_step]
              by_cases e : j = m ∧ m ≠ c
              · have z : (R2 m).1.getD c 0 = 0 := Classical.byContradiction fun z => hn ⟨e.2, z⟩
                rw [if_pos e, z, less_none (iv2.ok m hm) (iv2.ok c hc), e.1, em]
              · rw [if_neg e]
            decreasing_tactic
            by_cases e1 : m = c
            · rw [dec_T (show dn m = dn c by rw [e1])]
              decreasing_tactic
              exact wk_of ⟨_, _, _, _, _, _, rfl, by rw [same fun h => h.1 e1]; exact hq4, hs4⟩
            · rw [dec_F (show ¬ dn m = dn c from fun h => e1 (by have := Dv.int.inj h; omega))]
              decreasing_tactic
              ((repeat ((conv => whnf); simp only [lenA_r, itemsA_r, lstA_r, lstC_s, Option.map_some, atI_0, ixN_0, mup_same, mup_mup, true_and, and_true, List.map_cons, List.map_nil, List.length_cons, List.length_map, List.length_nil, List.set_cons_zero, List.set_cons_succ, List.cons_append, List.nil_append, List.getElem?_cons_zero, List.getElem?_cons_succ, hq4, rm, g0, lm])); (conv => whnf))
              refine ⟨trivial, trivial, ?_⟩
              by_cases e2 : (R2 m).1.getD c 0 = 0
              · rw [dec_T (show dn ((R2 m).1.getD c 0) = Dv.int 0 by rw [e2]; rfl)]
                decreasing_tactic
                exact wk_of ⟨_, _, _, _, _, _, rfl, by rw [same fun h => h.2 e2]; exact hq4, hs4⟩
              · rw [dec_F (show ¬ dn ((R2 m).1.getD c 0) = Dv.int 0 from fun h => e2 (by have := Dv.int.inj h; omega))]
                decreasing_tactic
                ((repeat ((conv => whnf); simp only [lenA_r, itemsA_r, lstA_r, lstC_s, Option.map_some, atI_0, ixN_0, mup_same, mup_mup, true_and, and_true, List.map_cons, List.map_nil, List.length_cons, List.length_map, List.length_nil, List.set_cons_zero, List.set_cons_succ, List.cons_append, List.nil_append, List.getElem?_cons_zero, List.getElem?_cons_succ, hq4, rm, rcc, g0, lm])); (conv => whnf))
                refine ⟨w, R2 m, R2 c, k, n, (R2 m).1.getD c 0, rfl, hf4, iv2.ok m hm, iv2.ok c hc, by omega, hn, (iv2.ok m hm).l.get c, ?_⟩
                ((repeat ((conv => whnf); simp only [lenA_r, itemsA_r, lstA_r, lstC_s, Option.map_some, atI_0, ixN_0, mup_same, mup_mup, true_and, and_true, List.map_cons, List.map_nil, List.length_cons, List.length_map, List.length_nil, List.set_cons_zero, List.set_cons_succ, List.cons_append, List.nil_append, List.getElem?_cons_zero, List.getElem?_cons_succ, hq4, List.length_range, nm])); (conv => whnf))
                have el : ((List.range k).map fun j => eD (lessAt R2 c m j)).set m (eD (lessR (R2 m) (R2 c) ((R2 m).1.getD c 0))) = (List.range k).map fun j => eD (lessAt R2 c (m + 1) j) := by
                  rw [rows_set]
                  refine List.map_congr_left fun j _ => ?_
                  rw [lessAt_step]
                  by_cases ej : j = m
                  · rw [if_pos ej, if_pos ⟨ej, e1⟩]
                  · rw [if_neg ej, if_neg fun h => ej h.1]
                rw [el]
                refine wk_of ⟨_, _, _, _, _, _, rfl, mup_same, ?_⟩
                rw [mdel_put]
                exact hs4
          · rintro ρ M4 ⟨x9, x10, x11, x12, x13, x14, rfl, hq4, hs4⟩
            rw [rangeA_len, Int.toNat_natCast] at hq4
            exact wk_of ⟨_, _, _, _, _, _, _, _, _, lessAt R2 c k, rfl, iv2.less hc p1', hq4, hs4⟩
    · rintro ρ M' ⟨x6, x7, x8, x9, x10, x11, x12, x13, x14, R, rfl, iv, hq2, hs⟩
      rw [rangeA_len, Int.toNat_natCast] at iv
      obtain ⟨ew, eh⟩ := done_hides p1 p2 hkl hw hk iv
      decreasing_tactic
      have g1 : ∀ x y : Dv, atI [x, y] 1 = some y := fun _ _ => rfl
      refine lcFk (fun j => bD (R j).2) (fun M2 s => by rw [itemsA_r, s _ _ hq2]; rfl) (le_line (by simp; omega)) (fun j d hj M2 N hs2 q2 => ?_) ?_
      · rw [List.getElem?_map] at hj
        obtain ⟨i, hi, rfl⟩ := Option.map_eq_some_iff.mp hj
        have ei : i = j := by
          have := (List.getElem?_eq_some_iff.mp hi).2
          simp at this
          omega
        subst ei
        unfold eD
        refine ⟨_, rfl, ?_⟩
        decreasing_tactic
        ((repeat ((conv => whnf); simp only [lenA_r, itemsA_r, lstA_r, lstC_s, Option.map_some, atI_0, ixN_0, mup_same, mup_mup, true_and, and_true, List.map_cons, List.map_nil, List.length_cons, List.length_map, List.length_nil, List.set_cons_zero, List.set_cons_succ, List.cons_append, List.nil_append, List.getElem?_cons_zero, List.getElem?_cons_succ, g1])); (conv => whnf))
        exact q2
      · have e : (List.range ((List.range k).map fun j => eD (R j)).length).map (fun j => bD (R j).2) = ((List.range k).map fun j => (R j).2).map bD := by
          rw [List.length_map, List.length_range, List.map_map]
          rfl
        rw [e]
        decreasing_tactic
        refine ⟨w, (List.range k).map fun j => (R j).2, n, p, rfl, hf.sub (hs.trans mdel_sub), fun e => ?_, by simp; omega, hn, ew, p1, p2, ?_⟩
        · have := congrArg List.length e
          simp at this
          omega
        · exact retSub (hs.trans mdel_sub) (kk _ ew (by simp) eh)
theorem ok_law_solved (T : Tx K mg) : FnA P w K mg base 3 T.f_law_solved T.d_law_solved [("_law_field_here" : Str), ("_law_blocks" : Str), ("_law_parities" : Str)] sp_law_solved :=
  fnA T.F_law_solved sc_law_solved len_law_solved (fun cdv A outer s H E hr => by
    have hu1 := hu_of hr
    have hu64 := hr.units
    exact (ass_cons (as_set 3 sc_law_solved.nd (ae_sub (ae_callB call_len abc_len (aa_cons (av 1) aa_nil) T.n_len boot_len) (av 2)))
    (ass_cons (as_set 4 sc_law_solved.nd (ae_fz (ae_slice (ae_fz (ae_lc (own := [(("_law_place" : Str), 10), (("_law_block_here" : Str), 11)]) (tg := (.tp [(.nm 10), (.nm 11)])) (by decide) rfl sc_law_solved.nd (ai_enum T.n_enumerate (aa_cons (av 1) aa_nil)) (blkOk_by (own := [(("_law_place" : Str), 10), (("_law_block_here" : Str), 11)]) (N := N_law_solved) (sc := defScope s_law_solved) (by decide +kernel)) (fun _ _ _ _ _ => (pgt_tup rfl (pgts_cons (pgt_name 10 sc_law_solved.nd) (pgts_cons (pgt_name 11 sc_law_solved.nd) pgts_nil)))) (fun _ _ _ _ _ => (ats_one (at_isnot (av 11) ae_non))) (fun _ _ _ _ _ => (av 10)))) ao_none (ao_some (av 3)))))
    (ass_cons (as_set 5 sc_law_solved.nd (ae_lc (own := [(("_law_place" : Str), 10)]) (tg := (.nm 10)) (by decide) rfl sc_law_solved.nd (ai_seq (av 4)) (blkOk_by (own := [(("_law_place" : Str), 10)]) (N := N_law_solved) (sc := defScope s_law_solved) (by decide +kernel)) (fun _ _ _ _ _ => (pgt_name 10 sc_law_solved.nd)) (fun _ _ _ _ _ => ats_nil) (fun _ _ _ _ _ => (ae_fz (ae_lst (aa_cons (ae_call (ok_law_line T) (hr.mono (by decide)) T.m_law_line T.F_law_line.kp T.b_law_line (aa_cons (av 0) (aa_cons (av 3) (aa_cons (av 10) aa_nil)))) (aa_cons (ae_fz (ae_callTy call_list_of abc_lst (aa_cons (ae_ix hu1 (av 1) (av 10)) aa_nil) T.n_list boot_list)) aa_nil)))))))
    (ass_cons (as_for PassesOwn.never rfl (ai_range1 T.n_range (aa_cons (av 3) aa_nil)) (ag_name 6 sc_law_solved.nd) (ass_cons (as_set 7 sc_law_solved.nd (ae_ix hu1 (ae_fz (ae_lc (own := [(("_law_j" : Str), 9)]) (tg := (.nm 9)) (by decide) rfl sc_law_solved.nd (ai_range2 T.n_range (aa_cons (av 6) (aa_cons (av 3) aa_nil))) (blkOk_by (own := [(("_law_j" : Str), 9)]) (N := N_law_solved) (sc := defScope s_law_solved) (by decide +kernel)) (fun _ _ _ _ _ => (pgt_name 9 sc_law_solved.nd)) (fun _ _ _ _ _ => (ats_one (at_ne hu64 (ae_ix hu1 (ae_ix hu1 (ae_ix hu1 (av 5) (av 9)) ae_int) (av 6)) ae_int))) (fun _ _ _ _ _ => (av 9)))) ae_int))
    (ass_cons (as_asg (ae_tup (aa_cons (ae_ix hu1 (av 5) (av 7)) (aa_cons (ae_ix hu1 (av 5) (av 6)) aa_nil))) (ag_tup rfl (ags_cons (ag_sub hu1 (av 5) (av 6)) (ags_cons (ag_sub hu1 (av 5) (av 7)) ags_nil))))
    (ass_cons (as_set 8 sc_law_solved.nd (ae_ix hu1 (ae_ix hu1 (av 0) ae_int) (ae_mod (ae_sub ae_int (ae_ix hu1 (ae_ix hu1 (av 0) ae_int) (ae_ix hu1 (ae_ix hu1 (ae_ix hu1 (av 5) (av 6)) ae_int) (av 6)))) ae_int)))
    (ass_cons (as_asg (ae_fz (ae_lc (own := [(("_law_part" : Str), 12)]) (tg := (.nm 12)) (by decide) rfl sc_law_solved.nd (ai_seq (ae_ix hu1 (av 5) (av 6))) (blkOk_by (own := [(("_law_part" : Str), 12)]) (N := N_law_solved) (sc := defScope s_law_solved) (by decide +kernel)) (fun _ _ _ _ _ => (pgt_name 12 sc_law_solved.nd)) (fun _ _ _ _ _ => ats_nil) (fun _ _ _ _ _ => (ae_fz (ae_lc (own := [(("_law_byte" : Str), 13)]) (tg := (.nm 13)) (by decide) rfl sc_law_solved.nd (ai_seq (av 12)) (blkOk_by (own := [(("_law_byte" : Str), 13)]) (N := N_law_solved) (sc := _) rfl) (fun _ _ _ _ _ => (pgt_name 13 sc_law_solved.nd)) (fun _ _ _ _ _ => ats_nil) (fun _ _ _ _ _ => (ae_call (ok_law_times T) (hr.mono (by decide)) T.m_law_times T.F_law_times.kp T.b_law_times (aa_cons (av 0) (aa_cons (av 8) (aa_cons (av 13) aa_nil)))))))))) (ag_sub hu1 (av 5) (av 6)))
    (ass_one (as_for PassesOwn.never rfl (ai_range1 T.n_range (aa_cons (av 3) aa_nil)) (ag_name 9 sc_law_solved.nd) (ass_one (as_if (AW.pt (aw_and (at_ne hu64 (av 9) (av 6)) (aw_and1 (at_ne hu64 (ae_ix hu1 (ae_ix hu1 (ae_ix hu1 (av 5) (av 9)) ae_int) (av 6)) ae_int)))) (ass_one (as_asg (ae_call (ok_law_less T) (hr.mono (by decide)) T.m_law_less T.F_law_less.kp T.b_law_less (aa_cons (av 0) (aa_cons (ae_ix hu1 (av 5) (av 9)) (aa_cons (ae_ix hu1 (av 5) (av 6)) (aa_cons (ae_ix hu1 (ae_ix hu1 (ae_ix hu1 (av 5) (av 9)) ae_int) (av 6)) aa_nil))))) (ag_sub hu1 (av 5) (av 9)))) ass_nil)))))))))
    (ass_one (as_ret (ae_call (ok_law_row T) (hr.mono (by decide)) T.m_law_row T.F_law_row.kp T.b_law_row (aa_cons (av 0) (aa_cons (ae_fz (ae_lc (own := [(("_law_row_here" : Str), 14)]) (tg := (.nm 14)) (by decide) rfl sc_law_solved.nd (ai_seq (av 5)) (blkOk_by (own := [(("_law_row_here" : Str), 14)]) (N := N_law_solved) (sc := defScope s_law_solved) (by decide +kernel)) (fun _ _ _ _ _ => (pgt_name 14 sc_law_solved.nd)) (fun _ _ _ _ _ => ats_nil) (fun _ _ _ _ _ => (ae_callTy call_tuple_of abc_tup (aa_cons (ae_ix hu1 (av 14) ae_int) aa_nil) T.n_tuple boot_tuple)))) (aa_cons (av 2) aa_nil))))))))))) spec_law_solved
def sp_law_known : ASp := fun ds M Q => ∃ d, ∃ r : Row, ds = [d] ∧ RowM d (r.map oD) M ∧ r.length ≤ 1000 ∧ ∀ a, M a = none → Q (.ref a) (mup M a (.lst ((known r).map fun n => dn n)))
def t_law_known : RS := (aRet (aLc (aiEnum (aCons (aVar 0) aNil)) (.tp [(.nm 1), (.nm 2)]) [1, 2] (aB (aOp aIsNot (aVar 2) (aC .non))) (aVar 1)))
theorem len_law_known : ∀ ds M Q, sp_law_known ds M Q → ds.length = 1 := by
  rintro ds M Q ⟨d, r, rfl, _⟩
  rfl
theorem spec_law_known : ∀ ds M Q, sp_law_known ds M Q → t_law_known (retD Q) (startA 3 ds) M := by
  rintro ds M Q ⟨d, r, rfl, hd, hl, k⟩
  decreasing_tactic
  refine onS_of hd.items ?_
  intro a ha
  refine lcW_inv (fun i M' => M' = mup M a (.lst ((List.range i).filterMap fun i => if (r.getD i none).isSome then some (dn i) else none))) rfl (fun i M' _ e => by subst e; exact (hd.sub (Sub.new ha)).items) (fun i d M' hi e => ?_) (fun M' e => ?_)
  · subst e
    obtain ⟨f, hf, rfl⟩ := enumD_get' hi
    rw [List.getElem?_map] at hf
    obtain ⟨o, ho, rfl⟩ := Option.map_eq_some_iff.mp hf
    have hir := (List.getElem?_eq_some_iff.mp ho).1
    refine ⟨_, rfl, ?_⟩
    have eo : r.getD i none = o := by rw [List.getD_eq_getElem?_getD, ho]; rfl
    cases o with
    | none =>
      decreasing_tactic
      refine ⟨_, Sub.refl _, ?_⟩
      rw [List.range_succ, List.filterMap_append]
      have e : [i].filterMap (fun i => if (r.getD i none).isSome then some (dn i) else none) = [] := by
        simp only [List.filterMap_cons, List.filterMap_nil, eo]
        rfl
      rw [e, List.append_nil]
    | some b =>
      decreasing_tactic
      refine ⟨_, mup_same, lt_line ?_, _, Sub.refl _, ?_⟩
      · have := List.length_filterMap_le (fun i => if (r.getD i none).isSome then some (dn i) else none) (List.range i)
        rw [List.length_range] at this
        omega
      · rw [mup_mup, List.range_succ, List.filterMap_append]
        simp only [List.filterMap_cons, List.filterMap_nil, eo, Option.isSome_some, if_true]
  · subst e
    have e : (List.range (enumD (r.map oD)).length).filterMap (fun i => if (r.getD i none).isSome then some (dn i) else none) = (known r).map fun n => dn n := by
      rw [enumD_len, List.length_map]
      unfold known
      rw [← List.filterMap_eq_map', List.filterMap_filter]
    rw [e]
    exact retEnd (k a ha)
theorem ok_law_known (T : Tx K mg) : FnA P w K mg base 1 T.f_law_known T.d_law_known [("_law_blocks" : Str)] sp_law_known :=
  fnA T.F_law_known sc_law_known len_law_known (fun cdv A outer s H E hr => by
    have hu1 := hu_of hr
    have hu64 := hr.units
    exact (ass_one (as_ret (ae_lc (own := [(("_law_place" : Str), 1), (("_law_block_here" : Str), 2)]) (tg := (.tp [(.nm 1), (.nm 2)])) (by decide) rfl sc_law_known.nd (ai_enum T.n_enumerate (aa_cons (av 0) aa_nil)) (blkOk_by (own := [(("_law_place" : Str), 1), (("_law_block_here" : Str), 2)]) (N := N_law_known) (sc := defScope s_law_known) (by decide +kernel)) (fun _ _ _ _ _ => (pgt_tup rfl (pgts_cons (pgt_name 1 sc_law_known.nd) (pgts_cons (pgt_name 2 sc_law_known.nd) pgts_nil)))) (fun _ _ _ _ _ => (ats_one (at_isnot (av 2) ae_non))) (fun _ _ _ _ _ => (av 1)))))) spec_law_known
def sp_law_spoilt : ASp := fun ds M Q => ∃ p q, ∃ bs : List Blk, ∃ n many : Nat, ds = [.ref p, .tup (bs.map bD), dn many] ∧ DPot p q M ∧ bs.length ≤ 100 ∧ 1 ≤ n ∧ n ≤ 1000 ∧ many ≤ 1000 ∧ WfR n bs ∧
  ∀ (cs : List Blk) M', DPot p q M' → But p q M M' → cs.length = bs.length → WfR n cs → Q (.tup (cs.map bD)) M'
theorem but_free {p q u : Addr} {M M1 : Ms} (h : But p q M M1) (h1 : u ≠ p) (h2 : u ≠ q) (hu : M1 u = none) : M u = none := by
  cases e : M u with
  | none => rfl
  | some c => rw [h u c h1 h2 e] at hu; cases hu
theorem wf_setB {n i : Nat} {bs : List Blk} {b : Blk} (h : WfR n bs) (hb : BlkOk' b n) : WfR n (bs.set i b) := fun x hx => by
  rcases List.mem_or_eq_of_mem_set hx with e | e
  · exact h x e
  · rw [e]; exact hb
theorem row_map (bs : List Blk) : (rowOf bs).map oD = bs.map bD := by rw [rowOf, List.map_map]; rfl
def tk_law_spoilt_3 : RS := (aRet (aFn acTup (aCons (aVar 3) aNil)))
def tk_law_spoilt_2 : RS := aSeq (aFor (aiR1 (aCons (aFn acMin2 (aCons (aVar 2) (aCons (aFn acLen (aCons (aVar 4) aNil)) aNil))) aNil)) (agName 5) (aSeq (aAsg (aMth "list" amPop (aVar 4) (aCons (aCall sp_law_next (aCons (aVar 0) (aCons (aFn acLen (aCons (aVar 4) aNil)) aNil))) aNil)) (agName 6))
    (aSeq (aAsg (aFn acLst (aCons (aOp aIx (aVar 3) (aVar 6)) aNil)) (agName 7))
    (aSeq (aAsg (aTup (aCons (aCall sp_law_next (aCons (aVar 0) (aCons (aFn acLen (aCons (aVar 7) aNil)) aNil))) (aCons (aOp aAdd (aC (.int 1)) (aCall sp_law_next (aCons (aVar 0) (aCons (aC (.int 255)) aNil)))) aNil))) (agTup 2 (agCons (agName 8) (agCons (agName 9) agNil))))
    (aSeq (aIfS (aB (aOp aEq (aCall sp_law_next (aCons (aVar 0) (aCons (aC (.int 3)) aNil))) (aC (.int 0)))) (aAsg (aLc (aiSeq (aVar 7)) (.nm 10) [10] aYes (aOp aXor (aVar 10) (aVar 9))) (agName 7)) (aAsg (aOp aXor (aOp aIx (aVar 7) (aVar 8)) (aVar 9)) (agSub (aVar 7) (aVar 8) asSet)))
    (aAsg (aFn acTup (aCons (aVar 7) aNil)) (agSub (aVar 3) (aVar 6) asSet))))))) (tk_law_spoilt_3)
def tk_law_spoilt_1 : RS := aSeq (aAsg (aCall sp_law_known (aCons (aVar 1) aNil)) (agName 4)) (tk_law_spoilt_2)
def t_law_spoilt : RS := aSeq (aAsg (aFn acLst (aCons (aVar 1) aNil)) (agName 3)) (tk_law_spoilt_1)
theorem len_law_spoilt : ∀ ds M Q, sp_law_spoilt ds M Q → ds.length = 3 := by
  rintro ds M Q ⟨p, q, bs, n, many, rfl, _⟩
  rfl
theorem spec_law_spoilt : ∀ ds M Q, sp_law_spoilt ds M Q → t_law_spoilt (retD Q) (startA 11 ds) M := by
  rintro ds M Q ⟨p, q, bs, n, many, rfl, hd, hl, n1, hn, hm, hw, k⟩
  decreasing_tactic
  intro b hb
  have bp := hd.nep hb
  have bq := hd.neq hb
  have d1 : DPot p q (mup M b (.lst (bs.map bD))) := hd.put bp bq
  have k1 : But p q M (mup M b (.lst (bs.map bD))) := (But.refl p q M).put hb
  have b1 : mup M b (.lst (bs.map bD)) b = some (.lst (bs.map bD)) := mup_same
  generalize mup M b (.lst (bs.map bD)) = M1 at d1 k1 b1 ⊢
  decreasing_tactic
  refine ⟨_, rowOf bs, rfl, .inl (by rw [row_map]), by rw [rowOf, List.length_map]; omega, fun l hl0 => ?_⟩
  have lb : l ≠ b := (ne_of_new b1 hl0).symm
  have lp := d1.nep hl0
  have lq := d1.neq hl0
  have ml := but_free k1 lp lq hl0
  have kr := known_rowOf bs
  have hL0 : ∀ x ∈ known (rowOf bs), x < bs.length := fun x hx => by
    have := (known_mem.mp hx).1
    rwa [rowOf, List.length_map] at this
  generalize known (rowOf bs) = L0 at kr hL0 ⊢
  have d2 : DPot p q (mup M1 l (.lst (L0.map fun n => dn n))) := d1.put lp lq
  have k2 : But p q M (mup M1 l (.lst (L0.map fun n => dn n))) := k1.put ml
  have b2 : mup M1 l (.lst (L0.map fun n => dn n)) b = some (.lst (bs.map bD)) := by rw [mup_ne lb.symm]; exact b1
  have l2 : mup M1 l (.lst (L0.map fun n => dn n)) l = some (.lst (L0.map fun n => dn n)) := mup_same
  generalize mup M1 l (.lst (L0.map fun n => dn n)) = M2 at d2 k2 b2 l2 ⊢
  have e0 : ((L0.map fun n => dn n).length : Int) = (L0.length : Int) := by rw [List.length_map]
  decreasing_tactic
  ((repeat ((conv => whnf); simp only [lenA_r, itemsA_r, lstA_r, lstC_s, Option.map_some, atI_0, ixN_0, mup_same, mup_mup, true_and, and_true, List.map_cons, List.map_nil, List.length_cons, List.length_map, List.length_nil, List.set_cons_zero, List.set_cons_succ, List.cons_append, List.nil_append, List.getElem?_cons_zero, List.getElem?_cons_succ, l2])); (conv => whnf))
  have er : (bs.map bD) = bs.map bD := rfl
  refine forW_inv (fun i ρ M' => ∃ x5 x6 x7 x8 x9 x10, ∃ cs : List Blk, ∃ L : List Nat, ρ = [some (.ref p), some (.tup (bs.map bD)), some (dn many), some (.ref b), some (.ref l), x5, x6, x7, x8, x9, x10] ∧ DPot p q M' ∧ But p q M M' ∧ M' b = some (.lst (cs.map bD)) ∧ M' l = some (.lst (L.map fun n => dn n)) ∧ cs.length = bs.length ∧ WfR n cs ∧ L.length + i = L0.length ∧ ∀ x ∈ L, x < bs.length) ⟨_, _, _, _, _, _, bs, L0, rfl, d2, k2, b2, l2, rfl, hw, by omega, hL0⟩ (fun _ _ _ _ _ => trivial) ?_ ?_
  · rintro i d ρ M3 hi ⟨x5, x6, x7, x8, x9, x10, cs, L, rfl, hd3, k3, b3, l3, cl, cw, Ll, hL⟩
    obtain ⟨hi2, rfl⟩ := rangeA_get hi
    have hig : i < L0.length := by
      revert hi2
      split <;> omega
    have eLl : ((L.map fun n => dn n).length : Int) = (L.length : Int) := by rw [List.length_map]
    have LL : L0.length ≤ 100 := by rw [kr]; exact hl
    decreasing_tactic
    ((repeat ((conv => whnf); simp only [lenA_r, itemsA_r, lstA_r, lstC_s, Option.map_some, atI_0, ixN_0, mup_same, mup_mup, true_and, and_true, List.map_cons, List.map_nil, List.length_cons, List.length_map, List.length_nil, List.set_cons_zero, List.set_cons_succ, List.cons_append, List.nil_append, List.getElem?_cons_zero, List.getElem?_cons_succ, l3])); (conv => whnf))
    refine ⟨p, q, _, rfl, hd3, by omega, by omega, fun a Ma da ba la => ?_⟩
    have ba3 := ba.at bp bq b3
    have la3 := ba.at lp lq l3
    have haL : a < L.length := by omega
    have ga : (L.map fun n => dn n)[a]? = some (dn L[a]) := by rw [List.getElem?_map, List.getElem?_eq_getElem haL]; rfl
    have hv : L[a] < bs.length := hL _ (List.getElem_mem haL)
    have hmem : ∀ x ∈ L.eraseIdx a, x < bs.length := fun x hx => hL x (List.mem_of_mem_eraseIdx hx)
    have hel : (L.eraseIdx a).length + 1 = L.length := by rw [List.length_eraseIdx, if_pos haL]; omega
    generalize L[a] = v at ga hv
    have d4 : DPot p q (mup Ma l (.lst ((L.map fun n => dn n).eraseIdx a))) := da.put lp lq
    have k4 : But p q M (mup Ma l (.lst ((L.map fun n => dn n).eraseIdx a))) := (k3.trans ba).put ml
    have b4 : mup Ma l (.lst ((L.map fun n => dn n).eraseIdx a)) b = some (.lst (cs.map bD)) := by rw [mup_ne lb.symm]; exact ba3
    have l4 : mup Ma l (.lst ((L.map fun n => dn n).eraseIdx a)) l = some (.lst ((L.eraseIdx a).map fun n => dn n)) := by rw [mup_same, map_erase]
    ((repeat ((conv => whnf); simp only [lenA_r, itemsA_r, lstA_r, lstC_s, Option.map_some, atI_0, ixN_0, mup_same, mup_mup, true_and, and_true, List.map_cons, List.map_nil, List.length_cons, List.length_map, List.length_nil, List.set_cons_zero, List.set_cons_succ, List.cons_append, List.nil_append, List.getElem?_cons_zero, List.getElem?_cons_succ, la3, Int.toNat_natCast, ga])); (conv => whnf))
    generalize mup Ma l (.lst ((L.map fun n => dn n).eraseIdx a)) = M4 at d4 k4 b4 l4 ⊢
    have av : atI (cs.map bD) (v : Int) = some (bD (cs.getD v [])) := HC.atI_nat (rowD cs v (by omega))
    have wv : BlkOk' (cs.getD v []) n := cw _ (getD_mem (by omega))
    generalize cs.getD v [] = c at av wv
    have cl1 := wv.1
    decreasing_tactic
    ((repeat ((conv => whnf); simp only [lenA_r, itemsA_r, lstA_r, lstC_s, Option.map_some, atI_0, ixN_0, mup_same, mup_mup, true_and, and_true, List.map_cons, List.map_nil, List.length_cons, List.length_map, List.length_nil, List.set_cons_zero, List.set_cons_succ, List.cons_append, List.nil_append, List.getElem?_cons_zero, List.getElem?_cons_succ, b4, av])); (conv => whnf))
    intro u hu
    have ub : u ≠ b := (ne_of_new b4 hu).symm
    have ul : u ≠ l := (ne_of_new l4 hu).symm
    have up := d4.nep hu
    have uq := d4.neq hu
    have mu := but_free k4 up uq hu
    have d5 : DPot p q (mup M4 u (.lst (c.map fun n => dn n))) := d4.put up uq
    have k5 : But p q M (mup M4 u (.lst (c.map fun n => dn n))) := k4.put mu
    have b5 : mup M4 u (.lst (c.map fun n => dn n)) b = some (.lst (cs.map bD)) := by rw [mup_ne ub.symm]; exact b4
    have l5 : mup M4 u (.lst (c.map fun n => dn n)) l = some (.lst ((L.eraseIdx a).map fun n => dn n)) := by rw [mup_ne ul.symm]; exact l4
    have u5 : mup M4 u (.lst (c.map fun n => dn n)) u = some (.lst (c.map fun n => dn n)) := mup_same
    generalize mup M4 u (.lst (c.map fun n => dn n)) = M5 at d5 k5 b5 l5 u5 ⊢
    have ecl : ((c.map fun n => dn n).length : Int) = (n : Int) := by rw [List.length_map, cl1]
    decreasing_tactic
    ((repeat ((conv => whnf); simp only [lenA_r, itemsA_r, lstA_r, lstC_s, Option.map_some, atI_0, ixN_0, mup_same, mup_mup, true_and, and_true, List.map_cons, List.map_nil, List.length_cons, List.length_map, List.length_nil, List.set_cons_zero, List.set_cons_succ, List.cons_append, List.nil_append, List.getElem?_cons_zero, List.getElem?_cons_succ, u5])); (conv => whnf))
    refine ⟨p, q, _, rfl, d5, by omega, by omega, fun at1 M6 d6 k56 lt => ?_⟩
    rw [cl1] at lt
    decreasing_tactic
    (refine ⟨_, _, _, rfl, by assumption, (by infer_instance), (by infer_instance), fun e Me de be le => ?_⟩; decreasing_tactic)
    decreasing_tactic
    (refine ⟨_, _, _, rfl, by assumption, (by infer_instance), (by infer_instance), fun z Mz dz bz lz => ?_⟩; decreasing_tactic)
    have k7 : But p q M Mz := ((k5.trans k56).trans be).trans bz
    have b7 := bz.at bp bq (be.at bp bq (k56.at bp bq b5))
    have l7 := bz.at lp lq (be.at lp lq (k56.at lp lq l5))
    have u7 := bz.at up uq (be.at up uq (k56.at up uq u5))
    have nv : ixN cs.length (v : Int) = some v := ixN_nat (by omega)
    by_cases z0 : z = 0
    · subst z0
      decreasing_tactic
      intro t ht
      have tb : t ≠ b := (ne_of_new b7 ht).symm
      have tl : t ≠ l := (ne_of_new l7 ht).symm
      have tp := dz.nep ht
      have tq := dz.neq ht
      have mt := but_free k7 tp tq ht
      refine lcW_idx (fun i => dn (c.getD i 0 ^^^ (1 + e))) (fun acc => by rw [itemsA_r, look_new u7 ht]; rfl) (le_line (by simp; omega)) (fun i d hi acc N hN => ?_) ?_
      · rw [List.getElem?_map] at hi
        obtain ⟨x, hx, rfl⟩ := Option.map_eq_some_iff.mp hi
        rw [List.getD_eq_getElem?_getD, hx] at hN
        refine ⟨_, rfl, ?_⟩
        decreasing_tactic
        have e : Dv.int (Builtin.bitXor (x : Int) (1 + (e : Int))) = dn ((some x).getD 0 ^^^ (1 + e)) := congrArg Dv.int (xorI rfl (by omega))
        try (dsimp only)
        rw [← e] at hN
        exact lcEnd hN
      · have eC : (List.range (c.map fun n => dn n).length).map (fun i => dn (c.getD i 0 ^^^ (1 + e))) = (c.map fun x => x ^^^ (1 + e)).map fun n => dn n := by
          rw [List.length_map]
          refine List.ext_getElem (by simp) fun i h1 h2 => ?_
          simp at h1
          simp [List.getD, h1]
        rw [eC]
        have wC : BlkOk' (c.map fun x => x ^^^ (1 + e)) n := ⟨by rw [List.length_map]; exact cl1, fun x hx => by
          obtain ⟨y, hy, rfl⟩ := List.mem_map.mp hx
          exact GF.xor8 (wv.2 y hy) (by omega)⟩
        generalize (c.map fun x => x ^^^ (1 + e)) = C at wC ⊢
        have b8 : mup Mz t (.lst (C.map fun n => dn n)) b = some (.lst (cs.map bD)) := by rw [mup_ne tb.symm]; exact b7
        have l8 : mup Mz t (.lst (C.map fun n => dn n)) l = some (.lst ((L.eraseIdx a).map fun n => dn n)) := by rw [mup_ne tl.symm]; exact l7
        have t8 : mup Mz t (.lst (C.map fun n => dn n)) t = some (.lst (C.map fun n => dn n)) := mup_same
        have d8 : DPot p q (mup Mz t (.lst (C.map fun n => dn n))) := dz.put tp tq
        have k8 : But p q M (mup Mz t (.lst (C.map fun n => dn n))) := k7.put mt
        have wC1 := wC.1
        generalize mup Mz t (.lst (C.map fun n => dn n)) = M8 at b8 l8 d8 k8 t8 ⊢
        decreasing_tactic
        ((repeat ((conv => whnf); simp only [lenA_r, itemsA_r, lstA_r, lstC_s, Option.map_some, atI_0, ixN_0, mup_same, mup_mup, true_and, and_true, List.map_cons, List.map_nil, List.length_cons, List.length_map, List.length_nil, List.set_cons_zero, List.set_cons_succ, List.cons_append, List.nil_append, List.getElem?_cons_zero, List.getElem?_cons_succ, t8, b8, nv])); (conv => whnf))
        have em : (cs.map bD).set v (.tup (C.map fun n => dn n)) = (cs.set v C).map bD := by rw [List.map_set]; rfl
        rw [em]
        exact wk_of ⟨_, _, _, _, _, _, cs.set v C, L.eraseIdx a, rfl, d8.put bp bq, k8.put hb, mup_same, by rw [mup_ne lb]; exact l8, by rw [List.length_set]; exact cl, wf_setB cw wC, by omega, hmem⟩
    · rw [dec_F (show ¬ dn z = Dv.int 0 from fun h => z0 (by have := Dv.int.inj h; omega))]
      have hat : at1 < c.length := by omega
      have aat : atI (c.map fun n => dn n) (at1 : Int) = some (dn (c.getD at1 0)) := HC.atI_nat (dnD c at1 hat)
      have ex : Dv.int (Builtin.bitXor ((c.getD at1 0 : Nat) : Int) (1 + (e : Int))) = dn (c.getD at1 0 ^^^ (1 + e)) := congrArg Dv.int (xorI rfl (by omega))
      have nat1 : ixN c.length (at1 : Int) = some at1 := ixN_nat hat
      decreasing_tactic
      ((repeat ((conv => whnf); simp only [lenA_r, itemsA_r, lstA_r, lstC_s, Option.map_some, atI_0, ixN_0, mup_same, mup_mup, true_and, and_true, List.map_cons, List.map_nil, List.length_cons, List.length_map, List.length_nil, List.set_cons_zero, List.set_cons_succ, List.cons_append, List.nil_append, List.getElem?_cons_zero, List.getElem?_cons_succ, u7, aat])); (conv => whnf))
      simp only [ex]
      ((repeat ((conv => whnf); simp only [lenA_r, itemsA_r, lstA_r, lstC_s, Option.map_some, atI_0, ixN_0, mup_same, mup_mup, true_and, and_true, List.map_cons, List.map_nil, List.length_cons, List.length_map, List.length_nil, List.set_cons_zero, List.set_cons_succ, List.cons_append, List.nil_append, List.getElem?_cons_zero, List.getElem?_cons_succ, u7, nat1])); (conv => whnf))
      rw [← List.map_set]
      have wC : BlkOk' (c.set at1 (c.getD at1 0 ^^^ (1 + e))) n := ⟨by rw [List.length_set]; exact cl1, fun x hx => by
        rcases List.mem_or_eq_of_mem_set hx with h | h
        · exact wv.2 x h
        · rw [h]; exact GF.xor8 (Lk.get ⟨wv.1, wv.2⟩ at1) (by omega)⟩
      generalize c.set at1 (c.getD at1 0 ^^^ (1 + e)) = C at wC ⊢
      have b8 : mup Mz u (.lst (C.map fun n => dn n)) b = some (.lst (cs.map bD)) := by rw [mup_ne ub.symm]; exact b7
      have l8 : mup Mz u (.lst (C.map fun n => dn n)) l = some (.lst ((L.eraseIdx a).map fun n => dn n)) := by rw [mup_ne ul.symm]; exact l7
      have d8 : DPot p q (mup Mz u (.lst (C.map fun n => dn n))) := dz.put up uq
      have k8 : But p q M (mup Mz u (.lst (C.map fun n => dn n))) := k7.put mu
      generalize mup Mz u (.lst (C.map fun n => dn n)) = M8 at b8 l8 d8 k8 ⊢
      ((repeat ((conv => whnf); simp only [lenA_r, itemsA_r, lstA_r, lstC_s, Option.map_some, atI_0, ixN_0, mup_same, mup_mup, true_and, and_true, List.map_cons, List.map_nil, List.length_cons, List.length_map, List.length_nil, List.set_cons_zero, List.set_cons_succ, List.cons_append, List.nil_append, List.getElem?_cons_zero, List.getElem?_cons_succ, b8, nv])); (conv => whnf))
      have em : (cs.map bD).set v (.tup (C.map fun n => dn n)) = (cs.set v C).map bD := by rw [List.map_set]; rfl
      rw [em]
      exact wk_of ⟨_, _, _, _, _, _, cs.set v C, L.eraseIdx a, rfl, d8.put bp bq, k8.put hb, mup_same, by rw [mup_ne lb]; exact l8, by rw [List.length_set]; exact cl, wf_setB cw wC, by omega, hmem⟩
  · rintro ρ M3 ⟨x5, x6, x7, x8, x9, x10, cs, L, rfl, hd3, k3, b3, l3, cl, cw, Ll, hL⟩
    decreasing_tactic
    ((repeat ((conv => whnf); simp only [lenA_r, itemsA_r, lstA_r, lstC_s, Option.map_some, atI_0, ixN_0, mup_same, mup_mup, true_and, and_true, List.map_cons, List.map_nil, List.length_cons, List.length_map, List.length_nil, List.set_cons_zero, List.set_cons_succ, List.cons_append, List.nil_append, List.getElem?_cons_zero, List.getElem?_cons_succ, b3])); (conv => whnf))
    exact retEnd (k cs _ hd3 k3 cl cw)
theorem ok_law_spoilt (T : Tx K mg) : FnA P w K mg base 2 T.f_law_spoilt T.d_law_spoilt [("_law_draws" : Str), ("_law_row_here" : Str), ("_law_many_here" : Str)] sp_law_spoilt :=
  fnA T.F_law_spoilt sc_law_spoilt len_law_spoilt (fun cdv A outer s H E hr => by
    have hu1 := hu_of hr
    have hu64 := hr.units
    exact (ass_cons (as_set 3 sc_law_spoilt.nd (ae_callTy call_list_of abc_lst (aa_cons (av 1) aa_nil) T.n_list boot_list))
    (ass_cons (as_set 4 sc_law_spoilt.nd (ae_call (ok_law_known T) (hr.mono (by decide)) T.m_law_known T.F_law_known.kp T.b_law_known (aa_cons (av 1) aa_nil)))
    (ass_cons (as_for PassesOwn.never rfl (ai_range1 T.n_range (aa_cons (ae_callB (call_min2 rfl) abc_min2 (aa_cons (av 2) (aa_cons (ae_callB call_len abc_len (aa_cons (av 4) aa_nil) T.n_len boot_len) aa_nil)) T.n_min boot_min) aa_nil)) (ag_name 5 sc_law_spoilt.nd) (ass_cons (as_set 6 sc_law_spoilt.nd (ae_popAt (av 4) (aa_cons (ae_call (ok_law_next T) (hr.mono (by decide)) T.m_law_next T.F_law_next.kp T.b_law_next (aa_cons (av 0) (aa_cons (ae_callB call_len abc_len (aa_cons (av 4) aa_nil) T.n_len boot_len) aa_nil))) aa_nil)))
    (ass_cons (as_set 7 sc_law_spoilt.nd (ae_callTy call_list_of abc_lst (aa_cons (ae_ix hu1 (av 3) (av 6)) aa_nil) T.n_list boot_list))
    (ass_cons (as_asg (ae_tup (aa_cons (ae_call (ok_law_next T) (hr.mono (by decide)) T.m_law_next T.F_law_next.kp T.b_law_next (aa_cons (av 0) (aa_cons (ae_callB call_len abc_len (aa_cons (av 7) aa_nil) T.n_len boot_len) aa_nil))) (aa_cons (ae_add ae_int (ae_call (ok_law_next T) (hr.mono (by decide)) T.m_law_next T.F_law_next.kp T.b_law_next (aa_cons (av 0) (aa_cons ae_int aa_nil)))) aa_nil))) (ag_tup rfl (ags_cons (ag_name 8 sc_law_spoilt.nd) (ags_cons (ag_name 9 sc_law_spoilt.nd) ags_nil))))
    (ass_cons (as_if (at_eq hu64 (ae_call (ok_law_next T) (hr.mono (by decide)) T.m_law_next T.F_law_next.kp T.b_law_next (aa_cons (av 0) (aa_cons ae_int aa_nil))) ae_int) (ass_one (as_setLc 7 (own := [(("_law_byte" : Str), 10)]) (tg := (.nm 10)) (by decide) rfl sc_law_spoilt.nd rfl rfl (sw_true rfl rfl rfl (by decide +kernel)) (ai_seq (av 7)) (blkOk_by (own := [(("_law_byte" : Str), 10)]) (N := N_law_spoilt) (sc := defScope s_law_spoilt) (by decide +kernel)) (fun _ _ _ _ _ => (pgt_name 10 sc_law_spoilt.nd)) (fun _ _ _ _ _ => ats_nil) (fun _ _ _ _ _ => (ae_xor (av 10) (av 9))))) (ass_one (as_asg (ae_xor (ae_ix hu1 (av 7) (av 8)) (av 9)) (ag_sub hu1 (av 7) (av 8)))))
    (ass_one (as_asg (ae_callTy call_tuple_of abc_tup (aa_cons (av 7) aa_nil) T.n_tuple boot_tuple) (ag_sub hu1 (av 3) (av 6)))))))))
    (ass_one (as_ret (ae_callTy call_tuple_of abc_tup (aa_cons (av 3) aa_nil) T.n_tuple boot_tuple))))))) spec_law_spoilt
def sp_law : ASp := fun ds M Q => ∃ ns : List Int, ds = [.rol (ns.map Dv.int)] ∧ ns.length ≤ 63 ∧ ∀ M', Q (.bl true) M'
theorem law_true (ns : List Int) (h : ns.length ≤ 63) : sp_law [.rol (ns.map Dv.int)] (fun _ => none) (fun d _ => d = .bl true) := ⟨ns, rfl, h, fun _ => rfl⟩
theorem solved_is {p k n : Nat} {r : Row} {es : List Blk} (p1 : 1 ≤ p) (p2 : p ≤ 2) (k255 : k ≤ 255) (hl : r.length = k + p) (hw : WfO n r) (hk : k ≤ (known r).length) (ew : WfR n es) (el : es.length = k) (eh : Hides p n es (maskR k r)) : es = dataTold p n r := by
  have a := told_agrees p1 p2 k255 hl hw hk
  have mk := mask_known (k := k) (r := r) (f := fun i => r.getD i none) (fun i hi => by
    obtain ⟨_, b, e⟩ := first_known hi
    rw [e]; rfl) hk
  have dl := dataTold_len (n := n) (r := r) p1 p2 (by omega) (by omega)
  have dw := dataTold_wf p1 p2 (by omega) hw (by omega)
  have e1 := dataTold_code p1 p2 ew (by omega) eh (by rw [el]; exact mk)
  have e2 := dataTold_code p1 p2 dw (by omega) a (by rw [dl, show r.length - p = k by omega]; exact mk)
  exact e1.symm.trans e2
def tk_law_3 : RS := (aRet (aC (.bl true)))
def tk_law_2 : RS := aSeq (aFor (aiR1 (aCons (aC (.int 10)) aNil)) (agName 3) (aSeq (aAsg (aCall sp_law_shape (aCons (aVar 1) aNil)) (agTup 3 (agCons (agName 4) (agCons (agName 5) (agCons (agName 6) agNil)))))
    (aSeq (aAsg (aCall sp_law_row (aCons (aVar 2) (aCons (aCall sp_law_data (aCons (aVar 1) (aCons (aVar 5) (aCons (aVar 6) aNil)))) (aCons (aVar 4) aNil)))) (agName 7))
    (aSeq (aIfS (aB (aOp aEq (aCall sp_law_next (aCons (aVar 1) (aCons (aC (.int 3)) aNil))) (aC (.int 0)))) (aAsg (aFn acTup (aCons (aCall sp_law_data (aCons (aVar 1) (aCons (aOp aAdd (aVar 5) (aVar 4)) (aCons (aVar 6) aNil)))) aNil)) (agName 7)) aNext)
    (aSeq (aAsg (aCall sp_law_next (aCons (aVar 1) (aCons (aOp aIx (aFz (aLst (aCons (aOp aAdd (aVar 4) (aC (.int 1))) (aCons (aOp aAdd (aOp aAdd (aVar 5) (aVar 4)) (aC (.int 1))) aNil)))) (aCall sp_law_next (aCons (aVar 1) (aCons (aC (.int 2)) aNil)))) aNil))) (agName 8))
    (aSeq (aAsg (aCall sp_law_holed (aCons (aVar 1) (aCons (aCall sp_law_spoilt (aCons (aVar 1) (aCons (aVar 7) (aCons (aCall sp_law_next (aCons (aVar 1) (aCons (aC (.int 4)) aNil))) aNil)))) (aCons (aVar 8) aNil)))) (agName 9))
    (aIfS (aB (aOp aGt (aVar 8) (aVar 4))) (aIfS (aNot (aTru (aCall sp_law_refused (aCons (aVar 9) (aCons (aVar 4) aNil))))) (aRet (aC (.bl false))) aNext) (aIfS (aNot (aTru (aCall sp_law_same (aCons (aCall sp_row_filled (aCons (aVar 9) (aCons (aVar 4) aNil))) (aCons (aCall sp_law_solved (aCons (aVar 2) (aCons (aVar 9) (aCons (aVar 4) aNil)))) aNil))))) (aRet (aC (.bl false))) aNext)))))))) (tk_law_3)
def tk_law_1 : RS := aSeq (aAsg (aCall sp_law_field aNil) (agName 2)) (tk_law_2)
def t_law : RS := aSeq (aAsg (aCall sp_law_begin (aCons (aVar 0) aNil)) (agName 1)) (tk_law_1)
theorem len_law : ∀ ds M Q, sp_law ds M Q → ds.length = 1 := by
  rintro ds M Q ⟨ns, rfl, _⟩
  rfl
theorem spec_law : ∀ ds M Q, sp_law ds M Q → t_law (retD Q) (startA 10 ds) M := by
  rintro ds M Q ⟨ns, rfl, hl, k⟩
  decreasing_tactic
  refine ⟨ns, rfl, hl, fun p q M1 hd hs => ?_⟩
  decreasing_tactic
  intro w M2 hw hf hs2
  have wp := hd.nep hw
  have wq := hd.neq hw
  have hd2 := hd.sub hs2
  decreasing_tactic
  refine forW_inv (fun i ρ M' => ∃ x3 x4 x5 x6 x7 x8 x9, ρ = [some (.rol (ns.map Dv.int)), some (.ref p), some (fieldD w), x3, x4, x5, x6, x7, x8, x9] ∧ DPot p q M' ∧ Field w M') ⟨none, none, none, none, none, none, none, rfl, hd2, hf⟩ (fun _ _ _ _ _ => trivial) ?_ ?_
  · rintro i d ρ M' hi ⟨x3, x4, x5, x6, x7, x8, x9, rfl, hd, hf⟩
    decreasing_tactic
    refine ⟨p, q, rfl, hd, fun par kk size Ma da ba p1 p2 k1 k2 s1 s2 => ?_⟩
    have hfa : Field w Ma := ba.at wp wq hf
    decreasing_tactic
    refine ⟨p, q, kk, size, rfl, da, by omega, by omega, fun bs Mb db bb bl bw => ?_⟩
    have hfb : Field w Mb := bb.at wp wq hfa
    have b0 : bs ≠ [] := fun e => by rw [e] at bl; simp at bl; omega
    decreasing_tactic
    refine ⟨w, bs, size, par, rfl, hfb, b0, by omega, by omega, bw, p1, p2, ?_⟩
    have pl := parB_len (n := size) (bs := bs) p1 p2
    have pw := parB_wf (p := par) bw
    decreasing_tactic
    (refine ⟨_, _, _, rfl, by assumption, (by infer_instance), (by infer_instance), fun u Mu du bu lu => ?_⟩; decreasing_tactic)
    have hfu : Field w Mu := bu.at wp wq hfb
    by_cases u0 : u = 0
    · subst u0
      decreasing_tactic
      refine ⟨p, q, kk + par, size, rfl, du, by omega, by omega, fun cs Mc dc bc cl cw => ?_⟩
      have hfc : Field w Mc := bc.at wp wq hfu
      have cs0 : 1 ≤ cs.length := by omega
      decreasing_tactic
      (refine ⟨_, _, _, rfl, by assumption, (by infer_instance), (by infer_instance), fun v Mv dv bv lv => ?_⟩; decreasing_tactic)
      have hfv : Field w Mv := bv.at wp wq hfc
      obtain ⟨m, hm1, hm2, em⟩ : ∃ m : Nat, 1 ≤ m ∧ m ≤ 12 ∧ atI [Dv.int ((par : Int) + 1), Dv.int ((kk : Int) + (par : Int) + 1)] (v : Int) = some (dn m) := by
        rcases (show v = 0 ∨ v = 1 by omega) with rfl | rfl
        · exact ⟨par + 1, by omega, by omega, rfl⟩
        · exact ⟨kk + par + 1, by omega, by omega, rfl⟩
      ((repeat ((conv => whnf); simp only [lenA_r, itemsA_r, lstA_r, lstC_s, Option.map_some, atI_0, ixN_0, mup_same, mup_mup, true_and, and_true, List.map_cons, List.map_nil, List.length_cons, List.length_map, List.length_nil, List.set_cons_zero, List.set_cons_succ, List.cons_append, List.nil_append, List.getElem?_cons_zero, List.getElem?_cons_succ, em])); (conv => whnf))
      (refine ⟨_, _, _, rfl, by assumption, (by infer_instance), (by infer_instance), fun gone Mgone dgone bgone lgone => ?_⟩; decreasing_tactic)
      have hfg : Field w Mgone := bgone.at wp wq hfv
      (refine ⟨_, _, _, rfl, by assumption, (by infer_instance), (by infer_instance), fun many Mmany dmany bmany lmany => ?_⟩; decreasing_tactic)
      have hfm : Field w Mmany := bmany.at wp wq hfg
      refine ⟨p, q, cs, size, many, rfl, dmany, by omega, by omega, by omega, by omega, cw, fun ds Md dd bd dl dw => ?_⟩
      have hfd : Field w Md := bd.at wp wq hfm
      decreasing_tactic
      refine ⟨p, q, rowOf ds, gone, by rw [row_map], dd, by rw [rowOf, List.length_map]; omega, by omega, fun x hx => ?_, by rw [known_rowOf, rowOf, List.length_map], fun r Mr dr br hid hkr => ?_⟩
      · rw [List.getD_eq_getElem?_getD, rowOf, List.getElem?_map, List.getElem?_eq_getElem (by rw [rowOf, List.length_map] at hx; exact hx)]
        rfl
      have hfr : Field w Mr := br.at wp wq hfd
      have rl : r.length = kk + par := by rw [hid.1, rowOf, List.length_map, dl, cl]
      have hkr2 : (known r).length + min gone (kk + par) = kk + par := by rw [rowOf, List.length_map, dl, cl] at hkr; exact hkr
      have wr : WfO size r := fun o ho b e => by
        subst e
        obtain ⟨i, hi, e⟩ := List.mem_iff_getElem.mp ho
        have h2 := hid.2 i b (by rw [List.getD_eq_getElem?_getD, List.getElem?_eq_getElem hi, e]; rfl)
        have h3 := rowOf_get h2
        rw [← h3]
        exact dw _ (getD_mem (by omega))
      by_cases hg : par < gone
      · decreasing_tactic
        refine ⟨r, size, par, rfl, p1, p2, by omega, by omega, by omega, wr, by omega, ?_⟩
        decreasing_tactic
        exact wk_of ⟨_, _, _, _, _, _, _, rfl, dr, hfr⟩
      · decreasing_tactic
        refine ⟨r, size, par, rfl, p1, p2, by omega, by omega, by omega, wr, by omega, ?_⟩
        decreasing_tactic
        refine ⟨w, r, size, par, rfl, hfr, p1, p2, by omega, by omega, by omega, wr, by omega, fun es ew el eh => ?_⟩
        have ee := solved_is (k := kk) p1 p2 (by omega) rl wr (by omega) ew (by omega) (by rw [show r.length - par = kk by omega] at eh; exact eh)
        have ell : es.length = kk := by omega
        have pel := parB_len (n := size) (bs := es) p1 p2
        have pew := parB_wf (p := par) ew
        rw [← ee]
        decreasing_tactic
        refine ⟨_, rfl, same_row 3 (by rw [List.length_append]; omega) (fun b hb => ?_), ?_⟩
        · have : BlkOk' b size := by
            rcases List.mem_append.mp hb with h | h
            · exact ew b h
            · exact pew b h
          rw [this.1]; omega
        decreasing_tactic
        exact wk_of ⟨_, _, _, _, _, _, _, rfl, dr, hfr⟩
    · obtain ⟨cs, ec⟩ : ∃ cs, cs = bs ++ parB par size bs := ⟨_, rfl⟩
      have cl : cs.length = kk + par := by rw [ec, List.length_append, bl, pl]
      have cw : WfR size cs := fun b hb => by
        rw [ec] at hb
        rcases List.mem_append.mp hb with h | h
        · exact bw b h
        · exact pw b h
      rw [← ec]
      have dc := du
      have hfc := hfu
      generalize Mu = Mc at dc hfc
      have cs0 : 1 ≤ cs.length := by omega
      decreasing_tactic
      (refine ⟨_, _, _, rfl, by assumption, (by infer_instance), (by infer_instance), fun v Mv dv bv lv => ?_⟩; decreasing_tactic)
      have hfv : Field w Mv := bv.at wp wq hfc
      obtain ⟨m, hm1, hm2, em⟩ : ∃ m : Nat, 1 ≤ m ∧ m ≤ 12 ∧ atI [Dv.int ((par : Int) + 1), Dv.int ((kk : Int) + (par : Int) + 1)] (v : Int) = some (dn m) := by
        rcases (show v = 0 ∨ v = 1 by omega) with rfl | rfl
        · exact ⟨par + 1, by omega, by omega, rfl⟩
        · exact ⟨kk + par + 1, by omega, by omega, rfl⟩
      ((repeat ((conv => whnf); simp only [lenA_r, itemsA_r, lstA_r, lstC_s, Option.map_some, atI_0, ixN_0, mup_same, mup_mup, true_and, and_true, List.map_cons, List.map_nil, List.length_cons, List.length_map, List.length_nil, List.set_cons_zero, List.set_cons_succ, List.cons_append, List.nil_append, List.getElem?_cons_zero, List.getElem?_cons_succ, em])); (conv => whnf))
      (refine ⟨_, _, _, rfl, by assumption, (by infer_instance), (by infer_instance), fun gone Mgone dgone bgone lgone => ?_⟩; decreasing_tactic)
      have hfg : Field w Mgone := bgone.at wp wq hfv
      (refine ⟨_, _, _, rfl, by assumption, (by infer_instance), (by infer_instance), fun many Mmany dmany bmany lmany => ?_⟩; decreasing_tactic)
      have hfm : Field w Mmany := bmany.at wp wq hfg
      refine ⟨p, q, cs, size, many, rfl, dmany, by omega, by omega, by omega, by omega, cw, fun ds Md dd bd dl dw => ?_⟩
      have hfd : Field w Md := bd.at wp wq hfm
      decreasing_tactic
      refine ⟨p, q, rowOf ds, gone, by rw [row_map], dd, by rw [rowOf, List.length_map]; omega, by omega, fun x hx => ?_, by rw [known_rowOf, rowOf, List.length_map], fun r Mr dr br hid hkr => ?_⟩
      · rw [List.getD_eq_getElem?_getD, rowOf, List.getElem?_map, List.getElem?_eq_getElem (by rw [rowOf, List.length_map] at hx; exact hx)]
        rfl
      have hfr : Field w Mr := br.at wp wq hfd
      have rl : r.length = kk + par := by rw [hid.1, rowOf, List.length_map, dl, cl]
      have hkr2 : (known r).length + min gone (kk + par) = kk + par := by rw [rowOf, List.length_map, dl, cl] at hkr; exact hkr
      have wr : WfO size r := fun o ho b e => by
        subst e
        obtain ⟨i, hi, e⟩ := List.mem_iff_getElem.mp ho
        have h2 := hid.2 i b (by rw [List.getD_eq_getElem?_getD, List.getElem?_eq_getElem hi, e]; rfl)
        have h3 := rowOf_get h2
        rw [← h3]
        exact dw _ (getD_mem (by omega))
      by_cases hg : par < gone
      · decreasing_tactic
        refine ⟨r, size, par, rfl, p1, p2, by omega, by omega, by omega, wr, by omega, ?_⟩
        decreasing_tactic
        exact wk_of ⟨_, _, _, _, _, _, _, rfl, dr, hfr⟩
      · decreasing_tactic
        refine ⟨r, size, par, rfl, p1, p2, by omega, by omega, by omega, wr, by omega, ?_⟩
        decreasing_tactic
        refine ⟨w, r, size, par, rfl, hfr, p1, p2, by omega, by omega, by omega, wr, by omega, fun es ew el eh => ?_⟩
        have ee := solved_is (k := kk) p1 p2 (by omega) rl wr (by omega) ew (by omega) (by rw [show r.length - par = kk by omega] at eh; exact eh)
        have ell : es.length = kk := by omega
        have pel := parB_len (n := size) (bs := es) p1 p2
        have pew := parB_wf (p := par) ew
        rw [← ee]
        decreasing_tactic
        refine ⟨_, rfl, same_row 3 (by rw [List.length_append]; omega) (fun b hb => ?_), ?_⟩
        · have : BlkOk' b size := by
            rcases List.mem_append.mp hb with h | h
            · exact ew b h
            · exact pew b h
          rw [this.1]; omega
        decreasing_tactic
        exact wk_of ⟨_, _, _, _, _, _, _, rfl, dr, hfr⟩
  · rintro ρ M' ⟨x3, x4, x5, x6, x7, x8, x9, rfl, hd, hf⟩
    decreasing_tactic
    exact retEnd (k _)
theorem ok_law (T : Tx K mg) : FnA P w K mg base 9 T.f_law T.d_law [("_law_script" : Str)] sp_law :=
  fnA T.F_law sc_law len_law (fun cdv A outer s H E hr => by
    have hu1 := hu_of hr
    have hu64 := hr.units
    exact (ass_cons (as_set 1 sc_law.nd (ae_call (ok_law_begin T) (hr.mono (by decide)) T.m_law_begin T.F_law_begin.kp T.b_law_begin (aa_cons (av 0) aa_nil)))
    (ass_cons (as_set 2 sc_law.nd (ae_call0 (ok_law_field T) (hr.mono (by decide)) T.m_law_field T.F_law_field.kp T.b_law_field))
    (ass_cons (as_for PassesOwn.never rfl (ai_range1 T.n_range (aa_cons ae_int aa_nil)) (ag_name 3 sc_law.nd) (ass_cons (as_asg (ae_call (ok_law_shape T) (hr.mono (by decide)) T.m_law_shape T.F_law_shape.kp T.b_law_shape (aa_cons (av 1) aa_nil)) (ag_tup rfl (ags_cons (ag_name 4 sc_law.nd) (ags_cons (ag_name 5 sc_law.nd) (ags_cons (ag_name 6 sc_law.nd) ags_nil)))))
    (ass_cons (as_set 7 sc_law.nd (ae_call (ok_law_row T) (hr.mono (by decide)) T.m_law_row T.F_law_row.kp T.b_law_row (aa_cons (av 2) (aa_cons (ae_call (ok_law_data T) (hr.mono (by decide)) T.m_law_data T.F_law_data.kp T.b_law_data (aa_cons (av 1) (aa_cons (av 5) (aa_cons (av 6) aa_nil)))) (aa_cons (av 4) aa_nil)))))
    (ass_cons (as_if (at_eq hu64 (ae_call (ok_law_next T) (hr.mono (by decide)) T.m_law_next T.F_law_next.kp T.b_law_next (aa_cons (av 1) (aa_cons ae_int aa_nil))) ae_int) (ass_one (as_set 7 sc_law.nd (ae_callTy call_tuple_of abc_tup (aa_cons (ae_call (ok_law_data T) (hr.mono (by decide)) T.m_law_data T.F_law_data.kp T.b_law_data (aa_cons (av 1) (aa_cons (ae_add (av 5) (av 4)) (aa_cons (av 6) aa_nil)))) aa_nil) T.n_tuple boot_tuple))) ass_nil)
    (ass_cons (as_set 8 sc_law.nd (ae_call (ok_law_next T) (hr.mono (by decide)) T.m_law_next T.F_law_next.kp T.b_law_next (aa_cons (av 1) (aa_cons (ae_ix hu1 (ae_fz (ae_lst (aa_cons (ae_add (av 4) ae_int) (aa_cons (ae_add (ae_add (av 5) (av 4)) ae_int) aa_nil)))) (ae_call (ok_law_next T) (hr.mono (by decide)) T.m_law_next T.F_law_next.kp T.b_law_next (aa_cons (av 1) (aa_cons ae_int aa_nil)))) aa_nil))))
    (ass_cons (as_set 9 sc_law.nd (ae_call (ok_law_holed T) (hr.mono (by decide)) T.m_law_holed T.F_law_holed.kp T.b_law_holed (aa_cons (av 1) (aa_cons (ae_call (ok_law_spoilt T) (hr.mono (by decide)) T.m_law_spoilt T.F_law_spoilt.kp T.b_law_spoilt (aa_cons (av 1) (aa_cons (av 7) (aa_cons (ae_call (ok_law_next T) (hr.mono (by decide)) T.m_law_next T.F_law_next.kp T.b_law_next (aa_cons (av 1) (aa_cons ae_int aa_nil))) aa_nil)))) (aa_cons (av 8) aa_nil)))))
    (ass_one (as_if (at_gt (av 8) (av 4)) (ass_one (as_if (at_not (at_tru (ae_call (ok_law_refused T) (hr.mono (by decide)) T.m_law_refused T.F_law_refused.kp T.b_law_refused (aa_cons (av 9) (aa_cons (av 4) aa_nil))))) (ass_one (as_ret ae_bl)) ass_nil)) (ass_one (as_if (at_not (at_tru (ae_call (ok_law_same T) (hr.mono (by decide)) T.m_law_same T.F_law_same.kp T.b_law_same (aa_cons (ae_call (ok_row_filled T) (hr.mono (by decide)) T.m_row_filled T.F_row_filled.kp T.b_row_filled (aa_cons (av 9) (aa_cons (av 4) aa_nil))) (aa_cons (ae_call (ok_law_solved T) (hr.mono (by decide)) T.m_law_solved T.F_law_solved.kp T.b_law_solved (aa_cons (av 2) (aa_cons (av 9) (aa_cons (av 4) aa_nil)))) aa_nil))))) (ass_one (as_ret ae_bl)) ass_nil))))))))))
    (ass_one (as_ret ae_bl)))))) spec_law
end Law
namespace Law
open PySem L2 HC PyProof.Rows
set_option maxHeartbeats 4000000
theorem all_mk {l : PySem.W.OpenLaw} {w : World} {K : PySem.W.Frag} {h : Heap} {mg : Str → Option Value} {fa f0 f1 f2 f3 f4 f5 f6 f7 f8 f9 f10 f11 f12 f13 f14 f15 f16 f17 f18 f19 f20 f21 f22 f23 f24 f25 f26 f27 f28 f29 f30 f31 f32 : Addr} (X : K.In h) (G : h.Ns mainGlobals mg) (hfa : mg "law" = some (.ref fa))
    {od0 an0 od1 an1 od2 an2 od3 an3 od4 an4 od5 an5 od6 an6 od7 an7 od8 an8 od9 an9 od10 an10 od11 an11 od12 an12 od13 an13 od14 an14 od15 an15 od16 an16 od17 an17 od18 an18 od19 an19 od20 an20 od21 an21 od22 an22 od23 an23 od24 an24 od25 an25 od26 an26 od27 an27 od28 an28 od29 an29 od30 an30 od31 an31 od32 an32 : Option Addr} {sl0 sl1 sl2 sl3 sl4 sl5 sl6 sl7 sl8 sl9 sl10 sl11 sl12 sl13 sl14 sl15 sl16 sl17 sl18 sl19 sl20 sl21 sl22 sl23 sl24 sl25 sl26 sl27 sl28 sl29 sl30 sl31 sl32 : Array (Option Value)} {oc0 kV0 dc0 pm0 cd0 ct0 oc1 kV1 dc1 pm1 cd1 ct1 oc2 kV2 dc2 pm2 cd2 ct2 oc3 kV3 dc3 pm3 cd3 ct3 oc4 kV4 dc4 pm4 cd4 ct4 oc5 kV5 dc5 pm5 cd5 ct5 oc6 kV6 dc6 pm6 cd6 ct6 oc7 kV7 dc7 pm7 cd7 ct7 oc8 kV8 dc8 pm8 cd8 ct8 oc9 kV9 dc9 pm9 cd9 ct9 oc10 kV10 dc10 pm10 cd10 ct10 oc11 kV11 dc11 pm11 cd11 ct11 oc12 kV12 dc12 pm12 cd12 ct12 oc13 kV13 dc13 pm13 cd13 ct13 oc14 kV14 dc14 pm14 cd14 ct14 oc15 kV15 dc15 pm15 cd15 ct15 oc16 kV16 dc16 pm16 cd16 ct16 oc17 kV17 dc17 pm17 cd17 ct17 oc18 kV18 dc18 pm18 cd18 ct18 oc19 kV19 dc19 pm19 cd19 ct19 oc20 kV20 dc20 pm20 cd20 ct20 oc21 kV21 dc21 pm21 cd21 ct21 oc22 kV22 dc22 pm22 cd22 ct22 oc23 kV23 dc23 pm23 cd23 ct23 oc24 kV24 dc24 pm24 cd24 ct24 oc25 kV25 dc25 pm25 cd25 ct25 oc26 kV26 dc26 pm26 cd26 ct26 oc27 kV27 dc27 pm27 cd27 ct27 oc28 kV28 dc28 pm28 cd28 ct28 oc29 kV29 dc29 pm29 cd29 ct29 oc30 kV30 dc30 pm30 cd30 ct30 oc31 kV31 dc31 pm31 cd31 ct31 oc32 kV32 dc32 pm32 cd32 ct32 : Value} {tk1 tk2 tk3 : Tok}
    (a0 : PySem.W.nsIn K mainGlobals ("_law_begin" : Str) = some (some (.ref f0))) (l0 : K.lookup f0 = some ⟨oc0, od0, .func (PySem.W.fnOf ("_law_begin" : Str) ("_law_begin" : Str) (defArgs s_law_begin) (defBody s_law_begin) (defScope s_law_begin) .none kV0 dc0 pm0 an0 cd0 ct0), sl0⟩) (c0 : PySem.W.codeIn K cd0 ("_law_begin" : Str) = true) (k0 : PySem.W.keepIn K (.ref f0) = true)
    (a1 : PySem.W.nsIn K mainGlobals ("_law_next" : Str) = some (some (.ref f1))) (l1 : K.lookup f1 = some ⟨oc1, od1, .func (PySem.W.fnOf ("_law_next" : Str) ("_law_next" : Str) (defArgs s_law_next) (defBody s_law_next) (defScope s_law_next) .none kV1 dc1 pm1 an1 cd1 ct1), sl1⟩) (c1 : PySem.W.codeIn K cd1 ("_law_next" : Str) = true) (k1 : PySem.W.keepIn K (.ref f1) = true)
    (a2 : PySem.W.nsIn K mainGlobals ("_law_block" : Str) = some (some (.ref f2))) (l2 : K.lookup f2 = some ⟨oc2, od2, .func (PySem.W.fnOf ("_law_block" : Str) ("_law_block" : Str) (defArgs s_law_block) (defBody s_law_block) (defScope s_law_block) .none kV2 dc2 pm2 an2 cd2 ct2), sl2⟩) (c2 : PySem.W.codeIn K cd2 ("_law_block" : Str) = true) (k2 : PySem.W.keepIn K (.ref f2) = true)
    (a3 : PySem.W.nsIn K mainGlobals ("_law_data" : Str) = some (some (.ref f3))) (l3 : K.lookup f3 = some ⟨oc3, od3, .func (PySem.W.fnOf ("_law_data" : Str) ("_law_data" : Str) (defArgs s_law_data) (defBody s_law_data) (defScope s_law_data) .none kV3 dc3 pm3 an3 cd3 ct3), sl3⟩) (c3 : PySem.W.codeIn K cd3 ("_law_data" : Str) = true) (k3 : PySem.W.keepIn K (.ref f3) = true)
    (a4 : PySem.W.nsIn K mainGlobals ("_law_field" : Str) = some (some (.ref f4))) (l4 : K.lookup f4 = some ⟨oc4, od4, .func (PySem.W.fnOf ("_law_field" : Str) ("_law_field" : Str) (defArgs s_law_field) (defBody s_law_field) (defScope s_law_field) .none kV4 dc4 pm4 an4 cd4 ct4), sl4⟩) (c4 : PySem.W.codeIn K cd4 ("_law_field" : Str) = true) (k4 : PySem.W.keepIn K (.ref f4) = true)
    (a5 : PySem.W.nsIn K mainGlobals ("_law_holed" : Str) = some (some (.ref f5))) (l5 : K.lookup f5 = some ⟨oc5, od5, .func (PySem.W.fnOf ("_law_holed" : Str) ("_law_holed" : Str) (defArgs s_law_holed) (defBody s_law_holed) (defScope s_law_holed) .none kV5 dc5 pm5 an5 cd5 ct5), sl5⟩) (c5 : PySem.W.codeIn K cd5 ("_law_holed" : Str) = true) (k5 : PySem.W.keepIn K (.ref f5) = true)
    (a6 : PySem.W.nsIn K mainGlobals ("block_of" : Str) = some (some (.ref f6))) (l6 : K.lookup f6 = some ⟨oc6, od6, .func (PySem.W.fnOf ("block_of" : Str) ("block_of" : Str) (defArgs s_block_of) (defBody s_block_of) (defScope s_block_of) .none kV6 dc6 pm6 an6 cd6 ct6), sl6⟩) (c6 : PySem.W.codeIn K cd6 ("block_of" : Str) = true) (k6 : PySem.W.keepIn K (.ref f6) = true)
    (a7 : PySem.W.nsIn K mainGlobals ("known_places" : Str) = some (some (.ref f7))) (l7 : K.lookup f7 = some ⟨oc7, od7, .func (PySem.W.fnOf ("known_places" : Str) ("known_places" : Str) (defArgs s_known_places) (defBody s_known_places) (defScope s_known_places) .none kV7 dc7 pm7 an7 cd7 ct7), sl7⟩) (c7 : PySem.W.codeIn K cd7 ("known_places" : Str) = true) (k7 : PySem.W.keepIn K (.ref f7) = true)
    (a8 : PySem.W.nsIn K mainGlobals ("noughted" : Str) = some (some (.ref f8))) (l8 : K.lookup f8 = some ⟨oc8, od8, .func (PySem.W.fnOf ("noughted" : Str) ("noughted" : Str) (defArgs s_noughted) (defBody s_noughted) (defScope s_noughted) .none kV8 dc8 pm8 an8 cd8 ct8), sl8⟩) (c8 : PySem.W.codeIn K cd8 ("noughted" : Str) = true) (k8 : PySem.W.keepIn K (.ref f8) = true)
    (a9 : PySem.W.nsIn K mainGlobals ("byte_sum" : Str) = some (some (.ref f9))) (l9 : K.lookup f9 = some ⟨oc9, od9, .func (PySem.W.fnOf ("byte_sum" : Str) ("byte_sum" : Str) (defArgs s_byte_sum) (defBody s_byte_sum) (defScope s_byte_sum) .none kV9 dc9 pm9 an9 cd9 ct9), sl9⟩) (c9 : PySem.W.codeIn K cd9 ("byte_sum" : Str) = true) (k9 : PySem.W.keepIn K (.ref f9) = true)
    (a10 : PySem.W.nsIn K mainGlobals ("block_sum" : Str) = some (some (.ref f10))) (l10 : K.lookup f10 = some ⟨oc10, od10, .func (PySem.W.fnOf ("block_sum" : Str) ("block_sum" : Str) (defArgs s_block_sum) (defBody s_block_sum) (defScope s_block_sum) .none kV10 dc10 pm10 an10 cd10 ct10), sl10⟩) (c10 : PySem.W.codeIn K cd10 ("block_sum" : Str) = true) (k10 : PySem.W.keepIn K (.ref f10) = true)
    (a11 : PySem.W.nsIn K mainGlobals ("byte_times" : Str) = some (some (.ref f11))) (l11 : K.lookup f11 = some ⟨oc11, od11, .func (PySem.W.fnOf ("byte_times" : Str) ("byte_times" : Str) (defArgs s_byte_times) (defBody s_byte_times) (defScope s_byte_times) .none kV11 dc11 pm11 an11 cd11 ct11), sl11⟩) (c11 : PySem.W.codeIn K cd11 ("byte_times" : Str) = true) (k11 : PySem.W.keepIn K (.ref f11) = true)
    (a12 : PySem.W.nsIn K mainGlobals ("block_times" : Str) = some (some (.ref f12))) (l12 : K.lookup f12 = some ⟨oc12, od12, .func (PySem.W.fnOf ("block_times" : Str) ("block_times" : Str) (defArgs s_block_times) (defBody s_block_times) (defScope s_block_times) .none kV12 dc12 pm12 an12 cd12 ct12), sl12⟩) (c12 : PySem.W.codeIn K cd12 ("block_times" : Str) = true) (k12 : PySem.W.keepIn K (.ref f12) = true)
    (a13 : PySem.W.nsIn K mainGlobals ("byte_inverse" : Str) = some (some (.ref f13))) (l13 : K.lookup f13 = some ⟨oc13, od13, .func (PySem.W.fnOf ("byte_inverse" : Str) ("byte_inverse" : Str) (defArgs s_byte_inverse) (defBody s_byte_inverse) (defScope s_byte_inverse) .none kV13 dc13 pm13 an13 cd13 ct13), sl13⟩) (c13 : PySem.W.codeIn K cd13 ("byte_inverse" : Str) = true) (k13 : PySem.W.keepIn K (.ref f13) = true)
    (a14 : PySem.W.nsIn K mainGlobals ("byte_power" : Str) = some (some (.ref f14))) (l14 : K.lookup f14 = some ⟨oc14, od14, .func (PySem.W.fnOf ("byte_power" : Str) ("byte_power" : Str) (defArgs s_byte_power) (defBody s_byte_power) (defScope s_byte_power) .none kV14 dc14 pm14 an14 cd14 ct14), sl14⟩) (c14 : PySem.W.codeIn K cd14 ("byte_power" : Str) = true) (k14 : PySem.W.keepIn K (.ref f14) = true)
    (a15 : PySem.W.nsIn K mainGlobals ("sum_of" : Str) = some (some (.ref f15))) (l15 : K.lookup f15 = some ⟨oc15, od15, .func (PySem.W.fnOf ("sum_of" : Str) ("sum_of" : Str) (defArgs s_sum_of) (defBody s_sum_of) (defScope s_sum_of) .none kV15 dc15 pm15 an15 cd15 ct15), sl15⟩) (c15 : PySem.W.codeIn K cd15 ("sum_of" : Str) = true) (k15 : PySem.W.keepIn K (.ref f15) = true)
    (a16 : PySem.W.nsIn K mainGlobals ("parities_of" : Str) = some (some (.ref f16))) (l16 : K.lookup f16 = some ⟨oc16, od16, .func (PySem.W.fnOf ("parities_of" : Str) ("parities_of" : Str) (defArgs s_parities_of) (defBody s_parities_of) (defScope s_parities_of) .none kV16 dc16 pm16 an16 cd16 ct16), sl16⟩) (c16 : PySem.W.codeIn K cd16 ("parities_of" : Str) = true) (k16 : PySem.W.keepIn K (.ref f16) = true)
    (a17 : PySem.W.nsIn K mainGlobals ("one_told" : Str) = some (some (.ref f17))) (l17 : K.lookup f17 = some ⟨oc17, od17, .func (PySem.W.fnOf ("one_told" : Str) ("one_told" : Str) (defArgs s_one_told) (defBody s_one_told) (defScope s_one_told) .none kV17 dc17 pm17 an17 cd17 ct17), sl17⟩) (c17 : PySem.W.codeIn K cd17 ("one_told" : Str) = true) (k17 : PySem.W.keepIn K (.ref f17) = true)
    (a18 : PySem.W.nsIn K mainGlobals ("two_told" : Str) = some (some (.ref f18))) (l18 : K.lookup f18 = some ⟨oc18, od18, .func (PySem.W.fnOf ("two_told" : Str) ("two_told" : Str) (defArgs s_two_told) (defBody s_two_told) (defScope s_two_told) .none kV18 dc18 pm18 an18 cd18 ct18), sl18⟩) (c18 : PySem.W.codeIn K cd18 ("two_told" : Str) = true) (k18 : PySem.W.keepIn K (.ref f18) = true)
    (a19 : PySem.W.nsIn K mainGlobals ("data_told" : Str) = some (some (.ref f19))) (l19 : K.lookup f19 = some ⟨oc19, od19, .func (PySem.W.fnOf ("data_told" : Str) ("data_told" : Str) (defArgs s_data_told) (defBody s_data_told) (defScope s_data_told) .none kV19 dc19 pm19 an19 cd19 ct19), sl19⟩) (c19 : PySem.W.codeIn K cd19 ("data_told" : Str) = true) (k19 : PySem.W.keepIn K (.ref f19) = true)
    (a20 : PySem.W.nsIn K mainGlobals ("row_filled" : Str) = some (some (.ref f20))) (l20 : K.lookup f20 = some ⟨oc20, od20, .func (PySem.W.fnOf ("row_filled" : Str) ("row_filled" : Str) (defArgs s_row_filled) (defBody s_row_filled) (defScope s_row_filled) .none kV20 dc20 pm20 an20 cd20 ct20), sl20⟩) (c20 : PySem.W.codeIn K cd20 ("row_filled" : Str) = true) (k20 : PySem.W.keepIn K (.ref f20) = true)
    (a21 : PySem.W.nsIn K mainGlobals ("_law_refused" : Str) = some (some (.ref f21))) (l21 : K.lookup f21 = some ⟨oc21, od21, .func (PySem.W.fnOf ("_law_refused" : Str) ("_law_refused" : Str) (defArgs s_law_refused) (defBody s_law_refused) (defScope s_law_refused) .none kV21 dc21 pm21 an21 cd21 ct21), sl21⟩) (c21 : PySem.W.codeIn K cd21 ("_law_refused" : Str) = true) (k21 : PySem.W.keepIn K (.ref f21) = true)
    (a22 : PySem.W.nsIn K mainGlobals ("_law_times" : Str) = some (some (.ref f22))) (l22 : K.lookup f22 = some ⟨oc22, od22, .func (PySem.W.fnOf ("_law_times" : Str) ("_law_times" : Str) (defArgs s_law_times) (defBody s_law_times) (defScope s_law_times) .none kV22 dc22 pm22 an22 cd22 ct22), sl22⟩) (c22 : PySem.W.codeIn K cd22 ("_law_times" : Str) = true) (k22 : PySem.W.keepIn K (.ref f22) = true)
    (a23 : PySem.W.nsIn K mainGlobals ("_law_row" : Str) = some (some (.ref f23))) (l23 : K.lookup f23 = some ⟨oc23, od23, .func (PySem.W.fnOf ("_law_row" : Str) ("_law_row" : Str) (defArgs s_law_row) (defBody s_law_row) (defScope s_law_row) .none kV23 dc23 pm23 an23 cd23 ct23), sl23⟩) (c23 : PySem.W.codeIn K cd23 ("_law_row" : Str) = true) (k23 : PySem.W.keepIn K (.ref f23) = true)
    (a24 : PySem.W.nsIn K mainGlobals ("_law_same" : Str) = some (some (.ref f24))) (l24 : K.lookup f24 = some ⟨oc24, od24, .func (PySem.W.fnOf ("_law_same" : Str) ("_law_same" : Str) (defArgs s_law_same) (defBody s_law_same) (defScope s_law_same) .none kV24 dc24 pm24 an24 cd24 ct24), sl24⟩) (c24 : PySem.W.codeIn K cd24 ("_law_same" : Str) = true) (k24 : PySem.W.keepIn K (.ref f24) = true)
    (a25 : PySem.W.nsIn K mainGlobals ("_law_many" : Str) = some (some (.ref f25))) (l25 : K.lookup f25 = some ⟨oc25, od25, .func (PySem.W.fnOf ("_law_many" : Str) ("_law_many" : Str) (defArgs s_law_many) (defBody s_law_many) (defScope s_law_many) .none kV25 dc25 pm25 an25 cd25 ct25), sl25⟩) (c25 : PySem.W.codeIn K cd25 ("_law_many" : Str) = true) (k25 : PySem.W.keepIn K (.ref f25) = true)
    (a26 : PySem.W.nsIn K mainGlobals ("_law_shape" : Str) = some (some (.ref f26))) (l26 : K.lookup f26 = some ⟨oc26, od26, .func (PySem.W.fnOf ("_law_shape" : Str) ("_law_shape" : Str) (defArgs s_law_shape) (defBody s_law_shape) (defScope s_law_shape) .none kV26 dc26 pm26 an26 cd26 ct26), sl26⟩) (c26 : PySem.W.codeIn K cd26 ("_law_shape" : Str) = true) (k26 : PySem.W.keepIn K (.ref f26) = true)
    (a27 : PySem.W.nsIn K mainGlobals ("_law_less" : Str) = some (some (.ref f27))) (l27 : K.lookup f27 = some ⟨oc27, od27, .func (PySem.W.fnOf ("_law_less" : Str) ("_law_less" : Str) (defArgs s_law_less) (defBody s_law_less) (defScope s_law_less) .none kV27 dc27 pm27 an27 cd27 ct27), sl27⟩) (c27 : PySem.W.codeIn K cd27 ("_law_less" : Str) = true) (k27 : PySem.W.keepIn K (.ref f27) = true)
    (a28 : PySem.W.nsIn K mainGlobals ("_law_line" : Str) = some (some (.ref f28))) (l28 : K.lookup f28 = some ⟨oc28, od28, .func (PySem.W.fnOf ("_law_line" : Str) ("_law_line" : Str) (defArgs s_law_line) (defBody s_law_line) (defScope s_law_line) .none kV28 dc28 pm28 an28 cd28 ct28), sl28⟩) (c28 : PySem.W.codeIn K cd28 ("_law_line" : Str) = true) (k28 : PySem.W.keepIn K (.ref f28) = true)
    (a29 : PySem.W.nsIn K mainGlobals ("_law_solved" : Str) = some (some (.ref f29))) (l29 : K.lookup f29 = some ⟨oc29, od29, .func (PySem.W.fnOf ("_law_solved" : Str) ("_law_solved" : Str) (defArgs s_law_solved) (defBody s_law_solved) (defScope s_law_solved) .none kV29 dc29 pm29 an29 cd29 ct29), sl29⟩) (c29 : PySem.W.codeIn K cd29 ("_law_solved" : Str) = true) (k29 : PySem.W.keepIn K (.ref f29) = true)
    (a30 : PySem.W.nsIn K mainGlobals ("_law_known" : Str) = some (some (.ref f30))) (l30 : K.lookup f30 = some ⟨oc30, od30, .func (PySem.W.fnOf ("_law_known" : Str) ("_law_known" : Str) (defArgs s_law_known) (defBody s_law_known) (defScope s_law_known) .none kV30 dc30 pm30 an30 cd30 ct30), sl30⟩) (c30 : PySem.W.codeIn K cd30 ("_law_known" : Str) = true) (k30 : PySem.W.keepIn K (.ref f30) = true)
    (a31 : PySem.W.nsIn K mainGlobals ("_law_spoilt" : Str) = some (some (.ref f31))) (l31 : K.lookup f31 = some ⟨oc31, od31, .func (PySem.W.fnOf ("_law_spoilt" : Str) ("_law_spoilt" : Str) (defArgs s_law_spoilt) (defBody s_law_spoilt) (defScope s_law_spoilt) .none kV31 dc31 pm31 an31 cd31 ct31), sl31⟩) (c31 : PySem.W.codeIn K cd31 ("_law_spoilt" : Str) = true) (k31 : PySem.W.keepIn K (.ref f31) = true)
    (a32 : PySem.W.nsIn K mainGlobals ("law" : Str) = some (some (.ref f32))) (l32 : K.lookup f32 = some ⟨oc32, od32, .func (PySem.W.fnOf ("law" : Str) ("law" : Str) (defArgs s_law) (defBody s_law) (defScope s_law) .none kV32 dc32 pm32 an32 cd32 ct32), sl32⟩) (c32 : PySem.W.codeIn K cd32 ("law" : Str) = true) (k32 : PySem.W.keepIn K (.ref f32) = true)
    (z0 : PySem.W.nsIn K mainGlobals ("ValueError" : Str) = some none)
    (z1 : PySem.W.nsIn K mainGlobals ("all" : Str) = some none)
    (z2 : PySem.W.nsIn K mainGlobals ("bool" : Str) = some none)
    (z3 : PySem.W.nsIn K mainGlobals ("enumerate" : Str) = some none)
    (z4 : PySem.W.nsIn K mainGlobals ("int" : Str) = some none)
    (z5 : PySem.W.nsIn K mainGlobals ("isinstance" : Str) = some none)
    (z6 : PySem.W.nsIn K mainGlobals ("len" : Str) = some none)
    (z7 : PySem.W.nsIn K mainGlobals ("list" : Str) = some none)
    (z8 : PySem.W.nsIn K mainGlobals ("max" : Str) = some none)
    (z9 : PySem.W.nsIn K mainGlobals ("min" : Str) = some none)
    (z10 : PySem.W.nsIn K mainGlobals ("range" : Str) = some none)
    (z11 : PySem.W.nsIn K mainGlobals ("str" : Str) = some none)
    (z12 : PySem.W.nsIn K mainGlobals ("tuple" : Str) = some none)
    (z13 : PySem.W.nsIn K mainGlobals ("zip" : Str) = some none)
    (q0 : PySem.W.nsIn K mainGlobals ("MODULUS" : Str) = some (some (.int 285 tk1)))
    (q1 : PySem.W.nsIn K mainGlobals ("ROUND" : Str) = some (some (.int 255 tk2)))
    (q2 : PySem.W.nsIn K mainGlobals ("TOP" : Str) = some (some (.int 256 tk3)))
    {C0 : Addr}
    (ea0 : PySem.W.nsIn K mainGlobals ("TooFew" : Str) = some (some (.ref C0)))
    (ec0 : PySem.W.keepIn K (.ref C0) = true)
    (ed0 : PySem.W.subIn K (.ref C0) (.type "BaseException") = some true)
    (ef0 : PySem.W.typeIn K (.ref C0) = some (.type "type"))
    (eb0 : PySem.W.excIn K C0 [.type "ValueError", .type "Exception", .type "BaseException", .type "object"] "ValueError.__new__" = true)
    (ga0 : PySem.W.findIn K (.ref C0) "__getattribute__" = some (some (.builtin "BaseException.__getattribute__")))
    (gg0 : PySem.W.findIn K (.ref C0) "__getattr__" = some none)
    (kc0 : (PySem.W.clsIn K C0).isSome = true)
    (kl0 : PySem.W.findIn K (.ref C0) "__class__" = some (some (.builtin "object.__class__")))
    (km0 : PySem.W.mroIn K C0 (.type "object") = some true)
    {C1 : Addr}
    (ea1 : PySem.W.nsIn K mainGlobals ("Gone" : Str) = some (some (.ref C1)))
    {C2 : Addr}
    (ea2 : PySem.W.nsIn K mainGlobals ("Growing" : Str) = some (some (.ref C2)))
    {C3 : Addr}
    (ea3 : PySem.W.nsIn K mainGlobals ("Halfway" : Str) = some (some (.ref C3)))
    {C4 : Addr}
    (ea4 : PySem.W.nsIn K mainGlobals ("Lost" : Str) = some (some (.ref C4)))
    {C5 : Addr}
    (ea5 : PySem.W.nsIn K mainGlobals ("NoPlace" : Str) = some (some (.ref C5)))
    {C6 : Addr}
    (ea6 : PySem.W.nsIn K mainGlobals ("NoSpare" : Str) = some (some (.ref C6)))
    {C7 : Addr}
    (ea7 : PySem.W.nsIn K mainGlobals ("NoStore" : Str) = some (some (.ref C7)))
    {C8 : Addr}
    (ea8 : PySem.W.nsIn K mainGlobals ("NoText" : Str) = some (some (.ref C8)))
    {C9 : Addr}
    (ea9 : PySem.W.nsIn K mainGlobals ("NotGrowing" : Str) = some (some (.ref C9)))
    {C10 : Addr}
    (ea10 : PySem.W.nsIn K mainGlobals ("There" : Str) = some (some (.ref C10)))
    {C11 : Addr}
    (ea11 : PySem.W.nsIn K mainGlobals ("Untold" : Str) = some (some (.ref C11)))
    {C12 : Addr}
    (ea12 : PySem.W.nsIn K mainGlobals ("DiskError" : Str) = some (some (.ref C12)))
    (ksp : PySem.W.specialIn K (.builtin "object.__class__") "__get__" = some (some (.builtin "getset_descriptor.__get__"))) (ktk : PySem.W.takesIn K (.builtin "object.__class__") = some true)
    (ki_TooFew_Gone : PySem.W.kitOne K (.ref C0) (.ref C1) = some false)
    (ki_TooFew_Growing : PySem.W.kitOne K (.ref C0) (.ref C2) = some false)
    (ki_TooFew_Halfway : PySem.W.kitOne K (.ref C0) (.ref C3) = some false)
    (ki_TooFew_Lost : PySem.W.kitOne K (.ref C0) (.ref C4) = some false)
    (ki_TooFew_NoPlace : PySem.W.kitOne K (.ref C0) (.ref C5) = some false)
    (ki_TooFew_NoSpare : PySem.W.kitOne K (.ref C0) (.ref C6) = some false)
    (ki_TooFew_NoStore : PySem.W.kitOne K (.ref C0) (.ref C7) = some false)
    (ki_TooFew_NoText : PySem.W.kitOne K (.ref C0) (.ref C8) = some false)
    (ki_TooFew_NotGrowing : PySem.W.kitOne K (.ref C0) (.ref C9) = some false)
    (ki_TooFew_There : PySem.W.kitOne K (.ref C0) (.ref C10) = some false)
    (ki_TooFew_TooFew : PySem.W.kitOne K (.ref C0) (.ref C0) = some true)
    (ki_TooFew_Untold : PySem.W.kitOne K (.ref C0) (.ref C11) = some false)
    (ki_TooFew_ValueError : PySem.W.kitOne K (.ref C0) (.type "ValueError") = some true)
    (em_TooFew_DiskError : PySem.W.exmOne K (.ref C0) (.ref C12) = some true)
    : ∃ fd : FuncData, (∀ (s : Shared) (v : Value), BindsTo s fd ⟨[v], []⟩ [(("_law_script" : Str), v)]) ∧ ∀ base : Heap, K.In base → base.Ns mainGlobals mg → FnA l.prog w K mg base 9 fa fd [("_law_script" : Str)] sp_law := by
  have e := hfa.symm.trans (PySem.W.mg_of X G a32)
  cases e
  let T : Tx K mg := {
    n_ValueError := PySem.W.mg_none_of X G z0
    n_all := PySem.W.mg_none_of X G z1
    n_bool := PySem.W.mg_none_of X G z2
    n_enumerate := PySem.W.mg_none_of X G z3
    n_int := PySem.W.mg_none_of X G z4
    n_isinstance := PySem.W.mg_none_of X G z5
    n_len := PySem.W.mg_none_of X G z6
    n_list := PySem.W.mg_none_of X G z7
    n_max := PySem.W.mg_none_of X G z8
    n_min := PySem.W.mg_none_of X G z9
    n_range := PySem.W.mg_none_of X G z10
    n_str := PySem.W.mg_none_of X G z11
    n_tuple := PySem.W.mg_none_of X G z12
    n_zip := PySem.W.mg_none_of X G z13
    c_MODULUS := ⟨_, PySem.W.mg_of X G q0⟩
    c_ROUND := ⟨_, PySem.W.mg_of X G q1⟩
    c_TOP := ⟨_, PySem.W.mg_of X G q2⟩
    f_law_begin := f0, d_law_begin := _, F_law_begin := fun_mk (st := s_law_begin) l0 c0 k0, m_law_begin := PySem.W.mg_of X G a0, b_law_begin := (fun_mk (st := s_law_begin) l0 c0 k0).binds (ps := [("_law_script" : Str)]) fun _ _ _ _ _ _ us hl => match us, hl with | [_], _ => rfl
    f_law_next := f1, d_law_next := _, F_law_next := fun_mk (st := s_law_next) l1 c1 k1, m_law_next := PySem.W.mg_of X G a1, b_law_next := (fun_mk (st := s_law_next) l1 c1 k1).binds (ps := [("_law_draws" : Str), ("_law_many_here" : Str)]) fun _ _ _ _ _ _ us hl => match us, hl with | [_, _], _ => rfl
    f_law_block := f2, d_law_block := _, F_law_block := fun_mk (st := s_law_block) l2 c2 k2, m_law_block := PySem.W.mg_of X G a2, b_law_block := (fun_mk (st := s_law_block) l2 c2 k2).binds (ps := [("_law_draws" : Str), ("_law_size" : Str)]) fun _ _ _ _ _ _ us hl => match us, hl with | [_, _], _ => rfl
    f_law_data := f3, d_law_data := _, F_law_data := fun_mk (st := s_law_data) l3 c3 k3, m_law_data := PySem.W.mg_of X G a3, b_law_data := (fun_mk (st := s_law_data) l3 c3 k3).binds (ps := [("_law_draws" : Str), ("_law_many_here" : Str), ("_law_size" : Str)]) fun _ _ _ _ _ _ us hl => match us, hl with | [_, _, _], _ => rfl
    f_law_field := f4, d_law_field := _, F_law_field := fun_mk (st := s_law_field) l4 c4 k4, m_law_field := PySem.W.mg_of X G a4, b_law_field := (fun_mk (st := s_law_field) l4 c4 k4).binds (ps := []) fun _ _ _ _ _ _ us hl => match us, hl with | [], _ => rfl
    f_law_holed := f5, d_law_holed := _, F_law_holed := fun_mk (st := s_law_holed) l5 c5 k5, m_law_holed := PySem.W.mg_of X G a5, b_law_holed := (fun_mk (st := s_law_holed) l5 c5 k5).binds (ps := [("_law_draws" : Str), ("_law_row_here" : Str), ("_law_gone" : Str)]) fun _ _ _ _ _ _ us hl => match us, hl with | [_, _, _], _ => rfl
    f_block_of := f6, d_block_of := _, F_block_of := fun_mk (st := s_block_of) l6 c6 k6, m_block_of := PySem.W.mg_of X G a6, b_block_of := (fun_mk (st := s_block_of) l6 c6 k6).binds (ps := [("many" : Str)]) fun _ _ _ _ _ _ us hl => match us, hl with | [_], _ => rfl
    f_known_places := f7, d_known_places := _, F_known_places := fun_mk (st := s_known_places) l7 c7 k7, m_known_places := PySem.W.mg_of X G a7, b_known_places := (fun_mk (st := s_known_places) l7 c7 k7).binds (ps := [("blocks" : Str)]) fun _ _ _ _ _ _ us hl => match us, hl with | [_], _ => rfl
    f_noughted := f8, d_noughted := _, F_noughted := fun_mk (st := s_noughted) l8 c8 k8, m_noughted := PySem.W.mg_of X G a8, b_noughted := (fun_mk (st := s_noughted) l8 c8 k8).binds (ps := [("data" : Str)]) fun _ _ _ _ _ _ us hl => match us, hl with | [_], _ => rfl
    f_byte_sum := f9, d_byte_sum := _, F_byte_sum := fun_mk (st := s_byte_sum) l9 c9 k9, m_byte_sum := PySem.W.mg_of X G a9, b_byte_sum := (fun_mk (st := s_byte_sum) l9 c9 k9).binds (ps := [("a" : Str), ("b" : Str)]) fun _ _ _ _ _ _ us hl => match us, hl with | [_, _], _ => rfl
    f_block_sum := f10, d_block_sum := _, F_block_sum := fun_mk (st := s_block_sum) l10 c10 k10, m_block_sum := PySem.W.mg_of X G a10, b_block_sum := (fun_mk (st := s_block_sum) l10 c10 k10).binds (ps := [("one" : Str), ("other" : Str)]) fun _ _ _ _ _ _ us hl => match us, hl with | [_, _], _ => rfl
    f_byte_times := f11, d_byte_times := _, F_byte_times := fun_mk (st := s_byte_times) l11 c11 k11, m_byte_times := PySem.W.mg_of X G a11, b_byte_times := (fun_mk (st := s_byte_times) l11 c11 k11).binds (ps := [("a" : Str), ("b" : Str)]) fun _ _ _ _ _ _ us hl => match us, hl with | [_, _], _ => rfl
    f_block_times := f12, d_block_times := _, F_block_times := fun_mk (st := s_block_times) l12 c12 k12, m_block_times := PySem.W.mg_of X G a12, b_block_times := (fun_mk (st := s_block_times) l12 c12 k12).binds (ps := [("a" : Str), ("block" : Str)]) fun _ _ _ _ _ _ us hl => match us, hl with | [_, _], _ => rfl
    f_byte_inverse := f13, d_byte_inverse := _, F_byte_inverse := fun_mk (st := s_byte_inverse) l13 c13 k13, m_byte_inverse := PySem.W.mg_of X G a13, b_byte_inverse := (fun_mk (st := s_byte_inverse) l13 c13 k13).binds (ps := [("a" : Str)]) fun _ _ _ _ _ _ us hl => match us, hl with | [_], _ => rfl
    f_byte_power := f14, d_byte_power := _, F_byte_power := fun_mk (st := s_byte_power) l14 c14 k14, m_byte_power := PySem.W.mg_of X G a14, b_byte_power := (fun_mk (st := s_byte_power) l14 c14 k14).binds (ps := [("k" : Str)]) fun _ _ _ _ _ _ us hl => match us, hl with | [_], _ => rfl
    f_sum_of := f15, d_sum_of := _, F_sum_of := fun_mk (st := s_sum_of) l15 c15 k15, m_sum_of := PySem.W.mg_of X G a15, b_sum_of := (fun_mk (st := s_sum_of) l15 c15 k15).binds (ps := [("blocks" : Str)]) fun _ _ _ _ _ _ us hl => match us, hl with | [_], _ => rfl
    f_parities_of := f16, d_parities_of := _, F_parities_of := fun_mk (st := s_parities_of) l16 c16 k16, m_parities_of := PySem.W.mg_of X G a16, b_parities_of := (fun_mk (st := s_parities_of) l16 c16 k16).binds (ps := [("data" : Str), ("parities" : Str)]) fun _ _ _ _ _ _ us hl => match us, hl with | [_, _], _ => rfl
    f_one_told := f17, d_one_told := _, F_one_told := fun_mk (st := s_one_told) l17 c17 k17, m_one_told := PySem.W.mg_of X G a17, b_one_told := (fun_mk (st := s_one_told) l17 c17 k17).binds (ps := [("data" : Str), ("place" : Str), ("parity" : Str), ("which" : Str)]) fun _ _ _ _ _ _ us hl => match us, hl with | [_, _, _, _], _ => rfl
    f_two_told := f18, d_two_told := _, F_two_told := fun_mk (st := s_two_told) l18 c18 k18, m_two_told := PySem.W.mg_of X G a18, b_two_told := (fun_mk (st := s_two_told) l18 c18 k18).binds (ps := [("data" : Str), ("place" : Str), ("other" : Str), ("both" : Str)]) fun _ _ _ _ _ _ us hl => match us, hl with | [_, _, _, _], _ => rfl
    f_data_told := f19, d_data_told := _, F_data_told := fun_mk (st := s_data_told) l19 c19 k19, m_data_told := PySem.W.mg_of X G a19, b_data_told := (fun_mk (st := s_data_told) l19 c19 k19).binds (ps := [("blocks" : Str), ("parities" : Str)]) fun _ _ _ _ _ _ us hl => match us, hl with | [_, _], _ => rfl
    f_row_filled := f20, d_row_filled := _, F_row_filled := fun_mk (st := s_row_filled) l20 c20 k20, m_row_filled := PySem.W.mg_of X G a20, b_row_filled := (fun_mk (st := s_row_filled) l20 c20 k20).binds (ps := [("blocks" : Str), ("parities" : Str)]) fun _ _ _ _ _ _ us hl => match us, hl with | [_, _], _ => rfl
    f_law_refused := f21, d_law_refused := _, F_law_refused := fun_mk (st := s_law_refused) l21 c21 k21, m_law_refused := PySem.W.mg_of X G a21, b_law_refused := (fun_mk (st := s_law_refused) l21 c21 k21).binds (ps := [("_law_blocks" : Str), ("_law_parities" : Str)]) fun _ _ _ _ _ _ us hl => match us, hl with | [_, _], _ => rfl
    f_law_times := f22, d_law_times := _, F_law_times := fun_mk (st := s_law_times) l22 c22 k22, m_law_times := PySem.W.mg_of X G a22, b_law_times := (fun_mk (st := s_law_times) l22 c22 k22).binds (ps := [("_law_field_here" : Str), ("_law_one" : Str), ("_law_other" : Str)]) fun _ _ _ _ _ _ us hl => match us, hl with | [_, _, _], _ => rfl
    f_law_row := f23, d_law_row := _, F_law_row := fun_mk (st := s_law_row) l23 c23 k23, m_law_row := PySem.W.mg_of X G a23, b_law_row := (fun_mk (st := s_law_row) l23 c23 k23).binds (ps := [("_law_field_here" : Str), ("_law_data_here" : Str), ("_law_parities" : Str)]) fun _ _ _ _ _ _ us hl => match us, hl with | [_, _, _], _ => rfl
    f_law_same := f24, d_law_same := _, F_law_same := fun_mk (st := s_law_same) l24 c24 k24, m_law_same := PySem.W.mg_of X G a24, b_law_same := (fun_mk (st := s_law_same) l24 c24 k24).binds (ps := [("_law_one" : Str), ("_law_due" : Str)]) fun _ _ _ _ _ _ us hl => match us, hl with | [_, _], _ => rfl
    f_law_many := f25, d_law_many := _, F_law_many := fun_mk (st := s_law_many) l25 c25 k25, m_law_many := PySem.W.mg_of X G a25, b_law_many := (fun_mk (st := s_law_many) l25 c25 k25).binds (ps := [("_law_draws" : Str), ("_law_few" : Str), ("_law_most" : Str)]) fun _ _ _ _ _ _ us hl => match us, hl with | [_, _, _], _ => rfl
    f_law_shape := f26, d_law_shape := _, F_law_shape := fun_mk (st := s_law_shape) l26 c26 k26, m_law_shape := PySem.W.mg_of X G a26, b_law_shape := (fun_mk (st := s_law_shape) l26 c26 k26).binds (ps := [("_law_draws" : Str)]) fun _ _ _ _ _ _ us hl => match us, hl with | [_], _ => rfl
    f_law_less := f27, d_law_less := _, F_law_less := fun_mk (st := s_law_less) l27 c27 k27, m_law_less := PySem.W.mg_of X G a27, b_law_less := (fun_mk (st := s_law_less) l27 c27 k27).binds (ps := [("_law_field_here" : Str), ("_law_row_here" : Str), ("_law_other" : Str), ("_law_factor" : Str)]) fun _ _ _ _ _ _ us hl => match us, hl with | [_, _, _, _], _ => rfl
    f_law_line := f28, d_law_line := _, F_law_line := fun_mk (st := s_law_line) l28 c28 k28, m_law_line := PySem.W.mg_of X G a28, b_law_line := (fun_mk (st := s_law_line) l28 c28 k28).binds (ps := [("_law_field_here" : Str), ("_law_many_here" : Str), ("_law_place" : Str)]) fun _ _ _ _ _ _ us hl => match us, hl with | [_, _, _], _ => rfl
    f_law_solved := f29, d_law_solved := _, F_law_solved := fun_mk (st := s_law_solved) l29 c29 k29, m_law_solved := PySem.W.mg_of X G a29, b_law_solved := (fun_mk (st := s_law_solved) l29 c29 k29).binds (ps := [("_law_field_here" : Str), ("_law_blocks" : Str), ("_law_parities" : Str)]) fun _ _ _ _ _ _ us hl => match us, hl with | [_, _, _], _ => rfl
    f_law_known := f30, d_law_known := _, F_law_known := fun_mk (st := s_law_known) l30 c30 k30, m_law_known := PySem.W.mg_of X G a30, b_law_known := (fun_mk (st := s_law_known) l30 c30 k30).binds (ps := [("_law_blocks" : Str)]) fun _ _ _ _ _ _ us hl => match us, hl with | [_], _ => rfl
    f_law_spoilt := f31, d_law_spoilt := _, F_law_spoilt := fun_mk (st := s_law_spoilt) l31 c31 k31, m_law_spoilt := PySem.W.mg_of X G a31, b_law_spoilt := (fun_mk (st := s_law_spoilt) l31 c31 k31).binds (ps := [("_law_draws" : Str), ("_law_row_here" : Str), ("_law_many_here" : Str)]) fun _ _ _ _ _ _ us hl => match us, hl with | [_, _, _], _ => rfl
    f_law := fa, d_law := _, F_law := fun_mk (st := s_law) l32 c32 k32, m_law := PySem.W.mg_of X G a32, b_law := (fun_mk (st := s_law) l32 c32 k32).binds (ps := [("_law_script" : Str)]) fun _ _ _ _ _ _ us hl => match us, hl with | [_], _ => rfl
    ca_TooFew := C0, na_TooFew := ea0, ga_TooFew := PySem.W.mg_of X G ea0
    xc_TooFew := ⟨C0, ea0, PySem.W.mg_of X G ea0, eb0, ec0, ed0, ef0⟩
    xk_TooFew := ⟨kc0, ga0, gg0, ed0, kl0, ksp, ktk, km0⟩
    k_TooFew_Gone := ki_TooFew_Gone
    k_TooFew_Growing := ki_TooFew_Growing
    k_TooFew_Halfway := ki_TooFew_Halfway
    k_TooFew_Lost := ki_TooFew_Lost
    k_TooFew_NoPlace := ki_TooFew_NoPlace
    k_TooFew_NoSpare := ki_TooFew_NoSpare
    k_TooFew_NoStore := ki_TooFew_NoStore
    k_TooFew_NoText := ki_TooFew_NoText
    k_TooFew_NotGrowing := ki_TooFew_NotGrowing
    k_TooFew_There := ki_TooFew_There
    k_TooFew_TooFew := ki_TooFew_TooFew
    k_TooFew_Untold := ki_TooFew_Untold
    k_TooFew_ValueError := ki_TooFew_ValueError
    e_TooFew_DiskError := em_TooFew_DiskError
    ca_Gone := C1, na_Gone := ea1, ga_Gone := PySem.W.mg_of X G ea1
    ca_Growing := C2, na_Growing := ea2, ga_Growing := PySem.W.mg_of X G ea2
    ca_Halfway := C3, na_Halfway := ea3, ga_Halfway := PySem.W.mg_of X G ea3
    ca_Lost := C4, na_Lost := ea4, ga_Lost := PySem.W.mg_of X G ea4
    ca_NoPlace := C5, na_NoPlace := ea5, ga_NoPlace := PySem.W.mg_of X G ea5
    ca_NoSpare := C6, na_NoSpare := ea6, ga_NoSpare := PySem.W.mg_of X G ea6
    ca_NoStore := C7, na_NoStore := ea7, ga_NoStore := PySem.W.mg_of X G ea7
    ca_NoText := C8, na_NoText := ea8, ga_NoText := PySem.W.mg_of X G ea8
    ca_NotGrowing := C9, na_NotGrowing := ea9, ga_NotGrowing := PySem.W.mg_of X G ea9
    ca_There := C10, na_There := ea10, ga_There := PySem.W.mg_of X G ea10
    ca_Untold := C11, na_Untold := ea11, ga_Untold := PySem.W.mg_of X G ea11
    ca_DiskError := C12, na_DiskError := ea12, ga_DiskError := PySem.W.mg_of X G ea12
  }
  exact ⟨_, fun s v => .of_eq rfl, fun base _ _ => ok_law T⟩
theorem walk {l : PySem.W.OpenLaw} {q : Program} {loose : List Str} {XP : (Str → Option Value) → Heap → Prop} {YP : World → Heap → Prop} {d : DefRec} {K : Params → PySem.W.Frag} (hn : l.most = some 63) (hdf : d.params.defaults = [])
    (hY : ∀ (w : World) (h : Heap), YP w h → (K w.params).In h)
    (F : ∀ (w : World) (mg : Str → Option Value) (fa : Addr) (h : Heap), (K w.params).In h → h.Ns mainGlobals mg → mg d.name = some (.ref fa) →
      ∃ fd : FuncData, (∀ (s : Shared) (u : Value), BindsTo s fd ⟨[u], []⟩ [(("_law_script" : Str), u)]) ∧ ∀ base : Heap, (K w.params).In base → base.Ns mainGlobals mg → FnA l.prog w (K w.params) mg base 9 fa fd [("_law_script" : Str)] sp_law) :
    PySem.W.WalkO q loose XP YP l.row.toRowW d [] (fun f vs => PySem.call f vs) :=
  L2.walk_of (n := 63) (k := 9) (x := ("_law_script" : Str)) (CX := fun _ => CX0) (sp := fun w => cSp (K w.params) sp_law) hn (by decide) hdf ⟨rfl, by decide, by decide⟩ hY F (fun w H a ns hl hO hS => law_end hl hO hS law_true) fun _ _ _ _ _ z => z
end Law
open PySem PySem.W PyProof.Rows
set_option maxRecDepth 100000 in
set_option maxHeartbeats 0 in
theorem PySem.Challenge.cw_lostdisk_k10_filled_by_the_first_holds : PySem.Challenge.rw_lostdisk_k10_filled_by_the_first.Holds := by
  w_on; o_law; k_head; (case hw => w_witness2)
  k_fill
  refine Law.walk (l := PySem.Challenge.rw_lostdisk_k10_filled_by_the_first) rfl rfl (fun w h Y => PySem.W.kIn_of Y) ?F
  case F =>
    intro w mg fa h KX G hmg
    refine' Law.all_mk KX G hmg ?a0 ?l0 ?c0 ?k0 ?a1 ?l1 ?c1 ?k1 ?a2 ?l2 ?c2 ?k2 ?a3 ?l3 ?c3 ?k3 ?a4 ?l4 ?c4 ?k4 ?a5 ?l5 ?c5 ?k5 ?a6 ?l6 ?c6 ?k6 ?a7 ?l7 ?c7 ?k7 ?a8 ?l8 ?c8 ?k8 ?a9 ?l9 ?c9 ?k9 ?a10 ?l10 ?c10 ?k10 ?a11 ?l11 ?c11 ?k11 ?a12 ?l12 ?c12 ?k12 ?a13 ?l13 ?c13 ?k13 ?a14 ?l14 ?c14 ?k14 ?a15 ?l15 ?c15 ?k15 ?a16 ?l16 ?c16 ?k16 ?a17 ?l17 ?c17 ?k17 ?a18 ?l18 ?c18 ?k18 ?a19 ?l19 ?c19 ?k19 ?a20 ?l20 ?c20 ?k20 ?a21 ?l21 ?c21 ?k21 ?a22 ?l22 ?c22 ?k22 ?a23 ?l23 ?c23 ?k23 ?a24 ?l24 ?c24 ?k24 ?a25 ?l25 ?c25 ?k25 ?a26 ?l26 ?c26 ?k26 ?a27 ?l27 ?c27 ?k27 ?a28 ?l28 ?c28 ?k28 ?a29 ?l29 ?c29 ?k29 ?a30 ?l30 ?c30 ?k30 ?a31 ?l31 ?c31 ?k31 ?a32 ?l32 ?c32 ?k32 ?z0 ?z1 ?z2 ?z3 ?z4 ?z5 ?z6 ?z7 ?z8 ?z9 ?z10 ?z11 ?z12 ?z13 ?q0 ?q1 ?q2 ?ea0 ?ec0 ?ed0 ?ef0 ?eb0 ?ga0 ?gg0 ?kc0 ?kl0 ?km0 ?ea1 ?ea2 ?ea3 ?ea4 ?ea5 ?ea6 ?ea7 ?ea8 ?ea9 ?ea10 ?ea11 ?ea12 ?ksp ?ktk ?ki_TooFew_Gone ?ki_TooFew_Growing ?ki_TooFew_Halfway ?ki_TooFew_Lost ?ki_TooFew_NoPlace ?ki_TooFew_NoSpare ?ki_TooFew_NoStore ?ki_TooFew_NoText ?ki_TooFew_NotGrowing ?ki_TooFew_There ?ki_TooFew_TooFew ?ki_TooFew_Untold ?ki_TooFew_ValueError ?em_TooFew_DiskError
    (case a0 => k_is)
    (case l0 => k_is)
    (case c0 => k_is)
    (case k0 => k_is)
    (case a1 => k_is)
    (case l1 => k_is)
    (case c1 => k_is)
    (case k1 => k_is)
    (case a2 => k_is)
    (case l2 => k_is)
    (case c2 => k_is)
    (case k2 => k_is)
    (case a3 => k_is)
    (case l3 => k_is)
    (case c3 => k_is)
    (case k3 => k_is)
    (case a4 => k_is)
    (case l4 => k_is)
    (case c4 => k_is)
    (case k4 => k_is)
    (case a5 => k_is)
    (case l5 => k_is)
    (case c5 => k_is)
    (case k5 => k_is)
    (case a6 => k_is)
    (case l6 => k_is)
    (case c6 => k_is)
    (case k6 => k_is)
    (case a7 => k_is)
    (case l7 => k_is)
    (case c7 => k_is)
    (case k7 => k_is)
    (case a8 => k_is)
    (case l8 => k_is)
    (case c8 => k_is)
    (case k8 => k_is)
    (case a9 => k_is)
    (case l9 => k_is)
    (case c9 => k_is)
    (case k9 => k_is)
    (case a10 => k_is)
    (case l10 => k_is)
    (case c10 => k_is)
    (case k10 => k_is)
    (case a11 => k_is)
    (case l11 => k_is)
    (case c11 => k_is)
    (case k11 => k_is)
    (case a12 => k_is)
    (case l12 => k_is)
    (case c12 => k_is)
    (case k12 => k_is)
    (case a13 => k_is)
    (case l13 => k_is)
    (case c13 => k_is)
    (case k13 => k_is)
    (case a14 => k_is)
    (case l14 => k_is)
    (case c14 => k_is)
    (case k14 => k_is)
    (case a15 => k_is)
    (case l15 => k_is)
    (case c15 => k_is)
    (case k15 => k_is)
    (case a16 => k_is)
    (case l16 => k_is)
    (case c16 => k_is)
    (case k16 => k_is)
    (case a17 => k_is)
    (case l17 => k_is)
    (case c17 => k_is)
    (case k17 => k_is)
    (case a18 => k_is)
    (case l18 => k_is)
    (case c18 => k_is)
    (case k18 => k_is)
    (case a19 => k_is)
    (case l19 => k_is)
    (case c19 => k_is)
    (case k19 => k_is)
    (case a20 => k_is)
    (case l20 => k_is)
    (case c20 => k_is)
    (case k20 => k_is)
    (case a21 => k_is)
    (case l21 => k_is)
    (case c21 => k_is)
    (case k21 => k_is)
    (case a22 => k_is)
    (case l22 => k_is)
    (case c22 => k_is)
    (case k22 => k_is)
    (case a23 => k_is)
    (case l23 => k_is)
    (case c23 => k_is)
    (case k23 => k_is)
    (case a24 => k_is)
    (case l24 => k_is)
    (case c24 => k_is)
    (case k24 => k_is)
    (case a25 => k_is)
    (case l25 => k_is)
    (case c25 => k_is)
    (case k25 => k_is)
    (case a26 => k_is)
    (case l26 => k_is)
    (case c26 => k_is)
    (case k26 => k_is)
    (case a27 => k_is)
    (case l27 => k_is)
    (case c27 => k_is)
    (case k27 => k_is)
    (case a28 => k_is)
    (case l28 => k_is)
    (case c28 => k_is)
    (case k28 => k_is)
    (case a29 => k_is)
    (case l29 => k_is)
    (case c29 => k_is)
    (case k29 => k_is)
    (case a30 => k_is)
    (case l30 => k_is)
    (case c30 => k_is)
    (case k30 => k_is)
    (case a31 => k_is)
    (case l31 => k_is)
    (case c31 => k_is)
    (case k31 => k_is)
    (case a32 => k_is)
    (case l32 => k_is)
    (case c32 => k_is)
    (case k32 => k_is)
    (case z0 => k_is)
    (case z1 => k_is)
    (case z2 => k_is)
    (case z3 => k_is)
    (case z4 => k_is)
    (case z5 => k_is)
    (case z6 => k_is)
    (case z7 => k_is)
    (case z8 => k_is)
    (case z9 => k_is)
    (case z10 => k_is)
    (case z11 => k_is)
    (case z12 => k_is)
    (case z13 => k_is)
    (case q0 => k_is)
    (case q1 => k_is)
    (case q2 => k_is)
    (case ea0 => first | k_is | rfl | decide +kernel)
    (case ec0 => first | k_is | rfl | decide +kernel)
    (case ed0 => first | k_is | rfl | decide +kernel)
    (case ef0 => first | k_is | rfl | decide +kernel)
    (case eb0 => first | k_exc | k_is)
    (case ga0 => first | k_is | rfl | decide +kernel)
    (case gg0 => first | k_is | rfl | decide +kernel)
    (case kc0 => first | k_is | rfl | decide +kernel)
    (case kl0 => first | k_is | rfl | decide +kernel)
    (case km0 => first | k_is | rfl | decide +kernel)
    (case ea1 => first | k_is | rfl | decide +kernel)
    (case ea2 => first | k_is | rfl | decide +kernel)
    (case ea3 => first | k_is | rfl | decide +kernel)
    (case ea4 => first | k_is | rfl | decide +kernel)
    (case ea5 => first | k_is | rfl | decide +kernel)
    (case ea6 => first | k_is | rfl | decide +kernel)
    (case ea7 => first | k_is | rfl | decide +kernel)
    (case ea8 => first | k_is | rfl | decide +kernel)
    (case ea9 => first | k_is | rfl | decide +kernel)
    (case ea10 => first | k_is | rfl | decide +kernel)
    (case ea11 => first | k_is | rfl | decide +kernel)
    (case ea12 => first | k_is | rfl | decide +kernel)
    (case ksp => first | k_is | rfl | decide +kernel)
    (case ktk => first | k_is | rfl | decide +kernel)
    (case ki_TooFew_Gone => first | k_is | rfl | decide +kernel)
    (case ki_TooFew_Growing => first | k_is | rfl | decide +kernel)
    (case ki_TooFew_Halfway => first | k_is | rfl | decide +kernel)
    (case ki_TooFew_Lost => first | k_is | rfl | decide +kernel)
    (case ki_TooFew_NoPlace => first | k_is | rfl | decide +kernel)
    (case ki_TooFew_NoSpare => first | k_is | rfl | decide +kernel)
    (case ki_TooFew_NoStore => first | k_is | rfl | decide +kernel)
    (case ki_TooFew_NoText => first | k_is | rfl | decide +kernel)
    (case ki_TooFew_NotGrowing => first | k_is | rfl | decide +kernel)
    (case ki_TooFew_There => first | k_is | rfl | decide +kernel)
    (case ki_TooFew_TooFew => first | k_is | rfl | decide +kernel)
    (case ki_TooFew_Untold => first | k_is | rfl | decide +kernel)
    (case ki_TooFew_ValueError => first | k_is | rfl | decide +kernel)
    (case em_TooFew_DiskError => first | k_is | rfl | decide +kernel)
