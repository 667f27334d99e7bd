import PyProof.Rows.All
import Wide.All
import OpenK.AllK
import Wide.FinOn
import HandS.ForMost
import HandS.ForExc
import HandS.Wide
import HandS.IsInst
import HandS.TupAny
import HandS.TupMul
import HandS.Zip
import HandS.Walk
import HandS.Conv
import HandS.Codes
import HandS.TryOnly
import HandS.More
import HandS.TupLe
import HandS.Steps
import KE.GoesEnum
import KE.GoesZip
import HandS.Style
import PyProof.Rows.SeqMore
import HandS.CallLocal
import HandS.SortInts
import KE.KDictPairs
import KE.KDictCopyH
import PySem.Challenge.RW_lostdisk_k31_whole_laid_anew
set_option Elab.async false
set_option linter.all false
set_option maxRecDepth 100000
set_option maxHeartbeats 4000000
namespace HC
open PySem L2
inductive Dv where
  | non | bl (b : Bool) | int (i : Int) | str (x : Str) | ref (a : Addr) | ty (n : String)
  | tup (xs : List Dv)
  | rol (xs : List Dv)
inductive Cell where
  | lst (xs : List Dv)
  | dic (kvs : List (Key × Dv))
  | dit (kvs : List (List Key × Dv))
abbrev Ms := Addr → Option Cell
def mup (M : Ms) (a : Addr) (c : Cell) : Ms := fun b => if b = a then some c else M b
theorem mup_same {M : Ms} {a : Addr} {c : Cell} : mup M a c a = some c := if_pos rfl
theorem mup_ne {M : Ms} {a b : Addr} {c : Cell} (h : b ≠ a) : mup M a c b = M b := if_neg h
theorem mup_mup {M : Ms} {a : Addr} {c d : Cell} : mup (mup M a c) a d = mup M a d := by
  funext b; unfold mup; split <;> rfl
theorem mup_self {M : Ms} {a : Addr} {c : Cell} (h : M a = some c) : mup M a c = M := by
  funext b; unfold mup; split
  · subst b; exact h.symm
  · rfl
theorem ne_of_new {M : Ms} {a p : Addr} {c : Cell} (h : M a = some c) (h' : M p = none) : a ≠ p := by
  intro e; subst e; rw [h] at h'; cases h'
def SqF (K : PySem.W.Frag) (H : Hp) (a : Addr) (xs : List V) : Prop := (∃ o, H a = some (.frz o (.lst xs))) ∨ SqL K (fun _ => none) a xs
theorem SqF.l {K : PySem.W.Frag} {H : Hp} {a : Addr} {xs : List V} (h : SqF K H a xs) : SqL K H a xs := by
  rcases h with ⟨o, h⟩ | h
  · exact .inl (.inr ⟨o, h⟩)
  · rcases h with (h | ⟨_, h⟩) | h
    · cases h
    · cases h
    · exact .inr h
abbrev TupA (K : PySem.W.Frag) (H : Hp) (a : Addr) (vs : List V) : Prop := H a = some (.tup vs)
theorem TupA.s {K : PySem.W.Frag} {H : Hp} {a : Addr} {vs : List V} (h : TupA K H a vs) : SqT K H a vs := .inl (.inl h)
mutual
def Rep (K : PySem.W.Frag) (H : Hp) : Dv → V → Prop
  | .non, v => v = .non
  | .bl b, v => v = .bl b
  | .int i, v => v = .int i
  | .str x, v => v = .str x
  | .ref a, v => v = .ref a
  | .ty n, v => v = .ty n
  | .tup ds, v => ∃ a vs, v = .ref a ∧ TupA K H a vs ∧ Reps K H ds vs
  | .rol ds, v => ∃ a vs, v = .ref a ∧ SqF K H a vs ∧ Reps K H ds vs
def Reps (K : PySem.W.Frag) (H : Hp) : List Dv → List V → Prop
  | [], vs => vs = []
  | d :: ds, vs => ∃ v r, vs = v :: r ∧ Rep K H d v ∧ Reps K H ds r
end
structure Tp (K : PySem.W.Frag) (H H' : Hp) : Prop where
  t : ∀ a vs, SqT K H a vs → SqT K H' a vs
  f : ∀ a vs, SqF K H a vs → SqF K H' a vs
  u : ∀ a vs, TupA K H a vs → TupA K H' a vs
theorem Tp.refl {K : PySem.W.Frag} (H : Hp) : Tp K H H := ⟨fun _ _ h => h, fun _ _ h => h, fun _ _ h => h⟩
theorem Tp.trans {K : PySem.W.Frag} {H H1 H2 : Hp} (a : Tp K H H1) (b : Tp K H1 H2) : Tp K H H2 := ⟨fun x vs h => b.t x vs (a.t x vs h), fun x vs h => b.f x vs (a.f x vs h), fun x vs h => b.u x vs (a.u x vs h)⟩
def Soft : Option HO → Prop
  | none => True
  | some (.lst _) => True
  | some (.dK _) => True
  | some (.dT _) => True
  | _ => False
theorem Tp.put {K : PySem.W.Frag} {H : Hp} {a : Addr} {o : HO} (h : Soft (H a)) : Tp K H (upd H a o) := by
  refine ⟨fun b vs q => ?_, fun b vs q => ?_, fun b vs q => (by
    show upd H a o b = _
    rw [upd_ne]
    · exact q
    · intro e; subst e; rw [show H b = some (.tup vs) from q] at h; exact h)⟩
  · rcases q with (q | ⟨ob, q⟩) | q
    · refine .inl (.inl ?_)
      rw [upd_ne]
      · exact q
      · intro e; subst e; rw [q] at h; exact h
    · refine .inl (.inr ⟨ob, ?_⟩)
      rw [upd_ne]
      · exact q
      · intro e; subst e; rw [q] at h; exact h
    · exact .inr q
  · rcases q with ⟨ob, q⟩ | q
    · refine .inl ⟨ob, ?_⟩
      rw [upd_ne]
      · exact q
      · intro e; subst e; rw [q] at h; exact h
    · exact .inr q
section
variable {K : PySem.W.Frag} {H H' : Hp}
mutual
theorem Rep.mono (t : Tp K H H') : ∀ {d : Dv} {v : V}, Rep K H d v → Rep K H' d v
  | .non, _, h => by simpa only [Rep] using h
  | .bl _, _, h => by simpa only [Rep] using h
  | .int _, _, h => by simpa only [Rep] using h
  | .str _, _, h => by simpa only [Rep] using h
  | .ref _, _, h => by simpa only [Rep] using h
  | .ty _, _, h => by simpa only [Rep] using h
  | .tup ds, _, h => by
    simp only [Rep] at h ⊢
    obtain ⟨a, vs, e, q, r⟩ := h
    exact ⟨a, vs, e, t.u _ _ q, Reps.mono t r⟩
  | .rol ds, _, h => by
    simp only [Rep] at h ⊢
    obtain ⟨a, vs, e, q, r⟩ := h
    exact ⟨a, vs, e, t.f _ _ q, Reps.mono t r⟩
theorem Reps.mono (t : Tp K H H') : ∀ {ds : List Dv} {vs : List V}, Reps K H ds vs → Reps K H' ds vs
  | [], _, h => by simpa only [Reps] using h
  | d :: ds, _, h => by
    simp only [Reps] at h ⊢
    obtain ⟨v, r, e, q, z⟩ := h
    exact ⟨v, r, e, Rep.mono t q, Reps.mono t z⟩
end
theorem Reps.nil : Reps K H [] [] := by simp only [Reps]
theorem Reps.cons {d : Dv} {v : V} {ds : List Dv} {vs : List V} (h : Rep K H d v) (r : Reps K H ds vs) : Reps K H (d :: ds) (v :: vs) := by
  simp only [Reps]
  exact ⟨v, vs, rfl, h, r⟩
theorem Reps.cons_inv {d : Dv} {ds : List Dv} {vs : List V} (h : Reps K H (d :: ds) vs) : ∃ v r, vs = v :: r ∧ Rep K H d v ∧ Reps K H ds r := by
  simpa only [Reps] using h
theorem Reps.nil_inv {vs : List V} (h : Reps K H [] vs) : vs = [] := by simpa only [Reps] using h
theorem Reps.length : ∀ {ds : List Dv} {vs : List V}, Reps K H ds vs → ds.length = vs.length
  | [], _, h => by rw [h.nil_inv]; rfl
  | d :: ds, _, h => by
    obtain ⟨v, r, rfl, _, z⟩ := h.cons_inv
    simp [Reps.length z]
theorem Reps.append : ∀ {ds es : List Dv} {vs ws : List V}, Reps K H ds vs → Reps K H es ws → Reps K H (ds ++ es) (vs ++ ws)
  | [], _, _, _, h, h' => by rw [h.nil_inv]; exact h'
  | d :: ds, _, _, _, h, h' => by
    obtain ⟨v, r, rfl, q, z⟩ := h.cons_inv
    exact Reps.cons q (Reps.append z h')
theorem Reps.get : ∀ {ds : List Dv} {vs : List V} {i : Nat} {d : Dv}, Reps K H ds vs → ds[i]? = some d → ∃ v, vs[i]? = some v ∧ Rep K H d v
  | [], _, _, _, _, e => by simp at e
  | d :: ds, _, 0, x, h, e => by
    obtain ⟨v, r, rfl, q, z⟩ := h.cons_inv
    simp at e; subst e
    exact ⟨v, rfl, q⟩
  | d :: ds, _, i + 1, x, h, e => by
    obtain ⟨v, r, rfl, q, z⟩ := h.cons_inv
    obtain ⟨w, h1, h2⟩ := Reps.get (i := i) z (by simpa using e)
    exact ⟨w, by simpa using h1, h2⟩
theorem Reps.take : ∀ {ds : List Dv} {vs : List V} (n : Nat), Reps K H ds vs → Reps K H (ds.take n) (vs.take n)
  | _, _, 0, _ => by simpa using Reps.nil
  | [], _, n + 1, h => by rw [h.nil_inv]; simpa using Reps.nil
  | d :: ds, _, n + 1, h => by
    obtain ⟨v, r, rfl, q, z⟩ := h.cons_inv
    simpa using Reps.cons q (Reps.take n z)
theorem Reps.drop : ∀ {ds : List Dv} {vs : List V} (n : Nat), Reps K H ds vs → Reps K H (ds.drop n) (vs.drop n)
  | _, _, 0, h => by simpa using h
  | [], _, n + 1, h => by rw [h.nil_inv]; simpa using Reps.nil
  | d :: ds, _, n + 1, h => by
    obtain ⟨v, r, rfl, q, z⟩ := h.cons_inv
    simpa using Reps.drop n z
theorem Reps.set : ∀ {ds : List Dv} {vs : List V} {d : Dv} {v : V} (i : Nat), Reps K H ds vs → Rep K H d v → Reps K H (ds.set i d) (vs.set i v)
  | [], _, _, _, _, h, _ => by rw [h.nil_inv]; simpa using Reps.nil
  | d :: ds, _, _, _, 0, h, q' => by
    obtain ⟨v, r, rfl, q, z⟩ := h.cons_inv
    simpa using Reps.cons q' z
  | d :: ds, _, _, _, i + 1, h, q' => by
    obtain ⟨v, r, rfl, q, z⟩ := h.cons_inv
    simpa using Reps.cons q (Reps.set i z q')
theorem Reps.eraseIdx : ∀ {ds : List Dv} {vs : List V} (i : Nat), Reps K H ds vs → Reps K H (ds.eraseIdx i) (vs.eraseIdx i)
  | [], _, _, h => by rw [h.nil_inv]; simpa using Reps.nil
  | d :: ds, _, 0, h => by
    obtain ⟨v, r, rfl, q, z⟩ := h.cons_inv
    simpa using z
  | d :: ds, _, i + 1, h => by
    obtain ⟨v, r, rfl, q, z⟩ := h.cons_inv
    simpa using Reps.cons q (Reps.eraseIdx i z)
theorem Reps.rev {ds : List Dv} {vs : List V} (h : Reps K H ds vs) : Reps K H ds.reverse vs.reverse := by
  induction ds generalizing vs with
  | nil => rw [h.nil_inv]; simpa using Reps.nil
  | cons d ds ih =>
    obtain ⟨v, r, rfl, q, z⟩ := h.cons_inv
    simpa using Reps.append (ih z) (Reps.cons q Reps.nil)
theorem Reps.ints : ∀ {ns : List Int} {vs : List V}, Reps K H (ns.map Dv.int) vs → vs = ns.map V.int
  | [], _, h => by simpa using h.nil_inv
  | n :: ns, _, h => by
    obtain ⟨v, r, rfl, q, z⟩ := Reps.cons_inv (d := .int n) (ds := ns.map Dv.int) (by simpa using h)
    have e : v = .int n := by simpa only [Rep] using q
    rw [e, Reps.ints z]; rfl
theorem Reps.of_ints : ∀ (ns : List Int), Reps K H (ns.map Dv.int) (ns.map V.int)
  | [] => by simpa using Reps.nil
  | n :: ns => Reps.cons (by simp only [Rep]) (Reps.of_ints ns)
theorem Reps.bools : ∀ {ns : List Bool} {vs : List V}, Reps K H (ns.map Dv.bl) vs → vs = ns.map V.bl
  | [], _, h => by simpa using h.nil_inv
  | n :: ns, _, h => by
    obtain ⟨v, r, rfl, q, z⟩ := Reps.cons_inv (d := .bl n) (ds := ns.map Dv.bl) (by simpa using h)
    have e : v = .bl n := by simpa only [Rep] using q
    rw [e, Reps.bools z]; rfl
theorem Reps.replicate {d : Dv} {v : V} (h : Rep K H d v) : ∀ (n : Nat), Reps K H (List.replicate n d) (List.replicate n v)
  | 0 => Reps.nil
  | n + 1 => Reps.cons h (Reps.replicate h n)
end
def RepC (K : PySem.W.Frag) (H : Hp) (a : Addr) : Cell → Prop
  | .lst ds => ∃ vs, H a = some (.lst vs) ∧ Reps K H ds vs
  | .dic kds => ∃ kvs, H a = some (.dK kvs) ∧ Paired (fun (p : Key × Dv) (q : Key × V) => p.1 = q.1 ∧ Rep K H p.2 q.2) kds kvs
  | .dit kds => ∃ kvs, H a = some (.dT kvs) ∧ Paired (fun (p : List Key × Dv) (q : List Key × V) => p.1 = q.1 ∧ Rep K H p.2 q.2) kds kvs
def View (K : PySem.W.Frag) (M : Ms) (H : Hp) : Prop := ∀ a c, M a = some c → RepC K H a c
def Sub (M M' : Ms) : Prop := ∀ a c, M a = some c → M' a = some c
theorem Sub.refl (M : Ms) : Sub M M := fun _ _ h => h
theorem Sub.trans {M M1 M2 : Ms} (a : Sub M M1) (b : Sub M1 M2) : Sub M M2 := fun x c h => b x c (a x c h)
theorem Sub.new {M : Ms} {p : Addr} {c : Cell} (h : M p = none) : Sub M (mup M p c) := fun b d e => by
  rw [mup_ne (ne_of_new e h)]; exact e
theorem Sub.mut {M M' : Ms} {p : Addr} {c : Cell} (s : Sub M M') (h : M p = none) : Sub M (mup M' p c) := fun b d e => by
  rw [mup_ne (ne_of_new e h)]; exact s b d e
theorem Sub.free {M M' : Ms} (s : Sub M M') {p : Addr} (h : M' p = none) : M p = none := by
  cases q : M p with
  | none => rfl
  | some c => rw [s p c q] at h; cases h
theorem Sub.both {M M' : Ms} {p : Addr} {c : Cell} (s : Sub M M') : Sub (mup M p c) (mup M' p c) := fun b d e => by
  by_cases h : b = p
  · subst h; rw [mup_same] at e ⊢; exact e
  · rw [mup_ne h] at e ⊢; exact s b d e
section
variable {K : PySem.W.Frag} {M M' : Ms} {H H' : Hp} {a : Addr}
theorem View.sub (v : View K M' H) (s : Sub M M') : View K M H := fun a c e => v a c (s a c e)
theorem RepC.ne {c : Cell} (h : RepC K H a c) : H a ≠ none := by
  cases c with
  | lst ds => obtain ⟨vs, e, _⟩ := h; rw [e]; exact fun q => nomatch q
  | dic ds => obtain ⟨vs, e, _⟩ := h; rw [e]; exact fun q => nomatch q
  | dit ds => obtain ⟨vs, e, _⟩ := h; rw [e]; exact fun q => nomatch q
theorem View.free (v : View K M H) (h : H a = none) : M a = none := by
  cases q : M a with
  | none => rfl
  | some c => exact ((v a c q).ne h).elim
theorem View.soft (v : View K M H) {c : Cell} (h : M a = some c) : Soft (H a) := by
  have r := v a c h
  cases c with
  | lst ds => obtain ⟨vs, e, _⟩ := r; rw [e]; trivial
  | dic ds => obtain ⟨vs, e, _⟩ := r; rw [e]; trivial
  | dit ds => obtain ⟨vs, e, _⟩ := r; rw [e]; trivial
theorem RepC.keep {c : Cell} (r : RepC K H a c) (t : Tp K H H') (e : H' a = H a) : RepC K H' a c := by
  cases c with
  | lst ds =>
    obtain ⟨vs, h, q⟩ := r
    exact ⟨vs, e.trans h, q.mono t⟩
  | dic ds =>
    obtain ⟨vs, h, q⟩ := r
    exact ⟨vs, e.trans h, Paired.mapP q fun _ _ z => ⟨z.1, z.2.mono t⟩⟩
  | dit ds =>
    obtain ⟨vs, h, q⟩ := r
    exact ⟨vs, e.trans h, Paired.mapP q fun _ _ z => ⟨z.1, z.2.mono t⟩⟩
theorem View.put {o : HO} {c : Cell} (v : View K M H) (hs : Soft (H a)) (r : RepC K (upd H a o) a c) : View K (mup M a c) (upd H a o) := fun b d e => by
  by_cases h : b = a
  · subst h; rw [mup_same] at e; cases e; exact r
  · rw [mup_ne h] at e
    exact (v b d e).keep (Tp.put hs) (upd_ne h)
theorem View.new {o : HO} (v : View K M H) (h : H a = none) : View K M (upd H a o) := fun b d e => by
  refine (v b d e).keep (Tp.put (by rw [h]; trivial)) (upd_ne ?_)
  intro z; subst z; exact (v b d e).ne h
theorem Tp.new {o : HO} (h : H a = none) : Tp K H (upd H a o) := Tp.put (by rw [h]; trivial)
end
abbrev Env' := List (Option Dv)
structure RepE (K : PySem.W.Frag) (H : Hp) (ρ : Env') (σ : L2.St) : Prop where
  len : ρ.length = σ.length
  at' : ∀ (i : Nat) (d : Dv), ρ[i]? = some (some d) → ∃ v, σ[i]? = some (some v) ∧ Rep K H d v
section
variable {K : PySem.W.Frag} {H H' : Hp} {ρ : Env'} {σ : L2.St}
theorem RepE.mono (r : RepE K H ρ σ) (t : Tp K H H') : RepE K H' ρ σ := ⟨r.len, fun i d e => let ⟨v, h, q⟩ := r.at' i d e; ⟨v, h, q.mono t⟩⟩
theorem RepE.set {d : Dv} {v : V} (r : RepE K H ρ σ) (i : Nat) (q : Rep K H d v) : RepE K H (ρ.set i (some d)) (σ.set i (some v)) := by
  refine ⟨by simp [r.len], fun j e h => ?_⟩
  by_cases hj : i = j
  · subst hj
    have hl : i < ρ.length := by
      have := (List.getElem?_eq_some_iff.mp h).1
      simpa using this
    rw [List.getElem?_set_self hl] at h
    cases h
    exact ⟨v, List.getElem?_set_self (by rw [← r.len]; exact hl), q⟩
  · rw [List.getElem?_set_ne hj] at h
    obtain ⟨w, h1, h2⟩ := r.at' j e h
    exact ⟨w, by rw [List.getElem?_set_ne hj]; exact h1, h2⟩
theorem RepE.drop (r : RepE K H ρ σ) (i : Nat) (x : Option V) : RepE K H (ρ.set i none) (σ.set i x) := by
  refine ⟨by simp [r.len], fun j e h => ?_⟩
  by_cases hj : i = j
  · subst hj
    have hl : i < ρ.length := by
      have := (List.getElem?_eq_some_iff.mp h).1
      simpa using this
    rw [List.getElem?_set_self hl] at h
    cases h
  · rw [List.getElem?_set_ne hj] at h
    obtain ⟨w, h1, h2⟩ := r.at' j e h
    exact ⟨w, by rw [List.getElem?_set_ne hj]; exact h1, h2⟩
def wipeA (ρ : Env') : List Nat → Env'
  | [] => ρ
  | v :: vs => (wipeA ρ vs).set v none
theorem RepE.wipe (r : RepE K H ρ σ) : ∀ (vs : List Nat), RepE K H (wipeA ρ vs) (wipe σ vs)
  | [] => r
  | v :: vs => (RepE.wipe r vs).drop v none
end
def SubE : Env' → Env' → Prop
  | [], [] => True
  | none :: r, _ :: r' => SubE r r'
  | some d :: r, y :: r' => y = some d ∧ SubE r r'
  | _, _ => False
theorem SubE.refl : ∀ (ρ : Env'), SubE ρ ρ
  | [] => True.intro
  | none :: r => SubE.refl r
  | some d :: r => ⟨rfl, SubE.refl r⟩
theorem SubE.rep {K : PySem.W.Frag} {H : Hp} : ∀ {ρ ρ' : Env'} {σ : L2.St}, SubE ρ ρ' → RepE K H ρ' σ → RepE K H ρ σ := fun {ρ ρ' σ} h r => by
  have len : ∀ {ρ ρ' : Env'}, SubE ρ ρ' → ρ.length = ρ'.length := by
    intro ρ
    induction ρ with
    | nil => intro ρ' h; cases ρ' with
      | nil => rfl
      | cons _ _ => exact h.elim
    | cons x r ih => intro ρ' h; cases ρ' with
      | nil => cases x <;> exact h.elim
      | cons y r' =>
        cases x with
        | none => simp [ih (show SubE r r' from h)]
        | some d => simp [ih (show SubE r r' from h.2)]
  have get : ∀ {ρ ρ' : Env'}, SubE ρ ρ' → ∀ (i : Nat) (d : Dv), ρ[i]? = some (some d) → ρ'[i]? = some (some d) := by
    intro ρ
    induction ρ with
    | nil => intro ρ' h i d e; simp at e
    | cons x r ih => intro ρ' h i d e; cases ρ' with
      | nil => cases x <;> exact h.elim
      | cons y r' =>
        cases x with
        | none =>
          cases i with
          | zero => simp at e
          | succ i => simpa using ih (show SubE r r' from h) i d (by simpa using e)
        | some f =>
          cases i with
          | zero => simp at e; subst e; simp [h.1]
          | succ i => simpa using ih (show SubE r r' from h.2) i d (by simpa using e)
  exact ⟨(len h).trans r.len, fun i d e => r.at' i d (get h i d e)⟩
def startA (n : Nat) (ds : List Dv) : Env' := ds.map some ++ List.replicate (n - ds.length) none
theorem repE_start {K : PySem.W.Frag} {H : Hp} {N : List Str} {ds : List Dv} {vs : List V} (h : Reps K H ds vs) : RepE K H (startA N.length ds) (L2.start N vs) := by
  have hl := h.length
  refine ⟨by simp [startA, L2.start, hl], fun i d e => ?_⟩
  unfold startA at e
  unfold L2.start
  by_cases hi : i < ds.length
  · rw [List.getElem?_append_left (by simpa using hi), List.getElem?_map] at e
    cases q : ds[i]? with
    | none => rw [q] at e; cases e
    | some d' =>
      rw [q] at e; cases e
      obtain ⟨v, h1, h2⟩ := h.get q
      refine ⟨v, ?_, h2⟩
      rw [List.getElem?_append_left (by simpa [← hl] using hi), List.getElem?_map, h1]; rfl
  · rw [List.getElem?_append_right (by simpa using hi), List.getElem?_replicate] at e
    split at e <;> cases e
abbrev DK := Dv → Ms → Prop
abbrev RE := Env' → Ms → DK → Prop
abbrev RT := Env' → Ms → (Bool → Ms → Prop) → Prop
abbrev RA := Env' → Ms → (List Dv → Ms → Prop) → Prop
structure Ends' where
  nx : Env' → Ms → Prop
  rt : DK
  bk : Env' → Ms → Prop := fun _ _ => False
  ct : Env' → Ms → Prop := fun _ _ => False
abbrev RS := Ends' → Env' → Ms → Prop
def wk (N : Env' → Ms → Prop) : Env' → Ms → Prop := fun ρ M => ∃ ρ' M', SubE ρ' ρ ∧ Sub M' M ∧ N ρ' M'
def wkM (N : Ms → Prop) : Ms → Prop := fun M => ∃ M', Sub M' M ∧ N M'
def onS {α : Type} (o : Option α) (Q : α → Prop) : Prop := match o with | some a => Q a | none => False
theorem onS_ex {α : Type} {o : Option α} {Q : α → Prop} (h : onS o Q) : ∃ a, o = some a ∧ Q a := by
  cases o with
  | none => exact h.elim
  | some a => exact ⟨a, rfl, h⟩
theorem onS_of {α : Type} {o : Option α} {Q : α → Prop} {a : α} (e : o = some a) (h : Q a) : onS o Q := by subst e; exact h
def onIf (b : Bool) (A B : Prop) : Prop := match b with | true => A | false => B
theorem onIf_dec {c A B : Prop} {inst : Decidable c} (h1 : c → A) (h2 : ¬ c → B) : onIf (@decide c inst) A B := by
  by_cases h : c
  · rw [show @decide c inst = true from decide_eq_true h]; exact h1 h
  · rw [show @decide c inst = false from decide_eq_false h]; exact h2 h
theorem onIf_ndec {c A B : Prop} {inst : Decidable c} (h1 : ¬ c → A) (h2 : c → B) : onIf (!@decide c inst) A B := by
  by_cases h : c
  · rw [show @decide c inst = true from decide_eq_true h]; exact h2 h
  · rw [show @decide c inst = false from decide_eq_false h]; exact h1 h
theorem onIf_b {b : Bool} {A B : Prop} (h1 : b = true → A) (h2 : b = false → B) : onIf b A B := by
  cases b
  · exact h2 rfl
  · exact h1 rfl
theorem onIf_T {b : Bool} {A B : Prop} (h : b = true) (q : A) : onIf b A B := by subst h; exact q
theorem onIf_F {b : Bool} {A B : Prop} (h : b = false) (q : B) : onIf b A B := by subst h; exact q
def onB (d : Dv) (Q : Bool → Prop) : Prop := match d with | .bl b => Q b | _ => False
theorem onB_ex {d : Dv} {Q : Bool → Prop} (h : onB d Q) : ∃ b, d = .bl b ∧ Q b := by
  cases d <;> first | exact h.elim | exact ⟨_, rfl, h⟩
def onI (d : Dv) (Q : Int → Prop) : Prop := match d with | .int b => Q b | _ => False
theorem onI_ex {d : Dv} {Q : Int → Prop} (h : onI d Q) : ∃ b, d = .int b ∧ Q b := by
  cases d <;> first | exact h.elim | exact ⟨_, rfl, h⟩
def onI2 (d f : Dv) (Q : Int → Int → Prop) : Prop := match d, f with | .int a, .int b => Q a b | _, _ => False
theorem onI2_ex {d f : Dv} {Q : Int → Int → Prop} (h : onI2 d f Q) : ∃ a b, d = .int a ∧ f = .int b ∧ Q a b := by
  cases d <;> first | exact h.elim | skip
  cases f <;> first | exact h.elim | exact ⟨_, _, rfl, rfl, h⟩
def LkV (K : PySem.W.Frag) (H : Hp) (Q : DK) (Q' : VK) : Prop := ∀ v H' d M', Tp K H H' → Rep K H' d v → View K M' H' → Q d M' → Q' v H'
def LkB (K : PySem.W.Frag) (H : Hp) (Q : Bool → Ms → Prop) (Q' : Bool → Hp → Prop) : Prop := ∀ b H' M', Tp K H H' → View K M' H' → Q b M' → Q' b H'
def LkA (K : PySem.W.Frag) (H : Hp) (Q : List Dv → Ms → Prop) (Q' : List V → Hp → Prop) : Prop := ∀ vs H' ds M', Tp K H H' → Reps K H' ds vs → View K M' H' → Q ds M' → Q' vs H'
def LkS (K : PySem.W.Frag) (H : Hp) (Q : Env' → Ms → Prop) (Q' : L2.St → Hp → Prop) : Prop := ∀ σ H' ρ M', Tp K H H' → RepE K H' ρ σ → View K M' H' → Q ρ M' → Q' σ H'
structure LkD (K : PySem.W.Frag) (H : Hp) (D : Ends') (D' : Ends) : Prop where
  nx : LkS K H D.nx D'.nx
  rt : LkV K H D.rt D'.rt
  bk : LkS K H D.bk D'.bk
  ct : LkS K H D.ct D'.ct
section
variable {K : PySem.W.Frag} {H H1 : Hp}
theorem LkV.up {Q : DK} {Q' : VK} (l : LkV K H Q Q') (t : Tp K H H1) : LkV K H1 Q Q' := fun v H' d M' t' => l v H' d M' (t.trans t')
theorem LkB.up {Q : Bool → Ms → Prop} {Q' : Bool → Hp → Prop} (l : LkB K H Q Q') (t : Tp K H H1) : LkB K H1 Q Q' := fun v H' M' t' => l v H' M' (t.trans t')
theorem LkA.up {Q : List Dv → Ms → Prop} {Q' : List V → Hp → Prop} (l : LkA K H Q Q') (t : Tp K H H1) : LkA K H1 Q Q' := fun v H' d M' t' => l v H' d M' (t.trans t')
theorem LkS.up {Q : Env' → Ms → Prop} {Q' : L2.St → Hp → Prop} (l : LkS K H Q Q') (t : Tp K H H1) : LkS K H1 Q Q' := fun v H' d M' t' => l v H' d M' (t.trans t')
theorem LkD.up {D : Ends'} {D' : Ends} (l : LkD K H D D') (t : Tp K H H1) : LkD K H1 D D' := ⟨l.nx.up t, l.rt.up t, l.bk.up t, l.ct.up t⟩
end
def cE (K : PySem.W.Frag) (t : RE) : TE := fun σ H Q' => ∃ ρ M Q, RepE K H ρ σ ∧ View K M H ∧ t ρ M Q ∧ LkV K H Q Q'
def cT (K : PySem.W.Frag) (t : RT) : TT := fun σ H Q' => ∃ ρ M Q, RepE K H ρ σ ∧ View K M H ∧ t ρ M Q ∧ LkB K H Q Q'
def cA (K : PySem.W.Frag) (t : RA) : TA := fun σ H Q' => ∃ ρ M Q, RepE K H ρ σ ∧ View K M H ∧ t ρ M Q ∧ LkA K H Q Q'
def cS (K : PySem.W.Frag) (t : RS) : TS := fun D' σ H => ∃ ρ M D, RepE K H ρ σ ∧ View K M H ∧ t D ρ M ∧ LkD K H D D'
def AE (X : Cx) (e : Expr) (t : RE) : Prop := PE X e (cE X.K t)
def AT (X : Cx) (e : Expr) (t : RT) : Prop := PT X e (cT X.K t)
def AW (X : Cx) (e : Expr) (t : RT) : Prop := PW X e (cT X.K t)
def AA (X : Cx) (es : List Expr) (t : RA) : Prop := PA X es (cA X.K t)
def AS (X : Cx) (st : Stmt) (t : RS) : Prop := PS X st (cS X.K t)
def ASs (X : Cx) (sts : List Stmt) (t : RS) : Prop := PSs X sts (cS X.K t)
theorem pe_imp {X : Cx} {e : Expr} {t t' : TE} (h : PE X e t) (f : ∀ σ H Q, t' σ H Q → t σ H Q) : PE X e t' := ⟨fun pins s σ H Q I q => h.run pins s σ H Q I (f _ _ _ q)⟩
theorem pt_imp {X : Cx} {e : Expr} {t t' : TT} (h : PT X e t) (f : ∀ σ H Q, t' σ H Q → t σ H Q) : PT X e t' := ⟨fun pins s σ H Q I q => h.run pins s σ H Q I (f _ _ _ q)⟩
theorem pw_imp {X : Cx} {e : Expr} {t t' : TT} (h : PW X e t) (f : ∀ σ H Q, t' σ H Q → t σ H Q) : PW X e t' := ⟨fun wh pins s σ H Q I q => h.run wh pins s σ H Q I (f _ _ _ q)⟩
theorem pa_imp {X : Cx} {e : List Expr} {t t' : TA} (h : PA X e t) (f : ∀ σ H Q, t' σ H Q → t σ H Q) : PA X e t' := ⟨fun pos pins s σ H Q I q => h.run pos pins s σ H Q I (f _ _ _ q)⟩
theorem ps_imp {X : Cx} {e : Stmt} {t t' : TS} (h : PS X e t) (f : ∀ D σ H, t' D σ H → t D σ H) : PS X e t' := ⟨fun pins s σ H D I q => h.run pins s σ H D I (f _ _ _ q)⟩
theorem pss_imp {X : Cx} {e : List Stmt} {t t' : TS} (h : PSs X e t) (f : ∀ D σ H, t' D σ H → t D σ H) : PSs X e t' := ⟨fun pins s σ H D I q => h.run pins s σ H D I (f _ _ _ q)⟩
section
variable {X : Cx} {a b c e : Expr} {ta tb tc te : RE} {pos : Pos}
def aC (d : Dv) : RE := fun _ M Q => Q d M
def aVar (i : Nat) : RE := fun ρ M Q => onS ρ[i]? fun o => onS o fun d => Q d M
theorem ae_c {d : Dv} {v : V} (h : PE X e (tC v)) (r : ∀ H, Rep X.K H d v) : AE X e (aC d) := pe_imp h fun σ H Q ⟨ρ, M, Q1, _, hv, q, k⟩ => k v H d M (Tp.refl H) (r H) hv q
theorem ae_int {i j pos} : AE X (.Constant (.int i) j pos) (aC (.int i)) := ae_c pe_int fun _ => by simp only [Rep]
theorem ae_bl {b j pos} : AE X (.Constant (.bool b) j pos) (aC (.bl b)) := ae_c pe_bl fun _ => by simp only [Rep]
theorem ae_non {j pos} : AE X (.Constant .none j pos) (aC .non) := ae_c pe_non fun _ => by simp only [Rep]
theorem ae_str {x j pos} : AE X (.Constant (.str x) j pos) (aC (.str x)) := ae_c pe_str fun _ => by simp only [Rep]
theorem av (i : Nat) {x : Str} (hN : X.N[i]? = some x := by rfl) (hv : Vis X.env.scope x := by first | exact Or.inl rfl | exact Or.inr (Or.inl rfl) | exact Or.inr (Or.inr rfl)) (hd : (x == ("__debug__" : Str)) = false := by decide)
    (hcd : (x == ("__classdict__" : Str)) = false := by decide) : AE X (.Name x pos) (aVar i) :=
  pe_imp (pe_var hN hv hd hcd) fun σ H Q ⟨ρ, M, Q1, hr, hv, q, k⟩ => by
    obtain ⟨o, e, q⟩ := onS_ex q
    obtain ⟨d, e', q⟩ := onS_ex q
    subst e'
    obtain ⟨v, h1, h2⟩ := hr.at' i d e
    exact ⟨v, h1, k v H d M (Tp.refl H) h2 hv q⟩
theorem ae_gint {x : Str} {i : Int} {t : Tok} (hg : Gl X x) (hm : X.mg x = some (.int i t)) (hd : (x == ("__debug__" : Str)) = false := by decide) : AE X (.Name x pos) (aC (.int i)) :=
  ae_c (pe_glob hg hm (v := .int i) ⟨_, rfl⟩ hd) fun _ => by simp only [Rep]
theorem ae_gty {x : Str} {n : String} (hg : Gl X x) (hm : X.mg x = none) (hv : bootBuiltins x = some (.type n)) (hn : x ≠ "__name__" := by decide) (hd : (x == ("__debug__" : Str)) = false := by decide) : AE X (.Name x pos) (aC (.ty n)) :=
  ae_c (pe_bltn hg hm hv (v := .ty n) rfl hn hd) fun _ => by simp only [Rep]
theorem seqE {K : PySem.W.Frag} {ρ : Env'} {σ : L2.St} {M : Ms} {H : Hp} {t : RE} {Q : DK} {Q' : VK} (hr : RepE K H ρ σ) (hv : View K M H) (h : t ρ M Q) (k : LkV K H Q Q') : cE K t σ H Q' := ⟨ρ, M, Q, hr, hv, h, k⟩
abbrev AR2 := Dv → Dv → Ms → DK → Prop
abbrev AR1 := Dv → Ms → DK → Prop
def Ab2 (K : PySem.W.Frag) (r : R2) (ar : AR2) : Prop := ∀ H M x y dx dy Q Q', Rep K H dx x → Rep K H dy y → View K M H → ar dx dy M Q → LkV K H Q Q' → r x y H Q'
def Ab1 (K : PySem.W.Frag) (r : V → Hp → VK → Prop) (ar : AR1) : Prop := ∀ H M x dx Q Q', Rep K H dx x → View K M H → ar dx M Q → LkV K H Q Q' → r x H Q'
def aOp (ar : AR2) (ta tb : RE) : RE := fun ρ M Q => ta ρ M fun x M1 => tb ρ M1 fun y M2 => ar x y M2 Q
def aUn (ar : AR1) (ta : RE) : RE := fun ρ M Q => ta ρ M fun x M1 => ar x M1 Q
theorem aop_imp {K : PySem.W.Frag} {r : R2} {ar : AR2} (h : Ab2 K r ar) : ∀ σ H Q, cE K (aOp ar ta tb) σ H Q → tOp r (cE K ta) (cE K tb) σ H Q := fun σ H Q' ⟨ρ, M, Q, hr, hv, q, k⟩ =>
  seqE hr hv q fun v H1 d M1 t1 r1 v1 q1 => seqE (hr.mono t1) v1 q1 fun v2 H2 d2 M2 t2 r2 v2' q2 => h H2 M2 v v2 d d2 Q Q' (r1.mono t2) r2 v2' q2 (k.up (t1.trans t2))
theorem ae_op {op : Operator} {r : R2} {ar : AR2} (ho : OpR X (binaryOp op) r) (h : Ab2 X.K r ar) (ha : AE X a ta) (hb : AE X b tb) : AE X (.BinOp a op b pos) (aOp ar ta tb) := pe_imp (pe_op ho ha hb) (aop_imp h)
theorem ae_un {op : UnaryOp} {r : V → Hp → VK → Prop} {ar : AR1} (ho : UnR X (unaryOp op) r) (h : Ab1 X.K r ar) (ha : AE X a ta) : AE X (.UnaryOp op a pos) (aUn ar ta) :=
  pe_imp (pe_un ho ha) fun σ H Q' ⟨ρ, M, Q, hr, hv, q, k⟩ => seqE hr hv q fun v H1 d M1 t1 r1 v1 q1 => h H1 M1 v d Q Q' r1 v1 q1 (k.up t1)
theorem ae_cmp {op : CmpOp} {r : R2} {ar : AR2} (ho : OpR X (compareOp op) r) (h : Ab2 X.K r ar) (ha : AE X a ta) (hb : AE X b tb) (hm : behindInMarks op b = false) : AE X (.Compare a [op] [b] pos) (aOp ar ta tb) := pe_imp (pe_cmpR ho ha hb hm) (aop_imp h)
def aB (t : RE) : RT := fun ρ M Q => t ρ M fun d M1 => onB d fun b => Q b M1
theorem tb_imp {K : PySem.W.Frag} {t : RE} : ∀ σ H Q, cT K (aB t) σ H Q → tB (cE K t) σ H Q := fun σ H Q' ⟨ρ, M, Q, hr, hv, q, k⟩ =>
  seqE hr hv q fun v H1 d M1 t1 r1 v1 q1 => by
    obtain ⟨b, e, q1⟩ := onB_ex q1
    exact ⟨b, by subst e; simpa only [Rep] using r1, k b H1 M1 t1 v1 q1⟩
theorem at_cmp {op : CmpOp} {r : R2} {ar : AR2} (ho : OpR X (compareOp op) r) (h : Ab2 X.K r ar) (ha : AE X a ta) (hb : AE X b tb) (hm : behindInMarks op b = false) : AT X (.Compare a [op] [b] pos) (aB (aOp ar ta tb)) :=
  pt_imp (pt_cmpR ho ha hb hm) fun σ H Q' h' => by
    obtain ⟨ρ, M, Q, hr, hv, q, k⟩ := h'
    exact aop_imp h σ H _ ⟨ρ, M, _, hr, hv, q, fun v H1 d M1 t1 r1 v1 q1 => by
      obtain ⟨b, e, q1⟩ := onB_ex q1
      exact ⟨b, by subst e; simpa only [Rep] using r1, k b H1 M1 t1 v1 q1⟩⟩
theorem at_val (h : AE X e te) (he : ∀ whole, isTrue e X.env whole = (do let v ← whole; standAt e.pos; holding [v] (truthy v)) := by intro _; rfl) : AT X e (aB te) := pt_imp (pt_val h he) tb_imp
def truA : Dv → Ms → Option Bool
  | .non, _ => some false
  | .bl b, _ => some b
  | .int i, _ => some (i != 0)
  | .tup xs, _ => some (!xs.isEmpty)
  | .rol xs, _ => some (!xs.isEmpty)
  | .ref a, M => match M a with | some (.lst xs) => some (!xs.isEmpty) | some (.dic xs) => some (!xs.isEmpty) | _ => none
  | _, _ => none
def aTru (t : RE) : RT := fun ρ M Q => t ρ M fun d M1 => onS (truA d M1) fun b => Q b M1
theorem Reps.isEmpty {K : PySem.W.Frag} {H : Hp} {ds : List Dv} {vs : List V} (h : Reps K H ds vs) : vs.isEmpty = ds.isEmpty := by
  have := h.length
  cases ds <;> cases vs <;> simp at this ⊢
theorem paired_isEmpty {α β : Type} {R : α → β → Prop} {l : List α} {m : List β} (h : Paired R l m) : m.isEmpty = l.isEmpty := by
  cases h <;> rfl
theorem truA_ok {K : PySem.W.Frag} {M : Ms} {H : Hp} {d : Dv} {v : V} {b : Bool} (r : Rep K H d v) (hv : View K M H) (h : truA d M = some b) : TruV K v H b := by
  cases d with
  | non => simp only [Rep] at r; subst r; simp only [truA, Option.some.injEq] at h; exact h.symm
  | bl k => simp only [Rep] at r; subst r; simp only [truA, Option.some.injEq] at h; exact h.symm
  | int i => simp only [Rep] at r; subst r; simp only [truA, Option.some.injEq] at h; exact h.symm
  | str i => simp [truA] at h
  | ty i => simp [truA] at h
  | tup ds =>
    simp only [Rep] at r
    obtain ⟨a, vs, rfl, q, z⟩ := r
    simp only [truA, Option.some.injEq] at h
    exact .inr (.inl ⟨vs, TupA.s (K := K) q, by rw [z.isEmpty]; exact h.symm⟩)
  | rol ds =>
    simp only [Rep] at r
    obtain ⟨a, vs, rfl, q, z⟩ := r
    simp only [truA, Option.some.injEq] at h
    exact .inl ⟨vs, q.l, by rw [z.isEmpty]; exact h.symm⟩
  | ref a =>
    simp only [Rep] at r; subst r
    simp only [truA] at h
    cases e : M a with
    | none => rw [e] at h; cases h
    | some c =>
      rw [e] at h
      cases c with
      | lst xs =>
        obtain ⟨vs, h1, h2⟩ := hv a _ e
        simp only [Option.some.injEq] at h
        exact .inl ⟨vs, .inl (.inl h1), by rw [h2.isEmpty]; exact h.symm⟩
      | dic xs =>
        obtain ⟨vs, h1, h2⟩ := hv a _ e
        simp only [Option.some.injEq] at h
        exact .inr (.inr ⟨vs, h1, by rw [paired_isEmpty h2]; exact h.symm⟩)
      | dit xs => cases h
theorem at_tru (h : AE X e te) (he : ∀ whole, isTrue e X.env whole = (do let v ← whole; standAt e.pos; holding [v] (truthy v)) := by intro _; rfl) : AT X e (aTru te) :=
  pt_imp (pt_truth h he) fun σ H Q' ⟨ρ, M, Q, hr, hv, q, k⟩ => seqE hr hv q fun v H1 d M1 t1 r1 v1 q1 => by
    obtain ⟨b, e, q1⟩ := onS_ex q1
    exact ⟨b, truA_ok r1 v1 e, k b H1 M1 t1 v1 q1⟩
def aAnd (t u : RT) : RT := fun ρ M Q => t ρ M fun b M1 => onIf b (u ρ M1 Q) (Q false M1)
def aOr (t u : RT) : RT := fun ρ M Q => t ρ M fun b M1 => onIf b (Q true M1) (u ρ M1 Q)
def aNot (t : RT) : RT := fun ρ M Q => t ρ M fun b M1 => Q (!b) M1
theorem seqT {K : PySem.W.Frag} {ρ : Env'} {σ : L2.St} {M : Ms} {H : Hp} {t : RT} {Q : Bool → Ms → Prop} {Q' : Bool → Hp → Prop} (hr : RepE K H ρ σ) (hv : View K M H) (h : t ρ M Q) (k : LkB K H Q Q') : cT K t σ H Q' := ⟨ρ, M, Q, hr, hv, h, k⟩
variable {tA tBb : RT} {rest : List Expr}
theorem AW.pt (h : AW X e tA) : AT X e tA := PW.pt h
theorem aw_and1 (ha : AT X a tA) : AW X (.BoolOp .And [a] pos) tA := pw_and1 ha
theorem aw_or1 (ha : AT X a tA) : AW X (.BoolOp .Or [a] pos) tA := pw_or1 ha
theorem aw_and (ha : AT X a tA) (hb : AW X (.BoolOp .And (b :: rest) pos) tBb) : AW X (.BoolOp .And (a :: b :: rest) pos) (aAnd tA tBb) :=
  pw_imp (pw_and ha hb) fun σ H Q' ⟨ρ, M, Q, hr, hv, q, k⟩ => seqT hr hv q fun b H1 M1 t1 v1 q1 => by
    cases b with
    | true => exact seqT (hr.mono t1) v1 q1 (k.up t1)
    | false => exact k _ _ _ t1 v1 q1
theorem aw_or (ha : AT X a tA) (hb : AW X (.BoolOp .Or (b :: rest) pos) tBb) : AW X (.BoolOp .Or (a :: b :: rest) pos) (aOr tA tBb) :=
  pw_imp (pw_or ha hb) fun σ H Q' ⟨ρ, M, Q, hr, hv, q, k⟩ => seqT hr hv q fun b H1 M1 t1 v1 q1 => by
    cases b with
    | false => exact seqT (hr.mono t1) v1 q1 (k.up t1)
    | true => exact k _ _ _ t1 v1 q1
theorem at_not (ha : AT X a tA) : AT X (.UnaryOp .Not a pos) (aNot tA) :=
  pt_imp (pt_not ha) fun σ H Q' ⟨ρ, M, Q, hr, hv, q, k⟩ => seqT hr hv q fun b H1 M1 t1 v1 q1 => k _ _ _ t1 v1 q1
def aAndV (t u : RE) : RE := fun ρ M Q => t ρ M fun x M1 => onB x fun b => onIf b (u ρ M1 Q) (Q (.bl false) M1)
def aOrV (t u : RE) : RE := fun ρ M Q => t ρ M fun x M1 => onB x fun b => onIf b (Q (.bl true) M1) (u ρ M1 Q)
def aNotV (t : RE) : RE := fun ρ M Q => t ρ M fun x M1 => onB x fun b => Q (.bl (!b)) M1
theorem rep_bl {K : PySem.W.Frag} {H : Hp} {b : Bool} : Rep K H (.bl b) (.bl b) := by simp only [Rep]
theorem rep_int {K : PySem.W.Frag} {H : Hp} {i : Int} : Rep K H (.int i) (.int i) := by simp only [Rep]
theorem rep_str {K : PySem.W.Frag} {H : Hp} {i : Str} : Rep K H (.str i) (.str i) := by simp only [Rep]
theorem rep_non {K : PySem.W.Frag} {H : Hp} : Rep K H .non .non := by simp only [Rep]
theorem rep_ref {K : PySem.W.Frag} {H : Hp} {a : Addr} : Rep K H (.ref a) (.ref a) := by simp only [Rep]
theorem rep_tup {K : PySem.W.Frag} {H : Hp} {a : Addr} {vs : List V} {ds : List Dv} (h : TupA K H a vs) (r : Reps K H ds vs) : Rep K H (.tup ds) (.ref a) := by
  simp only [Rep]; exact ⟨a, vs, rfl, h, r⟩
theorem ae_and1 (ha : AE X a ta) : AE X (.BoolOp .And [a] pos) ta := pe_one ha
theorem ae_or1 (ha : AE X a ta) : AE X (.BoolOp .Or [a] pos) ta := pe_one ha
theorem ae_and (ha : AE X a ta) (hb : AE X (.BoolOp .And (b :: rest) pos) tb) : AE X (.BoolOp .And (a :: b :: rest) pos) (aAndV ta tb) :=
  pe_imp (pe_and ha hb) fun σ H Q' ⟨ρ, M, Q, hr, hv, q, k⟩ => seqE hr hv q fun v H1 d M1 t1 r1 v1 q1 => by
    obtain ⟨b, e, q1⟩ := onB_ex q1
    subst e
    refine ⟨b, by simpa only [Rep] using r1, ?_⟩
    cases b with
    | true => exact seqE (hr.mono t1) v1 q1 (k.up t1)
    | false => exact k _ _ _ _ t1 rep_bl v1 q1
theorem ae_or (ha : AE X a ta) (hb : AE X (.BoolOp .Or (b :: rest) pos) tb) : AE X (.BoolOp .Or (a :: b :: rest) pos) (aOrV ta tb) :=
  pe_imp (pe_or ha hb) fun σ H Q' ⟨ρ, M, Q, hr, hv, q, k⟩ => seqE hr hv q fun v H1 d M1 t1 r1 v1 q1 => by
    obtain ⟨b, e, q1⟩ := onB_ex q1
    subst e
    refine ⟨b, by simpa only [Rep] using r1, ?_⟩
    cases b with
    | false => exact seqE (hr.mono t1) v1 q1 (k.up t1)
    | true => exact k _ _ _ _ t1 rep_bl v1 q1
theorem ae_not (ha : AE X a ta) : AE X (.UnaryOp .Not a pos) (aNotV ta) :=
  pe_imp (pe_not ha) fun σ H Q' ⟨ρ, M, Q, hr, hv, q, k⟩ => seqE hr hv q fun v H1 d M1 t1 r1 v1 q1 => by
    obtain ⟨b, e, q1⟩ := onB_ex q1
    subst e
    exact ⟨b, by simpa only [Rep] using r1, k _ _ _ _ t1 rep_bl v1 q1⟩
def aIf (t : RT) (ta tb : RE) : RE := fun ρ M Q => t ρ M fun b M1 => onIf b (ta ρ M1 Q) (tb ρ M1 Q)
theorem ae_if (hc : AT X c tA) (ha : AE X a ta) (hb : AE X b tb) : AE X (.IfExp c a b pos) (aIf tA ta tb) :=
  pe_imp (pe_ifExp hc ha hb) fun σ H Q' ⟨ρ, M, Q, hr, hv, q, k⟩ => seqT hr hv q fun b H1 M1 t1 v1 q1 => by
    cases b with
    | true => exact seqE (hr.mono t1) v1 q1 (k.up t1)
    | false => exact seqE (hr.mono t1) v1 q1 (k.up t1)
end
section
variable {X : Cx}
def arI (C : Int → Int → Prop) (g : Int → Int → Dv) : AR2 := fun x y M Q => onI2 x y fun i j => C i j ∧ Q (g i j) M
def arI0 (g : Int → Int → Dv) : AR2 := fun x y M Q => onI2 x y fun i j => Q (g i j) M
theorem ab_I {K : PySem.W.Frag} {C : Int → Int → Prop} {g : Int → Int → Int} : Ab2 K (rI C fun i j => .int (g i j)) (arI C fun i j => .int (g i j)) := fun H M x y dx dy Q Q' rx ry hv q0 k => by
  obtain ⟨i, j, e1, e2, hc, q⟩ := onI2_ex q0
  subst e1 e2
  exact ⟨i, j, by simpa only [Rep] using rx, by simpa only [Rep] using ry, hc, k _ _ _ _ (Tp.refl H) rep_int hv q⟩
theorem ab_I0 {K : PySem.W.Frag} {g : Int → Int → Int} : Ab2 K (rI0 fun i j => .int (g i j)) (arI0 fun i j => .int (g i j)) := fun H M x y dx dy Q Q' rx ry hv q0 k => by
  obtain ⟨i, j, e1, e2, q⟩ := onI2_ex q0
  subst e1 e2
  exact ⟨i, j, by simpa only [Rep] using rx, by simpa only [Rep] using ry, k _ _ _ _ (Tp.refl H) rep_int hv q⟩
theorem ab_B0 {K : PySem.W.Frag} {g : Int → Int → Bool} : Ab2 K (rI0 fun i j => .bl (g i j)) (arI0 fun i j => .bl (g i j)) := fun H M x y dx dy Q Q' rx ry hv q0 k => by
  obtain ⟨i, j, e1, e2, q⟩ := onI2_ex q0
  subst e1 e2
  exact ⟨i, j, by simpa only [Rep] using rx, by simpa only [Rep] using ry, k _ _ _ _ (Tp.refl H) rep_bl hv q⟩
theorem ab1_I {K : PySem.W.Frag} {g : Int → Int} : Ab1 K (rU fun i => .int (g i)) (fun x M Q => onI x fun i => Q (.int (g i)) M) := fun H M x dx Q Q' rx hv q0 k => by
  obtain ⟨i, e1, q⟩ := onI_ex q0
  subst e1
  exact ⟨i, by simpa only [Rep] using rx, k _ _ _ _ (Tp.refl H) rep_int hv q⟩
variable {a b : Expr} {ta tb : RE} {pos : Pos}
theorem div_wide {i j : Int} (h : 0 < j ∧ j < 1000000000000000000000000) : CDivW i j := by
  refine wide_div (b := 90) h.1 ?_ (by decide) (by decide)
  have e : (2 : Nat) ^ 90 = 1237940039285380274899124224 := by decide
  rw [e]
  omega
theorem ab_div {K : PySem.W.Frag} : Ab2 K (rI CDivW fun i j => .int (i / j)) (arI (fun _ j => 0 < j ∧ j < 1000000000000000000000000) fun i j => .int (i / j)) := fun H M x y dx dy Q Q' rx ry hv q0 k => by
  obtain ⟨i, j, e1, e2, hc, q⟩ := onI2_ex q0
  subst e1 e2
  exact ⟨i, j, by simpa only [Rep] using rx, by simpa only [Rep] using ry, div_wide hc, k _ _ _ _ (Tp.refl H) rep_int hv q⟩
def aSub := arI0 fun i j => .int (i - j)
def aXor := arI0 fun i j => .int (Builtin.bitXor i j)
def aBand := arI0 fun i j => .int (Builtin.bitAnd i j)
def aMod := arI (fun _ j => 0 < j) fun i j => .int (i % j)
def aDiv := arI (fun _ j => 0 < j ∧ j < 1000000000000000000000000) fun i j => .int (i / j)
def aPow := arI CPow fun i j => .int (i ^ j.toNat)
def aShl := arI CPow fun i j => .int (i * 2 ^ j.toNat)
def aShr := arI (fun _ j => 0 ≤ j) fun i j => .int (i / 2 ^ j.toNat)
def aLt := arI0 fun i j => .bl (decide (i < j))
def aLe := arI0 fun i j => .bl (decide (i ≤ j))
def aGt := arI0 fun i j => .bl (decide (j < i))
def aGe := arI0 fun i j => .bl (decide (j ≤ i))
def aNeg : AR1 := fun x M Q => onI x fun i => Q (.int (-i)) M
theorem ae_sub (ha : AE X a ta) (hb : AE X b tb) : AE X (.BinOp a .Sub b pos) (aOp aSub ta tb) := ae_op op_sub ab_I0 ha hb
theorem ae_xor (ha : AE X a ta) (hb : AE X b tb) : AE X (.BinOp a .BitXor b pos) (aOp aXor ta tb) := ae_op op_xor ab_I0 ha hb
theorem ae_band (ha : AE X a ta) (hb : AE X b tb) : AE X (.BinOp a .BitAnd b pos) (aOp aBand ta tb) := ae_op op_and ab_I0 ha hb
theorem ae_mod (ha : AE X a ta) (hb : AE X b tb) : AE X (.BinOp a .Mod b pos) (aOp aMod ta tb) := ae_op op_mod ab_I ha hb
theorem ae_div (ha : AE X a ta) (hb : AE X b tb) : AE X (.BinOp a .FloorDiv b pos) (aOp aDiv ta tb) := ae_op op_fdivW ab_div ha hb
theorem ae_pow (ha : AE X a ta) (hb : AE X b tb) : AE X (.BinOp a .Pow b pos) (aOp aPow ta tb) := ae_op op_pow ab_I ha hb
theorem ae_shl (ha : AE X a ta) (hb : AE X b tb) : AE X (.BinOp a .LShift b pos) (aOp aShl ta tb) := ae_op op_shl ab_I ha hb
theorem ae_shr (ha : AE X a ta) (hb : AE X b tb) : AE X (.BinOp a .RShift b pos) (aOp aShr ta tb) := ae_op op_shr ab_I ha hb
theorem ae_neg (ha : AE X a ta) : AE X (.UnaryOp .USub a pos) (aUn aNeg ta) := ae_un un_neg ab1_I ha
theorem ae_lt (ha : AE X a ta) (hb : AE X b tb) : AE X (.Compare a [.Lt] [b] pos) (aOp aLt ta tb) := ae_cmp op_lt ab_B0 ha hb (nomark _)
theorem ae_le (ha : AE X a ta) (hb : AE X b tb) : AE X (.Compare a [.LtE] [b] pos) (aOp aLe ta tb) := ae_cmp op_le ab_B0 ha hb (nomark _)
theorem ae_gt (ha : AE X a ta) (hb : AE X b tb) : AE X (.Compare a [.Gt] [b] pos) (aOp aGt ta tb) := ae_cmp op_gt ab_B0 ha hb (nomark _)
theorem ae_ge (ha : AE X a ta) (hb : AE X b tb) : AE X (.Compare a [.GtE] [b] pos) (aOp aGe ta tb) := ae_cmp op_ge ab_B0 ha hb (nomark _)
theorem at_lt (ha : AE X a ta) (hb : AE X b tb) : AT X (.Compare a [.Lt] [b] pos) (aB (aOp aLt ta tb)) := at_cmp op_lt ab_B0 ha hb (nomark _)
theorem at_le (ha : AE X a ta) (hb : AE X b tb) : AT X (.Compare a [.LtE] [b] pos) (aB (aOp aLe ta tb)) := at_cmp op_le ab_B0 ha hb (nomark _)
theorem at_gt (ha : AE X a ta) (hb : AE X b tb) : AT X (.Compare a [.Gt] [b] pos) (aB (aOp aGt ta tb)) := at_cmp op_gt ab_B0 ha hb (nomark _)
theorem at_ge (ha : AE X a ta) (hb : AE X b tb) : AT X (.Compare a [.GtE] [b] pos) (aB (aOp aGe ta tb)) := at_cmp op_ge ab_B0 ha hb (nomark _)
end
end HC
set_option maxHeartbeats 4000000
namespace HC
open PySem L2 PyProof.Rows
section
variable {X : Cx} {e : Expr} {es : List Expr} {te : RE} {t : RA} {pos : Pos}
def aNil : RA := fun _ M Q => Q [] M
def aCons (te : RE) (t : RA) : RA := fun ρ M Q => te ρ M fun d M1 => t ρ M1 fun ds M2 => Q (d :: ds) M2
theorem seqA {K : PySem.W.Frag} {ρ : Env'} {σ : L2.St} {M : Ms} {H : Hp} {t : RA} {Q : List Dv → Ms → Prop} {Q' : List V → Hp → Prop} (hr : RepE K H ρ σ) (hv : View K M H) (h : t ρ M Q) (k : LkA K H Q Q') : cA K t σ H Q' := ⟨ρ, M, Q, hr, hv, h, k⟩
theorem aa_nil : AA X [] aNil := pa_imp pa_nil fun σ H Q' ⟨ρ, M, Q, hr, hv, q, k⟩ => k [] H [] M (Tp.refl H) Reps.nil hv q
theorem aa_cons (ha : AE X e te) (hr : AA X es t) (hs : starEach (e :: es) X.env = (false, eval e X.env) :: starEach es X.env := by rfl) : AA X (e :: es) (aCons te t) :=
  pa_imp (pa_cons ha hr hs) fun σ H Q' ⟨ρ, M, Q, hr, hv, q, k⟩ => seqE hr hv q fun v H1 d M1 t1 r1 v1 q1 => seqA (hr.mono t1) v1 q1 fun vs H2 ds M2 t2 r2 v2 q2 => k (v :: vs) H2 (d :: ds) M2 (t1.trans t2) (Reps.cons (r1.mono t2) r2) v2 q2
def aTup (t : RA) : RE := fun ρ M Q => t ρ M fun ds M1 => ds.length ≤ sizeLine ∧ Q (.tup ds) M1
def aLst (t : RA) : RE := fun ρ M Q => t ρ M fun ds M1 => ds.length ≤ sizeLine ∧ ∀ p, M1 p = none → Q (.ref p) (mup M1 p (.lst ds))
theorem end_tup {K : PySem.W.Frag} {H : Hp} {M : Ms} {vs : List V} {ds : List Dv} {Q : DK} {Q' : VK} (r : Reps K H ds vs) (hv : View K M H) (q : Q (.tup ds) M) (k : LkV K H Q Q') : ∀ p, H p = none → Q' (.ref p) (upd H p (.tup vs)) := fun p hp =>
  k _ _ (.tup ds) M (Tp.new hp) (rep_tup upd_same (r.mono (Tp.new hp))) (hv.new hp) q
theorem end_lst {K : PySem.W.Frag} {H : Hp} {M : Ms} {vs : List V} {ds : List Dv} {Q : DK} {Q' : VK} (r : Reps K H ds vs) (hv : View K M H) (q : ∀ p, M p = none → Q (.ref p) (mup M p (.lst ds))) (k : LkV K H Q Q') : ∀ p, H p = none → Q' (.ref p) (upd H p (.lst vs)) := fun p hp =>
  k _ _ (.ref p) _ (Tp.new hp) rep_ref (hv.put (c := .lst ds) (by rw [hp]; trivial) ⟨vs, upd_same, r.mono (Tp.new hp)⟩) (q p (hv.free hp))
theorem ae_tup {x1} (h : AA X es t) : AE X (.Tuple es x1 pos) (aTup t) := pe_imp (pe_tup h) fun σ H Q' ⟨ρ, M, Q, hr, hv, q, k⟩ => seqA hr hv q fun vs H1 ds M1 t1 r1 v1 ⟨z, q1⟩ =>
  ⟨by rw [← r1.length]; exact z, end_tup r1 v1 q1 (k.up t1)⟩
theorem ae_lst (h : AA X es t) : AE X (.List es pos) (aLst t) := pe_imp (pe_lst h) fun σ H Q' ⟨ρ, M, Q, hr, hv, q, k⟩ => seqA hr hv q fun vs H1 ds M1 t1 r1 v1 ⟨z, q1⟩ =>
  ⟨by rw [← r1.length]; exact z, end_lst r1 v1 q1 (k.up t1)⟩
end
section
variable {X : Cx}
theorem opr_or {f : Value → Value → Sem Value} {r r' : R2} (h : OpR X f r) (h' : OpR X f r') : OpR X f (fun x y H Q => r x y H Q ∨ r' x y H Q) := by
  intro pins s σ H x y v u Q I rx ry q
  rcases q with q | q
  · exact h pins s σ H x y v u Q I rx ry q
  · exact h' pins s σ H x y v u Q I rx ry q
theorem rep_int_inv {K : PySem.W.Frag} {H : Hp} {i : Int} {v : V} (h : Rep K H (.int i) v) : v = .int i := by simpa only [Rep] using h
theorem rep_bl_inv {K : PySem.W.Frag} {H : Hp} {i : Bool} {v : V} (h : Rep K H (.bl i) v) : v = .bl i := by simpa only [Rep] using h
theorem rep_str_inv {K : PySem.W.Frag} {H : Hp} {i : Str} {v : V} (h : Rep K H (.str i) v) : v = .str i := by simpa only [Rep] using h
theorem rep_non_inv {K : PySem.W.Frag} {H : Hp} {v : V} (h : Rep K H .non v) : v = .non := by simpa only [Rep] using h
theorem rep_ref_inv {K : PySem.W.Frag} {H : Hp} {a : Addr} {v : V} (h : Rep K H (.ref a) v) : v = .ref a := by simpa only [Rep] using h
theorem rep_ty_inv {K : PySem.W.Frag} {H : Hp} {a : String} {v : V} (h : Rep K H (.ty a) v) : v = .ty a := by simpa only [Rep] using h
theorem rep_tup_inv {K : PySem.W.Frag} {H : Hp} {ds : List Dv} {v : V} (h : Rep K H (.tup ds) v) : ∃ a vs, v = .ref a ∧ SqT K H a vs ∧ Reps K H ds vs := by
  simp only [Rep] at h
  obtain ⟨a, vs, e, q, r⟩ := h
  exact ⟨a, vs, e, TupA.s (K := K) q, r⟩
theorem rep_tup_inv' {K : PySem.W.Frag} {H : Hp} {ds : List Dv} {v : V} (h : Rep K H (.tup ds) v) : ∃ a vs, v = .ref a ∧ TupA K H a vs ∧ Reps K H ds vs := by simpa only [Rep] using h
theorem rep_rol_inv {K : PySem.W.Frag} {H : Hp} {ds : List Dv} {v : V} (h : Rep K H (.rol ds) v) : ∃ a vs, v = .ref a ∧ SqF K H a vs ∧ Reps K H ds vs := by simpa only [Rep] using h
theorem view_lst {K : PySem.W.Frag} {M : Ms} {H : Hp} {a : Addr} {ds : List Dv} (hv : View K M H) (h : M a = some (.lst ds)) : ∃ vs, H a = some (.lst vs) ∧ Reps K H ds vs := hv a _ h
def aAdd : AR2 := fun x y M Q => match x, y with
  | .int i, .int j => Q (.int (i + j)) M
  | .int i, .bl k => Q (.int (i + b2i k)) M
  | .str a, .str b => a.length + b.length ≤ sizeLine ∧ Q (.str (a ++ b)) M
  | .tup a, .tup b => a.length + b.length ≤ sizeLine ∧ Q (.tup (a ++ b)) M
  | .ref a, .ref b => ∃ xs ys, M a = some (.lst xs) ∧ M b = some (.lst ys) ∧ xs.length + ys.length ≤ sizeLine ∧ ∀ p, M p = none → Q (.ref p) (mup M p (.lst (xs ++ ys)))
  | _, _ => False
def rAddH (K : PySem.W.Frag) : R2 := fun x y H Q => (rI0 (fun i j => .int (i + j)) x y H Q ∨ (∃ i k, x = .int i ∧ y = .bl k ∧ Q (.int (i + b2i k)) H)) ∨ ((∃ i j, x = .str i ∧ y = .str j ∧ i.length + j.length ≤ sizeLine ∧ Q (.str (i ++ j)) H) ∨ (rCatA K x y H Q ∨ rCat x y H Q))
theorem op_addH : OpR X (binaryOp .Add) (rAddH X.K) := opr_or (opr_or op_add op_add_ib) (opr_or op_add_str (opr_or op_catA op_cat))
theorem ab_add {K : PySem.W.Frag} : Ab2 K (rAddH K) aAdd := by
  intro H M x y dx dy Q Q' rx ry hv q k
  cases dx <;> cases dy <;> first | exact q.elim | skip
  case int.int i j => exact .inl (.inl ⟨i, j, rep_int_inv rx, rep_int_inv ry, k _ _ _ _ (Tp.refl H) rep_int hv q⟩)
  case int.bl i j => exact .inl (.inr ⟨i, j, rep_int_inv rx, rep_bl_inv ry, k _ _ _ _ (Tp.refl H) rep_int hv q⟩)
  case str.str i j => exact .inr (.inl ⟨i, j, rep_str_inv rx, rep_str_inv ry, q.1, k _ _ _ _ (Tp.refl H) rep_str hv q.2⟩)
  case tup.tup ds es =>
    obtain ⟨a, vs, e1, s1, r1⟩ := rep_tup_inv' rx
    obtain ⟨b, ws, e2, s2, r2⟩ := rep_tup_inv' ry
    have l1 := r1.length
    have l2 := r2.length
    obtain ⟨z, q⟩ := q
    refine .inr (.inr (.inl ⟨a, b, vs, ws, e1, e2, TupA.s s1, TupA.s s2, by omega, fun h => ?_, fun _ h => ?_, fun _ _ => end_tup (r1.append r2) hv q k⟩))
    · subst h
      have : ds = [] := List.length_eq_zero_iff.mp l1
      subst this
      exact k _ _ _ _ (Tp.refl H) (rep_tup s2 r2) hv q
    · subst h
      have : es = [] := List.length_eq_zero_iff.mp l2
      subst this
      rw [List.append_nil] at q
      exact k _ _ _ _ (Tp.refl H) (rep_tup s1 r1) hv q
  case ref.ref a b =>
    obtain ⟨xs, ys, h1, h2, z, q⟩ := q
    obtain ⟨vs, e1, r1⟩ := view_lst hv h1
    obtain ⟨ws, e2, r2⟩ := view_lst hv h2
    have l1 := r1.length
    have l2 := r2.length
    exact .inr (.inr (.inr ⟨a, b, vs, ws, rep_ref_inv rx, rep_ref_inv ry, e1, e2, by omega, end_lst (r1.append r2) hv q k⟩))
variable {a b : Expr} {ta tb : RE} {pos : Pos}
theorem ae_add (ha : AE X a ta) (hb : AE X b tb) : AE X (.BinOp a .Add b pos) (aOp aAdd ta tb) := ae_op op_addH ab_add ha hb
theorem Reps.flat {K : PySem.W.Frag} {H : Hp} {ds : List Dv} {vs : List V} (h : Reps K H ds vs) : ∀ (n : Nat), Reps K H (List.replicate n ds).flatten (List.replicate n vs).flatten
  | 0 => Reps.nil
  | n + 1 => by
    rw [List.replicate_succ, List.replicate_succ, List.flatten_cons, List.flatten_cons]
    exact h.append (Reps.flat h n)
def aMul : AR2 := fun x y M Q => match x, y with
  | .int i, .int j => (CMul i j ∨ CMulW i j) ∧ Q (.int (i * j)) M
  | .ref a, .int k => ∃ xs, M a = some (.lst xs) ∧ k < 2 ^ 63 ∧ -(2 ^ 63) ≤ k ∧ xs.length * k.toNat ≤ sizeLine ∧ ∀ p, M p = none → Q (.ref p) (mup M p (.lst (List.replicate k.toNat xs).flatten))
  | .tup xs, .int k => xs ≠ [] ∧ -1000 ≤ k ∧ k ≤ 1000 ∧ xs.length ≤ 1000 ∧ Q (.tup (List.replicate k.toNat xs).flatten) M
  | _, _ => False
def rRepT1 (K : PySem.W.Frag) : R2 := fun x y H Q => ∃ l xs, x = .ref l ∧ y = .int 1 ∧ SqT K H l xs ∧ Q (.ref l) H
open PyProof.Rows in
theorem tuple_mulW1 (l : Addr) (items : Array Value) (n : Nat) (dd : Option Addr) (sl : Array (Option Value)) (u : Tok) :
    Meets (Builtin.«tuple.__mul__» ⟨[.ref l, .int 1 u], []⟩) (fun _ R s => s.heap.get? l = some { cls := .type "tuple", dict := dd, data := .seq items n, slots := sl } ∧
      R (.ok (.ret (Value.ref l))) s) :=
  .of_wp fun prog w A R s h => by
    obtain ⟨hp, g, d, tk, os⟩ := s
    obtain ⟨hl, h⟩ := h
    have f1 := AutoSeq1.idx_int
    have c1 : (items.isEmpty || (1 : Int) == 1) = true := by simp
    wp_walk using wpAny_loadPart' hl
    repeat (first
      | (refine wpAny_ite_false (decide_eq_false (by decide)) ?_; wp_walk using wpAny_loadPart' hl)
      | (refine wpAny_ite_true (decide_eq_true c1) ?_; wp_walk using wpAny_loadPart' hl))
    all_goals first | exact ⟨_, rfl, h⟩ | trace_state
theorem op_repT1 : OpR X (binaryOp .Mult) (rRepT1 X.K) := by
  intro pins s σ H x y v u Q I rx ry h
  obtain ⟨l, xs, rfl, rfl, hT, q⟩ := h
  cases rx
  obtain ⟨t, rfl⟩ := ry
  obtain ⟨its, r, ⟨⟨cls, dd, data, sl⟩, ho, hc, n, hd⟩, hs⟩ := I.tuple hT
  simp only at hc hd
  subst hc hd
  exact wpAny_binaryOp_repeat_ref (T := "tuple") (U := "int") (by decide) ⟨_, ho, rfl⟩ (fun s' => typeIs_int s' 1 t) noFill_tuple_mul F.fills_int_mul F.slot_int_rmul repeat_tuple F.slot_int_index.lookup
    (call_meets F.slot_int_rmul (typeIs_int s 1 t) F.entry_int_rmul (F.args_int_rmul_2 _ _) (int_rmul_tuple 1 t l its.toArray n dd sl)
      ⟨ho, rfl, ⟨_, ho, rfl⟩, call_meets F.slot_tuple_mul ⟨_, ho, rfl⟩ F.entry_tuple_mul (F.args_tuple_mul_2 _ _) (tuple_mulW1 l its.toArray n dd sl t) ⟨ho, ⟨.ref l, H, I, rfl, q⟩⟩⟩)
open PyProof.Rows in
theorem tuple_mulW0 (l : Addr) (items : Array Value) (n : Nat) (dd : Option Addr) (sl : Array (Option Value)) (x : Int) (u : Tok) (b0 : (decide (x < -(2 ^ 63)) || decide (x ≥ 2 ^ 63)) = false) (b1 : (items.isEmpty || x == 1) = false) (b2 : (decide (x ≤ 0) || items.isEmpty) = true) :
    Meets (Builtin.«tuple.__mul__» ⟨[.ref l, .int x u], []⟩) (fun _ R s => s.heap.get? l = some { cls := .type "tuple", dict := dd, data := .seq items n, slots := sl } ∧
      R (.ok (.ret (Value.ref s.heap.objs.size))) { s with heap := s.heap.push { cls := Value.type "tuple", data := Data.seq #[] }, toks := s.toks }) :=
  .of_wp fun prog w A R s h => by
    obtain ⟨hp, g, d, tk, os⟩ := s
    obtain ⟨hl, h⟩ := h
    have f1 := AutoSeq1.idx_int
    wp_walk using wpAny_loadPart' hl
    repeat (first
      | (refine wpAny_ite_false (decide_eq_false (ne_true_of_eq_false b0)) ?_; wp_walk using wpAny_loadPart' hl)
      | (refine wpAny_ite_false (decide_eq_false (ne_true_of_eq_false b1)) ?_; wp_walk using wpAny_loadPart' hl)
      | (refine wpAny_ite_true (decide_eq_true b2) ?_; wp_walk using wpAny_loadPart' hl))
    all_goals exact ⟨_, rfl, h⟩
def rRepT0 (K : PySem.W.Frag) : R2 := fun x y H Q => ∃ l k xs, x = .ref l ∧ y = .int k ∧ SqT K H l xs ∧ xs ≠ [] ∧ -1000 ≤ k ∧ k ≤ 0 ∧ ∀ p, H p = none → Q (.ref p) (upd H p (.tup []))
theorem op_repT0 : OpR X (binaryOp .Mult) (rRepT0 X.K) := by
  intro pins s σ H x y v u Q I rx ry h
  obtain ⟨l, k, xs, rfl, rfl, hT, hne, h1, h2, q⟩ := h
  cases rx
  obtain ⟨t, rfl⟩ := ry
  obtain ⟨its, r, ⟨⟨cls, dd, data, sl⟩, ho, hc, n, hd⟩, hs⟩ := I.tuple hT
  simp only at hc hd
  subst hc hd
  have he : its ≠ [] := by
    rintro rfl
    exact hne (List.eq_nil_of_length_eq_zero r.length)
  have hi : its.toArray.isEmpty = false := by
    cases its with
    | nil => exact absurd rfl he
    | cons a b => rfl
  have b0 : (decide (k < -(2 ^ 63)) || decide (k ≥ 2 ^ 63)) = false := by
    simp only [Bool.or_eq_false_iff, decide_eq_false_iff_not]
    omega
  have b1 : (its.toArray.isEmpty || k == 1) = false := by
    simp only [hi, Bool.false_or, beq_eq_false_iff_ne]
    omega
  have b2 : (decide (k ≤ 0) || its.toArray.isEmpty) = true := by simp [h2]
  refine wpAny_binaryOp_repeat_ref (T := "tuple") (U := "int") (by decide) ⟨_, ho, rfl⟩ (fun s' => typeIs_int s' k t) noFill_tuple_mul F.fills_int_mul F.slot_int_rmul repeat_tuple F.slot_int_index.lookup
    (call_meets F.slot_int_rmul (typeIs_int s k t) F.entry_int_rmul (F.args_int_rmul_2 _ _) (int_rmul_tuple k t l its.toArray n dd sl)
      ⟨ho, rfl, ⟨_, ho, rfl⟩, call_meets F.slot_tuple_mul ⟨_, ho, rfl⟩ F.entry_tuple_mul (F.args_tuple_mul_2 _ _) (tuple_mulW0 l its.toArray n dd sl k t b0 b1 b2) ⟨ho, ?_⟩⟩)
  refine ⟨.ref s.heap.objs.size, _, I.laid (t' := s.toks) (o := .tup []) (fun b ob z => Heap.get?_push_of_some _ z) (Nat.le_refl _) ?_, rfl, q _ (I.hok.fresh (Nat.le_refl _))⟩
  exact ⟨Nat.zero_le _, _, .nil, IsTup.new _ _⟩
def rMulH (K : PySem.W.Frag) : R2 := fun x y H Q => (rI CMul (fun i j => .int (i * j)) x y H Q ∨ rI CMulW (fun i j => .int (i * j)) x y H Q) ∨ (rRep x y H Q ∨ (rRepT1 K x y H Q ∨ (rRepT0 K x y H Q ∨ rRepT K x y H Q)))
theorem op_mulH : OpR X (binaryOp .Mult) (rMulH X.K) := opr_or (opr_or op_mul op_mulW) (opr_or op_rep (opr_or op_repT1 (opr_or op_repT0 op_repT)))
theorem ab_mul {K : PySem.W.Frag} : Ab2 K (rMulH K) aMul := by
  intro H M x y dx dy Q Q' rx ry hv q k
  cases dx <;> cases dy <;> first | exact q.elim | skip
  case int.int i j =>
    obtain ⟨c, q⟩ := q
    rcases c with c | c
    · exact .inl (.inl ⟨i, j, rep_int_inv rx, rep_int_inv ry, c, k _ _ _ _ (Tp.refl H) rep_int hv q⟩)
    · exact .inl (.inr ⟨i, j, rep_int_inv rx, rep_int_inv ry, c, k _ _ _ _ (Tp.refl H) rep_int hv q⟩)
  case tup.int ds n =>
    obtain ⟨hne, h1, h2, h3, q⟩ := q
    obtain ⟨a, vs, e1, s1, r1⟩ := rep_tup_inv' rx
    have l1 := r1.length
    by_cases hn : n = 1
    · subst hn
      refine .inr (.inr (.inl ⟨a, vs, e1, rep_int_inv ry, TupA.s (K := K) s1, k _ _ _ _ (Tp.refl H) (rep_tup s1 ?_) hv q⟩))
      simpa using r1
    · by_cases h0 : n ≤ 0
      · have e0 : (List.replicate n.toNat ds).flatten = [] := by
          rw [Int.toNat_of_nonpos h0]; rfl
        rw [e0] at q
        refine .inr (.inr (.inr (.inl ⟨a, n, vs, e1, rep_int_inv ry, TupA.s (K := K) s1, fun z => hne (List.length_eq_zero_iff.mp (by rw [l1, z]; rfl)), h1, h0, end_tup .nil hv q k⟩)))
      refine .inr (.inr (.inr (.inr ⟨a, n, vs, e1, rep_int_inv ry, TupA.s (K := K) s1, fun z => hne (List.length_eq_zero_iff.mp (by rw [l1, z]; rfl)), by omega, h2, by omega, end_tup (r1.flat n.toNat) hv q k⟩)))
  case ref.int a n =>
    obtain ⟨xs, h1, h2, h3, z, q⟩ := q
    obtain ⟨vs, e1, r1⟩ := view_lst hv h1
    have l1 := r1.length
    exact .inr (.inl ⟨a, n, vs, rep_ref_inv rx, rep_int_inv ry, e1, h3, h2, by rw [← l1]; exact z, end_lst (r1.flat n.toNat) hv q k⟩)
theorem ae_mul (ha : AE X a ta) (hb : AE X b tb) : AE X (.BinOp a .Mult b pos) (aOp aMul ta tb) := ae_op op_mulH ab_mul ha hb
def Pl : Nat → Dv → Prop
  | _, .non => True
  | _, .int _ => True
  | _, .str x => PyData.canLay0 (.str x) = true
  | n + 1, .tup xs => ∀ d ∈ xs, Pl n d
  | n + 1, .rol xs => ∀ d ∈ xs, Pl n d
  | _, _ => False
def pyP : Nat → Dv → PyData
  | _, .int i => .int i
  | _, .str x => .str x
  | n + 1, .tup xs => .tuple (xs.map (pyP n))
  | n + 1, .rol xs => .list (xs.map (pyP n))
  | _, _ => .none
section
variable {K : PySem.W.Frag} {H : Hp}
theorem dpAll_of {n : Nat} (ih : ∀ d v, Pl n d → Rep K H d v → Dp K H v (pyP n d)) : ∀ {xs : List Dv} {vs : List V}, (∀ d ∈ xs, Pl n d) → Reps K H xs vs → DpAll K H vs (xs.map (pyP n))
  | [], _, _, r => by rw [r.nil_inv]; exact .nil
  | d :: xs, _, h, r => by
    obtain ⟨v, w, rfl, r1, r2⟩ := r.cons_inv
    exact .cons (ih d v (h d (by simp)) r1) (dpAll_of ih (fun e he => h e (by simp [he])) r2)
theorem dp_of : ∀ (n : Nat) (d : Dv) (v : V), Pl n d → Rep K H d v → Dp K H v (pyP n d)
  | 0, .non, v, _, r => by rw [rep_non_inv r]; exact .non
  | n + 1, .non, v, _, r => by rw [rep_non_inv r]; exact .non
  | 0, .int i, v, _, r => by rw [rep_int_inv r]; exact .int i
  | n + 1, .int i, v, _, r => by rw [rep_int_inv r]; exact .int i
  | 0, .str i, v, _, r => by rw [rep_str_inv r]; exact .str i
  | n + 1, .str i, v, _, r => by rw [rep_str_inv r]; exact .str i
  | n + 1, .tup xs, v, h, r => by
    obtain ⟨a, vs, e, s, z⟩ := rep_tup_inv r
    subst e
    exact .tup s (dpAll_of (dp_of n) h z)
  | n + 1, .rol xs, v, h, r => by
    obtain ⟨a, vs, e, s, z⟩ := rep_rol_inv r
    subst e
    exact .lst s.l (dpAll_of (dp_of n) h z)
theorem canLayAll_of {f : Dv → PyData} : ∀ {xs : List Dv}, (∀ d ∈ xs, (f d).canLay0 = true) → PyData.canLayAll0 (xs.map f) = true
  | [], _ => by simp [PyData.canLayAll0]
  | d :: xs, h => by
    have h1 := h d (by simp)
    have h2 := canLayAll_of fun e (he : e ∈ xs) => h e (List.mem_cons_of_mem _ he)
    simp [PyData.canLayAll0, h1, h2]
theorem canLay_pl : ∀ (n : Nat) (d : Dv), Pl n d → (pyP n d).canLay0 = true
  | 0, .non, _ => by simp [pyP, PyData.canLay0]
  | n + 1, .non, _ => by simp [pyP, PyData.canLay0]
  | 0, .int _, _ => by simp [pyP, PyData.canLay0]
  | n + 1, .int _, _ => by simp [pyP, PyData.canLay0]
  | 0, .str _, h => h
  | n + 1, .str _, h => h
  | n + 1, .tup xs, h => by
    simp only [pyP, PyData.canLay0]
    exact canLayAll_of fun d hd => canLay_pl n d (h d hd)
  | n + 1, .rol xs, h => by
    simp only [pyP, PyData.canLay0]
    exact canLayAll_of fun d hd => canLay_pl n d (h d hd)
theorem depthAll_of {f : Dv → PyData} {n : Nat} : ∀ {xs : List Dv}, (∀ d ∈ xs, (f d).depth ≤ n) → PyData.depthAll (xs.map f) ≤ n
  | [], _ => by simp [PyData.depthAll]
  | d :: xs, h => by
    have h1 := h d (by simp)
    have h2 := depthAll_of fun e he => h e (List.mem_cons_of_mem _ he)
    simp [PyData.depthAll]
    omega
theorem depth_pl : ∀ (n : Nat) (d : Dv), Pl n d → (pyP n d).depth ≤ n
  | 0, .non, _ => by simp [pyP, PyData.depth]
  | n + 1, .non, _ => by simp [pyP, PyData.depth]
  | 0, .int _, _ => by simp [pyP, PyData.depth]
  | n + 1, .int _, _ => by simp [pyP, PyData.depth]
  | 0, .str _, h => by simp [pyP, PyData.depth]
  | n + 1, .str _, h => by simp [pyP, PyData.depth]
  | n + 1, .tup xs, h => by
    simp only [pyP, PyData.depth]
    have := depthAll_of fun d hd => depth_pl n d (h d hd)
    omega
  | n + 1, .rol xs, h => by
    simp only [pyP, PyData.depth]
    have := depthAll_of fun d hd => depth_pl n d (h d hd)
    omega
theorem eqvAll_of {n : Nat} (ih : ∀ d e, Pl n d → Pl n e → (PyData.eqv (pyP n d) (pyP n e) = true ↔ d = e)) : ∀ {xs ys : List Dv}, (∀ d ∈ xs, Pl n d) → (∀ d ∈ ys, Pl n d) → (PyData.eqvAll (xs.map (pyP n)) (ys.map (pyP n)) = true ↔ xs = ys)
  | [], [], _, _ => by simp [PyData.eqvAll]
  | [], _ :: _, _, _ => by simp [PyData.eqvAll]
  | _ :: _, [], _, _ => by simp [PyData.eqvAll]
  | d :: xs, e :: ys, h, h' => by
    have h1 := ih d e (h d (by simp)) (h' e (by simp))
    have h2 := eqvAll_of ih (xs := xs) (ys := ys) (fun z hz => h z (by simp [hz])) fun z hz => h' z (by simp [hz])
    simp [PyData.eqvAll, h1, h2]
theorem eqv_pl : ∀ (n : Nat) (d e : Dv), Pl n d → Pl n e → (PyData.eqv (pyP n d) (pyP n e) = true ↔ d = e) := by
  intro n
  induction n with
  | zero =>
    intro d e hd he
    cases d <;> cases e <;> first | exact hd.elim | exact he.elim | simp [pyP, PyData.eqv]
  | succ n ih =>
    intro d e hd he
    cases d <;> cases e <;> first | exact hd.elim | exact he.elim | skip
    case tup.tup xs ys =>
      have := eqvAll_of ih (xs := xs) (ys := ys) hd he
      simp only [pyP, PyData.eqv, this, Dv.tup.injEq]
    case rol.rol xs ys =>
      have := eqvAll_of ih (xs := xs) (ys := ys) hd he
      simp only [pyP, PyData.eqv, this, Dv.rol.injEq]
    all_goals simp [pyP, PyData.eqv]
open Classical in
theorem eqv_dec (n : Nat) (d e : Dv) (hd : Pl n d) (he : Pl n e) : PyData.eqv (pyP n d) (pyP n e) = decide (d = e) := by
  by_cases h : d = e
  · rw [decide_eq_true h]; exact (eqv_pl n d e hd he).mpr h
  · rw [decide_eq_false h]
    cases q : PyData.eqv (pyP n d) (pyP n e) with
    | false => rfl
    | true => exact absurd ((eqv_pl n d e hd he).mp q) h
end
open Classical in
noncomputable def aEqB (x y : Dv) (M : Ms) (Q : Bool → Prop) : Prop := match x, y with
  | .bl a, .bl b => Q (a == b)
  | .ref a, .ref b => ∃ xs ys, M a = some (.lst xs) ∧ M b = some (.lst ys) ∧ (∀ d ∈ xs, Pl 8 d) ∧ (∀ d ∈ ys, Pl 8 d) ∧ Q (decide (xs = ys))
  | .ref a, .rol ys => ∃ xs, M a = some (.lst xs) ∧ Pl 9 (.rol xs) ∧ Pl 9 (.rol ys) ∧ Q (decide (xs = ys))
  | .rol xs, .ref b => ∃ ys, M b = some (.lst ys) ∧ Pl 9 (.rol xs) ∧ Pl 9 (.rol ys) ∧ Q (decide (xs = ys))
  | x, y => Pl 9 x ∧ Pl 9 y ∧ Q (decide (x = y))
noncomputable def aEq : AR2 := fun x y M Q => aEqB x y M fun b => Q (.bl b) M
noncomputable def aNe : AR2 := fun x y M Q => aEqB x y M fun b => Q (.bl (!b)) M
theorem shaped_of {d : PyData} (h1 : d.canLay0 = true) (h2 : d.depth ≤ 20) : SeqAt.shaped d = true := by
  unfold SeqAt.shaped
  rw [h1, Bool.true_and]
  exact decide_eq_true (by omega)
open Classical in
theorem aEqB_ok {K : PySem.W.Frag} {H : Hp} {M : Ms} {x y : V} {dx dy : Dv} {P : Bool → Prop} (rx : Rep K H dx x) (ry : Rep K H dy y) (hv : View K M H) (h : aEqB dx dy M P) :
    ∃ d e, Dp K H x d ∧ Dp K H y e ∧ SeqAt.shaped d = true ∧ SeqAt.shaped e = true ∧ P (PyData.eqv d e) := by
  have gen : Pl 9 dx → Pl 9 dy → P (decide (dx = dy)) → ∃ d e, Dp K H x d ∧ Dp K H y e ∧ SeqAt.shaped d = true ∧ SeqAt.shaped e = true ∧ P (PyData.eqv d e) := fun h1 h2 q => by
    have d1 := depth_pl 9 _ h1
    have d2 := depth_pl 9 _ h2
    exact ⟨_, _, dp_of 9 _ _ h1 rx, dp_of 9 _ _ h2 ry, shaped_of (canLay_pl _ _ h1) (by omega), shaped_of (canLay_pl _ _ h2) (by omega), by rw [eqv_dec 9 _ _ h1 h2]; exact q⟩
  unfold aEqB at h
  split at h
  · next a b =>
    rw [rep_bl_inv rx, rep_bl_inv ry]
    refine ⟨.bool a, .bool b, .bl a, .bl b, by rfl, by rfl, ?_⟩
    simp only [PyData.eqv]
    exact h
  · next a b =>
    obtain ⟨xs, ys, h1, h2, p1, p2, q⟩ := h
    obtain ⟨vs, e1, r1⟩ := view_lst hv h1
    obtain ⟨ws, e2, r2⟩ := view_lst hv h2
    rw [rep_ref_inv rx, rep_ref_inv ry]
    have c1 : PyData.canLay0 (.list (xs.map (pyP 8))) = true := by simp only [PyData.canLay0]; exact canLayAll_of fun d hd => canLay_pl 8 d (p1 d hd)
    have c2 : PyData.canLay0 (.list (ys.map (pyP 8))) = true := by simp only [PyData.canLay0]; exact canLayAll_of fun d hd => canLay_pl 8 d (p2 d hd)
    have z1 : PyData.depth (.list (xs.map (pyP 8))) ≤ 20 := by
      have := depthAll_of fun d hd => depth_pl 8 d (p1 d hd)
      simp only [PyData.depth]; omega
    have z2 : PyData.depth (.list (ys.map (pyP 8))) ≤ 20 := by
      have := depthAll_of fun d hd => depth_pl 8 d (p2 d hd)
      simp only [PyData.depth]; omega
    refine ⟨_, _, .lst (.inl (.inl e1)) (dpAll_of (dp_of 8) p1 r1), .lst (.inl (.inl e2)) (dpAll_of (dp_of 8) p2 r2), shaped_of c1 z1, shaped_of c2 z2, ?_⟩
    have e := eqvAll_of (eqv_pl 8) p1 p2
    have e' : PyData.eqv (.list (xs.map (pyP 8))) (.list (ys.map (pyP 8))) = decide (xs = ys) := by
      simp only [PyData.eqv]
      by_cases q : xs = ys
      · rw [decide_eq_true q]; exact e.mpr q
      · rw [decide_eq_false q]
        cases w : PyData.eqvAll (xs.map (pyP 8)) (ys.map (pyP 8)) with
        | false => rfl
        | true => exact absurd (e.mp w) q
    rw [e']; exact q
  · next a ys =>
    obtain ⟨xs, h1, p1, p2, q⟩ := h
    obtain ⟨vs, e1, r1⟩ := view_lst hv h1
    rw [rep_ref_inv rx]
    have d1 := depth_pl 9 _ p1
    have d2 := depth_pl 9 _ p2
    have eq : decide (Dv.rol xs = Dv.rol ys) = decide (xs = ys) := by simp only [Dv.rol.injEq]
    refine ⟨pyP 9 (.rol xs), _, ?_, dp_of 9 _ _ p2 ry, shaped_of (canLay_pl _ _ p1) (by omega), shaped_of (canLay_pl _ _ p2) (by omega), by rw [eqv_dec 9 _ _ p1 p2, eq]; exact q⟩
    show Dp K H (.ref a) (.list (xs.map (pyP 8)))
    exact .lst (.inl (.inl e1)) (dpAll_of (dp_of 8) p1 r1)
  · next xs b =>
    obtain ⟨ys, h1, p1, p2, q⟩ := h
    obtain ⟨vs, e1, r1⟩ := view_lst hv h1
    rw [rep_ref_inv ry]
    have d1 := depth_pl 9 _ p1
    have d2 := depth_pl 9 _ p2
    have eq : decide (Dv.rol xs = Dv.rol ys) = decide (xs = ys) := by simp only [Dv.rol.injEq]
    refine ⟨_, pyP 9 (.rol ys), dp_of 9 _ _ p1 rx, ?_, shaped_of (canLay_pl _ _ p1) (by omega), shaped_of (canLay_pl _ _ p2) (by omega), by rw [eqv_dec 9 _ _ p1 p2, eq]; exact q⟩
    show Dp K H (.ref b) (.list (ys.map (pyP 8)))
    exact .lst (.inl (.inl e1)) (dpAll_of (dp_of 8) p2 r1)
  · exact gen h.1 h.2.1 h.2.2
theorem ab_eq {K : PySem.W.Frag} : Ab2 K (rEqD K) aEq := fun H M x y dx dy Q Q' rx ry hv q k => by
  obtain ⟨d, e, h1, h2, h3, h4, q⟩ := aEqB_ok rx ry hv q
  exact ⟨d, e, h1, h2, h3, h4, k _ _ _ _ (Tp.refl H) rep_bl hv q⟩
theorem ab_ne {K : PySem.W.Frag} : Ab2 K (rNeD K) aNe := fun H M x y dx dy Q Q' rx ry hv q k => by
  obtain ⟨d, e, h1, h2, h3, h4, q⟩ := aEqB_ok rx ry hv q
  exact ⟨d, e, h1, h2, h3, h4, k _ _ _ _ (Tp.refl H) rep_bl hv q⟩
theorem ae_eq (hu : X.A.units + 64 < cLine) (ha : AE X a ta) (hb : AE X b tb) : AE X (.Compare a [.Eq] [b] pos) (aOp aEq ta tb) := ae_cmp (op_eqD hu) ab_eq ha hb (nomark _)
theorem ae_ne (hu : X.A.units + 64 < cLine) (ha : AE X a ta) (hb : AE X b tb) : AE X (.Compare a [.NotEq] [b] pos) (aOp aNe ta tb) := ae_cmp (op_neD hu) ab_ne ha hb (nomark _)
theorem at_eq (hu : X.A.units + 64 < cLine) (ha : AE X a ta) (hb : AE X b tb) : AT X (.Compare a [.Eq] [b] pos) (aB (aOp aEq ta tb)) := at_cmp (op_eqD hu) ab_eq ha hb (nomark _)
theorem at_ne (hu : X.A.units + 64 < cLine) (ha : AE X a ta) (hb : AE X b tb) : AT X (.Compare a [.NotEq] [b] pos) (aB (aOp aNe ta tb)) := at_cmp (op_neD hu) ab_ne ha hb (nomark _)
end
end HC
set_option maxHeartbeats 4000000
namespace HC
open PySem L2
abbrev RG := Dv → Env' → Ms → (Env' → Ms → Prop) → Prop
abbrev RGs := List Dv → Env' → Ms → (Env' → Ms → Prop) → Prop
def cG (K : PySem.W.Frag) (t : RG) : TG := fun v σ H Q' => ∃ d ρ M Q, Rep K H d v ∧ RepE K H ρ σ ∧ View K M H ∧ t d ρ M Q ∧ LkS K H Q Q'
def cGs (K : PySem.W.Frag) (t : RGs) : TGs := fun vs σ H Q' => ∃ ds ρ M Q, Reps K H ds vs ∧ RepE K H ρ σ ∧ View K M H ∧ t ds ρ M Q ∧ LkS K H Q Q'
def AG (X : Cx) (e : Expr) (t : RG) : Prop := PG X e (cG X.K t)
def AGs (X : Cx) (es : List Expr) (t : RGs) : Prop := PGs X es (cGs X.K t)
theorem pg_imp {X : Cx} {e : Expr} {t t' : TG} (h : PG X e t) (f : ∀ v σ H Q, t' v σ H Q → t v σ H Q) : PG X e t' := ⟨fun pins s σ H v u Q I r q => h.run pins s σ H v u Q I r (f _ _ _ _ q)⟩
theorem pgs_imp {X : Cx} {e : List Expr} {t t' : TGs} (h : PGs X e t) (f : ∀ v σ H Q, t' v σ H Q → t v σ H Q) : PGs X e t' := ⟨fun pins s σ H v u Q I r q => h.run pins s σ H v u Q I r (f _ _ _ _ q)⟩
theorem pg_or {X : Cx} {e : Expr} {t t' : TG} (h : PG X e t) (h' : PG X e t') : PG X e (fun v σ H Q => t v σ H Q ∨ t' v σ H Q) := ⟨fun pins s σ H v u Q I r q => q.elim (fun q => h.run pins s σ H v u Q I r q) (fun q => h'.run pins s σ H v u Q I r q)⟩
section
variable {X : Cx} {pos : Pos} {e : Expr} {es : List Expr}
def agName (i : Nat) : RG := fun d ρ M Q => Q (ρ.set i (some d)) M
theorem ag_name (i : Nat) {x : Str} (hN : X.N.Nodup) (hi : X.N[i]? = some x := by rfl) (hx : Loc X.env.scope x := by first | exact .inl rfl | exact .inr rfl) (hf : X.fn x = true ∨ X.env.scope.names.lookup x = some .local := by first | exact .inl rfl | exact .inr rfl) : AG X (.Name x pos) (agName i) :=
  pg_imp (pg_name hN hi hx hf) fun v σ H Q' ⟨d, ρ, M, Q, rd, hr, hv, q, k⟩ => k _ _ _ _ (Tp.refl H) (hr.set i rd) hv q
def agNil : RGs := fun ds ρ M Q => ds = [] ∧ Q ρ M
def agCons (t : RG) (u : RGs) : RGs := fun ds ρ M Q => match ds with
  | [] => False
  | d :: r => t d ρ M fun ρ1 M1 => u r ρ1 M1 Q
theorem ags_nil : AGs X [] agNil := pgs_imp pgs_nil fun v σ H Q' ⟨d, ρ, M, Q, rd, hr, hv, ⟨e, q⟩, k⟩ => by
  subst e
  exact ⟨rd.nil_inv, k _ _ _ _ (Tp.refl H) hr hv q⟩
theorem ags_cons {t : RG} {u : RGs} (h1 : AG X e t) (h2 : AGs X es u) (hs : (assignEach (e :: es) X.env).map (·.2) = assign e X.env :: (assignEach es X.env).map (·.2) := by rfl) : AGs X (e :: es) (agCons t u) :=
  pgs_imp (pgs_cons h1 h2 hs) fun vs σ H Q' ⟨ds, ρ, M, Q, rd, hr, hv, q, k⟩ => by
    cases ds with
    | nil => exact q.elim
    | cons d r =>
      obtain ⟨v, vr, e1, r1, r2⟩ := rd.cons_inv
      exact ⟨v, vr, e1, d, ρ, M, _, r1, hr, hv, q, fun σ1 H1 ρ1 M1 t1 hr1 hv1 q1 => ⟨r, ρ1, M1, Q, r2.mono t1, hr1, hv1, q1, k.up t1⟩⟩
def itemsA : Dv → Ms → Option (List Dv)
  | .tup ds, _ => some ds
  | .rol ds, _ => some ds
  | .ref a, M => match M a with | some (.lst ds) => some ds | _ => none
  | _, _ => none
theorem itemsA_ok' {K : PySem.W.Frag} {M : Ms} {H : Hp} {d : Dv} {v : V} {ds : List Dv} (r : Rep K H d v) (hv : View K M H) (h : itemsA d M = some ds) : ∃ a vs, v = .ref a ∧ (TupA K H a vs ∨ SqL K H a vs) ∧ Reps K H ds vs := by
  cases d with
  | tup es =>
    cases h
    obtain ⟨a, vs, e, s, z⟩ := (show ∃ a vs, v = .ref a ∧ TupA K H a vs ∧ Reps K H ds vs by simpa only [Rep] using r)
    exact ⟨a, vs, e, .inl s, z⟩
  | rol es =>
    cases h
    obtain ⟨a, vs, e, s, z⟩ := (show ∃ a vs, v = .ref a ∧ SqF K H a vs ∧ Reps K H ds vs by simpa only [Rep] using r)
    exact ⟨a, vs, e, .inr s.l, z⟩
  | ref a =>
    have e : v = .ref a := by simpa only [Rep] using r
    simp only [itemsA] at h
    cases q : M a with
    | none => rw [q] at h; cases h
    | some c =>
      rw [q] at h
      cases c with
      | dic _ => cases h
      | dit _ => cases h
      | lst es =>
        cases h
        obtain ⟨vs, h1, h2⟩ := hv a _ q
        exact ⟨a, vs, e, .inr (.inl (.inl h1)), h2⟩
  | non => cases h
  | bl _ => cases h
  | int _ => cases h
  | str _ => cases h
  | ty _ => cases h
theorem itemsA_ok {K : PySem.W.Frag} {M : Ms} {H : Hp} {d : Dv} {v : V} {ds : List Dv} (r : Rep K H d v) (hv : View K M H) (h : itemsA d M = some ds) : ∃ a vs, v = .ref a ∧ (SqT K H a vs ∨ SqL K H a vs) ∧ Reps K H ds vs := by
  obtain ⟨a, vs, e, s, z⟩ := itemsA_ok' r hv h
  exact ⟨a, vs, e, s.imp_left fun h => TupA.s h, z⟩
def agTup (n : Nat) (t : RGs) : RG := fun d ρ M Q => onS (itemsA d M) fun ds => ds.length = n ∧ t ds ρ M Q
theorem ag_tup {k : Nat} {t : RGs} {n : Nat} (hc : X.calm = true) (h : AGs X es t) (hn : (assignEach es X.env).length = n := by rfl) (hst : (assignEach es X.env).findIdx? (·.1) = none := by rfl) : AG X (.Tuple es k pos) (agTup n t) :=
  pg_imp (pg_or (pg_tup hc h hn hst) (pg_lst hc h hn hst)) fun v σ H Q' ⟨d, ρ, M, Q, rd, hr, hv, q, k⟩ => by
    obtain ⟨ds, e, hl, q⟩ := onS_ex q
    obtain ⟨a, vs, e1, s, z⟩ := itemsA_ok rd hv e
    rcases s with s | s
    · exact .inl ⟨a, vs, e1, s, by rw [← z.length]; exact hl, ds, ρ, M, Q, z, hr, hv, q, k⟩
    · exact .inr ⟨a, vs, e1, s, by rw [← z.length]; exact hl, ds, ρ, M, Q, z, hr, hv, q, k⟩
end
section
variable {X : Cx} {pos : Pos} {a b c e tg : Expr} {te : RE} {st : Stmt} {sts rest : List Stmt} {t u : RS} {tc : RT} {g : RG}
theorem seqS {K : PySem.W.Frag} {ρ : Env'} {σ : L2.St} {M : Ms} {H : Hp} {t : RS} {D : Ends'} {D' : Ends} (hr : RepE K H ρ σ) (hv : View K M H) (h : t D ρ M) (k : LkD K H D D') : cS K t D' σ H := ⟨ρ, M, D, hr, hv, h, k⟩
def aNext : RS := fun D ρ M => D.nx ρ M
def aSeq (t u : RS) : RS := fun D ρ M => t { D with nx := u D } ρ M
theorem next_imp {K : PySem.W.Frag} : ∀ D σ H, cS K aNext D σ H → tNext D σ H := fun D' σ H ⟨ρ, M, D, hr, hv, q, k⟩ => k.nx _ _ _ _ (Tp.refl H) hr hv q
theorem as_pass : AS X (.Pass pos) aNext := ps_imp ps_pass next_imp
theorem ass_nil : ASs X [] aNext := pss_imp pss_nil next_imp
theorem ass_cons (h1 : AS X st t) (h2 : ASs X rest u) : ASs X (st :: rest) (aSeq t u) :=
  pss_imp (pss_cons h1 h2) fun D' σ H ⟨ρ, M, D, hr, hv, q, k⟩ => seqS (D := { D with nx := u D }) hr hv q ⟨fun σ1 H1 ρ1 M1 t1 r1 v1 q1 => seqS r1 v1 q1 (k.up t1), k.rt, k.bk, k.ct⟩
theorem ass_one (h : AS X st t) : ASs X [st] t := pss_one h
def aBrk : RS := fun D ρ M => D.bk ρ M
def aCnt : RS := fun D ρ M => D.ct ρ M
theorem as_brk : AS X (.Break pos) aBrk := ps_imp ps_break fun D' σ H ⟨ρ, M, D, hr, hv, q, k⟩ => k.bk _ _ _ _ (Tp.refl H) hr hv q
theorem as_cnt : AS X (.Continue pos) aCnt := ps_imp ps_continue fun D' σ H ⟨ρ, M, D, hr, hv, q, k⟩ => k.ct _ _ _ _ (Tp.refl H) hr hv q
def aDrop (te : RE) : RS := fun D ρ M => te ρ M fun _ M1 => D.nx ρ M1
theorem as_expr (h : AE X e te) (hs : swapsWith e none pos.line X.env = pure false := by rfl) : AS X (.Expr e pos) (aDrop te) := ps_imp (ps_expr h hs) fun D' σ H ⟨ρ, M, D, hr, hv, q, k⟩ => seqE hr hv q fun v H1 d M1 t1 r1 v1 q1 => k.nx _ _ _ _ t1 (hr.mono t1) v1 q1
def aRet (te : RE) : RS := fun D ρ M => te ρ M D.rt
theorem as_ret (h : AE X e te) : AS X (.Return (some e) pos) (aRet te) := ps_imp (ps_ret h) fun D' σ H ⟨ρ, M, D, hr, hv, q, k⟩ => seqE hr hv q k.rt
def aRetN : RS := fun D _ M => D.rt .non M
theorem as_retN : AS X (.Return none pos) aRetN := ps_imp ps_retN fun D' σ H ⟨ρ, M, D, hr, hv, q, k⟩ => k.rt _ _ _ _ (Tp.refl H) (by simp only [Rep]) hv q
def aIfS (tc : RT) (t u : RS) : RS := fun D ρ M => tc ρ M fun b M1 => onIf b (t D ρ M1) (u D ρ M1)
theorem as_if {as bs : List Stmt} (hc : AT X c tc) (h1 : ASs X as t) (h2 : ASs X bs u) : AS X (.If c as bs pos) (aIfS tc t u) :=
  ps_imp (ps_if hc h1 h2) fun D' σ H ⟨ρ, M, D, hr, hv, q, k⟩ => seqT hr hv q fun b H1 M1 t1 v1 q1 => by
    cases b with
    | true => exact seqS (hr.mono t1) v1 q1 (k.up t1)
    | false => exact seqS (hr.mono t1) v1 q1 (k.up t1)
def aAsg (te : RE) (g : RG) : RS := fun D ρ M => te ρ M fun d M1 => g d ρ M1 D.nx
theorem as_asg (he : AE X e te) (hg : AG X tg g) (hs : swapsWithSole [tg] e pos.line X.env = pure false := by rfl) (hw : swappedStores [tg] e X.env = pure none := by rfl)
    (h1 : (assignEach [tg] X.env).map (·.2) = [assign tg X.env] := by rfl) : AS X (.Assign [tg] e pos) (aAsg te g) :=
  ps_imp (ps_asg he hg hs hw h1) fun D' σ H ⟨ρ, M, D, hr, hv, q, k⟩ => seqE hr hv q fun v H1 d M1 t1 r1 v1 q1 => ⟨d, ρ, M1, D.nx, r1, hr.mono t1, v1, q1, k.nx.up t1⟩
theorem asg_name_imp {K : PySem.W.Frag} {i : Nat} {te' : TE} (h : ∀ σ H Q, cE K te σ H Q → te' σ H Q) : ∀ D σ H, cS K (aAsg te (agName i)) D σ H → tAsg te' (gName i) D σ H := fun D' σ H ⟨ρ, M, D, hr, hv, q, k⟩ =>
  h _ _ _ (seqE hr hv q fun v H1 d M1 t1 r1 v1 q1 => k.nx _ _ _ _ t1 ((hr.mono t1).set i r1) v1 q1)
theorem as_set (i : Nat) {x : Str} {pos' : Pos} (hN : X.N.Nodup) (he : AE X e te) (hi : X.N[i]? = some x := by rfl) (hx : Loc X.env.scope x := by first | exact .inl rfl | exact .inr rfl) (hs : swapsWith e (some (.Name x pos')) pos.line X.env = pure false := by rfl) (hf : X.fn x = true ∨ X.env.scope.names.lookup x = some .local := by first | exact .inl rfl | exact .inr rfl) :
    AS X (.Assign [.Name x pos'] e pos) (aAsg te (agName i)) := ps_imp (ps_set hN hi hx he hs hf) (asg_name_imp fun _ _ _ q => q)
def aPar (i j : Nat) (ta : RA) : RS := fun D ρ M => ta ρ M fun ds M1 => match ds with
  | [d, f] => D.nx ((ρ.set i (some d)).set j (some f)) M1
  | _ => False
theorem as_par (i j : Nat) {x y : Str} {ta : RA} {px py pt : Pos} {kt k2 pt2} (hc : X.calm = true) (hN : X.N.Nodup) (ha : AA X [a, b] ta) (hi : X.N[i]? = some x := by rfl) (hj : X.N[j]? = some y := by rfl) (hij : i ≠ j := by decide)
    (hx : X.env.scope.names.lookup x = some .local := by rfl) (hy : X.env.scope.names.lookup y = some .local := by rfl)
    (hw : swappedStores [.Tuple [.Name x px, .Name y py] kt pt] (.Tuple [a, b] k2 pt2) X.env = pure (some [x, y]) := by rfl)
    (hs : swapsWithSole [.Tuple [.Name x px, .Name y py] kt pt] (.Tuple [a, b] k2 pt2) pos.line X.env = pure false := by rfl) :
    AS X (.Assign [.Tuple [.Name x px, .Name y py] kt pt] (.Tuple [a, b] k2 pt2) pos) (aPar i j ta) :=
  ps_imp (ps_par hc hN hi hj hij hx hy ha hw hs) fun D' σ H ⟨ρ, M, D, hr, hv, q, k⟩ => ⟨ρ, M, _, hr, hv, q, fun vs H1 ds M1 t1 r1 v1 q1 => by
    match ds, r1, q1 with
    | [d, f], r1, q1 =>
      obtain ⟨v, _, e1, z1, r2⟩ := r1.cons_inv
      obtain ⟨w, _, e2, z2, r3⟩ := r2.cons_inv
      have e3 := r3.nil_inv
      subst e1 e2 e3
      exact ⟨v, w, rfl, k.nx _ _ _ _ t1 (((hr.mono t1).set i z1).set j z2) v1 q1⟩⟩
def aWhile (tc : RT) (tb : RS) : RS := fun D ρ M => ∃ W : Nat → Env' → Ms → Prop, (∃ m, W m ρ M) ∧ ∀ m ρ M, W m ρ M → tc ρ M fun b M1 => onIf b (tb { D with nx := wk fun ρ M => ∃ m', m' < m ∧ W m' ρ M, ct := wk fun ρ M => ∃ m', m' < m ∧ W m' ρ M, bk := D.nx } ρ M1) (D.nx ρ M1)
theorem as_while {body : List Stmt} (hp : PassesOwn (model X.prog X.w) X.A X.env X.xe) (hc : AT X c tc) (hb : ASs X body t) : AS X (.While c body [] pos) (aWhile tc t) :=
  ps_imp (ps_while hp hc hb) fun D' σ H h => by
    obtain ⟨ρ, M, D, hr, hv, ⟨W, ⟨m, w0⟩, turn⟩, k⟩ := h
    refine ⟨fun m σ1 H1 => ∃ ρ1 M1, Tp X.K H H1 ∧ RepE X.K H1 ρ1 σ1 ∧ View X.K M1 H1 ∧ W m ρ1 M1, ⟨m, ρ, M, Tp.refl H, hr, hv, w0⟩, ?_⟩
    rintro m σ1 H1 ⟨ρ1, M1, t1, hr1, hv1, w1⟩
    refine seqT hr1 hv1 (turn m ρ1 M1 w1) fun b H2 M2 t2 v2 q2 => ?_
    cases b with
    | false => exact k.nx _ _ _ _ (t1.trans t2) (hr1.mono t2) v2 q2
    | true =>
      refine ⟨fun σ3 H3 => ∃ ρ3 M3, Tp X.K H H3 ∧ RepE X.K H3 ρ3 σ3 ∧ View X.K M3 H3 ∧ ∃ m', m' < m ∧ W m' ρ3 M3, ?_, ?_⟩
      · rintro σ3 H3 ⟨ρ3, M3, t3, r3, v3, m', hm, w3⟩
        exact ⟨m', hm, ρ3, M3, t3, r3, v3, w3⟩
      · exact seqS (hr1.mono t2) v2 q2 ⟨fun σ3 H3 ρ3 M3 t3 r3 v3 ⟨ρ4, M4, se, sm, q3⟩ => ⟨ρ4, M4, (t1.trans t2).trans t3, se.rep r3, v3.sub sm, q3⟩, k.rt.up (t1.trans t2), k.nx.up (t1.trans t2), fun σ3 H3 ρ3 M3 t3 r3 v3 ⟨ρ4, M4, se, sm, q3⟩ => ⟨ρ4, M4, (t1.trans t2).trans t3, se.rep r3, v3.sub sm, q3⟩⟩
end
abbrev RI := Env' → Ms → (List Dv → (Ms → Prop) → Ms → Prop) → Prop
structure IW (K : PySem.W.Frag) (J : It) (ds : List Dv) (keep : Ms → Prop) (H0 : Hp) : Prop where
  go : ∀ i H M, i < ds.length → Tp K H0 H → View K M H → keep M → J.go i H
  stop : ∀ H M, Tp K H0 H → View K M H → keep M → J.stop ds.length H
  yld : ∀ i H M x H', i < ds.length → Tp K H0 H → View K M H → keep M → J.yld i H x H' → ∃ d, ds[i]? = some d ∧ Tp K H H' ∧ Rep K H' d x ∧ View K M H' ∧ (∀ a, H a ≠ none → H' a = H a)
def cI (K : PySem.W.Frag) (ai : RI) : TI := fun σ H R => ∃ ρ M Q, RepE K H ρ σ ∧ View K M H ∧ ai ρ M Q ∧ ∀ J H' ds keep M', Tp K H H' → View K M' H' → Q ds keep M' → IW K J ds keep H' → R J H'
def AI (X : Cx) (tg iter : Expr) (ai : RI) : Prop := PI X tg iter (cI X.K ai)
theorem pi_imp {X : Cx} {tg e : Expr} {t t' : TI} (h : PI X tg e t) (f : ∀ σ H Q, t' σ H Q → t σ H Q) : PI X tg e t' := ⟨fun pins s σ H Q I q => h.run pins s σ H Q I (f _ _ _ q)⟩
def forW0 (keep : Ms → Prop) (g : RG) (tb : RS) (D : Ends') : List Dv → Env' → Ms → Prop
  | [], ρ, M => keep M ∧ D.nx ρ M
  | d :: ds, ρ, M => keep M ∧ ∃ N : Env' → Ms → Prop, (∀ ρ1 M1, N ρ1 M1 → forW0 keep g tb D ds ρ1 M1) ∧ g d ρ M fun ρ1 M1 => tb { D with nx := wk N, ct := wk N, bk := D.nx } ρ1 M1
@[irreducible] def forW (keep : Ms → Prop) (g : RG) (tb : RS) (D : Ends') (ds : List Dv) (ρ : Env') (M : Ms) : Prop := forW0 keep g tb D ds ρ M
theorem forW_eqn {keep : Ms → Prop} {g : RG} {tb : RS} {D : Ends'} {ρ : Env'} {M : Ms} : forW keep g tb D [] ρ M = (keep M ∧ D.nx ρ M) := by unfold forW; rfl
theorem forW_eqc {keep : Ms → Prop} {g : RG} {tb : RS} {D : Ends'} {d : Dv} {ds : List Dv} {ρ : Env'} {M : Ms} : forW keep g tb D (d :: ds) ρ M = (keep M ∧ ∃ N : Env' → Ms → Prop, (∀ ρ1 M1, N ρ1 M1 → forW keep g tb D ds ρ1 M1) ∧ g d ρ M fun ρ1 M1 => tb { D with nx := wk N, ct := wk N, bk := D.nx } ρ1 M1) := by unfold forW; rfl
def aFor (ai : RI) (g : RG) (tb : RS) : RS := fun D ρ M => ai ρ M fun ds keep M1 => forW keep g tb D ds ρ M1
section
variable {X : Cx} {pos : Pos} {tg iter : Expr} {ai : RI} {g : RG} {t : RS}
theorem drop_cons {α : Type} {l : List α} {i : Nat} {d : α} (h : l[i]? = some d) : l.drop i = d :: l.drop (i + 1) := by
  have hl := (List.getElem?_eq_some_iff.mp h).1
  rw [List.drop_eq_getElem_cons hl]
  have : l[i] = d := (List.getElem?_eq_some_iff.mp h).2
  rw [this]
theorem as_for {body : List Stmt} (hp : PassesOwn (model X.prog X.w) X.A X.env X.xe) (hc : X.calm = true) (hi : AI X tg iter ai) (hg : AG X tg g) (hb : ASs X body t)
    (hs : ∀ x, foldedSetIterable iter X.env x = pure x := by intro _; rfl) : AS X (.For tg iter body [] pos) (aFor ai g t) :=
  ps_imp (ps_for hp hc hi hg hb hs) fun D' σ H h => by
    obtain ⟨ρ, M, D, hr, hv, q, k⟩ := h
    refine ⟨ρ, M, _, hr, hv, q, fun J H1 ds keep M1 t1 v1 q1 iw => ?_⟩
    refine ⟨fun i m σ2 H2 => m = ds.length - i ∧ i ≤ ds.length ∧ ∃ ρ2 M2, Tp X.K H1 H2 ∧ RepE X.K H2 ρ2 σ2 ∧ View X.K M2 H2 ∧ forW keep g t D (ds.drop i) ρ2 M2, ⟨ds.length, by simp, Nat.zero_le _, ρ, M1, Tp.refl _, hr.mono t1, v1, by simpa using q1⟩, ?_⟩
    rintro i m σ2 H2 ⟨rfl, hi', ρ2, M2, t2, r2, v2, q2⟩
    by_cases hlt : i < ds.length
    · rw [drop_cons (List.getElem?_eq_getElem hlt), forW_eqc] at q2
      obtain ⟨kp, Nx, hN, q2⟩ := q2
      refine .inr ⟨iw.go i H2 M2 hlt t2 v2 kp, fun σ3 H3 => ∃ ρ3 M3, Tp X.K H1 H3 ∧ RepE X.K H3 ρ3 σ3 ∧ View X.K M3 H3 ∧ Nx ρ3 M3, ?_, ?_⟩
      · rintro σ3 H3 ⟨ρ3, M3, t3, r3, v3, q3⟩
        exact ⟨ds.length - (i + 1), by omega, rfl, hlt, ρ3, M3, t3, r3, v3, hN _ _ q3⟩
      · intro x H3 hy
        obtain ⟨d, hd, t3, rd, v3, _⟩ := iw.yld i H2 M2 x H3 hlt t2 v2 kp hy
        have e : d = ds[i] := by rw [List.getElem?_eq_getElem hlt] at hd; exact (Option.some.inj hd).symm
        subst e
        refine ⟨_, ρ2, M2, _, rd, r2.mono t3, v3, q2, fun σ4 H4 ρ4 M4 t4 r4 v4 q4 => ?_⟩
        have tt := t2.trans (t3.trans t4)
        refine seqS r4 v4 q4 ⟨fun σ5 H5 ρ5 M5 t5 r5 v5 ⟨ρ6, M6, se, sm, q5⟩ => ⟨ρ6, M6, tt.trans t5, se.rep r5, v5.sub sm, q5⟩, k.rt.up (t1.trans tt), k.nx.up (t1.trans tt), fun σ5 H5 ρ5 M5 t5 r5 v5 ⟨ρ6, M6, se, sm, q5⟩ => ⟨ρ6, M6, tt.trans t5, se.rep r5, v5.sub sm, q5⟩⟩
    · have e : i = ds.length := by omega
      subst e
      rw [List.drop_length, forW_eqn] at q2
      exact .inl ⟨iw.stop H2 M2 t2 v2 q2.1, k.nx _ _ _ _ (t1.trans t2) r2 v2 q2.2⟩
theorem forW_inv {keep : Ms → Prop} {D : Ends'} {ds : List Dv} {ρ : Env'} {M : Ms} (P : Nat → Env' → Ms → Prop) (h0 : P 0 ρ M) (hk : ∀ i ρ M, i ≤ ds.length → P i ρ M → keep M)
    (hs : ∀ i d ρ M, ds[i]? = some d → P i ρ M → g d ρ M fun ρ1 M1 => t { D with nx := wk (P (i + 1)), ct := wk (P (i + 1)), bk := D.nx } ρ1 M1) (hd : ∀ ρ M, P ds.length ρ M → D.nx ρ M) : forW keep g t D ds ρ M := by
  have main : ∀ (n i : Nat), i + n = ds.length → ∀ ρ M, P i ρ M → forW keep g t D (ds.drop i) ρ M := by
    intro n
    induction n with
    | zero =>
      intro i hi ρ M p
      have e : i = ds.length := by omega
      subst e
      rw [List.drop_length, forW_eqn]
      exact ⟨hk _ _ _ (Nat.le_refl _) p, hd _ _ p⟩
    | succ n ih =>
      intro i hi ρ M p
      have hlt : i < ds.length := by omega
      rw [drop_cons (List.getElem?_eq_getElem hlt), forW_eqc]
      exact ⟨hk _ _ _ (by omega) p, P (i + 1), fun ρ1 M1 p1 => ih (i + 1) (by omega) ρ1 M1 p1, hs i _ ρ M (List.getElem?_eq_getElem hlt) p⟩
  simpa using main ds.length 0 (by omega) ρ M h0
theorem forW_cons {keep : Ms → Prop} {D : Ends'} {d : Dv} {ds : List Dv} {ρ : Env'} {M : Ms} (hk : keep M) (h : g d ρ M fun ρ1 M1 => t { D with nx := wk (forW keep g t D ds), ct := wk (forW keep g t D ds), bk := D.nx } ρ1 M1) : forW keep g t D (d :: ds) ρ M := by rw [forW_eqc]; exact ⟨hk, _, fun _ _ z => z, h⟩
theorem forW_nil {keep : Ms → Prop} {D : Ends'} {ρ : Env'} {M : Ms} (hk : keep M) (h : D.nx ρ M) : forW keep g t D [] ρ M := by rw [forW_eqn]; exact ⟨hk, h⟩
end
end HC
set_option maxHeartbeats 4000000
namespace HC
open PySem L2
inductive Tg where
  | nm (i : Nat)
  | tp (ts : List Tg)
mutual
def Tg.g (K : PySem.W.Frag) : Tg → TG
  | .nm i => gName i
  | .tp ts => fun v σ H Q => gTup K ts.length (Tg.gs K ts) v σ H Q ∨ gLst K ts.length (Tg.gs K ts) v σ H Q
def Tg.gs (K : PySem.W.Frag) : List Tg → TGs
  | [] => gNil
  | t :: ts => gCons (Tg.g K t) (Tg.gs K ts)
end
mutual
def Tg.put : Tg → Dv → Env' → Ms → Option Env'
  | .nm i, d, ρ, _ => some (ρ.set i (some d))
  | .tp ts, d, ρ, M => match itemsA d M with
    | some ds => Tg.puts ts ds ρ M
    | none => none
def Tg.puts : List Tg → List Dv → Env' → Ms → Option Env'
  | [], [], ρ, _ => some ρ
  | t :: ts, d :: ds, ρ, M => (Tg.put t d ρ M).bind fun ρ1 => Tg.puts ts ds ρ1 M
  | _, _, _, _ => none
end
mutual
def Tg.slots : Tg → List Nat
  | .nm i => [i]
  | .tp ts => Tg.slotss ts
def Tg.slotss : List Tg → List Nat
  | [] => []
  | t :: ts => Tg.slots t ++ Tg.slotss ts
end
theorem wipe_set_not : ∀ {vs : List Nat} {σ : L2.St} {i : Nat} {x : Option V}, i ∉ vs → wipe (σ.set i x) vs = (wipe σ vs).set i x
  | [], _, _, _, _ => rfl
  | v :: vs, σ, i, x, h => by
    have h1 : i ≠ v := fun e => h (by simp [e])
    have h2 : i ∉ vs := fun e => h (by simp [e])
    show (wipe (σ.set i x) vs).set v none = ((wipe σ vs).set v none).set i x
    rw [wipe_set_not h2, List.set_comm _ _ h1]
theorem wipe_set : ∀ {vs : List Nat} {σ : L2.St} {i : Nat} {x : Option V}, i ∈ vs → wipe (σ.set i x) vs = wipe σ vs
  | v :: vs, σ, i, x, h => by
    show (wipe (σ.set i x) vs).set v none = (wipe σ vs).set v none
    by_cases h2 : i ∈ vs
    · rw [wipe_set h2]
    · have e : i = v := by
        rcases List.mem_cons.mp h with e | e
        · exact e
        · exact absurd e h2
      subst e
      rw [wipe_set_not h2, List.set_set]
theorem wipe_wipe {vs : List Nat} {σ : L2.St} : ∀ {ws : List Nat}, (∀ i ∈ ws, i ∈ vs) → wipe (wipe σ ws) vs = wipe σ vs
  | [], _ => rfl
  | w :: ws, h => by
    show wipe ((wipe σ ws).set w none) vs = wipe σ vs
    rw [wipe_set (h w (by simp)), wipe_wipe fun i hi => h i (by simp [hi])]
theorem puts_len {M : Ms} : ∀ {ts : List Tg} {ds : List Dv} {ρ ρ' : Env'}, Tg.puts ts ds ρ M = some ρ' → ds.length = ts.length
  | [], [], _, _, _ => rfl
  | [], d :: ds, _, _, h => by simp [Tg.puts] at h
  | t :: ts, [], _, _, h => by simp [Tg.puts] at h
  | t :: ts, d :: ds, ρ, ρ', h => by
    simp only [Tg.puts] at h
    cases e : Tg.put t d ρ M with
    | none => rw [e] at h; cases h
    | some ρ1 =>
      rw [e] at h
      simp only [Option.bind_some] at h
      simp [puts_len h]
section
variable {K : PySem.W.Frag} {M : Ms} {H : Hp} {vs : List Nat}
mutual
theorem Tg.ok : ∀ {t : Tg} {d : Dv} {v : V} {ρ ρ' : Env'} {σ : L2.St} {Q : L2.St → Hp → Prop}, Rep K H d v → RepE K H ρ σ → View K M H → Tg.put t d ρ M = some ρ' → (∀ i ∈ Tg.slots t, i ∈ vs) → (∀ σ', RepE K H ρ' σ' → wipe σ' vs = wipe σ vs → Q σ' H) → Tg.g K t v σ H Q
  | .nm i, d, v, ρ, ρ', σ, Q, rd, hr, hv, h, hs, k => by
    simp only [Tg.put, Option.some.injEq] at h
    subst h
    simp only [Tg.g, gName]
    exact k _ (hr.set i rd) (wipe_set (hs i (by simp [Tg.slots])))
  | .tp ts, d, v, ρ, ρ', σ, Q, rd, hr, hv, h, hs, k => by
    simp only [Tg.put] at h
    cases e : itemsA d M with
    | none => rw [e] at h; cases h
    | some ds =>
      rw [e] at h
      obtain ⟨a, xs, e1, s, z⟩ := itemsA_ok rd hv e
      have main := Tg.oks z hr hv h (fun i hi => hs i (by simpa [Tg.slots] using hi)) k
      simp only [Tg.g]
      rcases s with s | s
      · exact .inl ⟨a, xs, e1, s, by rw [← z.length]; exact main.1, main.2⟩
      · exact .inr ⟨a, xs, e1, s, by rw [← z.length]; exact main.1, main.2⟩
theorem Tg.oks : ∀ {ts : List Tg} {ds : List Dv} {xs : List V} {ρ ρ' : Env'} {σ : L2.St} {Q : L2.St → Hp → Prop}, Reps K H ds xs → RepE K H ρ σ → View K M H → Tg.puts ts ds ρ M = some ρ' → (∀ i ∈ Tg.slotss ts, i ∈ vs) → (∀ σ', RepE K H ρ' σ' → wipe σ' vs = wipe σ vs → Q σ' H) →
    ds.length = ts.length ∧ Tg.gs K ts xs σ H Q
  | [], [], xs, ρ, ρ', σ, Q, rd, hr, hv, h, hs, k => by
    simp only [Tg.puts, Option.some.injEq] at h
    subst h
    refine ⟨rfl, ?_⟩
    simp only [Tg.gs, gNil]
    exact ⟨rd.nil_inv, k _ hr rfl⟩
  | [], d :: ds, _, _, _, _, _, _, _, _, h, _, _ => by simp [Tg.puts] at h
  | t :: ts, [], _, _, _, _, _, _, _, _, h, _, _ => by simp [Tg.puts] at h
  | t :: ts, d :: ds, xs, ρ, ρ', σ, Q, rd, hr, hv, h, hs, k => by
    simp only [Tg.puts] at h
    cases e : Tg.put t d ρ M with
    | none => rw [e] at h; cases h
    | some ρ1 =>
      rw [e] at h
      simp only [Option.bind_some] at h
      obtain ⟨v, r, e1, r1, r2⟩ := rd.cons_inv
      have hs1 : ∀ i ∈ Tg.slots t, i ∈ vs := fun i hi => hs i (by simp [Tg.slotss, hi])
      have hs2 : ∀ i ∈ Tg.slotss ts, i ∈ vs := fun i hi => hs i (by simp [Tg.slotss, hi])
      have hl : ds.length = ts.length := puts_len h
      refine ⟨by simp [hl], ?_⟩
      simp only [Tg.gs, gCons]
      exact ⟨v, r, e1, Tg.ok r1 hr hv e hs1 fun σ1 hr1 w1 => (Tg.oks r2 hr1 hv h hs2 fun σ2 hr2 w2 => k σ2 hr2 (w2.trans w1)).2⟩
end
end
abbrev RTs := RT
def aYes : RT := fun _ M Q => Q true M
def ATs (X : Cx) (ifs : List Expr) (t : RT) : Prop := PTs X ifs (cT X.K t)
theorem pts_imp {X : Cx} {e : List Expr} {t t' : TT} (h : PTs X e t) (f : ∀ σ H Q, t' σ H Q → t σ H Q) : PTs X e t' := ⟨fun pins s σ H Q I q => h.run pins s σ H Q I (f _ _ _ q)⟩
theorem ats_nil {X : Cx} : ATs X [] aYes := pts_imp pts_nil fun σ H Q' ⟨ρ, M, Q, hr, hv, q, k⟩ => k _ _ _ (Tp.refl H) hv q
theorem ats_one {X : Cx} {c : Expr} {t : RT} (h : AT X c t) : ATs X [c] t := pts_one h
def lcT (tg : Tg) (own : List Nat) (tt : RT) (te : RE) (ρ : Env') (D : Addr) (d : Dv) (N : Ms → Prop) (M : Ms) : Prop :=
  ∃ ρ', Tg.put tg d (wipeA ρ own) M = some ρ' ∧ tt ρ' M fun b M2 => onIf b (te ρ' M2 fun y M3 => ∃ acc, M3 D = some (.lst acc) ∧ acc.length < sizeLine ∧ wkM N (mup M3 D (.lst (acc ++ [y])))) (wkM N M2)
def lcW0 (keep : Ms → Prop) (tg : Tg) (own : List Nat) (tt : RT) (te : RE) (ρ : Env') (D : Addr) (Q : Ms → Prop) : List Dv → Ms → Prop
  | [], M => keep M ∧ Q M
  | d :: ds, M => keep M ∧ ∃ N : Ms → Prop, (∀ M1, N M1 → lcW0 keep tg own tt te ρ D Q ds M1) ∧ lcT tg own tt te ρ D d N M
@[irreducible] def lcW (keep : Ms → Prop) (tg : Tg) (own : List Nat) (tt : RT) (te : RE) (ρ : Env') (D : Addr) (Q : Ms → Prop) (ds : List Dv) (M : Ms) : Prop := lcW0 keep tg own tt te ρ D Q ds M
theorem lcW_eqn {keep : Ms → Prop} {tg : Tg} {own : List Nat} {tt : RT} {te : RE} {ρ : Env'} {D : Addr} {Q : Ms → Prop} {M : Ms} : lcW keep tg own tt te ρ D Q [] M = (keep M ∧ Q M) := by unfold lcW; rfl
theorem lcW_eqc {keep : Ms → Prop} {tg : Tg} {own : List Nat} {tt : RT} {te : RE} {ρ : Env'} {D : Addr} {Q : Ms → Prop} {d : Dv} {ds : List Dv} {M : Ms} : lcW keep tg own tt te ρ D Q (d :: ds) M = (keep M ∧ ∃ N : Ms → Prop, (∀ M1, N M1 → lcW keep tg own tt te ρ D Q ds M1) ∧ lcT tg own tt te ρ D d N M) := by unfold lcW; rfl
def aLc (ai : RI) (tg : Tg) (own : List Nat) (tt : RT) (te : RE) : RE := fun ρ M Q => ai ρ M fun ds keep M1 => ∀ D, M1 D = none → lcW keep tg own tt te ρ D (Q (.ref D)) ds (mup M1 D (.lst []))
section
variable {X : Cx} {pos : Pos} {target iter elt : Expr} {ifs : List Expr} {ai : RI} {tt : RT} {te : RE}
theorem lc_imp {K : PySem.W.Frag} {tg : Tg} {own : List Nat} (hsl : ∀ i ∈ Tg.slots tg, i ∈ own) : ∀ σ H Q, cE K (aLc ai tg own tt te) σ H Q → tLc (cI K ai) (Tg.g K tg) (cT K tt) (cE K te) own σ H Q := fun σ H Q' h => by
  obtain ⟨ρ, M, Q, hr, hv, q, k⟩ := h
  refine ⟨ρ, M, _, hr, hv, q, fun J H1 ds keep M1 t1 v1 q1 iw D hD => ?_⟩
  have q2 := q1 D (v1.free hD)
  have tD : Tp K H1 (upd H1 D (.lst [])) := Tp.new hD
  refine ⟨fun i m H2 => m = ds.length - i ∧ i ≤ ds.length ∧ ∃ M2, Tp K H1 H2 ∧ View K M2 H2 ∧ lcW keep tg own tt te ρ D (Q (.ref D)) (ds.drop i) M2, ⟨ds.length, by simp, Nat.zero_le _, _, tD, v1.put (c := .lst []) (by rw [hD]; trivial) ⟨[], upd_same, Reps.nil⟩, by simpa using q2⟩, ?_⟩
  rintro i m H2 ⟨rfl, hi', M2, t2, v2, w2⟩
  by_cases hlt : i < ds.length
  · rw [drop_cons (List.getElem?_eq_getElem hlt), lcW_eqc] at w2
    obtain ⟨kp, Nx, hN, w2⟩ := w2
    refine .inr ⟨iw.go i H2 M2 hlt t2 v2 kp, fun H3 => ∃ M3, Tp K H1 H3 ∧ View K M3 H3 ∧ Nx M3, ?_, ?_⟩
    · rintro H3 ⟨M3, t3, v3, n3⟩
      exact ⟨ds.length - (i + 1), by omega, rfl, hlt, M3, t3, v3, hN _ n3⟩
    · intro x H3 hy
      obtain ⟨d, hd, t3, rd, v3, _⟩ := iw.yld i H2 M2 x H3 hlt t2 v2 kp hy
      have e : d = ds[i] := by rw [List.getElem?_eq_getElem hlt] at hd; exact (Option.some.inj hd).symm
      subst e
      obtain ⟨ρ', hput, w3⟩ := w2
      have tt3 : Tp K H1 H3 := t2.trans t3
      refine Tg.ok rd ((hr.mono (t1.trans tt3)).wipe own) v3 hput hsl fun σ3 hr3 hw => ⟨hw.trans (wipe_wipe fun _ z => z), ?_⟩
      refine seqT hr3 v3 w3 fun b H4 M4 t4 v4 w4 => ?_
      cases b with
      | false =>
        obtain ⟨M6, sm, w4⟩ := w4
        exact ⟨M6, tt3.trans t4, v4.sub sm, w4⟩
      | true =>
        refine seqE (hr3.mono t4) v4 w4 fun y H5 dy M5 t5 r5 v5 w5 => ?_
        obtain ⟨acc, ha, hz, M6, sm, n5⟩ := w5
        obtain ⟨vs, e5, z5⟩ := v5 D _ ha
        refine ⟨vs, e5, by rw [← z5.length]; exact hz, M6, ((tt3.trans t4).trans t5).trans (Tp.put (v5.soft ha)), View.sub (M' := mup M5 D (.lst (acc ++ [dy]))) (v5.put (c := .lst (acc ++ [dy])) (v5.soft ha) ⟨vs ++ [y], upd_same, ?_⟩) sm, n5⟩
        exact ((z5.append (Reps.cons r5 Reps.nil)).mono (Tp.put (v5.soft ha)))
  · have e : i = ds.length := by omega
    subst e
    rw [List.drop_length, lcW_eqn] at w2
    exact .inl ⟨iw.stop H2 M2 t2 v2 w2.1, k _ _ _ _ (t1.trans t2) (by simp only [Rep]) v2 w2.2⟩
theorem ae_lc {own : List (Str × Nat)} {tg : Tg} {scope : Scope} (hsl : ∀ i ∈ Tg.slots tg, i ∈ own.map (·.2)) (hc : X.calm = true) (hN : X.N.Nodup) (hi : AI X target iter ai) (ok : BlkOk X.N X.env.scope scope own)
    (hg : ∀ (s : Shared) (H : Hp) (C : Addr) (cl : List (Str × Addr)) (fp : List Addr), PG (X.blk s H scope (compEnvC scope cl C X.env) fp) target (Tg.g X.K tg)) (ht : ∀ (s : Shared) (H : Hp) (C : Addr) (cl : List (Str × Addr)) (fp : List Addr), ATs (X.blk s H scope (compEnvC scope cl C X.env) fp) ifs tt)
    (he : ∀ (s : Shared) (H : Hp) (C : Addr) (cl : List (Str × Addr)) (fp : List Addr), AE (X.blk s H scope (compEnvC scope cl C X.env) fp) elt te) (hs : ∀ x, foldedSetIterable iter X.env x = pure x := by intro _; rfl) :
    AE X (.ListComp elt [⟨target, iter, ifs, 0⟩] scope pos) (aLc ai tg (own.map (·.2)) tt te) := pe_imp (pe_lc (tt := cT X.K tt) (te := cE X.K te) hc hN hi ok hg ht he hs) (lc_imp hsl)
theorem as_setLc (i : Nat) {y : Str} {py spos : Pos} {own : List (Str × Nat)} {tg : Tg} {scope : Scope} (hsl : ∀ i ∈ Tg.slots tg, i ∈ own.map (·.2)) (hc : X.calm = true) (hN : X.N.Nodup) (hy : X.N[i]? = some y) (hyl : X.env.scope.names.lookup y = some .local)
    (hsw : swapsWith (.ListComp elt [⟨target, iter, ifs, 0⟩] scope pos) (some (.Name y py)) spos.line X.env = pure true) (hi : AI X target iter ai) (ok : BlkOk X.N X.env.scope scope own)
    (hg : ∀ (s : Shared) (H : Hp) (C : Addr) (cl : List (Str × Addr)) (fp : List Addr), PG (X.blk s H scope (compEnvC scope cl C X.env) fp) target (Tg.g X.K tg)) (ht : ∀ (s : Shared) (H : Hp) (C : Addr) (cl : List (Str × Addr)) (fp : List Addr), ATs (X.blk s H scope (compEnvC scope cl C X.env) fp) ifs tt)
    (he : ∀ (s : Shared) (H : Hp) (C : Addr) (cl : List (Str × Addr)) (fp : List Addr), AE (X.blk s H scope (compEnvC scope cl C X.env) fp) elt te) (hs : ∀ x, foldedSetIterable iter X.env x = pure x := by intro _; rfl) :
    AS X (.Assign [.Name y py] (.ListComp elt [⟨target, iter, ifs, 0⟩] scope pos) spos) (aAsg (aLc ai tg (own.map (·.2)) tt te) (agName i)) := ps_imp (ps_setLc (tt := cT X.K tt) (te := cE X.K te) hc hN hy hyl hsw hi ok hg ht he hs) (asg_name_imp (lc_imp hsl))
end
end HC
set_option maxHeartbeats 4000000
namespace HC
open PySem L2 PyProof.Rows
section
variable {X : Cx} {a b c e : Expr} {ta tb tc te : RE} {pos : Pos} {K : PySem.W.Frag}
def isNon : Dv → Bool
  | .non => true
  | _ => false
theorem isNon_ok {H : Hp} {d : Dv} {v : V} (r : Rep K H d v) : decide (v = .non) = isNon d := by
  cases d with
  | non => rw [rep_non_inv r]; rfl
  | bl _ => rw [rep_bl_inv r]; rfl
  | int _ => rw [rep_int_inv r]; rfl
  | str _ => rw [rep_str_inv r]; rfl
  | ref _ => rw [rep_ref_inv r]; rfl
  | ty _ => rw [rep_ty_inv r]; rfl
  | tup _ => obtain ⟨a, vs, e, _⟩ := rep_tup_inv r; rw [e]; rfl
  | rol _ => obtain ⟨a, vs, e, _⟩ := rep_rol_inv r; rw [e]; rfl
def aIsB (x y : Dv) (Q : Bool → Prop) : Prop := match y with
  | .non => Q (isNon x)
  | .bl b => match x with | .bl a => Q (a == b) | _ => False
  | _ => False
def aIs : AR2 := fun x y M Q => aIsB x y fun b => Q (.bl b) M
def aIsNot : AR2 := fun x y M Q => aIsB x y fun b => Q (.bl (!b)) M
def rIsH : R2 := fun x y H Q => (y = .non ∧ Q (.bl (decide (x = .non))) H) ∨ (∃ a b, x = .bl a ∧ y = .bl b ∧ Q (.bl (decide (a = b))) H)
def rIsNotH : R2 := fun x y H Q => (y = .non ∧ Q (.bl (!decide (x = .non))) H) ∨ (∃ a b, x = .bl a ∧ y = .bl b ∧ Q (.bl (!decide (a = b))) H)
theorem ab_is : Ab2 K rIsH aIs := by
  intro H M x y dx dy Q Q' rx ry hv q k
  cases dy <;> first | exact q.elim | skip
  case non => exact .inl ⟨rep_non_inv ry, by rw [isNon_ok rx]; exact k _ _ _ _ (Tp.refl H) rep_bl hv q⟩
  case bl b =>
    cases dx <;> first | exact q.elim | skip
    case bl a =>
      refine .inr ⟨a, b, rep_bl_inv rx, rep_bl_inv ry, ?_⟩
      have e : decide (a = b) = (a == b) := by cases a <;> cases b <;> rfl
      rw [e]
      exact k _ _ _ _ (Tp.refl H) rep_bl hv q
theorem ab_isnot : Ab2 K rIsNotH aIsNot := by
  intro H M x y dx dy Q Q' rx ry hv q k
  cases dy <;> first | exact q.elim | skip
  case non => exact .inl ⟨rep_non_inv ry, by rw [isNon_ok rx]; exact k _ _ _ _ (Tp.refl H) rep_bl hv q⟩
  case bl b =>
    cases dx <;> first | exact q.elim | skip
    case bl a =>
      refine .inr ⟨a, b, rep_bl_inv rx, rep_bl_inv ry, ?_⟩
      have e : decide (a = b) = (a == b) := by cases a <;> cases b <;> rfl
      rw [e]
      exact k _ _ _ _ (Tp.refl H) rep_bl hv q
theorem op_isH : OpR X (compareOp .Is) rIsH := opr_or op_isN op_is_bl
theorem op_isnotH : OpR X (compareOp .IsNot) rIsNotH := opr_or op_notN op_isnot_bl
theorem ae_is (ha : AE X a ta) (hb : AE X b tb) : AE X (.Compare a [.Is] [b] pos) (aOp aIs ta tb) := ae_cmp op_isH ab_is ha hb (nomark _)
theorem ae_isnot (ha : AE X a ta) (hb : AE X b tb) : AE X (.Compare a [.IsNot] [b] pos) (aOp aIsNot ta tb) := ae_cmp op_isnotH ab_isnot ha hb (nomark _)
theorem at_is (ha : AE X a ta) (hb : AE X b tb) : AT X (.Compare a [.Is] [b] pos) (aB (aOp aIs ta tb)) := at_cmp op_isH ab_is ha hb (nomark _)
theorem at_isnot (ha : AE X a ta) (hb : AE X b tb) : AT X (.Compare a [.IsNot] [b] pos) (aB (aOp aIsNot ta tb)) := at_cmp op_isnotH ab_isnot ha hb (nomark _)
def aChain (r r' : AR2) (ta tb tc : RE) : RE := fun ρ M Q => ta ρ M fun x M1 => tb ρ M1 fun y M2 => r x y M2 fun z M3 => onB z fun k => onIf k (tc ρ M3 fun w M4 => r' y w M4 Q) (Q (.bl false) M3)
theorem chain_imp {r r' : R2} {ar ar' : AR2} (h : Ab2 K r ar) (h' : Ab2 K r' ar') : ∀ σ H Q, cE K (aChain ar ar' ta tb tc) σ H Q → tChain r r' (cE K ta) (cE K tb) (cE K tc) σ H Q := fun σ H Q' ⟨ρ, M, Q, hr, hv, q, k⟩ =>
  seqE hr hv q fun v H1 d M1 t1 r1 v1 q1 => seqE (hr.mono t1) v1 q1 fun v2 H2 d2 M2 t2 r2 v2' q2 => h H2 M2 v v2 d d2 _ _ (r1.mono t2) r2 v2' q2 fun z H3 dz M3 t3 r3 v3 q3 => by
    obtain ⟨kk, e, q3⟩ := onB_ex q3
    subst e
    refine ⟨kk, rep_bl_inv r3, ?_⟩
    have t23 := t1.trans (t2.trans t3)
    cases kk with
    | false => exact k _ _ _ _ t23 rep_bl v3 q3
    | true => exact seqE (hr.mono t23) v3 q3 fun w H4 dw M4 t4 r4 v4 q4 => h' H4 M4 _ _ _ _ Q Q' (r2.mono (t3.trans t4)) r4 v4 q4 (k.up (t23.trans t4))
theorem ae_chain {op op' : CmpOp} {r r' : R2} {ar ar' : AR2} (ho : OpR X (compareOp op) r) (ho' : OpR X (compareOp op') r') (h : Ab2 X.K r ar) (h' : Ab2 X.K r' ar') (ha : AE X a ta) (hb : AE X b tb) (hc : AE X c tc)
    (p : ∀ {r r' : R2} {ta tb tc : TE}, OpR X (compareOp op) r → OpR X (compareOp op') r' → PE X a ta → PE X b tb → PE X c tc → PE X (.Compare a [op, op'] [b, c] pos) (tChain r r' ta tb tc)) : AE X (.Compare a [op, op'] [b, c] pos) (aChain ar ar' ta tb tc) :=
  pe_imp (p ho ho' ha hb hc) (chain_imp h h')
def keyD : Dv → Option Key
  | .int i => some (.inl i)
  | .str x => some (.inr x)
  | _ => none
def keysD : List Dv → Option (List Key)
  | [] => some []
  | d :: ds => (keyD d).bind fun k => (keysD ds).map fun r => k :: r
def getK {κ : Type} [DecidableEq κ] (kvs : List (κ × Dv)) (k : κ) : Option Dv := (kvs.find? fun kv => decide (kv.1 = k)).map (·.2)
def dgetA (M : Ms) (a : Addr) (y : Dv) : Option (Option Dv) := match M a with
  | some (.dic kvs) => (keyD y).map fun k => getK kvs k
  | some (.dit kvs) => match y with | .tup ds => (keysD ds).map fun k => getK kvs k | _ => none
  | _ => none
theorem keyD_ok {H : Hp} {d : Dv} {v : V} {k : Key} (r : Rep K H d v) (h : keyD d = some k) : v = kV k := by
  cases d <;> first | cases h | skip
  case int i => exact rep_int_inv r
  case str x => exact rep_str_inv r
theorem keysD_ok {H : Hp} : ∀ {ds : List Dv} {vs : List V} {ks : List Key}, Reps K H ds vs → keysD ds = some ks → vs = ks.map kV
  | [], _, _, r, h => by cases h; rw [r.nil_inv]; rfl
  | d :: ds, _, ks, r, h => by
    obtain ⟨v, w, rfl, r1, r2⟩ := r.cons_inv
    simp only [keysD] at h
    cases e : keyD d with
    | none => rw [e] at h; cases h
    | some k =>
      rw [e] at h
      cases e2 : keysD ds with
      | none => rw [e2] at h; cases h
      | some r' =>
        rw [e2] at h
        simp only [Option.bind_some, Option.map_some, Option.some.injEq] at h
        subst h
        rw [keyD_ok r1 e, keysD_ok r2 e2]; rfl
theorem getK_ok {κ : Type} [DecidableEq κ] {H : Hp} : ∀ {kds : List (κ × Dv)} {kvs : List (κ × V)} {k : κ}, Paired (fun (p : κ × Dv) (q : κ × V) => p.1 = q.1 ∧ Rep K H p.2 q.2) kds kvs →
    (getK kds k = none ∧ valV kvs k = none) ∨ ∃ d v, getK kds k = some d ∧ valV kvs k = some v ∧ Rep K H d v
  | _, _, _, .nil => .inl ⟨rfl, rfl⟩
  | (k1, d) :: kds, (k2, v) :: kvs, k, .cons ⟨e, r⟩ t => by
    have e' : k1 = k2 := e
    subst e'
    by_cases h : k1 = k
    · refine .inr ⟨d, v, ?_, ?_, r⟩
      · simp [getK, h]
      · simp [valV, h]
    · rcases getK_ok (k := k) t with ⟨h1, h2⟩ | ⟨d', v', h1, h2, h3⟩
      · refine .inl ⟨?_, ?_⟩
        · simp only [getK, List.find?_cons, h, decide_false]; exact h1
        · simp only [valV, List.find?_cons, h, decide_false]; exact h2
      · refine .inr ⟨d', v', ?_, ?_, h3⟩
        · simp only [getK, List.find?_cons, h, decide_false]; exact h1
        · simp only [valV, List.find?_cons, h, decide_false]; exact h2
theorem ix_dict (hu : X.A.units + 1 < cLine) : IxR X (fun x y H Q => ∃ a v, x = .ref a ∧ DGet H a y (some v) ∧ Q v H) := by
  intro value slice pins s σ H x y v u Q I rx ry h hs
  obtain ⟨a, w, rfl, g, q⟩ := h
  obtain rfl : v = Value.ref a := rx
  have hT := dict_typeIs I g
  unfold subscriptTail
  refine wpAny_bind ?_
  rw [getitemInPython_of_ne hT.not_modules]
  refine wpAny_bind (wpAny_specialOf hT PySem.F.slot_dict_getitem.lookup ?_)
  have fin : wpAny (model X.prog X.w) X.A (subscripted slice false (.ref a) u) (fun r s₃ => wpAny (model X.prog X.w) X.A (letTemporaryGo value (.ref a) r >>= fun _ => pure r) (EP X pins σ Q) X.xe s₃) X.xe s := by
    rw [hs]
    exact wpAny_operating (wpAny_mono (d_getItem hu I g ry fun w' s3 I3 rw' => (⟨w, H, I3, rw', q⟩ : EP X pins σ Q w' s3)) (fun r s₃ h₃ => wpAny_bind (wpAny_letTemporaryGo (wpAny_pure h₃))) fun _ _ x => x)
  first
    | exact wpAny_pure (wpAny_bind fin)
    | exact wpAny_bind (wpAny_pure (wpAny_bind fin))
    | exact wpAny_bind fin
def rIxH (K : PySem.W.Frag) : R2 := fun x y H Q => rIx K x y H Q ∨ (∃ a v, x = .ref a ∧ DGet H a y (some v) ∧ Q v H)
theorem ix_H (hu : X.A.units + 1 < cLine) : IxR X (rIxH X.K) := IxR.or ix_seq (ix_dict hu)
def aIx : AR2 := fun x y M Q => match x with
  | .tup xs => onI y fun i => onS (atI xs i) fun d => Q d M
  | .rol xs => onI y fun i => onS (atI xs i) fun d => Q d M
  | .str z => onI y fun i => z.length ≤ sizeLine ∧ onS (atI z.cps.toList i) fun c => Q (.str ⟨#[c]⟩) M
  | .ref a => match M a with
    | some (.lst xs) => onI y fun i => onS (atI xs i) fun d => Q d M
    | some (.dic kvs) => onS (keyD y) fun k => onS (getK kvs k) fun d => Q d M
    | _ => False
  | _ => False
theorem atI_rep {H : Hp} {ds : List Dv} {vs : List V} {i : Int} {d : Dv} (r : Reps K H ds vs) (h : atI ds i = some d) : ∃ v, atI vs i = some v ∧ Rep K H d v := by
  unfold atI at h ⊢
  rw [r.length] at h
  cases e : ixN vs.length i with
  | none => rw [e] at h; cases h
  | some j =>
    rw [e] at h
    simp only [Option.bind_some] at h ⊢
    exact r.get h
theorem ab_ix : Ab2 K (rIxH K) aIx := by
  intro H M x y dx dy Q Q' rx ry hv q k
  cases dx <;> first | exact q.elim | skip
  case tup xs =>
    obtain ⟨i, e, q4⟩ := onI_ex q
    obtain ⟨d, h, q5⟩ := onS_ex q4
    subst e
    obtain ⟨a, vs, e1, s, r⟩ := rep_tup_inv rx
    obtain ⟨v, h1, h2⟩ := atI_rep r h
    exact .inl (.inr (.inl ⟨a, vs, i, v, e1, rep_int_inv ry, s, h1, k _ _ _ _ (Tp.refl H) h2 hv q5⟩))
  case rol xs =>
    obtain ⟨i, e, q4⟩ := onI_ex q
    obtain ⟨d, h, q5⟩ := onS_ex q4
    subst e
    obtain ⟨a, vs, e1, s, r⟩ := rep_rol_inv rx
    obtain ⟨v, h1, h2⟩ := atI_rep r h
    exact .inl (.inl ⟨a, vs, i, v, e1, rep_int_inv ry, s.l, h1, k _ _ _ _ (Tp.refl H) h2 hv q5⟩)
  case str z =>
    obtain ⟨i, e, hl, q4⟩ := onI_ex q
    obtain ⟨c, h, q5⟩ := onS_ex q4
    subst e
    exact .inl (.inr (.inr ⟨z, i, c, rep_str_inv rx, rep_int_inv ry, hl, h, k _ _ _ _ (Tp.refl H) rep_str hv q5⟩))
  case ref a =>
    simp only [aIx] at q
    split at q
    · next xs e =>
      obtain ⟨i, e1, q4⟩ := onI_ex q
      obtain ⟨d, h, q5⟩ := onS_ex q4
      subst e1
      obtain ⟨vs, e2, r⟩ := view_lst hv e
      obtain ⟨v, h1, h2⟩ := atI_rep r h
      exact .inl (.inl ⟨a, vs, i, v, rep_ref_inv rx, rep_int_inv ry, .inl (.inl e2), h1, k _ _ _ _ (Tp.refl H) h2 hv q5⟩)
    · next kvs e =>
      obtain ⟨kk, e1, q⟩ := onS_ex q
      obtain ⟨d, h, q⟩ := onS_ex q
      obtain ⟨vs, e2, r⟩ := (show ∃ kvs', H a = some (.dK kvs') ∧ Paired (fun (p : Key × Dv) (q : Key × V) => p.1 = q.1 ∧ Rep K H p.2 q.2) kvs kvs' from hv a _ e)
      rcases getK_ok (k := kk) r with ⟨h1, _⟩ | ⟨d', v, h1, h2, h3⟩
      · rw [h1] at h; cases h
      · rw [h1] at h; cases h
        exact .inr ⟨a, v, rep_ref_inv rx, .inl ⟨vs, kk, .inl e2, keyD_ok ry e1, h2.symm⟩, k _ _ _ _ (Tp.refl H) h3 hv q⟩
    · exact q.elim
theorem ae_ix (hu : X.A.units + 1 < cLine) (ha : AE X a ta) (hb : AE X b tb) (hs : PlainIx b := by exact fun _ _ => rfl) : AE X (.Subscript a b pos) (aOp aIx ta tb) := pe_imp (pe_ix (ix_H hu) ha hb hs) (aop_imp ab_ix)
abbrev RO := Env' → Ms → (Option Int → Ms → Prop) → Prop
def cO (K : PySem.W.Frag) (t : RO) : TO := fun σ H Q' => ∃ ρ M Q, RepE K H ρ σ ∧ View K M H ∧ t ρ M Q ∧ ∀ o H' M', Tp K H H' → View K M' H' → Q o M' → Q' o H'
def AO (X : Cx) (e : Option Expr) (t : RO) : Prop := PO X e (cO X.K t)
theorem po_imp {e : Option Expr} {t t' : TO} (h : PO X e t) (f : ∀ σ H Q, t' σ H Q → t σ H Q) : PO X e t' := ⟨fun pins s σ H Q I q => h.run pins s σ H Q I (f _ _ _ q)⟩
def aoN : RO := fun _ M Q => Q none M
def aoS (t : RE) : RO := fun ρ M Q => t ρ M fun d M1 => onI d fun i => Q (some i) M1
theorem ao_none : AO X none aoN := po_imp po_none fun σ H Q' ⟨ρ, M, Q, hr, hv, q, k⟩ => k _ _ _ (Tp.refl H) hv q
theorem ao_some (h : AE X e te) : AO X (some e) (aoS te) := po_imp (po_some h) fun σ H Q' ⟨ρ, M, Q, hr, hv, q, k⟩ => seqE hr hv q fun v H1 d M1 t1 r1 v1 q1 => by
  obtain ⟨i, e, q1⟩ := onI_ex q1
  subst e
  exact ⟨i, rep_int_inv r1, k _ _ _ t1 v1 q1⟩
def cutA (xs : List Dv) (lo hi : Option Int) : List Dv := (xs.drop (HT.sIx xs.length 0 lo)).take (HT.sIx xs.length xs.length hi - HT.sIx xs.length 0 lo)
def lstC : Option Cell → Option (List Dv)
  | some (.lst xs) => some xs
  | _ => none
theorem lstC_eq {o : Option Cell} {xs : List Dv} (h : lstC o = some xs) : o = some (.lst xs) := by
  cases o with
  | none => cases h
  | some c => cases c <;> first | (cases h; done) | (cases h; rfl)
abbrev ASl := Dv → Option Int → Option Int → Ms → DK → Prop
def aSl (te : RE) (tl th : RO) : RE := fun ρ M Q => te ρ M fun x M1 => tl ρ M1 fun lo M2 => th ρ M2 fun hi M3 => match x with
  | .tup xs => Q (.tup (cutA xs lo hi)) M3
  | .str z => z.length ≤ sizeLine ∧ Q (.str (cutS z lo hi)) M3
  | .rol xs => ∀ p, M3 p = none → Q (.ref p) (mup M3 p (.lst (cutA xs lo hi)))
  | .ref a => onS (lstC (M3 a)) fun xs => ∀ p, M3 p = none → Q (.ref p) (mup M3 p (.lst (cutA xs lo hi)))
  | _ => False
theorem cutA_rep {H : Hp} {ds : List Dv} {vs : List V} (r : Reps K H ds vs) (lo hi : Option Int) : Reps K H (cutA ds lo hi) (cutV vs lo hi) := by
  unfold cutA cutV
  rw [r.length]
  exact (r.drop _).take _
theorem ae_slice {tl th : RO} {lo hi : Option Expr} {p2 : Pos} (he : AE X e te) (hl : AO X lo tl) (hh : AO X hi th) : AE X (.Subscript e (.Slice lo hi none p2) pos) (aSl te tl th) :=
  pe_imp (pe_slice (SlR.or sl_list (SlR.or sl_tupA sl_str)) he hl hh) fun σ H Q' h => by
    obtain ⟨ρ, M, Q, hr, hv, q, k⟩ := h
    refine seqE hr hv q fun v H1 d M1 t1 r1 v1 q1 => ?_
    refine ⟨ρ, M1, _, hr.mono t1, v1, q1, fun lo H2 M2 t2 v2 q2 => ⟨ρ, M2, _, hr.mono (t1.trans t2), v2, q2, fun hi H3 M3 t3 v3 q3 => ?_⟩⟩
    have rd := r1.mono (t2.trans t3)
    have k3 := k.up (t1.trans (t2.trans t3))
    cases d <;> first | exact q3.elim | skip
    case tup xs =>
      obtain ⟨a, vs, e, s, r⟩ := rep_tup_inv' rd
      refine .inr (.inl ⟨a, vs, e, TupA.s s, fun hw => k3 _ _ _ _ (Tp.refl H3) (rep_tup s ?_) v3 q3, fun _ => end_tup (cutA_rep r lo hi) v3 q3 k3⟩)
      have l := r.length
      unfold cutA
      rw [l, hw.1, hw.2]
      simpa [← l] using r
    case str z => exact .inr (.inr ⟨z, rep_str_inv rd, q3.1, k3 _ _ _ _ (Tp.refl H3) rep_str v3 q3.2⟩)
    case rol xs =>
      obtain ⟨a, vs, e, s, r⟩ := rep_rol_inv rd
      exact .inl ⟨a, vs, e, s.l, end_lst (cutA_rep r lo hi) v3 q3 k3⟩
    case ref a =>
      obtain ⟨xs, h1, q4⟩ := onS_ex q3
      replace h1 := lstC_eq h1
      obtain ⟨vs, e, r⟩ := view_lst v3 h1
      exact .inl ⟨a, vs, rep_ref_inv rd, .inl (.inl e), end_lst (cutA_rep r lo hi) v3 q4 k3⟩
abbrev ARC := List Dv → Ms → DK → Prop
def AbC (K : PySem.W.Frag) (r : List V → Hp → VK → Prop) (ar : ARC) : Prop := ∀ H M vs ds Q Q', Reps K H ds vs → View K M H → ar ds M Q → LkV K H Q Q' → r vs H Q'
def aFn (ar : ARC) (t : RA) : RE := fun ρ M Q => t ρ M fun ds M1 => ar ds M1 Q
variable {x : Str} {bid T : String} {r : List V → Hp → VK → Prop} {ar : ARC} {p : Pos} {es : List Expr} {t : RA}
theorem afn_imp (h : AbC K r ar) : ∀ σ H Q, cE K (aFn ar t) σ H Q → tCB r (cA K t) σ H Q := fun σ H Q' ⟨ρ, M, Q, hr, hv, q, k⟩ =>
  seqA hr hv q fun vs H1 ds M1 t1 r1 v1 q1 => h H1 M1 vs ds Q Q' r1 v1 q1 (k.up t1)
theorem ae_callB (hc : CallR X (.builtin bid) r) (h : AbC X.K r ar) (ha : AA X (e :: es) t) (hm : X.mg x = none) (hv : bootBuiltins x = some (.builtin bid)) (hg : Gl X x := by rfl) (hn : x ≠ "__name__" := by decide) (hdb : (x == ("__debug__" : Str)) = false := by decide)
    (he : starEach (e :: es) X.env = (false, eval e X.env) :: starEach es X.env := by rfl) (hpl : (backTo pos (starEach es X.env)).any (·.1) = false := by rfl) : AE X (.Call (.Name x p) (e :: es) [] pos) (aFn ar t) := pe_imp (pe_callB hc hg hm hv ha hn hdb he hpl) (afn_imp h)
theorem ae_callTy (hc : CallR X (.type T) r) (h : AbC X.K r ar) (ha : AA X (e :: es) t) (hm : X.mg x = none) (hv : bootBuiltins x = some (.type T)) (hg : Gl X x := by rfl) (hn : x ≠ "__name__" := by decide) (hdb : (x == ("__debug__" : Str)) = false := by decide)
    (he : starEach (e :: es) X.env = (false, eval e X.env) :: starEach es X.env := by rfl) (hpl : (backTo pos (starEach es X.env)).any (·.1) = false := by rfl) : AE X (.Call (.Name x p) (e :: es) [] pos) (aFn ar t) := pe_imp (pe_callTy hc hg hm hv ha hn hdb he hpl) (afn_imp h)
theorem callr_or {f : Value} {r r' : List V → Hp → VK → Prop} (h : CallR X f r) (h' : CallR X f r') : CallR X f (fun xs H Q => r xs H Q ∨ r' xs H Q) := CallR.or h h'
theorem reps1 {H : Hp} {d : Dv} {vs : List V} (h : Reps K H [d] vs) : ∃ v, vs = [v] ∧ Rep K H d v := by
  obtain ⟨v, r, e, h1, h2⟩ := h.cons_inv
  rw [h2.nil_inv] at e
  exact ⟨v, e, h1⟩
theorem reps2 {H : Hp} {d d' : Dv} {vs : List V} (h : Reps K H [d, d'] vs) : ∃ v v', vs = [v, v'] ∧ Rep K H d v ∧ Rep K H d' v' := by
  obtain ⟨v, r, e, h1, h2⟩ := h.cons_inv
  obtain ⟨v', e', h3⟩ := reps1 h2
  rw [e'] at e
  exact ⟨v, v', e, h1, h3⟩
def lenA (d : Dv) (M : Ms) : Option Nat := match d with
  | .str z => some z.length
  | d => (itemsA d M).map List.length
def acLen : ARC := fun ds M Q => match ds with
  | [d] => onS (lenA d M) fun n => (match d with | .str z => z.length ≤ sizeLine | _ => True) ∧ Q (.int (n : Int)) M
  | _ => False
theorem abc_len : AbC K (fun xs H Q => ∃ x n, xs = [x] ∧ LenV K x H n ∧ Q (.int n) H) acLen := by
  intro H M vs ds Q Q' r hv q k
  match ds, q with
  | [d], q =>
    obtain ⟨n, h, hz, q⟩ := onS_ex q
    obtain ⟨v, e, rd⟩ := reps1 r
    refine ⟨v, n, e, ?_, k _ _ _ _ (Tp.refl H) rep_int hv q⟩
    cases d with
    | str z =>
      rw [rep_str_inv rd]
      cases h
      exact ⟨hz, rfl⟩
    | tup xs =>
      obtain ⟨a, ws, e1, s, z⟩ := rep_tup_inv rd
      rw [e1]
      cases h
      exact .inr ⟨ws, s, z.length⟩
    | rol xs =>
      obtain ⟨a, ws, e1, s, z⟩ := rep_rol_inv rd
      rw [e1]
      cases h
      exact .inl ⟨ws, s.l, z.length⟩
    | ref a =>
      rw [rep_ref_inv rd]
      simp only [lenA, itemsA] at h
      cases e1 : M a with
      | none => rw [e1] at h; cases h
      | some c =>
        rw [e1] at h
        cases c with
        | lst xs =>
          obtain ⟨ws, e2, z⟩ := view_lst hv e1
          cases h
          exact .inl ⟨ws, .inl (.inl e2), z.length⟩
        | dic _ => cases h
        | dit _ => cases h
    | non => cases h
    | bl _ => cases h
    | int _ => cases h
    | ty _ => cases h
def acAbs : ARC := fun ds M Q => match ds with | [.int i] => Q (.int (if i < 0 then -i else i)) M | _ => False
theorem abc_abs : AbC K (fun xs H Q => ∃ i, xs = [.int i] ∧ Q (.int (if i < 0 then -i else i)) H) acAbs := by
  intro H M vs ds Q Q' r hv q k
  match ds, q with
  | [.int i], q =>
    obtain ⟨v, e, rd⟩ := reps1 r
    exact ⟨i, by rw [e, rep_int_inv rd], k _ _ _ _ (Tp.refl H) rep_int hv q⟩
def acInt : ARC := fun ds M Q => match ds with | [.int i] => Q (.int i) M | [.bl b] => Q (.int (if b then 1 else 0)) M | _ => False
theorem abc_int : AbC K (fun xs H Q => (∃ i, xs = [.int i] ∧ Q (.int i) H) ∨ ∃ k, xs = [.bl k] ∧ Q (.int (if k then 1 else 0)) H) acInt := by
  intro H M vs ds Q Q' r hv q k
  match ds, q with
  | [.int i], q =>
    obtain ⟨v, e, rd⟩ := reps1 r
    exact .inl ⟨i, by rw [e, rep_int_inv rd], k _ _ _ _ (Tp.refl H) rep_int hv q⟩
  | [.bl i], q =>
    obtain ⟨v, e, rd⟩ := reps1 r
    exact .inr ⟨i, by rw [e, rep_bl_inv rd], k _ _ _ _ (Tp.refl H) rep_int hv q⟩
def lstA (d : Dv) (M : Ms) : Option (List Dv) := match d with
  | .rol xs => some xs
  | .ref a => match M a with | some (.lst xs) => some xs | _ => none
  | _ => none
theorem lstA_ok {M : Ms} {H : Hp} {d : Dv} {v : V} {ds : List Dv} (r : Rep K H d v) (hv : View K M H) (h : lstA d M = some ds) : ∃ a vs, v = .ref a ∧ SqL K H a vs ∧ Reps K H ds vs := by
  cases d with
  | rol es =>
    cases h
    obtain ⟨a, vs, e, s, z⟩ := rep_rol_inv r
    exact ⟨a, vs, e, s.l, z⟩
  | ref a =>
    simp only [lstA] at h
    cases q : M a with
    | none => rw [q] at h; cases h
    | some c =>
      rw [q] at h
      cases c with
      | dic _ => cases h
      | dit _ => cases h
      | lst es =>
        cases h
        obtain ⟨vs, h1, h2⟩ := view_lst hv q
        exact ⟨a, vs, rep_ref_inv r, .inl (.inl h1), h2⟩
  | tup _ => cases h
  | non => cases h
  | bl _ => cases h
  | int _ => cases h
  | str _ => cases h
  | ty _ => cases h
def acSum : ARC := fun ds M Q => match ds with | [d] => ∃ ns : List Int, lstA d M = some (ns.map Dv.int) ∧ Q (.int ns.sum) M | _ => False
theorem abc_sum : AbC K (rSum K) acSum := by
  intro H M vs ds Q Q' r hv q k
  match ds, q with
  | [d], ⟨ns, h, q⟩ =>
    obtain ⟨v, e, rd⟩ := reps1 r
    obtain ⟨a, ws, e1, s, z⟩ := lstA_ok rd hv h
    rw [z.ints] at s
    exact ⟨a, ns, by rw [e, e1], s, k _ _ _ _ (Tp.refl H) rep_int hv q⟩
def acAll : ARC := fun ds M Q => match ds with | [d] => ∃ ns : List Bool, lstA d M = some (ns.map Dv.bl) ∧ Q (.bl (ns.all id)) M | _ => False
def acAny : ARC := fun ds M Q => match ds with | [d] => ∃ ns : List Bool, lstA d M = some (ns.map Dv.bl) ∧ Q (.bl (ns.any id)) M | _ => False
theorem abc_all : AbC K (rAll K) acAll := by
  intro H M vs ds Q Q' r hv q k
  match ds, q with
  | [d], ⟨ns, h, q⟩ =>
    obtain ⟨v, e, rd⟩ := reps1 r
    obtain ⟨a, ws, e1, s, z⟩ := lstA_ok rd hv h
    rw [z.bools] at s
    exact ⟨a, ns, by rw [e, e1], s, k _ _ _ _ (Tp.refl H) rep_bl hv q⟩
theorem abc_any : AbC K (rAny K) acAny := by
  intro H M vs ds Q Q' r hv q k
  match ds, q with
  | [d], ⟨ns, h, q⟩ =>
    obtain ⟨v, e, rd⟩ := reps1 r
    obtain ⟨a, ws, e1, s, z⟩ := lstA_ok rd hv h
    rw [z.bools] at s
    exact ⟨a, ns, by rw [e, e1], s, k _ _ _ _ (Tp.refl H) rep_bl hv q⟩
def acMax2 : ARC := fun ds M Q => match ds with | [.int i, .int j] => Q (.int (if j > i then j else i)) M | _ => False
def acMin2 : ARC := fun ds M Q => match ds with | [.int i, .int j] => Q (.int (if j < i then j else i)) M | _ => False
theorem abc_max2 : AbC K (fun xs H Q => ∃ i j, xs = [.int i, .int j] ∧ Q (.int (if j > i then j else i)) H) acMax2 := by
  intro H M vs ds Q Q' r hv q k
  match ds, q with
  | [.int i, .int j], q =>
    obtain ⟨v, w, e, r1, r2⟩ := reps2 r
    exact ⟨i, j, by rw [e, rep_int_inv r1, rep_int_inv r2], k _ _ _ _ (Tp.refl H) rep_int hv q⟩
theorem abc_min2 : AbC K (fun xs H Q => ∃ i j, xs = [.int i, .int j] ∧ Q (.int (if j < i then j else i)) H) acMin2 := by
  intro H M vs ds Q Q' r hv q k
  match ds, q with
  | [.int i, .int j], q =>
    obtain ⟨v, w, e, r1, r2⟩ := reps2 r
    exact ⟨i, j, by rw [e, rep_int_inv r1, rep_int_inv r2], k _ _ _ _ (Tp.refl H) rep_int hv q⟩
def acTup : ARC := fun ds M Q => match ds with | [d] => onS (itemsA d M) fun xs => Q (.tup xs) M | _ => False
def acLst : ARC := fun ds M Q => match ds with | [d] => onS (itemsA d M) fun xs => ∀ p, M p = none → Q (.ref p) (mup M p (.lst xs)) | _ => False
theorem abc_tup : AbC K (fun xs H Q => ∃ p ys, xs = [.ref p] ∧ ((SqL K H p ys ∧ ∀ l, H l = none → Q (.ref l) (upd H l (.tup ys))) ∨ (SqT K H p ys ∧ Q (.ref p) H))) acTup := by
  intro H M vs ds Q Q' r hv q k
  match ds, q with
  | [d], q =>
    obtain ⟨xs, h, q⟩ := onS_ex q
    obtain ⟨v, e, rd⟩ := reps1 r
    obtain ⟨a, ws, e1, s, z⟩ := itemsA_ok' rd hv h
    subst e1
    rcases s with s | s
    · exact ⟨a, ws, e, .inr ⟨TupA.s s, k _ _ _ _ (Tp.refl H) (rep_tup s z) hv q⟩⟩
    · exact ⟨a, ws, e, .inl ⟨s, end_tup z hv q k⟩⟩
theorem abc_lst : AbC K (fun xs H Q => ∃ p ys, xs = [.ref p] ∧ (SqL K H p ys ∨ SqT K H p ys) ∧ ∀ l, H l = none → Q (.ref l) (upd H l (.lst ys))) acLst := by
  intro H M vs ds Q Q' r hv q k
  match ds, q with
  | [d], q =>
    obtain ⟨xs, h, q⟩ := onS_ex q
    obtain ⟨v, e, rd⟩ := reps1 r
    obtain ⟨a, ws, e1, s, z⟩ := itemsA_ok rd hv h
    subst e1
    exact ⟨a, ws, e, s.symm, end_lst z hv q k⟩
end
end HC
set_option maxHeartbeats 4000000
namespace HC
open PySem L2 PyProof.Rows
section
variable {X : Cx} {a b c e o : Expr} {ta tb tc te to : RE} {pos apos cpos p : Pos} {K : PySem.W.Frag} {es : List Expr} {t : RA}
def tyN : Dv → Ms → Option String
  | .non, _ => some "NoneType"
  | .bl _, _ => some "bool"
  | .int _, _ => some "int"
  | .str _, _ => some "str"
  | .tup _, _ => some "tuple"
  | .rol _, _ => some "list"
  | .ref a, M => match M a with | some (.lst _) => some "list" | some _ => some "dict" | none => none
  | .ty _, _ => none
theorem tyN_ok {M : Ms} {H : Hp} {d : Dv} {v : V} {T : String} (r : Rep K H d v) (hv : View K M H) (h : tyN d M = some T) : TyX K H v (.type T) := by
  cases d with
  | non => cases h; rw [rep_non_inv r]; exact .base .non
  | bl b => cases h; rw [rep_bl_inv r]; exact .base (.bl b)
  | int b => cases h; rw [rep_int_inv r]; exact .base (.int b)
  | str b => cases h; rw [rep_str_inv r]; exact .base (.str b)
  | ty b => cases h
  | tup ds =>
    cases h
    obtain ⟨a, vs, e, s, _⟩ := rep_tup_inv r
    rw [e]
    rcases s with (s | ⟨o, s⟩) | ⟨o, its, n, h1, h2, _⟩
    · exact .base (.tup s)
    · exact .fTuple s
    · exact .kTuple h1 h2
  | rol ds =>
    cases h
    obtain ⟨a, vs, e, s, _⟩ := rep_rol_inv r
    rw [e]
    rcases s.l with (s | ⟨o, s⟩) | ⟨o, its, n, h1, h2, _⟩
    · exact .base (.lst s)
    · exact .base (.frz s)
    · exact .kList h1 h2
  | ref a =>
    rw [rep_ref_inv r]
    simp only [tyN] at h
    cases q : M a with
    | none => rw [q] at h; cases h
    | some c =>
      rw [q] at h
      have rc := hv a c q
      cases c with
      | lst xs => cases h; obtain ⟨vs, e, _⟩ := rc; exact .base (.lst e)
      | dic xs => cases h; obtain ⟨vs, e, _⟩ := rc; exact .base (.dK e)
      | dit xs => cases h; obtain ⟨vs, e, _⟩ := rc; exact .base (.dT e)
def acIsi : ARC := fun ds M Q => match ds with | [d, .ty n] => onS (tyN d M) fun T => ∃ b, kitB T n = some b ∧ Q (.bl b) M | _ => False
theorem abc_isi : AbC K (rIsi K) acIsi := by
  intro H M vs ds Q Q' r hv q k
  match ds, q with
  | [d, .ty n], q =>
    obtain ⟨T, h1, b, h2, q⟩ := onS_ex q
    obtain ⟨v, w, e, r1, r2⟩ := reps2 r
    rw [rep_ty_inv r2] at e
    exact ⟨v, .ty n, .type T, .type n, b, e, .ty n, tyN_ok r1 hv h1, kit_ty h2, k _ _ _ _ (Tp.refl H) rep_bl hv q⟩
theorem kit_ii : kitB "int" "int" = some true := by decide +kernel
theorem kit_ib : kitB "int" "bool" = some false := by decide +kernel
theorem kit_it : kitB "int" "tuple" = some false := by decide +kernel
theorem kit_is : kitB "int" "str" = some false := by decide +kernel
theorem kit_bi : kitB "bool" "int" = some true := by decide +kernel
theorem kit_bb : kitB "bool" "bool" = some true := by decide +kernel
theorem kit_bt : kitB "bool" "tuple" = some false := by decide +kernel
theorem kit_bs : kitB "bool" "str" = some false := by decide +kernel
theorem kit_ti : kitB "tuple" "int" = some false := by decide +kernel
theorem kit_tb : kitB "tuple" "bool" = some false := by decide +kernel
theorem kit_tt : kitB "tuple" "tuple" = some true := by decide +kernel
theorem kit_ts : kitB "tuple" "str" = some false := by decide +kernel
theorem kit_si : kitB "str" "int" = some false := by decide +kernel
theorem kit_sb : kitB "str" "bool" = some false := by decide +kernel
theorem kit_st : kitB "str" "tuple" = some false := by decide +kernel
theorem kit_ss : kitB "str" "str" = some true := by decide +kernel
theorem kit_ni : kitB "NoneType" "int" = some false := by decide +kernel
theorem kit_nb : kitB "NoneType" "bool" = some false := by decide +kernel
theorem kit_nt : kitB "NoneType" "tuple" = some false := by decide +kernel
theorem kit_ns : kitB "NoneType" "str" = some false := by decide +kernel
theorem kit_li : kitB "list" "int" = some false := by decide +kernel
theorem kit_lb : kitB "list" "bool" = some false := by decide +kernel
theorem kit_lt : kitB "list" "tuple" = some false := by decide +kernel
theorem kit_ls : kitB "list" "str" = some false := by decide +kernel
abbrev ARM := Dv → List Dv → Ms → DK → Prop
def AbM (K : PySem.W.Frag) (r : V → List V → Hp → VK → Prop) (ar : ARM) : Prop := ∀ H M x dx vs ds Q Q', Rep K H dx x → Reps K H ds vs → View K M H → ar dx ds M Q → LkV K H Q Q' → r x vs H Q'
def tyM (T : String) : Dv → Ms → Prop := fun d M => match d with
  | .str _ => T = "str"
  | .rol _ => T = "list"
  | .ref a => match M a with | some (.lst _) => T = "list" | some _ => T = "dict" | none => False
  | _ => False
theorem tyM_ok {M : Ms} {H : Hp} {d : Dv} {v : V} {T : String} (r : Rep K H d v) (hv : View K M H) (h : tyM T d M) : tyV K T v H := by
  cases d <;> first | exact h.elim | skip
  case str z => rw [rep_str_inv r]; exact h
  case rol z =>
    obtain ⟨a, vs, e, s, _⟩ := rep_rol_inv r
    rw [e]; exact .inl ⟨h, vs, s.l⟩
  case ref a =>
    rw [rep_ref_inv r]
    simp only [tyM] at h
    cases q : M a with
    | none => rw [q] at h; exact h.elim
    | some c =>
      rw [q] at h
      have rc := hv a c q
      cases c with
      | lst xs => obtain ⟨vs, e, _⟩ := rc; exact .inl ⟨h, vs, .inl (.inl e)⟩
      | dic xs => obtain ⟨vs, e, _⟩ := rc; exact .inr (.inr (.inl ⟨h, .inl ⟨vs, e⟩⟩))
      | dit xs => obtain ⟨vs, e, _⟩ := rc; exact .inr (.inr (.inl ⟨h, .inr ⟨vs, e⟩⟩))
def aMth (T : String) (ar : ARM) (to : RE) (t : RA) : RE := fun ρ M Q => to ρ M fun x M1 => tyM T x M1 ∧ t ρ M1 fun ds M2 => ar x ds M2 Q
variable {T name mid : String} {nm : Str} {r : V → List V → Hp → VK → Prop} {ar : ARM}
theorem mth_imp (h : AbM K r ar) : ∀ σ H Q, cE K (aMth T ar to t) σ H Q → tBM K T r (cE K to) (cA K t) σ H Q := fun σ H Q' ⟨ρ, M, Q, hr, hv, q, k⟩ =>
  seqE hr hv q fun v H1 d M1 t1 r1 v1 ⟨ht, q1⟩ => ⟨tyM_ok r1 v1 ht, seqA (hr.mono t1) v1 q1 fun vs H2 ds M2 t2 r2 v2 q2 => h H2 M2 v d vs ds Q Q' (r1.mono t2) r2 v2 q2 (k.up (t1.trans t2))⟩
theorem ae_bm (pa : PlainAttrs T) (slot : Slot T nm mid) (hty : typeOf (.builtin mid) = pure (.type "method_descriptor")) (hm : MtR X mid r) (h : AbM X.K r ar) (ho : AE X o to) (ha : AA X (e :: es) t)
    (hbase : attributeBase o nm X.env (eval o X.env) = eval o X.env := by rfl)
    (hfew : ((backTo cpos (starEach (e :: es) X.env)).all (fun x => !x.1) && (backToKw cpos (keywordEach [] X.env)).all (fun x => x.1.isSome)
      && decide ((e :: es).length + ([] : List Keyword).length + (if ([] : List Keyword).isEmpty then 0 else 1) < 30)) = true := by rfl)
    (hline : (apos.endLine == cpos.line) = true := by rfl) (hs : starEach (e :: es) X.env = (false, eval e X.env) :: starEach es X.env := by rfl) (hplain : (backTo cpos (starEach es X.env)).any (·.1) = false := by rfl) :
    AE X (.Call (.Attribute o nm apos) (e :: es) [] cpos) (aMth T ar to t) := pe_imp (pe_bm pa slot hty hm ho ha hbase hfew hline hs hplain) (mth_imp h)
def amApp : ARM := fun x ds M Q => match x, ds with
  | .ref l, [d] => onS (lstC (M l)) fun xs => xs.length < sizeLine ∧ Q .non (mup M l (.lst (xs ++ [d])))
  | _, _ => False
theorem end_wr {H : Hp} {M : Ms} {l : Addr} {xs ys : List Dv} {vs : List V} {Q : DK} {Q' : VK} {d : Dv} {v : V} (hv : View K M H) (hl : M l = some (.lst xs)) (r : Reps K H ys vs) (rd : Rep K H d v) (q : Q d (mup M l (.lst ys))) (k : LkV K H Q Q') : Q' v (upd H l (.lst vs)) :=
  k _ _ d _ (Tp.put (hv.soft hl)) (rd.mono (Tp.put (hv.soft hl))) (hv.put (c := .lst ys) (hv.soft hl) ⟨vs, upd_same, r.mono (Tp.put (hv.soft hl))⟩) q
theorem abm_app : AbM K rAppend amApp := by
  intro H M x dx vs ds Q Q' rx rd hv q k
  match dx, ds, q with
  | .ref l, [d], q =>
    obtain ⟨xs, h1, hz, q⟩ := onS_ex q
    replace h1 := lstC_eq h1
    obtain ⟨v, e, r1⟩ := reps1 rd
    obtain ⟨ws, e2, z⟩ := view_lst hv h1
    exact ⟨l, ws, v, rep_ref_inv rx, e, e2, by rw [← z.length]; exact hz, end_wr hv h1 (z.append (Reps.cons r1 Reps.nil)) rep_non q k⟩
def amPop : ARM := fun x ds M Q => match x, ds with
  | .ref l, [.int i] => onS (lstC (M l)) fun xs => (0 ≤ i ∧ i < 4611686018427387904) ∧ onS xs[i.toNat]? fun d => Q d (mup M l (.lst (xs.eraseIdx i.toNat)))
  | _, _ => False
theorem seqIndex_nat {k n : Nat} (h : k < n) : seqIndex? (k : Int) n = some k := by
  have := (ixN_seq (n := n) (i := (k : Int)) (j := k) (by unfold ixN; rw [if_pos (by omega), if_pos (by omega), Int.toNat_natCast])).1
  exact this
theorem abm_pop : AbM K rPopAt amPop := by
  intro H M x dx vs ds Q Q' rx rd hv q k
  match dx, ds, q with
  | .ref l, [.int i], q =>
    obtain ⟨xs, h1, ⟨h0, hb⟩, q⟩ := onS_ex q
    obtain ⟨d, hd, q5⟩ := onS_ex q
    replace h1 := lstC_eq h1
    obtain ⟨kk, hk⟩ : ∃ kk, i.toNat = kk := ⟨_, rfl⟩
    rw [hk] at hd q5
    obtain ⟨v, e, r1⟩ := reps1 rd
    rw [rep_int_inv r1] at e
    obtain ⟨ws, e2, z⟩ := view_lst hv h1
    obtain ⟨w, hw, rw'⟩ := z.get hd
    have hl := (List.getElem?_eq_some_iff.mp hw).1
    have ei : i = (kk : Int) := by omega
    subst ei
    exact ⟨l, ws, kk, kk, w, rep_ref_inv rx, e, e2, by omega, by omega, seqIndex_nat hl, hw, end_wr hv h1 (z.eraseIdx kk) rw' q5 k⟩
def amExt : ARM := fun x ds M Q => match x, ds with
  | .ref l, [.ref m] => onS (lstC (M l)) fun xs => onS (lstC (M m)) fun ys => xs.length + ys.length ≤ sizeLine ∧ Q .non (mup M l (.lst (xs ++ ys)))
  | _, _ => False
theorem abm_ext : AbM K rExtend amExt := by
  intro H M x dx vs ds Q Q' rx rd hv q k
  match dx, ds, q with
  | .ref l, [.ref m], q =>
    obtain ⟨xs, h1, q⟩ := onS_ex q
    obtain ⟨ys, h2, hz, q⟩ := onS_ex q
    replace h1 := lstC_eq h1
    replace h2 := lstC_eq h2
    obtain ⟨v, e, r1⟩ := reps1 rd
    rw [rep_ref_inv r1] at e
    obtain ⟨ws, e2, z⟩ := view_lst hv h1
    obtain ⟨us, e3, z3⟩ := view_lst hv h2
    have l1 := z.length
    have l3 := z3.length
    exact ⟨l, m, ws, us, rep_ref_inv rx, e, e2, e3, by omega, end_wr hv h1 (z.append z3) rep_non q k⟩
theorem ae_append (ho : AE X o to) (ha : AA X [e] t) (hline : (apos.endLine == cpos.line) = true := by rfl) (hbase : attributeBase o "append" X.env (eval o X.env) = eval o X.env := by rfl)
    (hfew : ((backTo cpos (starEach [e] X.env)).all (fun x => !x.1) && (backToKw cpos (keywordEach [] X.env)).all (fun x => x.1.isSome)
      && decide (([e] : List Expr).length + ([] : List Keyword).length + (if ([] : List Keyword).isEmpty then 0 else 1) < 30)) = true := by rfl)
    (hs : starEach [e] X.env = (false, eval e X.env) :: starEach [] X.env := by rfl) (hplain : (backTo cpos (starEach [] X.env)).any (·.1) = false := by rfl) :
    AE X (.Call (.Attribute o "append" apos) [e] [] cpos) (aMth "list" amApp to t) := ae_bm PySem.F.plainAttrs_list PySem.F.slot_list_append PySem.F.type_list_append mt_append abm_app ho ha hbase hfew hline hs hplain
theorem ae_popAt (ho : AE X o to) (ha : AA X [e] t) (hline : (apos.endLine == cpos.line) = true := by rfl) (hbase : attributeBase o "pop" X.env (eval o X.env) = eval o X.env := by rfl)
    (hfew : ((backTo cpos (starEach [e] X.env)).all (fun x => !x.1) && (backToKw cpos (keywordEach [] X.env)).all (fun x => x.1.isSome)
      && decide (([e] : List Expr).length + ([] : List Keyword).length + (if ([] : List Keyword).isEmpty then 0 else 1) < 30)) = true := by rfl)
    (hs : starEach [e] X.env = (false, eval e X.env) :: starEach [] X.env := by rfl) (hplain : (backTo cpos (starEach [] X.env)).any (·.1) = false := by rfl) :
    AE X (.Call (.Attribute o "pop" apos) [e] [] cpos) (aMth "list" amPop to t) := ae_bm PySem.F.plainAttrs_list PySem.F.slot_list_pop PySem.F.type_list_pop mt_popAt abm_pop ho ha hbase hfew hline hs hplain
theorem ae_extend (ho : AE X o to) (ha : AA X [e] t) (hline : (apos.endLine == cpos.line) = true := by rfl) (hbase : attributeBase o "extend" X.env (eval o X.env) = eval o X.env := by rfl)
    (hfew : ((backTo cpos (starEach [e] X.env)).all (fun x => !x.1) && (backToKw cpos (keywordEach [] X.env)).all (fun x => x.1.isSome)
      && decide (([e] : List Expr).length + ([] : List Keyword).length + (if ([] : List Keyword).isEmpty then 0 else 1) < 30)) = true := by rfl)
    (hs : starEach [e] X.env = (false, eval e X.env) :: starEach [] X.env := by rfl) (hplain : (backTo cpos (starEach [] X.env)).any (·.1) = false := by rfl) :
    AE X (.Call (.Attribute o "extend" apos) [e] [] cpos) (aMth "list" amExt to t) := ae_bm PySem.F.plainAttrs_list PySem.F.slot_list_extend PySem.F.type_list_extend mt_extend abm_ext ho ha hbase hfew hline hs hplain
abbrev ASet := Dv → Dv → Dv → Ms → (Ms → Prop) → Prop
def putA {κ : Type} [DecidableEq κ] (kvs : List (κ × Dv)) (k : κ) (v : Dv) : List (κ × Dv) :=
  if (kvs.any fun kv => decide (kv.1 = k)) = true then kvs.map (fun kv => if kv.1 = k then (kv.1, v) else kv) else kvs ++ [(k, v)]
def asSet : ASet := fun x i v M Q => match x with
  | .ref a => match M a with
    | some (.lst xs) => onI i fun k => onS (ixN xs.length k) fun j => Q (mup M a (.lst (xs.set j v)))
    | some (.dic kvs) => onS (keyD i) fun k => kvs.length < sizeLine ∧ Q (mup M a (.dic (putA kvs k v)))
    | _ => False
  | _ => False
def rSetH : V → V → V → Hp → (Hp → Prop) → Prop := fun o i v H Q => rSetL o i v H Q ∨ ∃ a H', o = .ref a ∧ DPut H a i v H' ∧ Q H'
theorem set_H (hu : X.A.units + 1 < cLine) : PSet X rSetH := by
  intro pins s σ H o i v ov iv u Q I ro ri rv h
  rcases h with h | ⟨a, H', rfl, g, q⟩
  · exact set_list pins s σ H o i v ov iv u Q I ro ri rv h
  · obtain rfl : ov = Value.ref a := ro
    exact d_setItem hu I g ri rv fun s' I' => ⟨H', I', q⟩
abbrev KP (K : PySem.W.Frag) (H : Hp) (κ : Type) : List (κ × Dv) → List (κ × V) → Prop := Paired (fun (p : κ × Dv) (q : κ × V) => p.1 = q.1 ∧ Rep K H p.2 q.2)
theorem kp_any {H : Hp} {κ : Type} [DecidableEq κ] {k : κ} : ∀ {kds : List (κ × Dv)} {kvs : List (κ × V)}, KP K H κ kds kvs → (kds.any fun kv => decide (kv.1 = k)) = (kvs.any fun kv => decide (kv.1 = k))
  | _, _, .nil => rfl
  | (k1, d) :: kds, (k2, v) :: kvs, .cons ⟨e, r⟩ t => by
    have e' : k1 = k2 := e
    subst e'
    simp only [List.any_cons]
    rw [kp_any t]
theorem kp_map {H : Hp} {κ : Type} [DecidableEq κ] {k : κ} {d : Dv} {v : V} (rd : Rep K H d v) : ∀ {kds : List (κ × Dv)} {kvs : List (κ × V)}, KP K H κ kds kvs → KP K H κ (kds.map (fun kv => if kv.1 = k then (kv.1, d) else kv)) (kvs.map (fun kv => if kv.1 = k then (kv.1, v) else kv))
  | _, _, .nil => .nil
  | (k1, d1) :: kds, (k2, v1) :: kvs, .cons ⟨e, r⟩ t => by
    have e' : k1 = k2 := e
    subst e'
    rw [List.map_cons, List.map_cons]
    refine .cons ?_ (kp_map rd t)
    by_cases h : k1 = k
    · simpa [h] using rd
    · simpa [h] using r
theorem kp_app {H : Hp} {κ : Type} : ∀ {kds es : List (κ × Dv)} {kvs fs : List (κ × V)}, KP K H κ kds kvs → KP K H κ es fs → KP K H κ (kds ++ es) (kvs ++ fs)
  | _, _, _, _, .nil, h => h
  | _, _, _, _, .cons r t, h => .cons r (kp_app t h)
theorem kp_put {H : Hp} {κ : Type} [DecidableEq κ] {k : κ} {d : Dv} {v : V} (rd : Rep K H d v) {kds : List (κ × Dv)} {kvs : List (κ × V)} (h : KP K H κ kds kvs) : KP K H κ (putA kds k d) (putK kvs k v) := by
  unfold putA putK
  rw [kp_any h]
  split
  · exact kp_map rd h
  · exact kp_app h (.cons ⟨rfl, rd⟩ .nil)
theorem kp_mono {H H' : Hp} {κ : Type} {kds : List (κ × Dv)} {kvs : List (κ × V)} (h : KP K H κ kds kvs) (t : Tp K H H') : KP K H' κ kds kvs := Paired.mapP h fun _ _ z => ⟨z.1, z.2.mono t⟩
theorem kp_len {H : Hp} {κ : Type} {kds : List (κ × Dv)} {kvs : List (κ × V)} (h : KP K H κ kds kvs) : kds.length = kvs.length := Paired.length h
def agSub (to ti : RE) (s : ASet) : RG := fun d ρ M Q => to ρ M fun x M1 => ti ρ M1 fun i M2 => s x i d M2 fun M3 => Q ρ M3
theorem ag_sub {i : Expr} {ti : RE} (hu : X.A.units + 1 < cLine) (ho : AE X o to) (hi : AE X i ti)
    (ha : ∀ v, assign (.Subscript o i pos) X.env v = (do
      let ov ← holding [v] (eval o X.env)
      let iv ← holding [v, ov] (eval i X.env)
      standAt pos
      holding [v, ov, iv] (setItem ov iv v)
      release [v, ov, iv] []) := by intro _; rfl) : AG X (.Subscript o i pos) (agSub to ti asSet) :=
  pg_imp (pg_sub ho hi (set_H hu) ha) fun v σ H Q' h => by
    obtain ⟨d, ρ, M, Q, rd, hr, hv, q, k⟩ := h
    refine seqE hr hv q fun x H1 dx M1 t1 r1 v1 q1 => seqE (hr.mono t1) v1 q1 fun iv H2 di M2 t2 r2 v2 q2 => ?_
    have t12 := t1.trans t2
    have rx := r1.mono t2
    have rd2 := rd.mono t12
    cases dx <;> first | exact q2.elim | skip
    case ref a =>
      simp only [asSet] at q2
      cases e : M2 a with
      | none => rw [e] at q2; exact q2.elim
      | some c =>
        rw [e] at q2
        have tp : Tp X.K H2 (upd H2 a (HO.lst [])) := Tp.put (v2.soft e)
        cases c with
        | lst xs =>
          obtain ⟨kk, e1, q4⟩ := onI_ex q2
          obtain ⟨j, hj, q5⟩ := onS_ex q4
          subst e1
          obtain ⟨vs, e2, z⟩ := view_lst v2 e
          refine .inl ⟨a, vs, kk, j, rep_ref_inv rx, rep_int_inv r2, e2, by rw [← z.length]; exact hj, ?_⟩
          exact k _ _ _ _ (t12.trans (Tp.put (v2.soft e))) (hr.mono (t12.trans (Tp.put (v2.soft e)))) (v2.put (c := .lst (xs.set j d)) (v2.soft e) ⟨vs.set j v, upd_same, (z.set j rd2).mono (Tp.put (v2.soft e))⟩) q5
        | dic kds =>
          obtain ⟨kk, e1, hz, q2⟩ := onS_ex q2
          obtain ⟨kvs, e2, z⟩ := (show ∃ kvs', H2 a = some (.dK kvs') ∧ KP X.K H2 Key kds kvs' from v2 a _ e)
          refine .inr ⟨a, upd H2 a (.dK (putK kvs kk v)), rep_ref_inv rx, .inl ⟨kvs, kk, e2, keyD_ok r2 e1, by rw [← kp_len z]; exact hz, rfl⟩, ?_⟩
          exact k _ _ _ _ (t12.trans (Tp.put (v2.soft e))) (hr.mono (t12.trans (Tp.put (v2.soft e)))) (v2.put (c := .dic (putA kds kk d)) (v2.soft e) ⟨_, upd_same, kp_mono (kp_put rd2 z) (Tp.put (v2.soft e))⟩) q2
        | dit _ => exact q2.elim
end
end HC
set_option maxHeartbeats 200000
namespace HC
open PySem L2 PyProof.Rows
section
variable {X : Cx} {a b c e o tg : Expr} {ta tb tc te to : RE} {pos apos cpos p tpos : Pos} {K : PySem.W.Frag} {es : List Expr} {t : RA}
def on1 (ds : List Dv) (Q : Dv → Prop) : Prop := match ds with | [d] => Q d | _ => False
theorem on1_ex {ds : List Dv} {Q : Dv → Prop} (h : on1 ds Q) : ∃ d, ds = [d] ∧ Q d := by
  match ds, h with
  | [d], h => exact ⟨d, rfl, h⟩
def on2 (ds : List Dv) (Q : Dv → Dv → Prop) : Prop := match ds with | [d, f] => Q d f | _ => False
theorem on2_ex {ds : List Dv} {Q : Dv → Dv → Prop} (h : on2 ds Q) : ∃ d f, ds = [d, f] ∧ Q d f := by
  match ds, h with
  | [d, f], h => exact ⟨d, f, rfl, h⟩
def on3 (ds : List Dv) (Q : Dv → Dv → Dv → Prop) : Prop := match ds with | [d, f, g] => Q d f g | _ => False
theorem on3_ex {ds : List Dv} {Q : Dv → Dv → Dv → Prop} (h : on3 ds Q) : ∃ d f g, ds = [d, f, g] ∧ Q d f g := by
  match ds, h with
  | [d, f, g], h => exact ⟨d, f, g, rfl, h⟩
def aiSeq (te : RE) : RI := fun ρ M Q => te ρ M fun d M1 => onS (itemsA d M1) fun ds => Q ds (fun M => itemsA d M = some ds) M1
theorem pi_seq {tl : TE} (hl : PE X e tl) : PI X tg e (fun σ H R => tl σ H fun x H1 => ∃ a, x = .ref a ∧ ((∃ xs, SqL X.K H1 a xs) ∧ R (Itl X.K a) H1 ∨ (∃ xs, SqT X.K H1 a xs) ∧ R (Itt X.K a) H1)) := by
  refine ⟨fun pins s σ H R I h => ?_⟩
  refine thn (hl.run pins s σ H _ I h) fun v s1 ⟨x, H1, I1, r1, q1⟩ => ?_
  obtain ⟨a, e, ⟨⟨xs, hq⟩, q⟩ | ⟨⟨xs, hq⟩, q⟩⟩ := q1
  · subst e
    cases r1
    obtain ⟨its, rv, p, hz⟩ := I1.list hq
    refine wpAny_pyIter_list p.isList ?_
    refine ⟨s1.heap.objs.size, [s1.heap.objs.size], _, _, H1, rfl, I1.kept (t' := s1.toks) fun b o e => Heap.get?_push_of_some _ e, turn_list a _, ⟨_, Heap.get?_push_size _ rfl, rfl, rfl⟩, fun b hb => ?_, q⟩
    have e : b = s1.heap.objs.size := by simpa using hb
    subst e
    exact I1.fpOk (Nat.le_refl _) (I1.hok.fresh (Nat.le_refl _))
  · subst e
    cases r1
    obtain ⟨its, rv, p, hz⟩ := I1.tuple hq
    refine wpAny_pyIter_tuple (show s1.heap.IsTuple a its.toArray from p) ?_
    refine ⟨s1.heap.objs.size, [s1.heap.objs.size], _, _, H1, rfl, I1.kept (t' := s1.toks) fun b o e => Heap.get?_push_of_some _ e, turn_tuple a _, ⟨_, Heap.get?_push_size _ rfl, rfl, rfl⟩, fun b hb => ?_, q⟩
    have e : b = s1.heap.objs.size := by simpa using hb
    subst e
    exact I1.fpOk (Nat.le_refl _) (I1.hok.fresh (Nat.le_refl _))
theorem items_stand {H1 : Hp} {M1 : Ms} {d : Dv} {v : V} {ds : List Dv} (r : Rep K H1 d v) (hv : View K M1 H1) (h : itemsA d M1 = some ds) :
    ∃ a vs, v = .ref a ∧ Reps K H1 ds vs ∧ ((SqT K H1 a vs ∧ ∀ H, Tp K H1 H → SqT K H a vs) ∨ (SqL K H1 a vs ∧ ∀ H M, Tp K H1 H → View K M H → itemsA d M = some ds → ∃ ws, SqL K H a ws ∧ Reps K H ds ws)) := by
  cases d <;> first | cases h; done | skip
  case tup es =>
    cases h
    obtain ⟨a, vs, e, s, z⟩ := rep_tup_inv r
    exact ⟨a, vs, e, z, .inl ⟨s, fun H t => t.t _ _ s⟩⟩
  case rol es =>
    cases h
    obtain ⟨a, vs, e, s, z⟩ := rep_rol_inv r
    exact ⟨a, vs, e, z, .inr ⟨s.l, fun H M t _ _ => ⟨vs, (t.f _ _ s).l, z.mono t⟩⟩⟩
  case ref a =>
    simp only [itemsA] at h
    cases q : M1 a with
    | none => rw [q] at h; cases h
    | some c =>
      rw [q] at h
      cases c with
      | dic _ => cases h
      | dit _ => cases h
      | lst es =>
        cases h
        obtain ⟨vs, h1, h2⟩ := view_lst hv q
        refine ⟨a, vs, rep_ref_inv r, h2, .inr ⟨.inl (.inl h1), fun H M t v' hk => ?_⟩⟩
        simp only [itemsA] at hk
        cases q' : M a with
        | none => rw [q'] at hk; cases hk
        | some c' =>
          rw [q'] at hk
          cases c' with
          | dic _ => cases hk
          | dit _ => cases hk
          | lst es' =>
            cases hk
            obtain ⟨ws, h3, h4⟩ := view_lst v' q'
            exact ⟨ws, .inl (.inl h3), h4⟩
theorem iw_list {a : Addr} {ds : List Dv} {keep : Ms → Prop} {H1 : Hp} (h : ∀ H M, Tp K H1 H → View K M H → keep M → ∃ ws, SqL K H a ws ∧ Reps K H ds ws) : IW K (Itl K a) ds keep H1 where
  go := fun i H M hi t v k => by
    obtain ⟨ws, s, z⟩ := h H M t v k
    obtain ⟨w, hw, _⟩ := z.get (List.getElem?_eq_getElem hi)
    exact ⟨ws, w, s, hw⟩
  stop := fun H M t v k => by
    obtain ⟨ws, s, z⟩ := h H M t v k
    exact ⟨ws, s, by rw [← z.length]; exact Nat.le_refl _⟩
  yld := fun i H M x H' hi t v k y => by
    obtain ⟨ws, s, z⟩ := h H M t v k
    obtain ⟨w, hw, rw'⟩ := z.get (List.getElem?_eq_getElem hi)
    obtain ⟨e, y2⟩ := y
    subst e
    have := y2 ws s
    rw [hw] at this
    cases this
    exact ⟨_, List.getElem?_eq_getElem hi, Tp.refl _, rw', v, fun _ _ => rfl⟩
theorem iw_tup {a : Addr} {ds : List Dv} {vs : List V} {keep : Ms → Prop} {H1 : Hp} (z0 : Reps K H1 ds vs) (h : ∀ H, Tp K H1 H → SqT K H a vs) : IW K (Itt K a) ds keep H1 where
  go := fun i H M hi t v k => by
    obtain ⟨w, hw, _⟩ := z0.get (List.getElem?_eq_getElem hi)
    exact ⟨vs, w, h H t, hw⟩
  stop := fun H M t v k => ⟨vs, h H t, by rw [← z0.length]; exact Nat.le_refl _⟩
  yld := fun i H M x H' hi t v k y => by
    obtain ⟨w, hw, rw'⟩ := (z0.mono t).get (List.getElem?_eq_getElem hi)
    obtain ⟨e, y2⟩ := y
    subst e
    have := y2 vs (h _ t)
    rw [hw] at this
    cases this
    exact ⟨_, List.getElem?_eq_getElem hi, Tp.refl _, rw', v, fun _ _ => rfl⟩
theorem ai_seq (h : AE X e te) : AI X tg e (aiSeq te) := pi_imp (pi_seq h) fun σ H R ⟨ρ, M, Q, hr, hv, q, k⟩ => seqE hr hv q fun v H1 d M1 t1 r1 v1 q1 => by
  obtain ⟨ds, hi, q1⟩ := onS_ex q1
  obtain ⟨a, vs, e1, z, hs⟩ := items_stand r1 v1 hi
  refine ⟨a, e1, ?_⟩
  rcases hs with ⟨s, hs⟩ | ⟨s, hs⟩
  · exact .inr ⟨⟨vs, s⟩, k _ H1 ds _ M1 t1 v1 q1 (iw_tup z hs)⟩
  · exact .inl ⟨⟨vs, s⟩, k _ H1 ds _ M1 t1 v1 q1 (iw_list hs)⟩
def rangeA (lo : Int) (n : Nat) : List Dv := (List.range n).map fun (i : Nat) => Dv.int (lo + (i : Int))
theorem iw_range {lo : Int} {n : Nat} {keep : Ms → Prop} {H1 : Hp} : IW K (Itr lo n) (rangeA lo n) keep H1 where
  go := fun i H M hi t v k => by
    have h : i < n := by simpa [rangeA] using hi
    exact h
  stop := fun H M t v k => by simp [rangeA, Itr]
  yld := fun i H M x H' hi t v k y => by
    obtain ⟨e, y2⟩ := y
    subst e y2
    refine ⟨.int (lo + (i : Int)), ?_, Tp.refl _, rep_int, v, fun _ _ => rfl⟩
    have : i < n := by simpa [rangeA] using hi
    simp [rangeA, this]
def aiR1 (t : RA) : RI := fun ρ M Q => t ρ M fun ds M1 => on1 ds fun d => onI d fun j => (-(2 ^ 62) ≤ j ∧ j < 2 ^ 62) ∧ Q (rangeA 0 j.toNat) (fun _ => True) M1
def aiR2 (t : RA) : RI := fun ρ M Q => t ρ M fun ds M1 => on2 ds fun d f => onI2 d f fun i j => (-(2 ^ 62) ≤ i ∧ i < 2 ^ 62 ∧ -(2 ^ 62) ≤ j ∧ j < 2 ^ 62) ∧ Q (rangeA i (j - i).toNat) (fun _ => True) M1
theorem ai_range1 (hm : X.mg "range" = none) (ha : AA X [a] t) (hg : Gl X "range" := by rfl) (hs : starEach [a] X.env = [(false, eval a X.env)] := by rfl) : AI X tg (.Call (.Name "range" p) [a] [] pos) (aiR1 t) :=
  pi_imp (pi_range1 hg hm ha hs) fun σ H R ⟨ρ, M, Q, hr, hv, q, k⟩ => seqA hr hv q fun vs H1 ds M1 t1 r1 v1 q1 => by
    obtain ⟨d, e0, q4⟩ := on1_ex q1
    obtain ⟨j, e3, h1, q5⟩ := onI_ex q4
    subst e0 e3
    obtain ⟨v, e, rd⟩ := reps1 r1
    exact ⟨j, by rw [e, rep_int_inv rd], h1.1, h1.2, k _ H1 _ _ M1 t1 v1 q5 iw_range⟩
theorem ai_range2 (hm : X.mg "range" = none) (ha : AA X [a, b] t) (hg : Gl X "range" := by rfl) (hs : starEach [a, b] X.env = [(false, eval a X.env), (false, eval b X.env)] := by rfl) (hs2 : starEach [b] X.env = [(false, eval b X.env)] := by rfl) : AI X tg (.Call (.Name "range" p) [a, b] [] pos) (aiR2 t) :=
  pi_imp (pi_range2 hg hm ha hs hs2) fun σ H R ⟨ρ, M, Q, hr, hv, q, k⟩ => seqA hr hv q fun vs H1 ds M1 t1 r1 v1 q1 => by
    obtain ⟨d, f, e0, q4⟩ := on2_ex q1
    obtain ⟨i, j, e3, e4, h1, q5⟩ := onI2_ex q4
    subst e0 e3 e4
    obtain ⟨v, w, e, rd, rd2⟩ := reps2 r1
    exact ⟨i, j, by rw [e, rep_int_inv rd, rep_int_inv rd2], h1, k _ H1 _ _ M1 t1 v1 q5 iw_range⟩
def rangeC (lo c : Int) (n : Nat) : List Dv := (List.range n).map fun (i : Nat) => Dv.int (lo + (i : Int) * c)
theorem iw_rangeC {lo c : Int} {n : Nat} {keep : Ms → Prop} {H1 : Hp} : IW K (Itc lo c n) (rangeC lo c n) keep H1 where
  go := fun i H M hi t v k => by
    have h : i < n := by simpa [rangeC] using hi
    exact h
  stop := fun H M t v k => by simp [rangeC, Itc]
  yld := fun i H M x H' hi t v k y => by
    obtain ⟨e, y2⟩ := y
    subst e y2
    refine ⟨.int (lo + (i : Int) * c), ?_, Tp.refl _, rep_int, v, fun _ _ => rfl⟩
    have : i < n := by simpa [rangeC] using hi
    simp [rangeC, this]
def aiR3 (t : RA) : RI := fun ρ M Q => t ρ M fun ds M1 => on3 ds fun d f g => onI2 d f fun i j => onI g fun c => ∃ n : Nat, RgC i j c n ∧ Q (rangeC i c n) (fun _ => True) M1
theorem ai_range3 (hm : X.mg "range" = none) (ha : AA X [a, b, c] t) (hg : Gl X "range" := by rfl) (hs : starEach [a, b, c] X.env = (false, eval a X.env) :: starEach [b, c] X.env := by rfl) (hpl : (backTo pos (starEach [b, c] X.env)).any (·.1) = false := by rfl) : AI X tg (.Call (.Name "range" p) [a, b, c] [] pos) (aiR3 t) :=
  pi_imp (pi_range3 hg hm ha hs hpl) fun σ H R ⟨ρ, M, Q, hr, hv, q, k⟩ => seqA hr hv q fun vs H1 ds M1 t1 r1 v1 q1 => by
    obtain ⟨d, f, g, e0, q4⟩ := on3_ex q1
    obtain ⟨i, j, e3, e4, q6⟩ := onI2_ex q4
    obtain ⟨c, e5, n, h1, q5⟩ := onI_ex q6
    subst e0 e3 e4 e5
    obtain ⟨v, r, e, rd, r2⟩ := r1.cons_inv
    obtain ⟨w, w', e', rd2, rd3⟩ := reps2 r2
    exact ⟨i, j, c, n, by rw [e, e', rep_int_inv rd, rep_int_inv rd2, rep_int_inv rd3], h1, k _ H1 _ _ M1 t1 v1 q5 iw_rangeC⟩
def pairD (x y : Dv) : Dv := .tup [x, y]
theorem rep_pair {H : Hp} {T : Addr} {x y : V} {d f : Dv} (hn : H T = none) (r1 : Rep K H d x) (r2 : Rep K H f y) : Rep K (upd H T (.tup [x, y])) (pairD d f) (.ref T) :=
  rep_tup upd_same (Reps.cons (r1.mono (Tp.new hn)) (Reps.cons (r2.mono (Tp.new hn)) Reps.nil))
def enumD (ds : List Dv) : List Dv := (List.range ds.length).zipWith (fun (i : Nat) d => pairD (.int (i : Int)) d) ds
theorem enumD_len (ds : List Dv) : (enumD ds).length = ds.length := by simp [enumD]
theorem enumD_get {ds : List Dv} {i : Nat} {d : Dv} (h : ds[i]? = some d) : (enumD ds)[i]? = some (pairD (.int (i : Int)) d) := by
  have hl := (List.getElem?_eq_some_iff.mp h).1
  have he : ds[i] = d := (List.getElem?_eq_some_iff.mp h).2
  simp [enumD, List.getElem?_zipWith, h, hl, he]
theorem iw_enum {a : Addr} {ds : List Dv} {keep : Ms → Prop} {H1 : Hp} (h : ∀ H M, Tp K H1 H → View K M H → keep M → ∃ ws, SqL K H a ws ∧ Reps K H ds ws) : IW K (Ite K a) (enumD ds) keep H1 where
  go := fun i H M hi t v k => by
    rw [enumD_len] at hi
    obtain ⟨ws, s, z⟩ := h H M t v k
    obtain ⟨w, hw, _⟩ := z.get (List.getElem?_eq_getElem hi)
    exact ⟨ws, w, s, hw⟩
  stop := fun H M t v k => by
    obtain ⟨ws, s, z⟩ := h H M t v k
    exact ⟨ws, s, by rw [enumD_len, ← z.length]; exact Nat.le_refl _⟩
  yld := fun i H M x H' hi t v k y => by
    rw [enumD_len] at hi
    obtain ⟨ws, s, z⟩ := h H M t v k
    obtain ⟨w, hw, rw'⟩ := z.get (List.getElem?_eq_getElem hi)
    obtain ⟨T, x', e, hn, e2, y2⟩ := y
    subst e e2
    have := y2 ws s
    rw [hw] at this
    cases this
    exact ⟨_, enumD_get (List.getElem?_eq_getElem hi), Tp.new hn, rep_pair hn rep_int rw', v.new hn, fun a ha => upd_ne fun q => ha (q ▸ hn)⟩
def aiEnumL (t : RA) : RI := fun ρ M Q => t ρ M fun ds M1 => match ds with | [d] => ∃ xs, lstA d M1 = some xs ∧ Q (enumD xs) (fun M => lstA d M = some xs) M1 | _ => False
theorem lstA_items {d : Dv} {M : Ms} {xs : List Dv} (h : lstA d M = some xs) : itemsA d M = some xs := by
  cases d <;> first | cases h; done | exact h
theorem lst_stand {H1 : Hp} {M1 : Ms} {d : Dv} {v : V} {ds : List Dv} (r : Rep K H1 d v) (hv : View K M1 H1) (h : lstA d M1 = some ds) :
    ∃ a vs, v = .ref a ∧ Reps K H1 ds vs ∧ (SqL K H1 a vs ∧ ∀ H M, Tp K H1 H → View K M H → lstA d M = some ds → ∃ ws, SqL K H a ws ∧ Reps K H ds ws) := by
  cases d <;> first | cases h; done | skip
  case rol es =>
    cases h
    obtain ⟨a, vs, e, s, z⟩ := rep_rol_inv r
    exact ⟨a, vs, e, z, s.l, fun H M t _ _ => ⟨vs, (t.f _ _ s).l, z.mono t⟩⟩
  case ref a =>
    obtain ⟨a', vs, e, s, z⟩ := lstA_ok r hv h
    have e2 := rep_ref_inv r
    rw [e2] at e
    cases e
    refine ⟨a, vs, e2, z, s, fun H M t v' hk => ?_⟩
    obtain ⟨b, ws, e3, s3, z3⟩ := lstA_ok (d := .ref a) (v := .ref a) rep_ref v' hk
    cases e3
    exact ⟨ws, s3, z3⟩
theorem ai_enumL {elts : List Expr} {kk : Nat} (hm : X.mg "enumerate" = none) (ha : AA X [e] t) (hg : Gl X "enumerate" := by rfl) (hs : starEach [e] X.env = [(false, eval e X.env)] := by rfl) : AI X (.Tuple elts kk tpos) (.Call (.Name "enumerate" p) [e] [] pos) (aiEnumL t) :=
  pi_imp (pi_enum hg hm ha hs) fun σ H R ⟨ρ, M, Q, hr, hv, q, k⟩ => seqA hr hv q fun vs H1 ds M1 t1 r1 v1 q1 => by
    match ds, r1, q1 with
    | [d], r1, ⟨xs, h1, q1⟩ =>
      obtain ⟨v, e, rd⟩ := reps1 r1
      obtain ⟨a, ws, e1, z, s, hs⟩ := lst_stand rd v1 h1
      exact ⟨a, ws, by rw [e, e1], s, k _ H1 _ _ M1 t1 v1 q1 (iw_enum hs)⟩
def zipD (xs ys : List Dv) : List Dv := xs.zipWith pairD ys
theorem zipD_get {xs ys : List Dv} {i : Nat} {x y : Dv} (h : xs[i]? = some x) (h' : ys[i]? = some y) : (zipD xs ys)[i]? = some (pairD x y) := by simp [zipD, List.getElem?_zipWith, h, h']
theorem zipD_len (xs ys : List Dv) : (zipD xs ys).length = min xs.length ys.length := by simp [zipD]
theorem iw_zipL {a b : Addr} {xs ys : List Dv} {keep : Ms → Prop} {H1 : Hp} (h : ∀ H M, Tp K H1 H → View K M H → keep M → (∃ ws, SqL K H a ws ∧ Reps K H xs ws) ∧ ∃ ws, SqL K H b ws ∧ Reps K H ys ws) : IW K (Itz K a b) (zipD xs ys) keep H1 where
  go := fun i H M hi t v k => by
    rw [zipD_len] at hi
    obtain ⟨⟨ws, s, z⟩, us, s2, z2⟩ := h H M t v k
    obtain ⟨w, hw, _⟩ := z.get (i := i) (List.getElem?_eq_getElem (by omega))
    obtain ⟨u, hu, _⟩ := z2.get (i := i) (List.getElem?_eq_getElem (by omega))
    exact ⟨ws, us, w, u, s, s2, hw, hu⟩
  stop := fun H M t v k => by
    obtain ⟨⟨ws, s, z⟩, us, s2, z2⟩ := h H M t v k
    exact ⟨ws, us, s, s2, by rw [zipD_len, ← z.length, ← z2.length]; omega⟩
  yld := fun i H M x H' hi t v k y => by
    rw [zipD_len] at hi
    obtain ⟨⟨ws, s, z⟩, us, s2, z2⟩ := h H M t v k
    obtain ⟨w, hw, rw'⟩ := z.get (i := i) (List.getElem?_eq_getElem (by omega))
    obtain ⟨u, hu, ru⟩ := z2.get (i := i) (List.getElem?_eq_getElem (by omega))
    obtain ⟨T, x', z', e, hn, e2, y2, y3⟩ := y
    subst e e2
    have q1 := y2 ws s
    have q2 := y3 us s2
    rw [hw] at q1
    rw [hu] at q2
    cases q1
    cases q2
    exact ⟨_, zipD_get (List.getElem?_eq_getElem (by omega)) (List.getElem?_eq_getElem (by omega)), Tp.new hn, rep_pair hn rw' ru, v.new hn, fun a ha => upd_ne fun q => ha (q ▸ hn)⟩
theorem iw_zipT {a b : Addr} {xs ys : List Dv} {vs us : List V} {keep : Ms → Prop} {H1 : Hp} (z0 : Reps K H1 xs vs) (z1 : Reps K H1 ys us) (h : ∀ H, Tp K H1 H → SqT K H a vs) (h' : ∀ H, Tp K H1 H → SqT K H b us) : IW K (RZ.ItzT K a b) (zipD xs ys) keep H1 where
  go := fun i H M hi t v k => by
    rw [zipD_len] at hi
    obtain ⟨w, hw, _⟩ := z0.get (i := i) (List.getElem?_eq_getElem (by omega))
    obtain ⟨u, hu, _⟩ := z1.get (i := i) (List.getElem?_eq_getElem (by omega))
    exact ⟨vs, us, w, u, h H t, h' H t, hw, hu⟩
  stop := fun H M t v k => ⟨vs, us, h H t, h' H t, by rw [zipD_len, ← z0.length, ← z1.length]; omega⟩
  yld := fun i H M x H' hi t v k y => by
    rw [zipD_len] at hi
    obtain ⟨w, hw, rw'⟩ := (z0.mono t).get (i := i) (List.getElem?_eq_getElem (by omega))
    obtain ⟨u, hu, ru⟩ := (z1.mono t).get (i := i) (List.getElem?_eq_getElem (by omega))
    obtain ⟨T, x', z', e, hn, e2, y2, y3⟩ := y
    subst e e2
    have q1 := y2 vs (h _ t)
    have q2 := y3 us (h' _ t)
    rw [hw] at q1
    rw [hu] at q2
    cases q1
    cases q2
    exact ⟨_, zipD_get (List.getElem?_eq_getElem (by omega)) (List.getElem?_eq_getElem (by omega)), Tp.new hn, rep_pair hn rw' ru, v.new hn, fun a ha => upd_ne fun q => ha (q ▸ hn)⟩
def aiZip (t : RA) : RI := fun ρ M Q => t ρ M fun ds M1 => match ds with
  | [.tup xs, .tup ys] => Q (zipD xs ys) (fun _ => True) M1
  | [d, f] => onS (lstA d M1) fun xs => onS (lstA f M1) fun ys => Q (zipD xs ys) (fun M => lstA d M = some xs ∧ lstA f M = some ys) M1
  | _ => False
theorem ai_zip {elts : List Expr} {kk : Nat} (hm : X.mg "zip" = none) (ha : AA X [a, b] t) (hg : Gl X "zip" := by rfl) (hs : starEach [a, b] X.env = (false, eval a X.env) :: starEach [b] X.env := by rfl) (hpl : (backTo pos (starEach [b] X.env)).any (·.1) = false := by rfl) : AI X (.Tuple elts kk tpos) (.Call (.Name "zip" p) [a, b] [] pos) (aiZip t) :=
  pi_imp (RZ.pi_zipA hg hm ha hs hpl) fun σ H R ⟨ρ, M, Q, hr, hv, q, k⟩ => seqA hr hv q fun vs H1 ds M1 t1 r1 v1 q1 => by
    split at q1
    · next xs ys =>
      obtain ⟨v, w, e, rd, rd2⟩ := reps2 r1
      obtain ⟨a, us, e1, s, z⟩ := rep_tup_inv rd
      obtain ⟨b, ws, e2, s2, z2⟩ := rep_tup_inv rd2
      exact ⟨a, b, us, ws, by rw [e, e1, e2], .inr ⟨s, s2, k _ H1 _ _ M1 t1 v1 q1 (iw_zipT z z2 (fun H t => t.t _ _ s) fun H t => t.t _ _ s2)⟩⟩
    · next d f _ =>
      obtain ⟨xs, h1, q1⟩ := onS_ex q1
      obtain ⟨ys, h2, q1⟩ := onS_ex q1
      obtain ⟨v, w, e, rd, rd2⟩ := reps2 r1
      obtain ⟨a, us, e1, z, s, hs⟩ := lst_stand rd v1 h1
      obtain ⟨b, ws, e2, z2, s2, hs2⟩ := lst_stand rd2 v1 h2
      exact ⟨a, b, us, ws, by rw [e, e1, e2], .inl ⟨s, s2, k _ H1 _ _ M1 t1 v1 q1 (iw_zipL fun H M t v k => ⟨hs H M t v k.1, hs2 H M t v k.2⟩)⟩⟩
    · exact q1.elim
end
end HC
set_option maxHeartbeats 1000000
namespace HC
open PySem PySem.Spec L2 PyProof.Rows
theorem meets_enum_newB {v : Value} {o : Obj} {H : Heap → Prop} (B : Begins v o H) :
    Meets (Builtin.«enumerate.__new__» ⟨[.type "enumerate", v], []⟩) (fun _ R s => H s.heap ∧
      R (.ok (.ret (.ref (s.heap.push o).objs.size))) { s with heap := (s.heap.push o).push { cls := .type "enumerate", data := .fields #[.none, .bool false, .ref s.heap.objs.size, rawInt 0, .none, .none] } }) :=
  .of_wp fun prog w A R s h => by
    obtain ⟨hp, g, d, tk, os⟩ := s; obtain ⟨h1, h⟩ := h
    have hsub := sub_enumerate
    have q1 : ∀ {A' : Around} {E : Value → Shared → Prop} {Q : Value → Shared → Prop}, Q (.ref hp.objs.size) ⟨hp.push o, g, d, tk, os⟩ → wpAny (model prog w) A' (pyIter v) Q E ⟨hp, g, d, tk, os⟩ :=
      fun q => B.iter prog w _ _ ⟨hp, g, d, tk, os⟩ _ h1 q
    wp_walk using q1
    refine wpAny_stack_any fun st => wpAny_pure ?_
    split
    · rename_i c _ _ _ _ _
      cases (c == Value.type "enumerate")
      · wp_walk using q1
        exact ⟨_, rfl, h⟩
      · wp_walk using q1
        exact ⟨_, rfl, h⟩
    · wp_walk using q1
      exact ⟨_, rfl, h⟩
section
variable {prog : Program} {w : World} {A : Around} {E : Value → Shared → Prop} {s : Shared}
theorem call_enum_B {v : Value} {o : Obj} {H : Heap → Prop} {Q : Value → Shared → Prop} (B : Begins v o H) (h1 : H s.heap)
    (h : ∀ h', IsEnum h' (s.heap.objs.size + 1) s.heap.objs.size 0 .none → h'.get? s.heap.objs.size = some o → h'.objs.size = s.heap.objs.size + 2 →
      (∀ b o, s.heap.get? b = some o → h'.get? b = some o) → Q (.ref (s.heap.objs.size + 1)) { s with heap := h' }) :
    wpAny (model prog w) A (call (.type "enumerate") [v]) Q E s := by
  refine callType_new F.called_enumerate (by decide) (F.typeCall_enumerate_1 _) (F.newCall_enumerate_1 _) (fun obj => F.args_object_init_2 obj _) F.entry_enumerate_new
    (meets_enum_newB B) ⟨h1, ?_⟩
  have hz : (s.heap.push o).objs.size = s.heap.objs.size + 1 := Heap.size_push ..
  show _ ∧ _
  rw [hz]
  have he : IsEnum ((s.heap.push o).push { cls := .type "enumerate", data := .fields #[.none, .bool false, .ref s.heap.objs.size, rawInt 0, .none, .none] }) (s.heap.objs.size + 1) s.heap.objs.size 0 .none := by
    have := Heap.get?_push_size (s.heap.push o) (o := { cls := .type "enumerate", data := .fields #[.none, .bool false, .ref s.heap.objs.size, rawInt 0, .none, .none] }) rfl
    rw [hz] at this; exact this
  refine ⟨⟨_, he, rfl⟩, h _ he (Heap.get?_push_of_some _ (Heap.get?_push_size _ B.free)) (by rw [Heap.size_push, hz]) fun b o x => Heap.get?_push_of_some _ (Heap.get?_push_of_some _ x)⟩
end
def IteT (K : PySem.W.Frag) (a : Addr) : It :=
  ⟨fun i H => ∃ (xs : List V) (x : V), SqT K H a xs ∧ xs[i]? = some x, fun i H v H' => ∃ T x, v = .ref T ∧ H T = none ∧ H' = upd H T (.tup [.int (i : Nat), x]) ∧ ∀ xs, SqT K H a xs → xs[i]? = some x, fun i H => ∃ xs : List V, SqT K H a xs ∧ xs.length = i⟩
theorem turn_enumT {P : Program} {w : World} {K : PySem.W.Frag} {elts : List Expr} {kk : Nat} {tpos : Pos} (a e it : Addr) :
    Turn P w K (.Tuple elts kk tpos) (IteT K a) [e, it] e (fun i h => (∃ old, IsEnum h e it ((i : Nat) : Int) old) ∧ h.IsTupleIter it a i ∧ e ≠ it) where
  mem := by simp
  obj := fun i h st b hb => by
    obtain ⟨⟨old, he⟩, ⟨o, ho, hc, hd⟩, _⟩ := st
    have e' : b = e ∨ b = it := by simpa using hb
    rcases e' with z | z
    · rw [z]; exact ⟨_, he, fun v q => nomatch q⟩
    · rw [z]; exact ⟨o, ho, fun v q => by rw [hd] at q; cases q⟩
  keep := fun i h h' st k => let ⟨⟨old, he⟩, hi, hne⟩ := st; ⟨⟨old, k e (by simp) _ he⟩, hi.at fun o q => k it (by simp) o q, hne⟩
  item := by
    intro X hP hw hK hc i pins s σ H E I hf st hg
    subst hP hw hK
    obtain ⟨⟨old, he⟩, hit, hne⟩ := st
    obtain ⟨xs, x, hq, hx⟩ := hg
    obtain ⟨its, rv, p, hz⟩ := I.tuple hq
    obtain ⟨u, hu, ru⟩ := rv.get hx
    have hel : e < s.heap.objs.size := Heap.lt_size he
    have hil : it < s.heap.objs.size := by obtain ⟨_, q, _⟩ := hit; exact Heap.lt_size q
    have nae : e ≠ a := by
      intro q
      obtain ⟨o, ho, hcl, _⟩ := p
      rw [← q] at ho
      have := he.symm.trans ho
      cases this
      injection hcl with hc'
      exact absurd hc' (by decide)
    have nai : a ≠ it := by
      intro q
      obtain ⟨o, ho, hcl, _⟩ := p
      obtain ⟨o2, ho2, hc2, _⟩ := hit
      rw [q, ho2] at ho
      cases ho
      rw [hc2] at hcl
      injection hcl with hc'
      exact absurd hc' (by decide)
    have hil2 : i < its.toArray.size := by
      have := (List.getElem?_eq_some_iff.mp hu).1
      simpa using this
    refine wpAny_pyNext_enum_itemC (Draws.tuple (A := X.A.in1) (show X.A.in1.handled = none from I.ok.hd hc) it a nai its.toArray) he ⟨hit, p⟩ hil2 hne (by simp [hne, nae]) fun x' h' tk hx' ho hst' hT hsz hk => ?_
    obtain ⟨hit', _⟩ := hst'
    have ex : x' = u := by
      have h1 : its.toArray[i]? = some u := by simpa using hu
      rw [h1] at hx'
      exact (Option.some.inj hx').symm
    subst ex
    refine ⟨_, rfl, wpAny_letOwnedTupleGo_enum (s := { s with heap := h', toks := tk + 1 }) ho fun h'' he' sb => ?_⟩
    have hT2 : h''.get? s.heap.objs.size = some { cls := .type "tuple", data := .seq #[.int i tk, x'] } := (sb.2 _ (Nat.ne_of_gt hel)).trans hT
    have new : ObjOk X.prog X.w (upd H s.heap.objs.size (.tup [.int (i : Nat), x])) h'' s.heap.objs.size (.tup [.int (i : Nat), x]) :=
      ⟨by show 2 ≤ sizeLine; decide, [.int i tk, x'], .cons ⟨_, rfl⟩ (.cons ru .nil), ⟨_, hT2, rfl, _, rfl⟩⟩
    have I1 : Inv X pins σ (upd H s.heap.objs.size (.tup [.int (i : Nat), x])) { s with heap := h'', toks := tk + 1 } :=
      I.turnedNew (ch := [e, it]) (fun b ob hb q => (sb.2 b (fun z => hb (by simp [z]))).trans (hk b ob (fun z => hb (by simp [z])) (fun z => hb (by simp [z])) q)) hf (Nat.le_refl _) new
    refine ⟨.ref s.heap.objs.size, _, I1, rfl, ⟨_, x, rfl, I.hok.fresh (Nat.le_refl _), rfl, fun ys hy => by rw [I.tuple_inj hy hq]; exact hx⟩, ⟨⟨x', ?_⟩, hit'.at fun o q => (sb.2 it (Ne.symm hne)).trans q, hne⟩, fun b hb => ?_⟩
    · have e1 : ((i + 1 : Nat) : Int) = (i : Int) + 1 := by omega
      rw [e1]; exact he'
    · have hb' : b < s.heap.objs.size := by
        have e' : b = e ∨ b = it := by simpa using hb
        rcases e' with z | z
        · rw [z]; exact hel
        · rw [z]; exact hil
      rw [upd_ne (Nat.ne_of_lt hb')]
      exact (hf b hb).1
  done := by
    intro X hP hw hK hc i pins s σ H E I hf st hg
    subst hP hw hK
    obtain ⟨⟨old, he⟩, hit, hne⟩ := st
    obtain ⟨xs, hq, hx⟩ := hg
    obtain ⟨its, rv, p, hz⟩ := I.tuple hq
    obtain ⟨f0, f1, f2, f3, f4, f5⟩ := hf it (by simp)
    have hl := rv.length
    have nai : a ≠ it := by
      intro q
      obtain ⟨o, ho, hcl, _⟩ := p
      obtain ⟨o2, ho2, hc2, _⟩ := hit
      rw [q, ho2] at ho
      cases ho
      rw [hc2] at hcl
      injection hcl with hc'
      exact absurd hc' (by decide)
    have hst : (fun i (h : Heap) => h.IsTupleIter it a i ∧ h.IsTuple a its.toArray) its.toArray.size s.heap := ⟨by
      have e2 : its.toArray.size = i := by simp; omega
      rw [e2]; exact hit, p⟩
    refine wpAny_pyNext_enum_endD (Draws.tuple (prog := X.prog) (w := X.w) (A := X.A.in1) (show X.A.in1.handled = none from I.ok.hd hc) it a nai its.toArray) he hst fun h' eb => ⟨rfl, I.turned (t' := s.toks) (fun b o hb q => eb b o hb q) f0 f1 f3 f4 f5⟩
  self := fun A i s Q E st h => let ⟨⟨_, he⟩, _⟩ := st; wpAny_pyIter_enum he h
def iEnumA (K : PySem.W.Frag) (ta : TA) : TI := fun σ H R => ta σ H fun vs H1 => ∃ a xs, vs = [.ref a] ∧ ((SqL K H1 a xs ∧ R (Ite K a) H1) ∨ (SqT K H1 a xs ∧ R (IteT K a) H1))
theorem pi_enumA {X : Cx} {e : Expr} {ta : TA} {p pos tpos : Pos} {elts : List Expr} {kk : Nat} (hg : Gl X "enumerate") (hm : X.mg "enumerate" = none) (ha : PA X [e] ta) (hs : starEach [e] X.env = [(false, eval e X.env)] := by rfl) :
    PI X (.Tuple elts kk tpos) (.Call (.Name "enumerate" p) [e] [] pos) (iEnumA X.K ta) := by
  refine ⟨fun pins s σ H R I h => ?_⟩
  refine Call_ (ld_blt I hg hm boot_enumerate (PyProof.Rows.callWith_type1 (thn (ha.run pos pins s σ H _ I h) fun us s1 ⟨vs, H1, I1, r1, q1⟩ => ?_) hs rfl))
  obtain ⟨a, xs, ex, q1⟩ := q1
  subst ex
  cases r1 with
  | cons r rr =>
    cases rr
    cases r
    rcases q1 with ⟨hq, q⟩ | ⟨hq, q⟩
    · obtain ⟨its, rv, p', hz⟩ := I1.list hq
      refine call_enumerate_list p'.isList fun h' he hit hsz hk => wpAny_pyIter_enum he ?_
      have I2 : Inv X pins σ H1 { s1 with heap := h' } := I1.kept (t' := s1.toks) hk
      refine ⟨s1.heap.objs.size + 1, [s1.heap.objs.size + 1, s1.heap.objs.size], _, _, H1, rfl, I2, turn_enum a (s1.heap.objs.size + 1) s1.heap.objs.size, ⟨⟨.none, he⟩, hit, Nat.succ_ne_self _⟩, fun b hb => ?_, q⟩
      have e' : b = s1.heap.objs.size + 1 ∨ b = s1.heap.objs.size := by simpa using hb
      have hle : s1.heap.objs.size ≤ b := by
        rcases e' with z | z
        · rw [z]; exact Nat.le_add_right _ _
        · rw [z]; exact Nat.le_refl _
      exact I1.fpOk hle (I1.hok.fresh hle)
    · obtain ⟨its, rv, p', hz⟩ := I1.tuple hq
      refine call_enum_B (begins_tuple a its.toArray) (show s1.heap.IsTuple a its.toArray from p') fun h' he hit hsz hk => wpAny_pyIter_enum he ?_
      have I2 : Inv X pins σ H1 { s1 with heap := h' } := I1.kept (t' := s1.toks) hk
      refine ⟨s1.heap.objs.size + 1, [s1.heap.objs.size + 1, s1.heap.objs.size], _, _, H1, rfl, I2, turn_enumT a (s1.heap.objs.size + 1) s1.heap.objs.size, ⟨⟨.none, he⟩, ⟨_, hit, rfl, rfl⟩, Nat.succ_ne_self _⟩, fun b hb => ?_, q⟩
      have e' : b = s1.heap.objs.size + 1 ∨ b = s1.heap.objs.size := by simpa using hb
      have hle : s1.heap.objs.size ≤ b := by
        rcases e' with z | z
        · rw [z]; exact Nat.le_add_right _ _
        · rw [z]; exact Nat.le_refl _
      exact I1.fpOk hle (I1.hok.fresh hle)
section
variable {X : Cx} {e : Expr} {t : RA} {K : PySem.W.Frag} {p pos tpos : Pos}
theorem iw_enumT {a : Addr} {ds : List Dv} {vs : List V} {keep : Ms → Prop} {H1 : Hp} (z0 : Reps K H1 ds vs) (h : ∀ H, Tp K H1 H → SqT K H a vs) : IW K (IteT K a) (enumD ds) keep H1 where
  go := fun i H M hi t v k => by
    rw [enumD_len] at hi
    obtain ⟨w, hw, _⟩ := z0.get (List.getElem?_eq_getElem hi)
    exact ⟨vs, w, h H t, hw⟩
  stop := fun H M t v k => ⟨vs, h H t, by rw [enumD_len, ← z0.length]⟩
  yld := fun i H M x H' hi t v k y => by
    rw [enumD_len] at hi
    obtain ⟨w, hw, rw'⟩ := (z0.mono t).get (List.getElem?_eq_getElem hi)
    obtain ⟨T, x', e, hn, e2, y2⟩ := y
    subst e e2
    have := y2 vs (h _ t)
    rw [hw] at this
    cases this
    exact ⟨_, enumD_get (List.getElem?_eq_getElem hi), Tp.new hn, rep_pair hn rep_int rw', v.new hn, fun a ha => upd_ne fun q => ha (q ▸ hn)⟩
def aiEnum (t : RA) : RI := fun ρ M Q => t ρ M fun ds M1 => on1 ds fun d => onS (itemsA d M1) fun xs => Q (enumD xs) (fun M => itemsA d M = some xs) M1
theorem ai_enum {elts : List Expr} {kk : Nat} (hm : X.mg "enumerate" = none) (ha : AA X [e] t) (hg : Gl X "enumerate" := by rfl) (hs : starEach [e] X.env = [(false, eval e X.env)] := by rfl) : AI X (.Tuple elts kk tpos) (.Call (.Name "enumerate" p) [e] [] pos) (aiEnum t) :=
  pi_imp (pi_enumA hg hm ha hs) fun σ H R ⟨ρ, M, Q, hr, hv, q, k⟩ => seqA hr hv q fun vs H1 ds M1 t1 r1 v1 q1 => by
    obtain ⟨d, e0, q4⟩ := on1_ex q1
    obtain ⟨xs, h1, q5⟩ := onS_ex q4
    subst e0
    obtain ⟨v, e, rd⟩ := reps1 r1
    obtain ⟨a, ws, e1, z, hs⟩ := items_stand rd v1 h1
    rcases hs with ⟨s, hs⟩ | ⟨s, hs⟩
    · exact ⟨a, ws, by rw [e, e1], .inr ⟨s, k _ H1 _ _ M1 t1 v1 q5 (iw_enumT z hs)⟩⟩
    · exact ⟨a, ws, by rw [e, e1], .inl ⟨s, k _ H1 _ _ M1 t1 v1 q5 (iw_enum hs)⟩⟩
end
end HC
set_option maxHeartbeats 1000000
namespace HC
open PySem PySem.Spec L2 PyProof.Rows
def RowIt (k : Bool) (h : Heap) (it a : Addr) (i : Nat) : Prop := match k with | true => h.IsTupleIter it a i | false => h.IsListIter it a i
def RowAt (k : Bool) (h : Heap) (a : Addr) (items : Array Value) : Prop := match k with | true => h.IsTuple a items | false => h.IsList a items
def RowV (k : Bool) (K : PySem.W.Frag) (H : Hp) (a : Addr) (xs : List V) : Prop := match k with | true => SqT K H a xs | false => SqL K H a xs
def RowO (k : Bool) (a : Addr) : Obj := match k with
  | true => { cls := .type "tuple_iterator", data := .fields #[.ref a, .int 0 0] }
  | false => { cls := .type "list_iterator", data := .fields #[.ref a, .int 0 0] }
theorem row_draws {prog : Program} {w : World} {A : Around} (hh : A.handled = none) (k : Bool) (it a : Addr) (hne : a ≠ it) (items : Array Value) :
    Draws prog w A it [it, a] items.size (fun i v => items[i]? = some v) (fun i h => RowIt k h it a i ∧ RowAt k h a items) := by
  cases k
  · exact Draws.list hh it a hne items
  · exact Draws.tuple hh it a hne items
theorem row_begins (k : Bool) (a : Addr) (items : Array Value) : Begins (.ref a) (RowO k a) fun h => RowAt k h a items := by
  cases k
  · exact begins_list a items
  · exact begins_tuple a items
theorem RowIt.keep {k : Bool} {h h' : Heap} {it a : Addr} {i : Nat} (r : RowIt k h it a i) (q : ∀ o, h.get? it = some o → h'.get? it = some o) : RowIt k h' it a i := by
  cases k
  · exact Heap.IsListIter.at (h := h) r q
  · exact Heap.IsTupleIter.at (h := h) r q
theorem RowIt.first {k : Bool} {h : Heap} {it a : Addr} (q : h.get? it = some (RowO k a)) : RowIt k h it a 0 := by
  cases k
  · exact ⟨_, q, rfl, rfl⟩
  · exact ⟨_, q, rfl, rfl⟩
theorem RowIt.ob {k : Bool} {h : Heap} {it a : Addr} {i : Nat} (r : RowIt k h it a i) : ∃ o ar, h.get? it = some o ∧ o.data = .fields ar := by
  cases k
  · obtain ⟨o, e, _, d⟩ := r; exact ⟨o, _, e, d⟩
  · obtain ⟨o, e, _, d⟩ := r; exact ⟨o, _, e, d⟩
theorem row_inv {X : Cx} {pins : List (Addr × Obj)} {σ : L2.St} {H : Hp} {s : Shared} {a : Addr} {xs : List V} {k : Bool} (I : Inv X pins σ H s) (h : RowV k X.K H a xs) : ∃ its : List Value, Vals xs its ∧ RowAt k s.heap a its.toArray := by
  cases k
  · obtain ⟨its, r, p, _⟩ := I.list h
    exact ⟨its, r, p.isList⟩
  · obtain ⟨its, r, p, _⟩ := I.tuple h
    exact ⟨its, r, p⟩
theorem row_inj {X : Cx} {pins : List (Addr × Obj)} {σ : L2.St} {H : Hp} {s : Shared} {a : Addr} {xs ys : List V} {k : Bool} (I : Inv X pins σ H s) (h : RowV k X.K H a xs) (h' : RowV k X.K H a ys) : xs = ys := by
  cases k
  · exact I.list_inj h h'
  · exact I.tuple_inj h h'
theorem RowAt.lt {k : Bool} {h : Heap} {a : Addr} {items : Array Value} (r : RowAt k h a items) : a < h.objs.size := by
  cases k
  · obtain ⟨o, e, _⟩ := r; exact Heap.lt_size e
  · obtain ⟨o, e, _⟩ := r; exact Heap.lt_size e
abbrev zH2 (h : Heap) (o1 o2 : Obj) : Heap := (h.push o1).push o2
abbrev zH3 (h : Heap) (o1 o2 : Obj) : Heap := (zH2 h o1 o2).push { cls := .type "tuple", data := .seq #[.ref h.objs.size, .ref (h.push o1).objs.size] }
abbrev zH4 (h : Heap) (o1 o2 : Obj) : Heap := (zH3 h o1 o2).push { cls := .type "tuple", data := .seq #[.none, .none] }
abbrev zH5 (h : Heap) (o1 o2 : Obj) : Heap := (zH4 h o1 o2).push { cls := .type "zip", data := .fields #[.none, .bool false, .bool false, .ref (zH2 h o1 o2).objs.size, .ref (zH3 h o1 o2).objs.size] }
theorem meets_zip_newB {v1 v2 : Value} {o1 o2 : Obj} {P1 P2 : Heap → Prop} (B1 : Begins v1 o1 P1) (B2 : Begins v2 o2 P2) :
    Meets (Builtin.«zip.__new__» ⟨[.type "zip", v1, v2], []⟩) (fun _ R s => P1 s.heap ∧ P2 s.heap ∧
      R (.ok (.ret (.ref (zH4 s.heap o1 o2).objs.size))) { s with heap := zH5 s.heap o1 o2 }) :=
  .of_wp fun prog w A R s hyp => by
    obtain ⟨hp, g, d, tk, os⟩ := s
    obtain ⟨f1, f2, hyp⟩ := hyp
    have hsub := sub_zip
    have g1 : ∀ {A' : Around} {E : Value → Shared → Prop} {Q : Value → Shared → Prop}, Q (.ref hp.objs.size) ⟨hp.push o1, g, d, tk, os⟩ → wpAny (model prog w) A' (pyIter v1) Q E ⟨hp, g, d, tk, os⟩ :=
      fun q => B1.iter prog w _ _ ⟨hp, g, d, tk, os⟩ _ f1 q
    have g2 : ∀ {A' : Around} {E : Value → Shared → Prop} {Q : Value → Shared → Prop}, Q (.ref (hp.push o1).objs.size) ⟨(hp.push o1).push o2, g, d, tk, os⟩ → wpAny (model prog w) A' (pyIter v2) Q E ⟨hp.push o1, g, d, tk, os⟩ :=
      fun q => B2.iter prog w _ _ ⟨hp.push o1, g, d, tk, os⟩ _ (B2.keeps _ _ f2 fun b o e => Heap.get?_push_of_some _ e) q
    wp_walk using g1, g2
    exact ⟨_, rfl, hyp⟩
section
variable {prog : Program} {w : World} {A : Around} {E : Value → Shared → Prop} {s : Shared}
theorem call_zip_B {v1 v2 : Value} {o1 o2 : Obj} {P1 P2 : Heap → Prop} {Q : Value → Shared → Prop} (B1 : Begins v1 o1 P1) (B2 : Begins v2 o2 P2) (f1 : P1 s.heap) (f2 : P2 s.heap)
    (go : ∀ h', IsZip h' (s.heap.objs.size + 4) (s.heap.objs.size + 2) (s.heap.objs.size + 3) .none → IsPair h' (s.heap.objs.size + 2) (.ref s.heap.objs.size) (.ref (s.heap.objs.size + 1)) →
      IsPair h' (s.heap.objs.size + 3) .none .none → h'.get? s.heap.objs.size = some o1 → h'.get? (s.heap.objs.size + 1) = some o2 →
      (∀ c o, s.heap.get? c = some o → h'.get? c = some o) → Q (.ref (s.heap.objs.size + 4)) { s with heap := h' }) :
    wpAny (model prog w) A (call (.type "zip") [v1, v2]) Q E s := by
  refine callType_new F.called_zip (by decide) (F.typeCall_zip_2 _ _) (F.newCall_zip_2 _ _) (fun obj => F.args_object_init_3 obj _ _) F.entry_zip_new
    (meets_zip_newB B1 B2) ⟨f1, f2, ?_⟩
  have up : ∀ {h : Heap} {o' : Obj} {c : Addr} {o : Obj}, h.get? c = some o → (h.push o').get? c = some o := fun e => Heap.get?_push_of_some _ e
  have e1 : (s.heap.push o1).objs.size = s.heap.objs.size + 1 := Heap.size_push ..
  have e2 : (zH2 s.heap o1 o2).objs.size = s.heap.objs.size + 2 := (Heap.size_push ..).trans (by rw [e1])
  have e3 : (zH3 s.heap o1 o2).objs.size = s.heap.objs.size + 3 := (Heap.size_push ..).trans (by rw [e2])
  have e4 : (zH4 s.heap o1 o2).objs.size = s.heap.objs.size + 4 := (Heap.size_push ..).trans (by rw [e3])
  have a1 : (zH5 s.heap o1 o2).get? s.heap.objs.size = some o1 := up (up (up (up (Heap.get?_push_size _ B1.free))))
  have a2 : (zH5 s.heap o1 o2).get? (s.heap.push o1).objs.size = some o2 := up (up (up (Heap.get?_push_size _ B2.free)))
  have a3 : (zH5 s.heap o1 o2).get? (zH2 s.heap o1 o2).objs.size = some _ := up (up (Heap.get?_push_size _ rfl))
  have a4 : (zH5 s.heap o1 o2).get? (zH3 s.heap o1 o2).objs.size = some _ := up (Heap.get?_push_size _ rfl)
  have a5 : (zH5 s.heap o1 o2).get? (zH4 s.heap o1 o2).objs.size = some _ := Heap.get?_push_size _ rfl
  show _ ∧ _
  refine ⟨⟨_, a5, rfl⟩, ?_⟩
  rw [e1] at a2 a3
  rw [e2] at a3 a5
  rw [e3] at a4 a5
  rw [e4] at a5 ⊢
  exact go _ a5 a3 a4 a1 a2 fun c o e => up (up (up (up (up e))))
end
def ItzM (k m : Bool) (K : PySem.W.Frag) (a b : Addr) : It :=
  ⟨fun i H => ∃ (xs ys : List V) (x y : V), RowV k K H a xs ∧ RowV m K H b ys ∧ xs[i]? = some x ∧ ys[i]? = some y,
    fun i H v H' => ∃ T x y, v = .ref T ∧ H T = none ∧ H' = upd H T (.tup [x, y]) ∧ (∀ xs, RowV k K H a xs → xs[i]? = some x) ∧ ∀ ys, RowV m K H b ys → ys[i]? = some y,
    fun i H => ∃ xs ys : List V, RowV k K H a xs ∧ RowV m K H b ys ∧ i = min xs.length ys.length⟩
theorem turn_zipM {P : Program} {w : World} {K : PySem.W.Frag} {elts : List Expr} {kk : Nat} {tpos : Pos} {k m : Bool} {a b z TI TO i1 i2 : Addr} (S : ZipSep2 z TI TO i1 i2 [i1, a] [i2, b]) (na : a ≠ i1) (nb : b ≠ i2) :
    Turn P w K (.Tuple elts kk tpos) (ItzM k m K a b) [z, TI, TO, i1, i2] z (fun i h => IsZip h z TI TO .none ∧ IsPair h TI (.ref i1) (.ref i2) ∧ (∃ x y, IsPair h TO x y) ∧ RowIt k h i1 a i ∧ RowIt m h i2 b i) where
  mem := List.mem_cons_self ..
  obj := fun i h st c hc => by
    obtain ⟨r1, r2, ⟨x, y, r3⟩, t1, t2⟩ := st
    obtain ⟨o1, _, q1, d1⟩ := t1.ob
    obtain ⟨o2, _, q2, d2⟩ := t2.ob
    simp only [List.mem_cons, List.not_mem_nil, or_false] at hc
    rcases hc with rfl | rfl | rfl | rfl | rfl
    · exact ⟨_, r1, fun v e => nomatch e⟩
    · exact ⟨_, r2, fun v e => nomatch e⟩
    · exact ⟨_, r3, fun v e => nomatch e⟩
    · exact ⟨o1, q1, fun v e => by rw [d1] at e; cases e⟩
    · exact ⟨o2, q2, fun v e => by rw [d2] at e; cases e⟩
  keep := fun i h h' st kp => by
    obtain ⟨r1, r2, ⟨x, y, r3⟩, t1, t2⟩ := st
    exact ⟨kp z (by simp) _ r1, kp TI (by simp) _ r2, ⟨x, y, kp TO (by simp) _ r3⟩, t1.keep fun o e => kp i1 (by simp) o e, t2.keep fun o e => kp i2 (by simp) o e⟩
  item := by
    intro X hP hw hK hc i pins s σ H E I hf st hg
    subst hP hw hK
    obtain ⟨r1, r2, ⟨x0, y0, r3⟩, t1, t2⟩ := st
    obtain ⟨xs, ys, x, y, qa, qb, hx, hy⟩ := hg
    obtain ⟨us, va, pa⟩ := row_inv I qa
    obtain ⟨ws, vb, pb⟩ := row_inv I qb
    obtain ⟨u, hu, ru⟩ := va.get hx
    obtain ⟨v, hv, rv⟩ := vb.get hy
    have hh : X.A.in1.handled = none := I.ok.hd hc
    have lu : i < us.toArray.size := by
      have := (List.getElem?_eq_some_iff.mp hu).1
      simpa using this
    have lv : i < ws.toArray.size := by
      have := (List.getElem?_eq_some_iff.mp hv).1
      simpa using this
    refine wpAny_pyNext_zipD2_item S (row_draws hh k i1 a na us.toArray) (row_draws hh m i2 b nb ws.toArray) r1 r2 r3 ⟨t1, pa⟩ ⟨t2, pb⟩ lu lv fun x1 x2 h1 tk y1 y2 z1 p1 w1 w2 hT hsz same => ?_
    have e1 : x1 = u := by
      have e : us.toArray[i]? = some u := by simpa using hu
      rw [e] at y1
      exact (Option.some.inj y1).symm
    have e2 : x2 = v := by
      have e : ws.toArray[i]? = some v := by simpa using hv
      rw [e] at y2
      exact (Option.some.inj y2).symm
    subst e1 e2
    have lz : z < s.heap.objs.size := Heap.lt_size r1
    refine ⟨_, rfl, wpAny_letOwnedTupleGo_zip (s := { s with heap := h1, toks := tk }) z1 fun h2 z2 sb => ?_⟩
    have hT2 : h2.get? s.heap.objs.size = some { cls := .type "tuple", data := .seq #[x1, x2] } := (sb.2 _ (Nat.ne_of_gt lz)).trans hT
    have new : ObjOk X.prog X.w (upd H s.heap.objs.size (.tup [x, y])) h2 s.heap.objs.size (.tup [x, y]) :=
      ⟨show 2 ≤ sizeLine by decide, [x1, x2], .cons ru (.cons rv .nil), ⟨_, hT2, rfl, _, rfl⟩⟩
    have I1 : Inv X pins σ (upd H s.heap.objs.size (.tup [x, y])) { s with heap := h2, toks := tk } :=
      I.turnedNew (ch := [z, TI, TO, i1, i2]) (fun c o out e => by
        simp only [List.mem_cons, List.not_mem_nil, or_false, not_or] at out
        obtain ⟨c1, c2, c3, c4, c5⟩ := out
        exact (sb.2 c c1).trans (same c o c1 c3 c4 c5 e)) hf (Nat.le_refl _) new
    have sz : ∀ c, c ∈ [z, TI, TO, i1, i2] → c < s.heap.objs.size := fun c hcm => by
      obtain ⟨_, _, q1, _⟩ := t1.ob
      obtain ⟨_, _, q2, _⟩ := t2.ob
      simp only [List.mem_cons, List.not_mem_nil, or_false] at hcm
      rcases hcm with rfl | rfl | rfl | rfl | rfl
      · exact lz
      · exact Heap.lt_size r2
      · exact Heap.lt_size r3
      · exact Heap.lt_size q1
      · exact Heap.lt_size q2
    refine ⟨.ref s.heap.objs.size, _, I1, rfl, ⟨_, x, y, rfl, I.hok.fresh (Nat.le_refl _), rfl, fun l hl => by rw [row_inj I hl qa]; exact hx, fun l hl => by rw [row_inj I hl qb]; exact hy⟩,
      ⟨z2, (sb.2 _ S.TIz).trans (same _ _ S.TIz S.TITO S.TIi1 S.TIi2 r2), ⟨x1, x2, (sb.2 _ S.TOz).trans p1⟩, w1.1.keep fun o e => (sb.2 _ S.zi1.symm).trans e, w2.1.keep fun o e => (sb.2 _ S.zi2.symm).trans e⟩, fun c hcm => ?_⟩
    rw [upd_ne (Nat.ne_of_lt (sz c hcm))]
    exact (hf c hcm).1
  done := by
    intro X hP hw hK hc i pins s σ H E I hf st hg
    subst hP hw hK
    obtain ⟨r1, r2, ⟨x0, y0, r3⟩, t1, t2⟩ := st
    obtain ⟨xs, ys, qa, qb, hi⟩ := hg
    obtain ⟨us, va, pa⟩ := row_inv I qa
    obtain ⟨ws, vb, pb⟩ := row_inv I qb
    have hh : X.A.in1.handled = none := I.ok.hd hc
    have l1 : us.toArray.size = xs.length := by rw [List.size_toArray]; exact va.length.symm
    have l2 : ws.toArray.size = ys.length := by rw [List.size_toArray]; exact vb.length.symm
    refine wpAny_pyNext_zipD2_end S (row_draws hh k i1 a na us.toArray) (row_draws hh m i2 b nb ws.toArray) r1 r2 r3 ⟨t1, pa⟩ ⟨t2, pb⟩ (by omega) (by omega) (by omega) fun h1 tk same => ⟨rfl, I.turnedL (t' := tk) (ch := [z, TI, TO, i1, i2]) (fun c o out e => ?_) hf⟩
    simp only [List.mem_cons, List.not_mem_nil, or_false, not_or] at out
    obtain ⟨c1, c2, c3, c4, c5⟩ := out
    exact same c o c1 c3 c4 c5 e
  self := fun A i s Q E st h => wpAny_pyIter_zip st.1 h
def iZipM (K : PySem.W.Frag) (ta : TA) : TI := fun σ H R => ta σ H fun vs H1 => ∃ a b xs ys k m, vs = [.ref a, .ref b] ∧ RowV k K H1 a xs ∧ RowV m K H1 b ys ∧ R (ItzM k m K a b) H1
theorem off {n i j : Nat} (h : i ≠ j) : n + i ≠ n + j := fun e => h (Nat.add_left_cancel e)
theorem offL {n i b : Nat} (h : b < n) : n + i ≠ b := fun e => Nat.lt_irrefl n (Nat.lt_of_le_of_lt (Nat.le_add_right n i) (e ▸ h))
theorem out2 {x y z : Nat} (h : x ≠ y) (k : x ≠ z) : x ∉ [y, z] := fun e => by
  rcases List.mem_cons.mp e with e | e
  · exact h e
  · exact k (List.mem_singleton.mp e)
theorem sepN {n a b : Nat} (ha : a < n) (hb : b < n) : ZipSep2 (n + 4) (n + 2) (n + 3) n (n + 1) [n, a] [n + 1, b] where
  TIz := off (by decide)
  TOz := off (by decide)
  TITO := off (by decide)
  TIi1 := off (j := 0) (by decide)
  mem1 := List.mem_cons_self ..
  zf1 := out2 (off (j := 0) (by decide)) (offL ha)
  Tf1 := out2 (off (j := 0) (by decide)) (offL ha)
  TIi2 := off (by decide)
  mem2 := List.mem_cons_self ..
  zf2 := out2 (off (by decide)) (offL hb)
  Tf2 := out2 (off (by decide)) (offL hb)
  sep1_2 := out2 (off (i := 0) (by decide)) (offL (i := 0) hb)
  sep2_1 := out2 (off (j := 0) (by decide)) (offL ha)
theorem pi_zipM {X : Cx} {e e2 : Expr} {ta : TA} {p pos tpos : Pos} {elts : List Expr} {kk : Nat} (hg : Gl X "zip") (hm : X.mg "zip" = none) (ha : PA X [e, e2] ta)
    (hs : starEach [e, e2] X.env = (false, eval e X.env) :: starEach [e2] X.env := by rfl) (hpl : (backTo pos (starEach [e2] X.env)).any (·.1) = false := by rfl) :
    PI X (.Tuple elts kk tpos) (.Call (.Name "zip" p) [e, e2] [] pos) (iZipM X.K ta) := by
  refine ⟨fun pins s σ H R I hyp => ?_⟩
  refine Call_ (ld_blt I hg hm boot_zip (callWith_type1 (thn (ha.run pos pins s σ H _ I hyp) fun us s1 got => ?_) hs hpl))
  obtain ⟨vs, H1, I1, rel, a, b, xs, ys, k, m, rfl, qa, qb, q⟩ := got
  cases rel with
  | cons r rr =>
  cases rr with
  | cons r' rr =>
  cases rr
  cases r
  cases r'
  obtain ⟨us1, va, pa⟩ := row_inv I1 qa
  obtain ⟨us2, vb, pb⟩ := row_inv I1 qb
  refine call_zip_B (row_begins k a us1.toArray) (row_begins m b us2.toArray) pa pb fun h' z1 z2 z3 z4 z5 same => wpAny_pyIter_zip z1 ?_
  have I2 : Inv X pins σ H1 { s1 with heap := h' } := I1.kept (t' := s1.toks) same
  have free : ∀ c, c ∈ [s1.heap.objs.size + 4, s1.heap.objs.size + 2, s1.heap.objs.size + 3, s1.heap.objs.size, s1.heap.objs.size + 1] → FpOk X pins H1 c := fun c hcm => by
    have up : s1.heap.objs.size ≤ c := by
      simp only [List.mem_cons, List.not_mem_nil, or_false] at hcm
      rcases hcm with rfl | rfl | rfl | rfl | rfl
      · exact Nat.le_add_right _ _
      · exact Nat.le_add_right _ _
      · exact Nat.le_add_right _ _
      · exact Nat.le_refl _
      · exact Nat.le_add_right _ _
    exact I1.fpOk up (I1.hok.fresh up)
  have la := pa.lt
  have lb := pb.lt
  exact ⟨_, _, _, _, H1, rfl, I2, turn_zipM (sepN la lb) (Nat.ne_of_lt la) (Nat.ne_of_lt (Nat.lt_succ_of_lt lb)), ⟨z1, z2, ⟨_, _, z3⟩, RowIt.first z4, RowIt.first z5⟩, free, q⟩
section
variable {X : Cx} {a b : Expr} {t : RA} {K : PySem.W.Frag} {p pos tpos : Pos}
theorem iw_zipM {k m : Bool} {a b : Addr} {xs ys : List Dv} {keep : Ms → Prop} {H1 : Hp} (hyp : ∀ H M, Tp K H1 H → View K M H → keep M → (∃ ws, RowV k K H a ws ∧ Reps K H xs ws) ∧ ∃ ws, RowV m K H b ws ∧ Reps K H ys ws) : IW K (ItzM k m K a b) (zipD xs ys) keep H1 where
  go := fun i H M hi t v kp => by
    rw [zipD_len] at hi
    obtain ⟨⟨ws, s, z⟩, us, s2, z2⟩ := hyp H M t v kp
    obtain ⟨w, hw, _⟩ := z.get (i := i) (List.getElem?_eq_getElem (by omega))
    obtain ⟨u, hu, _⟩ := z2.get (i := i) (List.getElem?_eq_getElem (by omega))
    exact ⟨ws, us, w, u, s, s2, hw, hu⟩
  stop := fun H M t v kp => by
    obtain ⟨⟨ws, s, z⟩, us, s2, z2⟩ := hyp H M t v kp
    exact ⟨ws, us, s, s2, by rw [zipD_len, ← z.length, ← z2.length]⟩
  yld := fun i H M x H' hi t v kp y => by
    rw [zipD_len] at hi
    obtain ⟨⟨ws, s, z⟩, us, s2, z2⟩ := hyp H M t v kp
    obtain ⟨w, hw, rw'⟩ := z.get (i := i) (List.getElem?_eq_getElem (by omega))
    obtain ⟨u, hu, ru⟩ := z2.get (i := i) (List.getElem?_eq_getElem (by omega))
    obtain ⟨T, x', z', e, hn, e2, y2, y3⟩ := y
    subst e e2
    have q1 := y2 ws s
    have q2 := y3 us s2
    rw [hw] at q1
    rw [hu] at q2
    cases q1
    cases q2
    exact ⟨_, zipD_get (List.getElem?_eq_getElem (by omega)) (List.getElem?_eq_getElem (by omega)), Tp.new hn, rep_pair hn rw' ru, v.new hn, fun a ha => upd_ne fun q => ha (q ▸ hn)⟩
theorem row_stand {H1 : Hp} {M1 : Ms} {d : Dv} {v : V} {ds : List Dv} (r : Rep K H1 d v) (hv : View K M1 H1) (h : itemsA d M1 = some ds) :
    ∃ k a vs, v = .ref a ∧ RowV k K H1 a vs ∧ ∀ H M, Tp K H1 H → View K M H → itemsA d M = some ds → ∃ ws, RowV k K H a ws ∧ Reps K H ds ws := by
  obtain ⟨a, vs, e, z, hs⟩ := items_stand r hv h
  rcases hs with ⟨s, hs⟩ | ⟨s, hs⟩
  · exact ⟨true, a, vs, e, s, fun H M t _ _ => ⟨vs, hs H t, z.mono t⟩⟩
  · exact ⟨false, a, vs, e, s, fun H M t w kp => hs H M t w kp⟩
def aiZipX (t : RA) : RI := fun ρ M Q => t ρ M fun ds M1 => on2 ds fun d f => onS (itemsA d M1) fun xs => onS (itemsA f M1) fun ys => Q (zipD xs ys) (fun M => itemsA d M = some xs ∧ itemsA f M = some ys) M1
theorem ai_zipX {elts : List Expr} {kk : Nat} (hm : X.mg "zip" = none) (ha : AA X [a, b] t) (hg : Gl X "zip" := by rfl) (hs : starEach [a, b] X.env = (false, eval a X.env) :: starEach [b] X.env := by rfl) (hpl : (backTo pos (starEach [b] X.env)).any (·.1) = false := by rfl) : AI X (.Tuple elts kk tpos) (.Call (.Name "zip" p) [a, b] [] pos) (aiZipX t) :=
  pi_imp (pi_zipM hg hm ha hs hpl) fun σ H R ⟨ρ, M, Q, hr, hv, q, k⟩ => seqA hr hv q fun vs H1 ds M1 t1 r1 v1 q1 => by
    obtain ⟨d, f, e0, q2⟩ := on2_ex q1
    obtain ⟨xs, h1, q3⟩ := onS_ex q2
    obtain ⟨ys, h2, q4⟩ := onS_ex q3
    subst e0
    obtain ⟨v, w, e, rd, rd2⟩ := reps2 r1
    obtain ⟨k1, a, us, e1, s, hs⟩ := row_stand rd v1 h1
    obtain ⟨k2, b, ws, e2, s2, hs2⟩ := row_stand rd2 v1 h2
    exact ⟨a, b, us, ws, k1, k2, by rw [e, e1, e2], s, s2, k _ H1 _ _ M1 t1 v1 q4 (iw_zipM fun H M t v kp => ⟨hs H M t v kp.1, hs2 H M t v kp.2⟩)⟩
end
end HC
set_option maxHeartbeats 4000000
namespace HC
open PySem L2 PyProof.Rows
section
variable {X : Cx} {a b c e o tg : Expr} {ta tb tc te to : RE} {pos apos cpos p tpos : Pos} {K : PySem.W.Frag} {es : List Expr} {t : RA}
abbrev AXK := Value → List (Str × Dv) → Ms → Prop
abbrev ASp := List Dv → Ms → DK → Prop
def cSp (K : PySem.W.Frag) (asp : ASp) : Sp := fun vs H Q' _ => ∃ ds M Q, Reps K H ds vs ∧ View K M H ∧ asp ds M Q ∧ LkV K H Q Q'
abbrev FnA (P : Program) (w : World) (K : PySem.W.Frag) (mg : Str → Option Value) (base : Heap) (k : Nat) (f : Addr) (fd : FuncData) (ps : List Str) (asp : ASp) : Prop := FnOk P w K mg base CX0 k f fd ps (cSp K asp)
def aCall (asp : ASp) (t : RA) : RE := fun ρ M Q => t ρ M fun ds M1 => asp ds M1 Q
theorem acall_imp {asp : ASp} : ∀ σ H Q, cE K (aCall asp t) σ H Q → tCall (cSp K asp) [] E0 (cA K t) σ H Q := fun σ H Q' ⟨ρ, M, Q, hr, hv, q, k⟩ => seqA hr hv q fun vs H1 ds M1 t1 r1 v1 q1 =>
  ⟨ds, M1, Q, by rw [List.append_nil]; exact r1, v1, q1, k.up t1⟩
variable {x : Str} {f : Addr} {fd : FuncData} {ps : List Str} {asp : ASp} {k : Nat}
theorem ae_call (F : FnA X.prog X.w X.K X.mg X.base k f fd ps asp) (hr : Room k X.A) (hm : X.mg x = some (.ref f)) (hk : PySem.W.keepIn X.K (.ref f) = true) (hb : Binds X.K fd ps []) (ha : AA X (e :: es) t) (hg : Gl X x := by rfl)
    (hdb : (x == ("__debug__" : Str)) = false := by decide) (he : starEach (e :: es) X.env = (false, eval e X.env) :: starEach es X.env := by rfl) (hpl : (backTo pos (starEach es X.env)).any (·.1) = false := by rfl) : AE X (.Call (.Name x p) (e :: es) [] pos) (aCall asp t) :=
  pe_imp (pe_call F hr hg hm hk hb .nil pass0 ha hdb he hpl) acall_imp
theorem ae_call0 (F : FnA X.prog X.w X.K X.mg X.base k f fd ps asp) (hr : Room k X.A) (hm : X.mg x = some (.ref f)) (hk : PySem.W.keepIn X.K (.ref f) = true) (hb : Binds X.K fd ps []) (hg : Gl X x := by rfl)
    (hdb : (x == ("__debug__" : Str)) = false := by decide) : AE X (.Call (.Name x p) [] [] pos) (aCall asp aNil) :=
  pe_imp (pe_call0 F hr hg hm hk hb .nil pass0 hdb) fun σ H Q' ⟨ρ, M, Q, hr, hv, q, k⟩ => ⟨[], M, Q, Reps.nil, hv, q, k⟩
abbrev BX (P : Program) (w : World) (K : PySem.W.Frag) (mg : Str → Option Value) (base : Heap) (N : List Str) (qual : Str) (st : Stmt) (f : Addr) (cdv : Value) (A : Around) (outer : List Env) (s : Shared) (H : Hp) (E : XK) : Cx := (cxOf CX0 P w K mg base N qual (defScope st) f cdv A outer s H E).nox
def retD (Q : DK) : Ends' := { nx := fun _ M' => ∃ M'', Sub M'' M' ∧ Q .non M'', rt := fun d M' => ∃ M'', Sub M'' M' ∧ Q d M'' }
theorem fnA {P : Program} {w : World} {mg : Str → Option Value} {base : Heap} {qual : Str} {st : Stmt} {N : List Str} {t : RS} (F : Fun K x qual st f fd) (S : FnScope N ps (defScope st)) (len : ∀ ds M Q, asp ds M Q → ds.length = ps.length)
    (body : ∀ (cdv : Value) (A : Around) (outer : List Env) (s : Shared) (H : Hp) (E : XK), Room k (A.deeper (envOfC qual (defScope st) s.heap.objs.size f cdv)) → ASs (BX P w K mg base N qual st f cdv A outer s H E) (defBody st) t)
    (spec : ∀ ds M Q, asp ds M Q → t (retD Q) (startA N.length ds) M) : FnA P w K mg base (k + 1) f fd ps asp := by
  refine F.ok S (fun vs H Q' E ⟨ds, M, Q, r, _, q, _⟩ => by rw [← r.length]; exact len ds M Q q) fun cdv A outer s H vs Q' E hr ⟨ds, M, Q, r, hv, q, kk⟩ => ?_
  refine ⟨_, body cdv A outer s H E hr, startA N.length ds, M, retD Q, repE_start r, hv, spec ds M Q q, ?_, ?_, ?_, ?_⟩
  · rintro σ H' ρ M' tp _ v ⟨M'', sb, q'⟩
    exact kk _ _ _ M'' tp rep_non (v.sub sb) q'
  · rintro v H' d M' tp rd vv ⟨M'', sb, q'⟩
    exact kk _ _ _ M'' tp rd (vv.sub sb) q'
  · rintro _ _ _ _ _ _ _ h
    exact h.elim
  · rintro _ _ _ _ _ _ _ h
    exact h.elim
end
end HC
namespace HC
open PySem L2 PyProof.Rows
section
variable {X : Cx} {a b c e : Expr} {ta tb tc te : RE} {pos : Pos}
theorem ae_chain2 {op op' : CmpOp} {r r' : R2} {ar ar' : AR2} (ho : OpR X (compareOp op) r) (ho' : OpR X (compareOp op') r') (h : Ab2 X.K r ar) (h' : Ab2 X.K r' ar') (ha : AE X a ta) (hb : AE X b tb) (hc : AE X c tc) (hm : lastMarks [op, op'] [b, c] = false := by with_unfolding_all rfl) : AE X (.Compare a [op, op'] [b, c] pos) (aChain ar ar' ta tb tc) :=
  pe_imp (pe_chain ho ho' ha hb hc hm) (chain_imp h h')
theorem at_chain2 {op op' : CmpOp} {r r' : R2} {ar ar' : AR2} (ho : OpR X (compareOp op) r) (ho' : OpR X (compareOp op') r') (h : Ab2 X.K r ar) (h' : Ab2 X.K r' ar') (ha : AE X a ta) (hb : AE X b tb) (hc : AE X c tc) (hm : lastMarks [op, op'] [b, c] = false := by with_unfolding_all rfl) : AT X (.Compare a [op, op'] [b, c] pos) (aB (aChain ar ar' ta tb tc)) :=
  pt_imp (pt_chain ho ho' ha hb hc hm) fun σ H Q' h0 => by
    obtain ⟨ρ, M, Q, hr, hv, q, k⟩ := h0
    exact chain_imp h h' σ H _ ⟨ρ, M, _, hr, hv, q, fun v H1 d M1 t1 r1 v1 q1 => by
      obtain ⟨b, e, q1⟩ := onB_ex q1
      exact ⟨b, by subst e; exact rep_bl_inv r1, k b H1 M1 t1 v1 q1⟩⟩
theorem pgt_name (i : Nat) {x : Str} (hN : X.N.Nodup) (hi : X.N[i]? = some x := by rfl) (hx : Loc X.env.scope x := by first | exact .inl rfl | exact .inr rfl) (hf : X.fn x = true ∨ X.env.scope.names.lookup x = some .local := by first | exact .inr rfl | exact .inl rfl) : PG X (.Name x pos) (Tg.g X.K (.nm i)) := by
  have h := pg_name (pos := pos) hN hi hx hf
  have e : Tg.g X.K (.nm i) = gName i := by simp only [Tg.g]
  rw [e]; exact h
def PGTs (X : Cx) (es : List Expr) (ts : List Tg) : Prop := PGs X es (Tg.gs X.K ts) ∧ (assignEach es X.env).length = ts.length
theorem pgts_nil : PGTs X [] [] := by
  refine ⟨?_, rfl⟩
  have e : Tg.gs X.K [] = gNil := by simp only [Tg.gs]
  rw [e]; exact pgs_nil
theorem pgts_cons {es : List Expr} {t : Tg} {ts : List Tg} (h : PG X e (Tg.g X.K t)) (hs : PGTs X es ts) (he : (assignEach (e :: es) X.env).map (·.2) = assign e X.env :: (assignEach es X.env).map (·.2) := by rfl) : PGTs X (e :: es) (t :: ts) := by
  refine ⟨?_, ?_⟩
  · have q : Tg.gs X.K (t :: ts) = gCons (Tg.g X.K t) (Tg.gs X.K ts) := by simp only [Tg.gs]
    rw [q]; exact pgs_cons h hs.1 he
  · have := congrArg List.length he
    simp only [List.length_map, List.length_cons] at this
    rw [this, hs.2]; rfl
theorem pgt_tup {es : List Expr} {ts : List Tg} {k : Nat} (hc : X.calm = true) (h : PGTs X es ts) (hst : (assignEach es X.env).findIdx? (·.1) = none := by rfl) : PG X (.Tuple es k pos) (Tg.g X.K (.tp ts)) := by
  have e : Tg.g X.K (.tp ts) = fun v σ H Q => gTup X.K ts.length (Tg.gs X.K ts) v σ H Q ∨ gLst X.K ts.length (Tg.gs X.K ts) v σ H Q := by simp only [Tg.g]
  rw [e]
  exact pg_or (pg_tup hc h.1 h.2 hst) (pg_lst hc h.1 h.2 hst)
end
end HC
namespace HC
open PySem L2 PyProof.Rows
theorem law_end {K : PySem.W.Frag} {H : Hp} {a : Addr} {ns : List Int} {sp : ASp} {E : XK} (hl : ns.length ≤ 63) (hO : Only H) (hS : SqL K H a (ns.map V.int)) (h : ∀ ns : List Int, ns.length ≤ 63 → sp [.rol (ns.map Dv.int)] (fun _ => none) (fun d _ => d = .bl true)) :
    cSp K sp [.ref a] H (fun v _ => v = .bl true) E := by
  have hF : SqF K H a (ns.map V.int) := by
    rcases hS with (q | ⟨o, q⟩) | q
    · rcases hO a with z | ⟨o, xs, z⟩
      · rw [q] at z; cases z
      · rw [q] at z; cases z
    · exact .inl ⟨o, q⟩
    · exact .inr (.inr q)
  refine ⟨[.rol (ns.map Dv.int)], fun _ => none, fun d _ => d = .bl true, Reps.cons ?_ Reps.nil, (fun a c e => nomatch e : View K (fun _ => none) H), h ns hl, ?_⟩
  · simp only [Rep]
    exact ⟨a, _, rfl, hF, Reps.of_ints ns⟩
  · rintro v H' d M' _ r _ rfl
    exact rep_bl_inv r
end HC
namespace HC
open PySem L2
theorem subE_nil : SubE [] [] = True := rfl
theorem subE_none (r : Env') (x : Option Dv) (r' : Env') : SubE (none :: r) (x :: r') = SubE r r' := by cases x <;> rfl
theorem subE_some (d : Dv) (r : Env') (y : Option Dv) (r' : Env') : SubE (some d :: r) (y :: r') = (y = some d ∧ SubE r r') := by cases y <;> rfl
theorem sub_iff (M M' : Ms) : Sub M M' = ∀ a c, M a = some c → M' a = some c := rfl
section
variable {M : Ms} {p : Addr} {xs : List Dv}
theorem lenA_l (h : M p = some (.lst xs)) : lenA (.ref p) M = some xs.length := by simp [lenA, itemsA, h]
theorem itemsA_l (h : M p = some (.lst xs)) : itemsA (.ref p) M = some xs := by simp [itemsA, h]
theorem lstA_l (h : M p = some (.lst xs)) : lstA (.ref p) M = some xs := by simp [lstA, h]
theorem lstC_l (h : M p = some (.lst xs)) : lstC (M p) = some xs := by simp [lstC, h]
theorem itemsA_r : itemsA (.ref p) M = lstC (M p) := by
  simp only [itemsA, lstC] <;> (cases M p with
    | none => rfl
    | some c => cases c <;> rfl)
theorem lenA_r : lenA (.ref p) M = (lstC (M p)).map List.length := by simp only [lenA, itemsA_r]
theorem lstA_r : lstA (.ref p) M = lstC (M p) := itemsA_r
theorem lstC_s : lstC (some (.lst xs)) = some xs := rfl
theorem tyM_list (h : M p = some (.lst xs)) : tyM "list" (.ref p) M := by simp [tyM, h]
theorem tyM_dict {kvs : List (Key × Dv)} (h : M p = some (.dic kvs)) : tyM "dict" (.ref p) M := by simp [tyM, h]
theorem retEnd {Q : DK} {d : Dv} {M : Ms} (h : Q d M) : (retD Q).rt d M := ⟨M, Sub.refl M, h⟩
theorem retSub {Q : DK} {d : Dv} {M M' : Ms} (s : Sub M M') (h : Q d M) : (retD Q).rt d M' := ⟨M, s, h⟩
theorem atI_0 {α : Type} (x : α) (xs : List α) : atI (x :: xs) 0 = some x := by simp [atI, ixN]
theorem ixN_0 (n : Nat) (h : 0 < n) : ixN n 0 = some 0 := by simp [ixN, h]
theorem atI_nat {α : Type} {xs : List α} {i : Nat} {x : α} (h : xs[i]? = some x) : atI xs (i : Int) = some x := by
  have hl := (List.getElem?_eq_some_iff.mp h).1
  have he : xs[i] = x := (List.getElem?_eq_some_iff.mp h).2
  simp [atI, ixN, hl, he]
theorem ixN_nat {n i : Nat} (h : i < n) : ixN n (i : Int) = some i := by simp [ixN, h]
end
theorem dec_T {p : Prop} {inst : Decidable p} (h : p) : @decide p inst = true := decide_eq_true h
theorem dec_F {p : Prop} {inst : Decidable p} (h : ¬ p) : @decide p inst = false := decide_eq_false h
theorem lt_line {n : Nat} (h : n < 1000000) : n < sizeLine := Nat.lt_trans h (by decide)
theorem le_line {n : Nat} (h : n ≤ 1000000) : n ≤ sizeLine := Nat.le_trans h (by decide)
abbrev dn (n : Nat) : Dv := .int (n : Int)
section
variable {M : Ms} {D p : Addr} {ρ : Env'} {keep : Ms → Prop} {tg : Tg} {own : List Nat} {tt : RT} {te : RE} {Q : Ms → Prop} {N : Ms → Prop}
theorem keep_ne {xs : List Dv} {c : Cell} (h : M p = some (.lst xs)) (hD : M D = none) : itemsA (.ref p) (mup M D c) = some xs := by
  rw [itemsA_r, mup_ne (ne_of_new h hD), h]; rfl
theorem keepL_ne {xs : List Dv} {c : Cell} (h : M p = some (.lst xs)) (hD : M D = none) : lstA (.ref p) (mup M D c) = some xs := keep_ne h hD
theorem lcEnd {acc : List Dv} {y : Dv} (h : acc.length < sizeLine ∧ N (mup M D (.lst (acc ++ [y])))) : ∃ acc', (mup M D (.lst acc)) D = some (.lst acc') ∧ acc'.length < sizeLine ∧ wkM N (mup (mup M D (.lst acc)) D (.lst (acc' ++ [y]))) :=
  ⟨acc, mup_same, h.1, _, Sub.refl _, by rw [mup_mup]; exact h.2⟩
theorem lcW_inv {ds : List Dv} (P : Nat → Ms → Prop) (h0 : P 0 M) (hk : ∀ i M, i ≤ ds.length → P i M → keep M) (hs : ∀ i d M, ds[i]? = some d → P i M → lcT tg own tt te ρ D d (P (i + 1)) M) (hd : ∀ M, P ds.length M → Q M) : lcW keep tg own tt te ρ D Q ds M := by
  have main : ∀ (n i : Nat), i + n = ds.length → ∀ M, P i M → lcW keep tg own tt te ρ D Q (ds.drop i) M := by
    intro n
    induction n with
    | zero =>
      intro i hi M p
      have e : i = ds.length := by omega
      subst e
      rw [List.drop_length, lcW_eqn]
      exact ⟨hk _ _ (Nat.le_refl _) p, hd _ p⟩
    | succ n ih =>
      intro i hi M p
      have hlt : i < ds.length := by omega
      rw [drop_cons (List.getElem?_eq_getElem hlt), lcW_eqc]
      exact ⟨hk _ _ (by omega) p, P (i + 1), fun M1 p1 => ih (i + 1) (by omega) M1 p1, hs i _ M (List.getElem?_eq_getElem hlt) p⟩
  simpa using main ds.length 0 (by omega) M h0
theorem lcW_idx {ds : List Dv} (f : Nat → Dv) (hk : ∀ acc, keep (mup M D (.lst acc))) (hl : ds.length ≤ sizeLine)
    (ht : ∀ i d, ds[i]? = some d → ∀ (acc : List Dv) (N : Ms → Prop), acc.length < sizeLine ∧ N (mup M D (.lst (acc ++ [f i]))) → lcT tg own tt te ρ D d N (mup M D (.lst acc)))
    (q : Q (mup M D (.lst ((List.range ds.length).map f)))) : lcW keep tg own tt te ρ D Q ds (mup M D (.lst [])) := by
  refine lcW_inv (fun i M' => M' = mup M D (.lst ((List.range i).map f))) rfl (fun i M' _ e => by subst e; exact hk _) (fun i d M' hd e => ?_) fun M' e => by subst e; exact q
  subst e
  have hi := (List.getElem?_eq_some_iff.mp hd).1
  refine ht i d hd _ _ ⟨by simp; omega, ?_⟩
  rw [List.range_succ, List.map_append]
  rfl
theorem rangeA_get {lo : Int} {n i : Nat} {d : Dv} (h : (rangeA lo n)[i]? = some d) : i < n ∧ d = .int (lo + (i : Int)) := by
  unfold rangeA at h
  rw [List.getElem?_map] at h
  by_cases hi : i < n
  · rw [List.getElem?_range hi] at h
    simp at h
    exact ⟨hi, h.symm⟩
  · rw [List.getElem?_eq_none (by simpa using hi)] at h
    cases h
theorem rangeA_len {lo : Int} {n : Nat} : (rangeA lo n).length = n := by simp [rangeA]
theorem enumD_get' {ds : List Dv} {i : Nat} {d : Dv} (h : (enumD ds)[i]? = some d) : ∃ f, ds[i]? = some f ∧ d = pairD (dn i) f := by
  have hi := (List.getElem?_eq_some_iff.mp h).1
  rw [enumD_len] at hi
  have := enumD_get (List.getElem?_eq_getElem hi)
  rw [this] at h
  exact ⟨_, List.getElem?_eq_getElem hi, (Option.some.inj h).symm⟩
theorem zipD_get' {xs ys : List Dv} {i : Nat} {d : Dv} (h : (zipD xs ys)[i]? = some d) : ∃ x y, xs[i]? = some x ∧ ys[i]? = some y ∧ d = pairD x y := by
  have hi := (List.getElem?_eq_some_iff.mp h).1
  rw [zipD_len] at hi
  have h1 : i < xs.length := by omega
  have h2 : i < ys.length := by omega
  have := zipD_get (List.getElem?_eq_getElem h1) (List.getElem?_eq_getElem h2)
  rw [this] at h
  exact ⟨_, _, List.getElem?_eq_getElem h1, List.getElem?_eq_getElem h2, (Option.some.inj h).symm⟩
theorem atI_some {α : Type} {xs : List α} {v : Int} (h0 : 0 ≤ v) (h1 : v < xs.length) : ∃ d, d ∈ xs ∧ atI xs v = some d := by
  obtain ⟨n, rfl⟩ := Int.eq_ofNat_of_zero_le h0
  have hn : n < xs.length := by omega
  exact ⟨xs[n], List.getElem_mem hn, atI_nat (List.getElem?_eq_getElem hn)⟩
theorem dn_inj {a b : Nat} : dn a = dn b ↔ a = b := by
  constructor
  · intro h
    injection h with h
    omega
  · rintro rfl; rfl
end
theorem mup_comm {M : Ms} {a b : Addr} {c d : Cell} (h : a ≠ b) : mup (mup M a c) b d = mup (mup M b d) a c := by
  funext x
  unfold mup
  by_cases h1 : x = a
  · subst h1; simp [h]
  · simp [h1]
theorem mup_none {M : Ms} {a q : Addr} {c : Cell} (h : mup M a c q = none) : q ≠ a ∧ M q = none := by
  by_cases e : q = a
  · subst e; rw [mup_same] at h; cases h
  · rw [mup_ne e] at h; exact ⟨e, h⟩
theorem wk_of {N : Env' → Ms → Prop} {ρ : Env'} {M : Ms} (h : N ρ M) : wk N ρ M := ⟨ρ, M, SubE.refl ρ, Sub.refl M, h⟩
theorem pot_new {M : Ms} {p q : Addr} {c c2 l : Cell} (hq : mup M p c q = none) : Sub (mup M p c2) (mup (mup (mup M p c) q l) p c2) := by
  obtain ⟨h1, h2⟩ := mup_none hq
  rw [mup_comm h1, mup_mup]
  exact Sub.new (by rw [mup_ne h1]; exact h2)
def PotAt (M0 : Ms) (p : Addr) (pot : List Int) (M' : Ms) : Prop := M' p = some (.lst (pot.map Dv.int)) ∧ ∀ c, Sub (mup M0 p c) (mup M' p c)
theorem PotAt.first {M0 : Ms} {p : Addr} {pot : List Int} : PotAt M0 p pot (mup M0 p (.lst (pot.map Dv.int))) := ⟨mup_same, fun c => by rw [mup_mup]; exact Sub.refl _⟩
theorem PotAt.sub {M0 M1 M2 : Ms} {p : Addr} {pot : List Int} (h : PotAt M0 p pot M1) (s : Sub M1 M2) : PotAt M0 p pot M2 :=
  ⟨s p _ h.1, fun c => (h.2 c).trans (Sub.both s)⟩
theorem PotAt.new {M0 M1 : Ms} {p q : Addr} {pot : List Int} {l : Cell} (h : PotAt M0 p pot M1) (hq : M1 q = none) : PotAt M0 p pot (mup M1 q l) := h.sub (Sub.new hq)
theorem PotAt.put {M0 M1 : Ms} {p : Addr} {pot pot2 : List Int} (h : PotAt M0 p pot M1) : PotAt M0 p pot2 (mup M1 p (.lst (pot2.map Dv.int))) :=
  ⟨mup_same, fun c => by rw [mup_mup]; exact h.2 c⟩
theorem PotAt.fin {M0 M1 : Ms} {p : Addr} {pot : List Int} (h : PotAt M0 p pot M1) : Sub (mup M0 p (.lst (pot.map Dv.int))) M1 := by
  have := h.2 (.lst (pot.map Dv.int))
  rw [mup_self h.1] at this
  exact this
end HC
set_option maxHeartbeats 1000000
namespace HC
open PySem L2 PyProof.Rows
section
variable {X : Cx} {pos : Pos} {K : PySem.W.Frag}
def aPairs : List (RE × RE) → Env' → Ms → (List (Dv × Dv) → Ms → Prop) → Prop
  | [], _, M, Q => Q [] M
  | (tk, tv) :: r, ρ, M, Q => tk ρ M fun x M1 => tv ρ M1 fun y M2 => aPairs r ρ M2 fun ps M3 => Q ((x, y) :: ps) M3
def keysP : List (Dv × Dv) → Option (List (Key × Dv))
  | [] => some []
  | (x, y) :: r => (keyD x).bind fun k => (keysP r).map fun z => (k, y) :: z
def mergeA (kds more : List (Key × Dv)) : List (Key × Dv) := more.foldl (fun acc kv => putA acc kv.1 kv.2) kds
def aDisp (ts : List (RE × RE)) : RE := fun ρ M Q => ∀ p, M p = none → aPairs ts ρ (mup M p (.dic [])) fun ps M2 => M2 p = some (.dic []) ∧ onS (keysP ps) fun kds => kds.length ≤ 15 ∧ Q (.ref p) (mup M2 p (.dic (mergeA [] kds)))
def ADs (X : Cx) (pos : Pos) (keys : List (Option Expr)) (values : List Expr) (ts : List (RE × RE)) : Prop := PPs X pos keys values (ts.map fun z => (cE X.K z.1, cE X.K z.2))
theorem app_nil : ADs X pos [] [] [] := pps_nil
theorem app_cons {k v : Expr} {ks : List (Option Expr)} {vs : List Expr} {tk tv : RE} {ts : List (RE × RE)} (hk : AE X k tk) (hv : AE X v tv) (hr : ADs X pos ks vs ts) : ADs X pos (some k :: ks) (v :: vs) ((tk, tv) :: ts) := pps_cons hk hv hr
abbrev RP (K : PySem.W.Frag) (H : Hp) : List (Dv × Dv) → List (V × V) → Prop := Paired fun p q => Rep K H p.1 q.1 ∧ Rep K H p.2 q.2
theorem rp_mono {H H' : Hp} {dps : List (Dv × Dv)} {ps : List (V × V)} (h : RP K H dps ps) (t : Tp K H H') : RP K H' dps ps := Paired.mapP h fun _ _ z => ⟨z.1.mono t, z.2.mono t⟩
theorem pairs_ok : ∀ {ts : List (RE × RE)} {ρ : Env'} {σ : L2.St} {M : Ms} {H : Hp} {Q : List (Dv × Dv) → Ms → Prop} {Q' : List (V × V) → Hp → Prop}, RepE K H ρ σ → View K M H → aPairs ts ρ M Q →
    (∀ ps H' dps M', Tp K H H' → RP K H' dps ps → View K M' H' → Q dps M' → Q' ps H') → tPairs (ts.map fun z => (cE K z.1, cE K z.2)) σ H Q'
  | [], _, _, _, H, _, _, _, hv, q, k => k [] H [] _ (Tp.refl H) .nil hv q
  | (tk, tv) :: ts, _, _, _, _, _, _, hr, hv, q, k => seqE hr hv q fun x H1 dx M1 t1 r1 v1 q1 => seqE (hr.mono t1) v1 q1 fun y H2 dy M2 t2 r2 v2 q2 =>
    pairs_ok (hr.mono (t1.trans t2)) v2 q2 fun ps H3 dps M3 t3 rp v3 q3 => k _ H3 ((dx, dy) :: dps) M3 ((t1.trans t2).trans t3) (.cons ⟨r1.mono (t2.trans t3), r2.mono t3⟩ rp) v3 q3
theorem keysP_ok {H : Hp} : ∀ {dps : List (Dv × Dv)} {ps : List (V × V)} {kds : List (Key × Dv)}, RP K H dps ps → keysP dps = some kds → ∃ kvs : List (Key × V), ps = kvs.map (fun kv => (kV kv.1, kv.2)) ∧ KP K H Key kds kvs
  | [], _, _, r, h => by cases r; cases h; exact ⟨[], rfl, .nil⟩
  | (x, y) :: dps, _, kds, r, h => by
    cases r with
    | @cons a b as bs r1 r2 =>
    obtain ⟨v, w⟩ := b
    rw [keysP] at h
    cases e : keyD x with
    | none => rw [e] at h; cases h
    | some kk =>
      rw [e] at h
      cases e2 : keysP dps with
      | none => rw [e2] at h; cases h
      | some z =>
        rw [e2] at h
        cases h
        obtain ⟨kvs, e3, r3⟩ := keysP_ok r2 e2
        have e4 : v = kV kk := keyD_ok r1.1 e
        exact ⟨(kk, w) :: kvs, by rw [e3, e4]; rfl, .cons ⟨rfl, r1.2⟩ r3⟩
theorem merge_ok {H : Hp} : ∀ {kds : List (Key × Dv)} {kvs : List (Key × V)} {k0 : List (Key × Dv)} {v0 : List (Key × V)}, KP K H Key kds kvs → KP K H Key k0 v0 → KP K H Key (mergeA k0 kds) (mergeK v0 kvs)
  | _, _, _, _, .nil, z => z
  | (k1, d1) :: kds, (k2, v1) :: kvs, k0, v0, .cons ⟨e, r⟩ t, z => by
    have e' : k1 = k2 := e
    subst e'
    exact merge_ok (k0 := putA k0 k1 d1) (v0 := putK v0 k1 v1) t (kp_put r z)
theorem ae_disp {keys : List (Option Expr)} {values : List Expr} {ts : List (RE × RE)} (h : ADs X pos keys values ts) (hall : keys.all (·.isSome) = true) (hl : keys.length = values.length) (h0 : keys ≠ [])
    (h15 : keys.length ≤ 15) : AE X (.Dict keys values pos) (aDisp ts) :=
  pe_imp (pe_disp h hall hl h0 h15) fun σ H Q' ⟨ρ, M, Q, hr, hv, q, k⟩ p hp => by
    have t0 : Tp X.K H (upd H p (.dK [])) := Tp.new hp
    have v0 : View X.K (mup M p (.dic [])) (upd H p (.dK [])) := hv.put (c := .dic []) (by rw [hp]; trivial) ⟨[], upd_same, .nil⟩
    refine pairs_ok (hr.mono t0) v0 (q p (hv.free hp)) fun ps H2 dps M2 t2 rp v2 q2 => ?_
    obtain ⟨e, q3⟩ := q2
    obtain ⟨kds, ek, hlen, q4⟩ := onS_ex q3
    obtain ⟨kvs0, eh, z0⟩ := v2 _ _ e
    cases z0
    obtain ⟨kvs, ep, zk⟩ := keysP_ok rp ek
    have tp : Tp X.K H2 (upd H2 p (.dK (mergeK [] kvs))) := Tp.put (v2.soft e)
    exact ⟨eh, kvs, ep, by rw [← kp_len zk]; exact hlen, k _ _ _ _ ((t0.trans t2).trans tp) rep_ref (v2.put (c := .dic (mergeA [] kds)) (v2.soft e) ⟨_, upd_same, kp_mono (merge_ok zk .nil) tp⟩) q4⟩
def aDnew : RE := fun _ M Q => ∀ p, M p = none → Q (.ref p) (mup M p (.dic []))
theorem ae_dnew : AE X (.Dict [] [] pos) aDnew := pe_imp pe_dnewK fun σ H Q' ⟨ρ, M, Q, hr, hv, q, k⟩ p hp =>
  k _ _ _ _ (Tp.new hp) rep_ref (hv.put (c := .dic []) (by rw [hp]; trivial) ⟨[], upd_same, .nil⟩) (q p (hv.free hp))
end
end HC
set_option maxHeartbeats 1000000
namespace HC
open PySem L2 PyProof.Rows
theorem onIf_decT {c A B : Prop} {inst : Decidable c} (h : c) (q : A) : onIf (@decide c inst) A B := by rw [decide_eq_true h]; exact q
theorem onIf_decF {c A B : Prop} {inst : Decidable c} (h : ¬ c) (q : B) : onIf (@decide c inst) A B := by rw [decide_eq_false h]; exact q
theorem onIf_ndecT {c A B : Prop} {inst : Decidable c} (h : ¬ c) (q : A) : onIf (!@decide c inst) A B := by rw [decide_eq_false h]; exact q
theorem onIf_ndecF {c A B : Prop} {inst : Decidable c} (h : c) (q : B) : onIf (!@decide c inst) A B := by rw [decide_eq_true h]; exact q
theorem look_new {M : Ms} {p r : Addr} {c x : Cell} (h : M p = some c) (hr : M r = none) : mup M r x p = some c := by rw [mup_ne (ne_of_new h hr)]; exact h
theorem CMul_l {i j : Int} (h : -18446744073709551616 < i ∧ i < 18446744073709551616) : CMul i j ∨ CMulW i j := .inl (.inl h)
theorem CMul_r {i j : Int} (h : -18446744073709551616 < j ∧ j < 18446744073709551616) : CMul i j ∨ CMulW i j := .inl (.inr h)
theorem inv_frz {X : Cx} {pins : List (Addr × Obj)} {σ : L2.St} {H : Hp} {s : Shared} {a : Addr} {xs : List V} (I : Inv X pins σ H s) (h : H a = some (.lst xs)) : ∃ o, Inv X pins σ (upd H a (.frz o (.lst xs))) s := by
  obtain ⟨z, its, n, r, e⟩ := I.hok a _ h
  have ne : ∀ {b : Addr} {u : HO}, H b = some u → u ≠ .lst xs → b ≠ a := fun {b u} q hu e' => by
    subst e'; rw [h] at q; cases q; exact hu rfl
  refine ⟨{ cls := .type "list", data := .seq its.toArray n }, I.un (h' := s.heap) (t' := s.toks) ⟨fun b o q n hb hx => q, fun b o q n _ _ => ⟨o.slots, q⟩, fun b o q n hx => ?_, fun b o q _ => ⟨o, q⟩, fun b ys q => ?_, fun b o u q => ?_, fun b ps q => ⟨#[], ?_⟩⟩ fun b u (q : upd H a (.frz { cls := .type "list", data := .seq its.toArray n } (.lst xs)) b = some u) => ?_⟩
  · rw [upd_ne]
    · exact n
    · intro e'; subst e'; rw [h] at n; cases n
  · rw [upd_ne (ne q (fun z => nomatch z))]; exact q
  · rw [upd_ne (ne q (fun z => nomatch z))]; exact q
  · rw [upd_ne (ne q (fun z => nomatch z))]; simpa using q
  · by_cases hb : b = a
    · subst hb
      rw [upd_same] at q
      cases q
      exact ⟨e, z, its, n, r, e⟩
    · rw [upd_ne hb] at q
      exact (I.hok b u q).stay (fun _ _ _ q => q) (fun c q => by rw [upd_ne (ne q (fun z => nomatch z))]; exact q) (fun c ys q => by rw [upd_ne (ne q (fun z => nomatch z))]; exact q)
theorem pe_frz {X : Cx} {e : Expr} {t : TE} (h : PE X e t) : PE X e (fun σ H Q => t σ H (fun v H' => Q v H' ∨ ∃ a xs, v = .ref a ∧ H' a = some (.lst xs) ∧ ∀ o, Q v (upd H' a (.frz o (.lst xs))))) :=
  ⟨fun pins s σ H Q I q => thn (h.run pins s σ H _ I q) fun u s' ⟨v, H', I', r, q'⟩ => by
    rcases q' with q' | ⟨a, xs, e, hl, q'⟩
    · exact ⟨v, H', I', r, q'⟩
    · obtain ⟨o, I2⟩ := inv_frz I' hl
      exact ⟨v, _, I2, r, q' o⟩⟩
theorem ps_frz {X : Cx} {st : Stmt} {t : TS} (h : PS X st t) : PS X st (fun D σ H => t { D with nx := fun σ' H' => D.nx σ' H' ∨ ∃ a xs, H' a = some (.lst xs) ∧ ∀ o, D.nx σ' (upd H' a (.frz o (.lst xs))) } σ H) :=
  ⟨fun pins s σ H D I q => thn (h.run pins s σ H _ I q) fun f s' r => by
    cases f with
    | next =>
      obtain ⟨σ', H', I', q'⟩ := r
      rcases q' with q' | ⟨a, xs, hl, q'⟩
      · exact ⟨σ', H', I', q'⟩
      · obtain ⟨o, I2⟩ := inv_frz I' hl
        exact ⟨σ', _, I2, q' o⟩
    | brk => exact r
    | cont => exact r
    | ret u => exact r⟩
def fzK (d : Dv) (M : Ms) (Q : DK) : Prop := match d with
  | .ref a => onS (lstC (M a)) fun xs => ∃ M', M' a = none ∧ Sub M' M ∧ Q (.rol xs) M'
  | d => Q d M
def aFz (te : RE) : RE := fun ρ M Q => te ρ M fun d M1 => fzK d M1 Q
theorem fz_rep {K : PySem.W.Frag} {H : Hp} {a : Addr} {xs : List Dv} {vs : List V} {o : Obj} (hs : Soft (H a)) (r : Reps K H xs vs) : Rep K (upd H a (.frz o (.lst vs))) (.rol xs) (.ref a) := by
  simp only [Rep]
  exact ⟨a, vs, rfl, .inl ⟨o, upd_same⟩, r.mono (Tp.put hs)⟩
theorem fz_view {K : PySem.W.Frag} {H : Hp} {M M' : Ms} {a : Addr} {o : HO} (v : View K M H) (hs : Soft (H a)) (h0 : M' a = none) (s : Sub M' M) : View K M' (upd H a o) := fun b c e => by
  have hb : b ≠ a := fun z => by subst z; rw [h0] at e; cases e
  exact (v b c (s b c e)).keep (Tp.put hs) (upd_ne hb)
theorem fzK_val {d : Dv} {M : Ms} {Q : DK} (h : fzK d M Q) : (∃ a xs M', d = .ref a ∧ M a = some (.lst xs) ∧ M' a = none ∧ Sub M' M ∧ Q (.rol xs) M') ∨ Q d M := by
  cases d with
  | ref a =>
    obtain ⟨xs, e, M', h0, s, q⟩ := onS_ex h
    exact .inl ⟨a, xs, M', rfl, lstC_eq e, h0, s, q⟩
  | _ => exact .inr h
theorem fz_new {M : Ms} {p : Addr} {xs : List Dv} {Q : DK} (h : M p = none) (q : Q (.rol xs) M) : fzK (.ref p) (mup M p (.lst xs)) Q := onS_of (a := xs) (by rw [mup_same]; rfl) ⟨M, h, Sub.new h, q⟩
def mdel (M : Ms) (a : Addr) : Ms := fun b => if b = a then none else M b
theorem mdel_same {M : Ms} {a : Addr} : mdel M a a = none := if_pos rfl
theorem mdel_ne {M : Ms} {a b : Addr} (h : b ≠ a) : mdel M a b = M b := if_neg h
theorem mdel_sub {M : Ms} {a : Addr} : Sub (mdel M a) M := fun b c e => by
  by_cases h : b = a
  · subst h; rw [mdel_same] at e; cases e
  · rw [mdel_ne h] at e; exact e
theorem mdel_of {M M' : Ms} {a : Addr} (s : Sub M M') (h : M a = none) : Sub M (mdel M' a) := fun b c e => by
  rw [mdel_ne (ne_of_new e h)]; exact s b c e
theorem fz_del {M : Ms} {p : Addr} {xs : List Dv} {Q : DK} (h : M p = some (.lst xs)) (q : Q (.rol xs) (mdel M p)) : fzK (.ref p) M Q := onS_of (a := xs) (by rw [h]; rfl) ⟨_, mdel_same, mdel_sub, q⟩
theorem fz_sub {M M' : Ms} {p : Addr} {xs : List Dv} {Q : DK} (h : M p = some (.lst xs)) (h0 : M' p = none) (s : Sub M' M) (q : Q (.rol xs) M') : fzK (.ref p) M Q := onS_of (a := xs) (by rw [h]; rfl) ⟨_, h0, s, q⟩
section
variable {X : Cx} {e : Expr} {te : RE} {st : Stmt}
theorem ae_fz (h : AE X e te) : AE X e (aFz te) := pe_imp (pe_frz h) fun σ H Q' ⟨ρ, M, Q, hr, hv, q, k⟩ => seqE hr hv q fun v H1 d M1 t1 r1 v1 q1 => by
  rcases fzK_val q1 with ⟨a, xs, M', rfl, e1, h0, s, q2⟩ | q2
  · obtain ⟨vs, h1, h2⟩ := view_lst v1 e1
    have hs := v1.soft e1
    exact .inr ⟨a, vs, rep_ref_inv r1, h1, fun o => by
      rw [rep_ref_inv r1]
      exact k _ _ (.rol xs) M' (t1.trans (Tp.put hs)) (fz_rep hs h2) (fz_view v1 hs h0 s) q2⟩
  · exact .inl (k _ _ _ _ t1 r1 v1 q2)
theorem repE_swap {K : PySem.W.Frag} {H H' : Hp} {ρ : Env'} {σ : L2.St} {i : Nat} {d d' : Dv} (hi : ρ[i]? = some (some d)) (r : RepE K H ρ σ) (t : Tp K H H') (f : ∀ v, Rep K H d v → Rep K H' d' v) : RepE K H' (ρ.set i (some d')) σ := by
  refine ⟨by rw [← r.len]; simp, fun j x e => ?_⟩
  have hl : i < ρ.length := (List.getElem?_eq_some_iff.mp hi).1
  by_cases hj : i = j
  · subst hj
    rw [List.getElem?_set_self hl] at e
    cases e
    obtain ⟨v, h1, h2⟩ := r.at' i d hi
    exact ⟨v, h1, f v h2⟩
  · rw [List.getElem?_set_ne hj] at e
    obtain ⟨v, h1, h2⟩ := r.at' j x e
    exact ⟨v, h1, h2.mono t⟩
theorem as_fzset {i : Nat} {x : Str} (hi : X.N[i]? = some x) (h : AS X st (aAsg te (agName i))) : AS X st (aAsg (aFz te) (agName i)) :=
  ⟨fun pins s σ H D' I h' => by
    obtain ⟨ρ, M, D, hr, hv, q, k⟩ := h'
    have hl : i < ρ.length := by
      rw [hr.len, I.len]
      exact (List.getElem?_eq_some_iff.mp hi).1
    refine (ps_frz h).run pins s σ H D' I ⟨ρ, M, { D with nx := fun ρ' M' => match ρ'[i]? with | some (some d) => fzK d M' fun d' M2 => D.nx (ρ'.set i (some d')) M2 | _ => False }, hr, hv, ?_, ?_, k.rt, k.bk, k.ct⟩
    · have q' : te ρ M fun d M1 => fzK d M1 fun d' M2 => D.nx (ρ.set i (some d')) M2 := q
      have e : (fun d M1 => match (ρ.set i (some d))[i]? with | some (some d2) => fzK d2 M1 fun d' M2 => D.nx ((ρ.set i (some d)).set i (some d')) M2 | _ => False) = fun d M1 => fzK d M1 fun d' M2 => D.nx (ρ.set i (some d')) M2 := by
        funext d M1
        rw [List.getElem?_set_self hl]
        simp only [List.set_set]
      show te ρ M (fun d M1 => match (ρ.set i (some d))[i]? with | some (some d2) => fzK d2 M1 fun d' M2 => D.nx ((ρ.set i (some d)).set i (some d')) M2 | _ => False)
      rw [e]; exact q'
    · rintro σ1 H1 ρ1 M1 t1 r1 v1 q1
      replace q1 : (match ρ1[i]? with | some (some d) => fzK d M1 fun d' M2 => D.nx (ρ1.set i (some d')) M2 | _ => False) := q1
      split at q1
      · next d hd =>
        rcases fzK_val q1 with ⟨a, xs, M', rfl, e1, h0, s, q2⟩ | q2
        · obtain ⟨vs, h1, h2⟩ := view_lst v1 e1
          have hs := v1.soft e1
          exact .inr ⟨a, vs, h1, fun o => k.nx _ _ _ M' (t1.trans (Tp.put hs)) (repE_swap hd r1 (Tp.put hs) fun v rv => by rw [rep_ref_inv rv]; exact fz_rep hs h2) (fz_view v1 hs h0 s) q2⟩
        · exact .inl (k.nx _ _ _ _ t1 (repE_swap hd r1 (Tp.refl H1) fun v rv => rv) v1 q2)
      · exact q1.elim⟩
theorem lcFk_opt {keep : Ms → Prop} {tg : Tg} {own : List Nat} {tt : RT} {ρ : Env'} {Q : DK} {M : Ms} {ds : List Dv} (g : Nat → Option Dv) (hk : ∀ M', Sub M M' → keep M') (hl : ds.length ≤ sizeLine)
    (ht : ∀ i d, ds[i]? = some d → ∀ (M' : Ms) (N : Option Dv → Ms → Prop), Sub M M' → N (g i) M' → ∃ ρ', Tg.put tg d (wipeA ρ own) M' = some ρ' ∧ tt ρ' M' fun b M2 => onIf b (te ρ' M2 fun y M3 => N (some y) M3) (N none M2))
    (q : Q (.rol ((List.range ds.length).filterMap g)) M) : ∀ D, M D = none → lcW keep tg own tt te ρ D (fun M' => fzK (.ref D) M' Q) ds (mup M D (.lst [])) := fun D hD => by
  have len : ∀ i, ((List.range i).filterMap g).length ≤ i := fun i => by
    have := List.length_filterMap_le g (List.range i)
    simpa using this
  refine lcW_inv (fun i M' => M' = mup M D (.lst ((List.range i).filterMap g))) rfl (fun i M' _ e => by subst e; exact hk _ (Sub.new hD)) (fun i d M' hd e => ?_) fun M' e => ?_
  · subst e
    have hi := (List.getElem?_eq_some_iff.mp hd).1
    obtain ⟨ρ', h1, h2⟩ := ht i d hd (mup M D (.lst ((List.range i).filterMap g))) (fun o M3 => match o with
      | some y => ∃ acc, M3 D = some (.lst acc) ∧ acc.length < sizeLine ∧ wkM (fun M' => M' = mup M D (.lst ((List.range (i + 1)).filterMap g))) (mup M3 D (.lst (acc ++ [y])))
      | none => wkM (fun M' => M' = mup M D (.lst ((List.range (i + 1)).filterMap g))) M3) (Sub.new hD) (by
        cases e : g i with
        | some y =>
          refine ⟨_, mup_same, ?_, _, Sub.refl _, ?_⟩
          · have := len i; omega
          · rw [mup_mup, List.range_succ, List.filterMap_append]
            simp [e]
        | none =>
          refine ⟨_, Sub.refl _, ?_⟩
          rw [List.range_succ, List.filterMap_append]
          simp [e])
    exact ⟨ρ', h1, h2⟩
  · subst e
    refine onS_of (a := (List.range ds.length).filterMap g) (by rw [mup_same]; rfl) ⟨M, hD, Sub.new hD, q⟩
theorem lcFk {keep : Ms → Prop} {tg : Tg} {own : List Nat} {ρ : Env'} {Q : DK} {M : Ms} {ds : List Dv} (f : Nat → Dv) (hk : ∀ M', Sub M M' → keep M') (hl : ds.length ≤ sizeLine)
    (ht : ∀ i d, ds[i]? = some d → ∀ (M' : Ms) (N : Dv → Ms → Prop), Sub M M' → N (f i) M' → ∃ ρ', Tg.put tg d (wipeA ρ own) M' = some ρ' ∧ te ρ' M' N)
    (q : Q (.rol ((List.range ds.length).map f)) M) : ∀ D, M D = none → lcW keep tg own aYes te ρ D (fun M' => fzK (.ref D) M' Q) ds (mup M D (.lst [])) :=
  lcFk_opt (fun i => some (f i)) hk hl (fun i d hd M' N hs hn => by
    obtain ⟨ρ', h1, h2⟩ := ht i d hd M' (fun y M3 => N (some y) M3) hs hn
    exact ⟨ρ', h1, h2⟩) (by rw [List.filterMap_eq_map']; exact q)
theorem lcF_opt {keep : Ms → Prop} {tg : Tg} {own : List Nat} {tt : RT} {ρ : Env'} {Q : DK} {M : Ms} {ds : List Dv} (g : Nat → Option Dv) (hk : ∀ M, keep M) (hl : ds.length ≤ sizeLine)
    (ht : ∀ i d, ds[i]? = some d → ∀ (M' : Ms) (N : Option Dv → Ms → Prop), Sub M M' → N (g i) M' → ∃ ρ', Tg.put tg d (wipeA ρ own) M' = some ρ' ∧ tt ρ' M' fun b M2 => onIf b (te ρ' M2 fun y M3 => N (some y) M3) (N none M2))
    (q : Q (.rol ((List.range ds.length).filterMap g)) M) : ∀ D, M D = none → lcW keep tg own tt te ρ D (fun M' => fzK (.ref D) M' Q) ds (mup M D (.lst [])) :=
  lcFk_opt g (fun _ _ => hk _) hl ht q
theorem lcF {keep : Ms → Prop} {tg : Tg} {own : List Nat} {ρ : Env'} {Q : DK} {M : Ms} {ds : List Dv} (f : Nat → Dv) (hk : ∀ M, keep M) (hl : ds.length ≤ sizeLine)
    (ht : ∀ i d, ds[i]? = some d → ∀ (M' : Ms) (N : Dv → Ms → Prop), Sub M M' → N (f i) M' → ∃ ρ', Tg.put tg d (wipeA ρ own) M' = some ρ' ∧ te ρ' M' N)
    (q : Q (.rol ((List.range ds.length).map f)) M) : ∀ D, M D = none → lcW keep tg own aYes te ρ D (fun M' => fzK (.ref D) M' Q) ds (mup M D (.lst [])) :=
  lcF_opt (fun i => some (f i)) hk hl (fun i d hd M' N hs hn => by
    obtain ⟨ρ', h1, h2⟩ := ht i d hd M' (fun y M3 => N (some y) M3) hs hn
    exact ⟨ρ', h1, h2⟩) (by rw [List.filterMap_eq_map']; exact q)
end
end HC
set_option maxHeartbeats 1000000
namespace HC
open PySem L2 PyProof.Rows
section
variable {X : Cx} {a b e : Expr} {ta tb te : RE} {pos p pos2 p2 : Pos} {K : PySem.W.Frag}
theorem reps_range {H : Hp} {lo hi : Int} : Reps K H (rangeA lo (hi - lo).toNat) (rgV lo hi) := by
  have h := Reps.of_ints (K := K) (H := H) ((List.range (hi - lo).toNat).map fun (i : Nat) => lo + (i : Int))
  simpa [rangeA, rgV, List.map_map, Function.comp_def] using h
def RgA (a b : Int) : Prop := -4611686018427387904 ≤ a ∧ a < 4611686018427387904 ∧ -4611686018427387904 ≤ b ∧ b < 4611686018427387904 ∧ b - a ≤ 16777216
theorem RgA.ok {a b : Int} (h : RgA a b) : RgOk a b := by
  obtain ⟨h1, h2, h3, h4, h5⟩ := h
  have e1 : (2 : Int) ^ 62 = 4611686018427387904 := by decide
  have e2 : (2 : Nat) ^ 24 = 16777216 := by decide
  refine ⟨?_, ?_, ?_, ?_, ?_⟩
  · rw [e1]; exact h1
  · rw [e1]; exact h2
  · rw [e1]; exact h3
  · rw [e1]; exact h4
  · rw [e2]; omega
def aLstR1 (ta : RE) : RE := fun ρ M Q => ta ρ M fun d M1 => onI d fun n => (-4611686018427387904 ≤ n ∧ n ≤ 16777216) ∧ ∀ q, M1 q = none → Q (.ref q) (mup M1 q (.lst (rangeA 0 n.toNat)))
def aLstR2 (ta tb : RE) : RE := fun ρ M Q => ta ρ M fun d M1 => tb ρ M1 fun f M2 => onI2 d f fun i j => (-4611686018427387904 ≤ i ∧ i < 4611686018427387904 ∧ -4611686018427387904 ≤ j ∧ j < 4611686018427387904 ∧ j - i ≤ 16777216) ∧ ∀ q, M2 q = none → Q (.ref q) (mup M2 q (.lst (rangeA i (j - i).toNat)))
theorem ae_listR1 (hc : X.calm = true) (hm : X.mg "list" = none) (hr : X.mg "range" = none) (ha : AE X a ta) (hg : Gl X "list" := by rfl) (hg2 : Gl X "range" := by rfl) (na : starEach [a] X.env = (false, eval a X.env) :: starEach [] X.env := by rfl)
    (nb : starEach [.Call (.Name "range" p2) [a] [] pos2] X.env = (false, eval (.Call (.Name "range" p2) [a] [] pos2) X.env) :: starEach [] X.env := by rfl) :
    AE X (.Call (.Name "list" p) [.Call (.Name "range" p2) [a] [] pos2] [] pos) (aLstR1 ta) :=
  pe_imp (pe_listRg hc hg hm (prg_1 hg2 hr ha na) nb) fun σ H Q' ⟨ρ, M, Q, hr, hv, q, k⟩ => seqE hr hv q fun v H1 d M1 t1 r1 v1 q1 => by
    obtain ⟨n, e, ⟨h1, h2⟩, q2⟩ := onI_ex q1
    subst e
    refine ⟨n, rep_int_inv r1, RgA.ok ⟨by omega, by omega, h1, by omega, by omega⟩, ?_⟩
    have r := reps_range (K := X.K) (H := H1) (lo := 0) (hi := n)
    rw [Int.sub_zero] at r
    exact end_lst r v1 q2 (k.up t1)
theorem ae_listR2 (hc : X.calm = true) (hm : X.mg "list" = none) (hr : X.mg "range" = none) (ha : AE X a ta) (hb : AE X b tb) (hg : Gl X "list" := by rfl) (hg2 : Gl X "range" := by rfl) (na : starEach [a, b] X.env = (false, eval a X.env) :: starEach [b] X.env := by rfl)
    (nc : starEach [b] X.env = (false, eval b X.env) :: starEach [] X.env := by rfl) (hp : (backTo pos2 (starEach [b] X.env)).any (·.1) = false := by rfl)
    (nb : starEach [.Call (.Name "range" p2) [a, b] [] pos2] X.env = (false, eval (.Call (.Name "range" p2) [a, b] [] pos2) X.env) :: starEach [] X.env := by rfl) :
    AE X (.Call (.Name "list" p) [.Call (.Name "range" p2) [a, b] [] pos2] [] pos) (aLstR2 ta tb) :=
  pe_imp (pe_listRg hc hg hm (prg_2 hg2 hr ha hb na nc hp) nb) fun σ H Q' ⟨ρ, M, Q, hr, hv, q, k⟩ => seqE hr hv q fun v H1 d M1 t1 r1 v1 q1 => seqE (hr.mono t1) v1 q1 fun w H2 f M2 t2 r2 v2 q2 => by
    obtain ⟨i, j, e, e', ⟨h1, h2, h3, h4, h5⟩, q3⟩ := onI2_ex q2
    subst e e'
    exact ⟨i, j, rep_int_inv (r1.mono t2), rep_int_inv r2, RgA.ok ⟨h1, h2, h3, h4, h5⟩, end_lst reps_range v2 q3 (k.up (t1.trans t2))⟩
end
section
variable {X : Cx} {e : Expr} {te : RE} {K : PySem.W.Frag}
def aRev (te : RE) : RE := fun ρ M Q => te ρ M fun d M1 => onS (lstA d M1) fun xs => ∀ p, M1 p = none → Q (.ref p) (mup M1 p (.lst xs.reverse))
theorem ae_rev {k : Nat} {p1 p2 p3 pos : Pos} (he : AE X e te) : AE X (.Subscript e (.Slice none none (some (.UnaryOp .USub (.Constant (.int 1) k p1) p2)) p3) pos) (aRev te) :=
  pe_imp (pe_revL he) fun σ H Q' ⟨ρ, M, Q, hr, hv, q, k⟩ => seqE hr hv q fun v H1 d M1 t1 r1 v1 q1 => by
    obtain ⟨xs, e, q2⟩ := onS_ex q1
    obtain ⟨a, vs, e1, s, z⟩ := lstA_ok r1 v1 e
    exact ⟨a, vs, e1, s, end_lst z.rev v1 q2 (k.up t1)⟩
end
section
variable {tt : RT} {te : RE}
theorem map_idx {ds : List Dv} {β : Type} (f : Dv → β) : (List.range ds.length).map (fun i => f (ds.getD i .non)) = ds.map f := by
  refine List.ext_getElem (by simp) fun i h1 h2 => ?_
  simp at h1 h2
  simp [h1, List.getD]
theorem lcM {keep : Ms → Prop} {tg : Tg} {own : List Nat} {ρ : Env'} {Q : DK} {M : Ms} {ds : List Dv} (f : Dv → Dv) (hk : ∀ M, keep M) (hl : ds.length ≤ sizeLine)
    (ht : ∀ d ∈ ds, ∀ (M' : Ms) (N : Dv → Ms → Prop), Sub M M' → N (f d) M' → ∃ ρ', Tg.put tg d (wipeA ρ own) M' = some ρ' ∧ te ρ' M' N)
    (q : Q (.rol (ds.map f)) M) : ∀ D, M D = none → lcW keep tg own aYes te ρ D (fun M' => fzK (.ref D) M' Q) ds (mup M D (.lst [])) :=
  lcF (fun i => f (ds.getD i .non)) hk hl (fun i d hd M' N hs hn => by
    have e : ds.getD i .non = d := by simp [List.getD, hd]
    rw [e] at hn
    exact ht d (List.mem_of_getElem? hd) M' N hs hn) (by rw [map_idx]; exact q)
theorem filterMap_idx {ds : List Dv} {β : Type} (g : Dv → Option β) : (List.range ds.length).filterMap (fun i => g (ds.getD i .non)) = ds.filterMap g := by
  have e : (fun i => g (ds.getD i .non)) = g ∘ fun i => ds.getD i .non := rfl
  rw [e, ← List.filterMap_map]
  have := map_idx (ds := ds) (fun x => x)
  rw [this, List.map_id']
theorem lcMo {keep : Ms → Prop} {tg : Tg} {own : List Nat} {ρ : Env'} {Q : DK} {M : Ms} {ds : List Dv} (g : Dv → Option Dv) (hk : ∀ M, keep M) (hl : ds.length ≤ sizeLine)
    (ht : ∀ d ∈ ds, ∀ (M' : Ms) (N : Option Dv → Ms → Prop), Sub M M' → N (g d) M' → ∃ ρ', Tg.put tg d (wipeA ρ own) M' = some ρ' ∧ tt ρ' M' fun b M2 => onIf b (te ρ' M2 fun y M3 => N (some y) M3) (N none M2))
    (q : Q (.rol (ds.filterMap g)) M) : ∀ D, M D = none → lcW keep tg own tt te ρ D (fun M' => fzK (.ref D) M' Q) ds (mup M D (.lst [])) :=
  lcF_opt (fun i => g (ds.getD i .non)) hk hl (fun i d hd M' N hs hn => by
    have e : ds.getD i .non = d := by simp [List.getD, hd]
    rw [e] at hn
    exact ht d (List.mem_of_getElem? hd) M' N hs hn) (by rw [filterMap_idx]; exact q)
end
def aNever : RS := fun _ _ _ => False
theorem as_never {X : Cx} {st : Stmt} : AS X st aNever := ps_imp ps_never fun D σ H h => by
  obtain ⟨ρ, M, D, _, _, q, _⟩ := h
  exact q
def acMax : ARC := fun ds M Q => match ds with | [d] => ∃ ns : List Int, lstA d M = some (ns.map Dv.int) ∧ 0 < ns.length ∧ ∀ m, m ∈ ns → (∀ y, y ∈ ns → y ≤ m) → Q (.int m) M | _ => False
def acMin : ARC := fun ds M Q => match ds with | [d] => ∃ ns : List Int, lstA d M = some (ns.map Dv.int) ∧ 0 < ns.length ∧ ∀ m, m ∈ ns → (∀ y, y ∈ ns → m ≤ y) → Q (.int m) M | _ => False
theorem abc_max {K : PySem.W.Frag} : AbC K (rMax K) acMax := by
  intro H M vs ds Q Q' r hv q k
  match ds, q with
  | [d], q =>
    obtain ⟨ns, h, h0, q⟩ := q
    obtain ⟨v, e, rd⟩ := reps1 r
    obtain ⟨a, ws, e1, s, z⟩ := lstA_ok rd hv h
    exact ⟨a, ns, by rw [e, e1], by rw [← z.ints]; exact s, h0, fun m h1 h2 => k _ _ _ _ (Tp.refl H) rep_int hv (q m h1 h2)⟩
theorem abc_min {K : PySem.W.Frag} : AbC K (rMin K) acMin := by
  intro H M vs ds Q Q' r hv q k
  match ds, q with
  | [d], q =>
    obtain ⟨ns, h, h0, q⟩ := q
    obtain ⟨v, e, rd⟩ := reps1 r
    obtain ⟨a, ws, e1, s, z⟩ := lstA_ok rd hv h
    exact ⟨a, ns, by rw [e, e1], by rw [← z.ints]; exact s, h0, fun m h1 h2 => k _ _ _ _ (Tp.refl H) rep_int hv (q m h1 h2)⟩
theorem mdel_put {M : Ms} {q : Addr} {c : Cell} : mdel (mup M q c) q = mdel M q := by
  funext b
  unfold mdel
  by_cases h : b = q
  · rw [if_pos h, if_pos h]
  · rw [if_neg h, if_neg h, mup_ne h]
theorem grow_put {M M2 : Ms} {q : Addr} {c : Cell} (h : Sub M (mdel M2 q)) : Sub M (mdel (mup M2 q c) q) := by rw [mdel_put]; exact h
theorem grow_sub {M M2 : Ms} {q : Addr} (h : Sub M (mdel M2 q)) : Sub M M2 := h.trans mdel_sub
theorem grow_new {M : Ms} {q : Addr} {c : Cell} (h : M q = none) : Sub M (mdel (mup M q c) q) := mdel_of (Sub.new h) h
theorem grow_at {M M2 : Ms} {q r : Addr} {c : Cell} (h : Sub M (mdel M2 q)) (e : M r = some c) : M2 r = some c := grow_sub h r c e
theorem dec_int {i j : Int} {inst : Decidable (Dv.int i = Dv.int j)} : @decide (Dv.int i = Dv.int j) inst = decide (i = j) := decide_eq_decide.mpr ⟨Dv.int.inj, fun h => by rw [h]⟩
theorem dec_str {i j : Str} {inst : Decidable (Dv.str i = Dv.str j)} : @decide (Dv.str i = Dv.str j) inst = decide (i = j) := decide_eq_decide.mpr ⟨Dv.str.inj, fun h => by rw [h]⟩
theorem acAll_map {α : Type} {xs : List α} {g : α → Bool} {M : Ms} {Q : DK} (q : Q (.bl (xs.all g)) M) : acAll [.rol (xs.map fun x => .bl (g x))] M Q :=
  ⟨xs.map g, by simp [lstA, itemsA, List.map_map, Function.comp_def], by simpa [List.all_map] using q⟩
theorem acAll_eq {α : Type} {xs : List α} {g : α → Bool} {M : Ms} : lstA (.rol (xs.map fun x => .bl (g x))) M = some ((xs.map g).map Dv.bl) := by simp [lstA, itemsA, List.map_map, Function.comp_def]
theorem all_map_id {α : Type} {xs : List α} {g : α → Bool} : (xs.map g).all id = xs.all g := by simp [List.all_map]
theorem any_map_id {α : Type} {xs : List α} {g : α → Bool} : (xs.map g).any id = xs.any g := by simp [List.any_map]
theorem acSum_eq {α : Type} {xs : List α} {g : α → Int} {M : Ms} : lstA (.rol (xs.map fun x => .int (g x))) M = some ((xs.map g).map Dv.int) := by simp [lstA, itemsA, List.map_map, Function.comp_def]
theorem acAny_map {α : Type} {xs : List α} {g : α → Bool} {M : Ms} {Q : DK} (q : Q (.bl (xs.any g)) M) : acAny [.rol (xs.map fun x => .bl (g x))] M Q :=
  ⟨xs.map g, by simp [lstA, itemsA, List.map_map, Function.comp_def], by simpa [List.any_map] using q⟩
theorem acSum_map {α : Type} {xs : List α} {g : α → Int} {M : Ms} {Q : DK} (q : Q (.int (xs.map g).sum) M) : acSum [.rol (xs.map fun x => .int (g x))] M Q :=
  ⟨xs.map g, by simp [lstA, itemsA, List.map_map, Function.comp_def], q⟩
end HC
set_option maxHeartbeats 1000000
namespace HC
open PySem L2 PyProof.Rows
section
variable {X : Cx} {a b e : Expr} {ta tb te : RE} {pos p pos2 p2 : Pos} {K : PySem.W.Frag}
def rCatF (K : PySem.W.Frag) : R2 := fun x y H Q => ∃ l b xs zs, x = .ref l ∧ y = .ref b ∧ SqL K H l xs ∧ SqL K H b zs ∧ xs.length + zs.length ≤ sizeLine ∧ ∀ p, H p = none → Q (.ref p) (upd H p (.lst (xs ++ zs)))
theorem op_catF : OpR X (binaryOp .Add) (rCatF X.K) := by
  intro pins s σ H x y v u Q I rx ry h
  obtain ⟨l, b, xs, zs, rfl, rfl, hH, hB, hz, q⟩ := h
  cases rx
  cases ry
  obtain ⟨its, r, ⟨o, n, e, hc, hd, hs⟩, hl⟩ := I.list hH
  obtain ⟨its2, r2, ⟨o2, n2, e2, hc2, hd2, hs2⟩, hl2⟩ := I.list hB
  have l1 := r.length
  have l2 := r2.length
  obtain ⟨cls, dd, data, sl⟩ := o
  obtain ⟨cls2, dd2, data2, sl2⟩ := o2
  simp only at hc hd hs hc2 hd2 hs2
  subst hc hd hs hc2 hd2 hs2
  have ea : its.toArray ++ its2.toArray = (its ++ its2).toArray := by simp
  refine PySem.concat_meets ⟨_, e, rfl⟩ ⟨_, e2, rfl⟩ noFill_list_add seq_list_add PySem.F.slot_list_add PySem.F.entry_list_add (PySem.F.args_list_add_2 _ _) (PyProof.Rows.list_addW l b its.toArray its2.toArray n n2 none none sl sl2 (by simp; omega)) ⟨e, e2, ?_⟩
  rw [ea]
  exact ⟨.ref _, _, I.lnew (t' := s.toks) (r.append r2) (by rw [List.length_append]; omega), rfl, q _ I.fresh⟩
def aAddF : AR2 := fun x y M Q => match x, y with
  | .rol xs, .rol ys => xs.length + ys.length ≤ sizeLine ∧ ∀ p, M p = none → Q (.ref p) (mup M p (.lst (xs ++ ys)))
  | .rol xs, .ref b => ∃ ys, M b = some (.lst ys) ∧ xs.length + ys.length ≤ sizeLine ∧ ∀ p, M p = none → Q (.ref p) (mup M p (.lst (xs ++ ys)))
  | .ref a, .rol ys => ∃ xs, M a = some (.lst xs) ∧ xs.length + ys.length ≤ sizeLine ∧ ∀ p, M p = none → Q (.ref p) (mup M p (.lst (xs ++ ys)))
  | x, y => aAdd x y M Q
theorem op_addF : OpR X (binaryOp .Add) (fun x y H Q => rAddH X.K x y H Q ∨ rCatF X.K x y H Q) := opr_or op_addH op_catF
theorem ab_addF {K : PySem.W.Frag} : Ab2 K (fun x y H Q => rAddH K x y H Q ∨ rCatF K x y H Q) aAddF := by
  intro H M x y dx dy Q Q' rx ry hv q k
  have old : aAdd dx dy M Q → rAddH K x y H Q' ∨ rCatF K x y H Q' := fun q => .inl (ab_add _ _ _ _ _ _ _ _ rx ry hv q k)
  cases dx <;> cases dy <;> first | exact old q | skip
  case rol.rol ds es =>
    obtain ⟨a, vs, e1, s1, r1⟩ := rep_rol_inv rx
    obtain ⟨b, ws, e2, s2, r2⟩ := rep_rol_inv ry
    obtain ⟨z, q⟩ := q
    have l1 := r1.length
    have l2 := r2.length
    exact .inr ⟨a, b, vs, ws, e1, e2, s1.l, s2.l, by omega, end_lst (r1.append r2) hv q k⟩
  case rol.ref ds b =>
    obtain ⟨a, vs, e1, s1, r1⟩ := rep_rol_inv rx
    obtain ⟨ys, h2, z, q⟩ := q
    obtain ⟨ws, e2, r2⟩ := view_lst hv h2
    have l1 := r1.length
    have l2 := r2.length
    exact .inr ⟨a, b, vs, ws, e1, rep_ref_inv ry, s1.l, SqL.of e2, by omega, end_lst (r1.append r2) hv q k⟩
  case ref.rol a es =>
    obtain ⟨b, ws, e2, s2, r2⟩ := rep_rol_inv ry
    obtain ⟨xs, h1, z, q⟩ := q
    obtain ⟨vs, e1, r1⟩ := view_lst hv h1
    have l1 := r1.length
    have l2 := r2.length
    exact .inr ⟨a, b, vs, ws, rep_ref_inv rx, e2, SqL.of e1, s2.l, by omega, end_lst (r1.append r2) hv q k⟩
theorem ae_addF (ha : AE X a ta) (hb : AE X b tb) : AE X (.BinOp a .Add b pos) (aOp aAddF ta tb) := ae_op op_addF ab_addF ha hb
def aInB (neg : Bool) : AR2 := fun x y M Q => match x with
  | .int i => ∃ ns : List Int, (y = .rol (ns.map Dv.int) ∨ y = .tup (ns.map Dv.int) ∨ ∃ a, y = .ref a ∧ M a = some (.lst (ns.map Dv.int))) ∧ Q (.bl (if neg then !decide (i ∈ ns) else decide (i ∈ ns))) M
  | _ => False
def aIn : AR2 := aInB false
def aNotIn : AR2 := aInB true
theorem in_ints (i : Int) : ∀ ns : List Int, inV (.int i) (ns.map V.int) = decide (i ∈ ns)
  | [] => rfl
  | n :: ns => by
    have ih := in_ints i ns
    unfold inV at ih ⊢
    rw [List.map_cons, List.any_cons, ih]
    by_cases h : n = i
    · subst h
      rw [show eqV (.int n) (.int n) = true from by simp [eqV], Bool.true_or, decide_eq_true List.mem_cons_self]
    · rw [show eqV (.int n) (.int i) = false from by simp [eqV, h], Bool.false_or]
      refine decide_eq_decide.mpr ⟨List.mem_cons_of_mem _, fun q => ?_⟩
      rcases List.mem_cons.mp q with rfl | q
      · exact absurd rfl h
      · exact q
theorem flat_ints (ns : List Int) : (ns.map V.int).all flatV = true := by
  rw [List.all_eq_true]
  intro v hv
  obtain ⟨n, _, rfl⟩ := List.mem_map.mp hv
  rfl
theorem ab_inB {K : PySem.W.Frag} {neg : Bool} : Ab2 K (rIn K neg) (aInB neg) := by
  intro H M x y dx dy Q Q' rx ry hv q k
  cases dx <;> first | exact q.elim | skip
  case int i =>
    obtain ⟨ns, hy, q⟩ := q
    have ex := rep_int_inv rx
    subst ex
    have fin : Q' (.bl (if neg then !inV (.int i) (ns.map V.int) else inV (.int i) (ns.map V.int))) H := by
      rw [in_ints]
      exact k _ _ _ _ (Tp.refl H) rep_bl hv q
    rcases hy with rfl | rfl | ⟨a, rfl, ha⟩
    · obtain ⟨a, vs, e1, s1, r1⟩ := rep_rol_inv ry
      have := r1.ints
      subst this
      exact ⟨a, _, e1, .inl s1.l, rfl, flat_ints ns, fin⟩
    · obtain ⟨a, vs, e1, s1, r1⟩ := rep_tup_inv ry
      have := r1.ints
      subst this
      exact ⟨a, _, e1, .inr s1, rfl, flat_ints ns, fin⟩
    · obtain ⟨vs, e1, r1⟩ := view_lst hv ha
      have := r1.ints
      subst this
      exact ⟨a, _, rep_ref_inv ry, .inl (SqL.of e1), rfl, flat_ints ns, fin⟩
theorem ae_in (_hu : X.A.units + 64 < cLine) (ha : AE X a ta) (hb : AE X b tb) (hm : behindInMarks .In b = false := by with_unfolding_all rfl) : AE X (.Compare a [.In] [b] pos) (aOp aIn ta tb) := ae_cmp op_in_seq ab_inB ha hb hm
theorem ae_notin (_hu : X.A.units + 64 < cLine) (ha : AE X a ta) (hb : AE X b tb) (hm : behindInMarks .NotIn b = false := by with_unfolding_all rfl) : AE X (.Compare a [.NotIn] [b] pos) (aOp aNotIn ta tb) := ae_cmp op_notIn_seq ab_inB ha hb hm
theorem at_in (_hu : X.A.units + 64 < cLine) (ha : AE X a ta) (hb : AE X b tb) (hm : behindInMarks .In b = false := by with_unfolding_all rfl) : AT X (.Compare a [.In] [b] pos) (aB (aOp aIn ta tb)) := at_cmp op_in_seq ab_inB ha hb hm
theorem at_notin (_hu : X.A.units + 64 < cLine) (ha : AE X a ta) (hb : AE X b tb) (hm : behindInMarks .NotIn b = false := by with_unfolding_all rfl) : AT X (.Compare a [.NotIn] [b] pos) (aB (aOp aNotIn ta tb)) := at_cmp op_notIn_seq ab_inB ha hb hm
end
end HC
set_option maxHeartbeats 1000000
namespace HC
open PySem L2 PyProof.Rows
section
variable {X : Cx} {a b e o i : Expr} {ta tb te to ti : RE} {pos p pos2 p2 tpos : Pos} {K : PySem.W.Frag}
def rGetL : V → V → Hp → VK → Prop := fun o i H Q => ∃ p xs k x, o = .ref p ∧ i = .int k ∧ H p = some (.lst xs) ∧ 0 ≤ k ∧ xs[k.toNat]? = some x ∧ Q x H
theorem get_list : PGet X rGetL := by
  intro pins s σ H o i ov iv Q I ro ri h
  obtain ⟨p, xs, k, x, rfl, rfl, hp, h0, hx, q⟩ := h
  cases ro
  obtain ⟨t, rfl⟩ := ri
  obtain ⟨its, n, r, ho, hz⟩ := I.lst hp
  obtain ⟨u, hu, ru⟩ := Vals.get r hx
  have hl := r.length
  have hn := line63
  have hk := (List.getElem?_eq_some_iff.mp hx).1
  exact wpAny_getItem_list (items := its.toArray) ⟨_, ho, rfl, n, rfl⟩ h0 (by omega) (by simpa using hu) ⟨x, H, I, ru, q⟩
def aAugS (to ti te : RE) (f : Int → Int → Int) : RS := fun D ρ M => to ρ M fun x M1 => ti ρ M1 fun y M2 => match x with
  | .ref r => onI y fun k => 0 ≤ k ∧ onS (lstC (M2 r)) fun xs => onS xs[k.toNat]? fun d => te ρ M2 fun z M3 => onI2 d z fun m n => onS (lstC (M3 r)) fun ys => k.toNat < ys.length ∧ D.nx ρ (mup M3 r (.lst (ys.set k.toNat (.int (f m n)))))
  | _ => False
theorem ixN_pos {n : Nat} {k : Int} (h0 : 0 ≤ k) (h : k.toNat < n) : ixN n k = some k.toNat := by
  obtain ⟨j, rfl⟩ := Int.eq_ofNat_of_zero_le h0
  exact ixN_nat h
theorem augS_imp {f : Int → Int → Int} : ∀ D σ H, cS K (aAugS to ti te f) D σ H → tAugS (cE K to) (cE K ti) (cE K te) rGetL (ipI f) rSetL D σ H := fun D' σ H ⟨ρ, M, D, hr, hv, q, k⟩ =>
  seqE hr hv q fun x H1 dx M1 t1 r1 v1 q1 => seqE (hr.mono t1) v1 q1 fun y H2 dy M2 t2 r2 v2 q2 => by
    cases dx <;> first | exact q2.elim | skip
    case ref r =>
      obtain ⟨kk, e1, h0, q3⟩ := onI_ex q2
      subst e1
      obtain ⟨xs, hx, q4⟩ := onS_ex q3
      obtain ⟨d, hd, q5⟩ := onS_ex q4
      obtain ⟨vs, e2, z⟩ := view_lst v2 (lstC_eq hx)
      obtain ⟨v, hv1, rv⟩ := z.get hd
      have t12 := t1.trans t2
      refine ⟨r, vs, kk, v, rep_ref_inv (r1.mono t2), rep_int_inv r2, e2, h0, hv1, ?_⟩
      refine seqE (hr.mono t12) v2 q5 fun w H3 dw M3 t3 r3 v3 q6 => ?_
      obtain ⟨m, n, e3, e4, q7⟩ := onI2_ex q6
      subst e3 e4
      obtain ⟨ys, hy, hl, q8⟩ := onS_ex q7
      obtain ⟨ws, e5, z2⟩ := view_lst v3 (lstC_eq hy)
      have t13 := t12.trans t3
      refine ⟨m, n, rep_int_inv (rv.mono t3), rep_int_inv r3, ?_⟩
      refine ⟨r, ws, kk, kk.toNat, rep_ref_inv ((r1.mono t2).mono t3), rep_int_inv (r2.mono t3), e5, by rw [← z2.length]; exact ixN_pos h0 hl, ?_⟩
      have tp := Tp.put (K := K) (H := H3) (a := r) (o := .lst (ws.set kk.toNat (.int (f m n)))) (v3.soft (lstC_eq hy))
      exact k.nx _ _ _ _ (t13.trans tp) (hr.mono (t13.trans tp)) (v3.put (c := .lst (ys.set kk.toNat (.int (f m n)))) (v3.soft (lstC_eq hy)) ⟨ws.set kk.toNat (.int (f m n)), upd_same, (z2.set kk.toNat (d := .int (f m n)) (v := .int (f m n)) rep_int).mono tp⟩) q8
theorem as_augS_add (ho : AE X o to) (hi : AE X i ti) (he : AE X e te) (ha : ∀ ov iv new, augStore i ov iv new = (do holding [new, ov, iv] (setItem ov iv new); release [new, ov, iv] []; pure .next) := by intros; rfl) : AS X (.AugAssign (.Subscript o i tpos) .Add e pos) (aAugS to ti te fun i j => i + j) :=
  ps_imp (ps_augS ho hi get_list he ip_add set_list ha) augS_imp
end
end HC
namespace HC
open PySem L2 PyProof.Rows
section
variable {X : Cx} {a b c e o : Expr} {es : List Expr} {ta tb tc te to tk : RE} {t : RA} {pos p pos2 p2 tpos : Pos} {K : PySem.W.Frag}
theorem eqV_key (k j : Key) : eqV (kV k) (kV j) = decide (k = j) := by
  rcases k with k | k <;> rcases j with j | j
  · show (k == j) = _
    by_cases h : k = j
    · subst h; simp
    · simp [h]
  · show false = _
    simp
  · show false = _
    simp
  · show (k == j) = _
    by_cases h : k = j
    · subst h; simp
    · have : (k == j) = false := by simpa using h
      rw [this]
      simp [h]
def memK (k : Key) (ks : List Key) : Bool := ks.any fun j => decide (j = k)
theorem inV_keys (k : Key) (ks : List Key) : inV (kV k) (ks.map kV) = memK k ks := by
  unfold inV memK
  rw [List.any_map]
  congr 1
  funext j
  exact eqV_key j k
theorem flat_keys (ks : List Key) : (ks.map kV).all flatV = true := by
  rw [List.all_eq_true]
  intro v hv
  obtain ⟨k, _, rfl⟩ := List.mem_map.mp hv
  cases k <;> rfl
theorem flat_key (k : Key) : flatV (kV k) = true := by cases k <;> rfl
def rDIn (neg : Bool) : R2 := fun x y H Q => ∃ a o, y = .ref a ∧ DGet H a x o ∧ Q (.bl (if neg then !o.isSome else o.isSome)) H
theorem op_dIn (hu : X.A.units + 1 < cLine) : OpR X (compareOp .In) (rDIn false) := by
  intro pins s σ H x y v u Q I rx ry h
  obtain ⟨a, o, rfl, g, q⟩ := h
  cases ry
  exact d_in hu I g rx fun s' I' => ⟨.bl _, H, I', rfl, q⟩
theorem op_dNotIn (hu : X.A.units + 1 < cLine) : OpR X (compareOp .NotIn) (rDIn true) := by
  intro pins s σ H x y v u Q I rx ry h
  obtain ⟨a, o, rfl, g, q⟩ := h
  cases ry
  exact d_notIn hu I g rx fun s' I' => ⟨.bl _, H, I', rfl, q⟩
def negB (neg b : Bool) : Bool := if neg then !b else b
def aInKB (neg : Bool) : AR2 := fun x y M Q => onS (keyD x) fun k => match y with
  | .ref a => match M a with
    | some (.lst xs) => onS (keysD xs) fun ks => Q (.bl (negB neg (memK k ks))) M
    | some (.dic kvs) => Q (.bl (negB neg (getK kvs k).isSome)) M
    | _ => False
  | .rol xs => onS (keysD xs) fun ks => Q (.bl (negB neg (memK k ks))) M
  | .tup xs => onS (keysD xs) fun ks => Q (.bl (negB neg (memK k ks))) M
  | _ => False
def aInK : AR2 := aInKB false
def aNotInK : AR2 := aInKB true
theorem ab_inK {neg : Bool} : Ab2 K (fun x y H Q => rIn K neg x y H Q ∨ rDIn neg x y H Q) (aInKB neg) := by
  intro H M x y dx dy Q Q' rx ry hv q k
  obtain ⟨kk, e, q0⟩ := onS_ex q
  clear q
  have ex := keyD_ok rx e
  subst ex
  have fin : ∀ ks : List Key, Q (.bl (negB neg (memK kk ks))) M → Q' (.bl (if neg then !inV (kV kk) (ks.map kV) else inV (kV kk) (ks.map kV))) H := fun ks q => by
    rw [inV_keys]
    exact k _ _ _ _ (Tp.refl H) rep_bl hv q
  cases dy <;> first | exact q0.elim | skip
  case ref r =>
    have ey := rep_ref_inv ry
    subst ey
    simp only [] at q0
    split at q0
    · next xs e1 =>
      obtain ⟨ks, e2, q⟩ := onS_ex q0
      obtain ⟨vs, e3, r1⟩ := view_lst hv e1
      have := keysD_ok r1 e2
      subst this
      exact .inl ⟨r, _, rfl, .inl (SqL.of e3), flat_key kk, flat_keys ks, fin ks q⟩
    · next kvs e1 =>
      obtain ⟨vs, e2, rr⟩ := (show ∃ kvs', H r = some (.dK kvs') ∧ Paired (fun (p : Key × Dv) (q : Key × V) => p.1 = q.1 ∧ Rep K H p.2 q.2) kvs kvs' from hv r _ e1)
      refine .inr ⟨r, _, rfl, DGet.k e2, ?_⟩
      have es : (valV vs kk).isSome = (getK kvs kk).isSome := by
        rcases getK_ok (k := kk) rr with ⟨h1, h2⟩ | ⟨d', v, h1, h2, _⟩
        · rw [h1, h2]; rfl
        · rw [h1, h2]; rfl
      rw [es]
      exact k _ _ _ _ (Tp.refl H) rep_bl hv q0
    · exact q0.elim
  case rol xs =>
    obtain ⟨ks, e2, q⟩ := onS_ex q0
    obtain ⟨a, vs, e1, s1, r1⟩ := rep_rol_inv ry
    have := keysD_ok r1 e2
    subst this
    exact .inl ⟨a, _, e1, .inl s1.l, flat_key kk, flat_keys ks, fin ks q⟩
  case tup xs =>
    obtain ⟨ks, e2, q⟩ := onS_ex q0
    obtain ⟨a, vs, e1, s1, r1⟩ := rep_tup_inv ry
    have := keysD_ok r1 e2
    subst this
    exact .inl ⟨a, _, e1, .inr s1, flat_key kk, flat_keys ks, fin ks q⟩
theorem op_inK (hu : X.A.units + 1 < cLine) : OpR X (compareOp .In) (fun x y H Q => rIn X.K false x y H Q ∨ rDIn false x y H Q) := opr_or op_in_seq (op_dIn hu)
theorem op_notInK (hu : X.A.units + 1 < cLine) : OpR X (compareOp .NotIn) (fun x y H Q => rIn X.K true x y H Q ∨ rDIn true x y H Q) := opr_or op_notIn_seq (op_dNotIn hu)
theorem ae_inK (hu : X.A.units + 1 < cLine) (ha : AE X a ta) (hb : AE X b tb) (hm : behindInMarks .In b = false := by with_unfolding_all rfl) : AE X (.Compare a [.In] [b] pos) (aOp aInK ta tb) := ae_cmp (op_inK hu) ab_inK ha hb hm
theorem ae_notinK (hu : X.A.units + 1 < cLine) (ha : AE X a ta) (hb : AE X b tb) (hm : behindInMarks .NotIn b = false := by with_unfolding_all rfl) : AE X (.Compare a [.NotIn] [b] pos) (aOp aNotInK ta tb) := ae_cmp (op_notInK hu) ab_inK ha hb hm
theorem at_inK (hu : X.A.units + 1 < cLine) (ha : AE X a ta) (hb : AE X b tb) (hm : behindInMarks .In b = false := by with_unfolding_all rfl) : AT X (.Compare a [.In] [b] pos) (aB (aOp aInK ta tb)) := at_cmp (op_inK hu) ab_inK ha hb hm
theorem at_notinK (hu : X.A.units + 1 < cLine) (ha : AE X a ta) (hb : AE X b tb) (hm : behindInMarks .NotIn b = false := by with_unfolding_all rfl) : AT X (.Compare a [.NotIn] [b] pos) (aB (aOp aNotInK ta tb)) := at_cmp (op_notInK hu) ab_inK ha hb hm
def aDnewT : RE := fun _ M Q => ∀ p, M p = none → Q (.ref p) (mup M p (.dit []))
theorem ae_dnewT : AE X (.Dict [] [] pos) aDnewT := pe_imp pe_dnewT fun σ H Q' ⟨ρ, M, Q, hr, hv, q, k⟩ p hp =>
  k _ _ (.ref p) _ (Tp.new hp) rep_ref (hv.put (c := .dit []) (by rw [hp]; trivial) ⟨[], upd_same, .nil⟩) (q p (hv.free hp))
def aInT (neg : Bool) (t : RA) (i : Nat) : RE := fun ρ M Q => t ρ M fun ds M1 => ds.length ≤ sizeLine ∧ onS ρ[i]? fun o => onS o fun y => match y with
  | .ref a => match M1 a with
    | some (.dit kvs) => onS (keysD ds) fun k => Q (.bl (negB neg (getK kvs k).isSome)) M1
    | _ => False
  | _ => False
theorem inT_imp {neg : Bool} {i : Nat} : ∀ σ H Q, cE K (aInT neg t i) σ H Q → tOp (rDIn neg) (tTup (cA K t)) (tVar i) σ H Q := fun σ H Q' ⟨ρ, M, Q, hr, hv, q, k⟩ =>
  seqA hr hv q fun vs H1 ds M1 t1 r1 v1 ⟨z, q1⟩ => by
    refine ⟨by rw [← r1.length]; exact z, fun p hp => ?_⟩
    obtain ⟨o, e1, q2⟩ := onS_ex q1
    obtain ⟨y, e2, q3⟩ := onS_ex q2
    subst e2
    have tp := Tp.new (K := K) (H := H1) (a := p) (o := .tup vs) hp
    obtain ⟨v, h1, h2⟩ := ((hr.mono t1).mono tp).at' i y e1
    refine ⟨v, h1, ?_⟩
    cases y <;> first | exact q3.elim | skip
    case ref a =>
      simp only [] at q3
      split at q3
      · next kvs e3 =>
        obtain ⟨kk, e4, q5⟩ := onS_ex q3
        have v2 := v1.new (o := .tup vs) hp
        obtain ⟨ws, e5, r⟩ := (show ∃ kvs', upd H1 p (.tup vs) a = some (.dT kvs') ∧ Paired (fun (p : List Key × Dv) (q : List Key × V) => p.1 = q.1 ∧ Rep K _ p.2 q.2) kvs kvs' from v2 a _ e3)
        have := keysD_ok r1 e4
        subst this
        refine ⟨a, _, rep_ref_inv h2, DGet.t e5 upd_same, ?_⟩
        have es : (valV ws kk).isSome = (getK kvs kk).isSome := by
          rcases getK_ok (k := kk) r with ⟨h1, h2⟩ | ⟨d', v, h1, h2, _⟩
          · rw [h1, h2]; rfl
          · rw [h1, h2]; rfl
        rw [es]
        exact k _ _ _ _ (t1.trans tp) rep_bl v2 q5
      · exact q3.elim
theorem ae_inT {k1 : Nat} {x : Str} (hu : X.A.units + 1 < cLine) (i : Nat) (ht : AA X es t) (hN : X.N[i]? = some x := by rfl) (hv : Vis X.env.scope x := by first | exact Or.inl rfl | exact Or.inr (Or.inl rfl) | exact Or.inr (Or.inr rfl)) (hd : (x == ("__debug__" : Str)) = false := by decide) (hcd : (x == ("__classdict__" : Str)) = false := by decide)
    (hm : behindInMarks .In (.Name x p) = false := by with_unfolding_all rfl) : AE X (.Compare (.Tuple es k1 tpos) [.In] [.Name x p] pos) (aInT false t i) := pe_imp (pe_cmpR (op_dIn hu) (pe_tup ht) (pe_var hN hv hd hcd) hm) inT_imp
theorem ae_notinT {k1 : Nat} {x : Str} (hu : X.A.units + 1 < cLine) (i : Nat) (ht : AA X es t) (hN : X.N[i]? = some x := by rfl) (hv : Vis X.env.scope x := by first | exact Or.inl rfl | exact Or.inr (Or.inl rfl) | exact Or.inr (Or.inr rfl)) (hd : (x == ("__debug__" : Str)) = false := by decide) (hcd : (x == ("__classdict__" : Str)) = false := by decide)
    (hm : behindInMarks .NotIn (.Name x p) = false := by with_unfolding_all rfl) : AE X (.Compare (.Tuple es k1 tpos) [.NotIn] [.Name x p] pos) (aInT true t i) := pe_imp (pe_cmpR (op_dNotIn hu) (pe_tup ht) (pe_var hN hv hd hcd) hm) inT_imp
theorem inTB_imp {neg : Bool} {i : Nat} : ∀ σ H Q, cT K (aB (aInT neg t i)) σ H Q → tTest (tOp (rDIn neg) (tTup (cA K t)) (tVar i)) σ H Q := fun σ H Q' h' => by
  obtain ⟨ρ, M, Q, hr, hv, q, k⟩ := h'
  exact inT_imp σ H _ ⟨ρ, M, _, hr, hv, q, fun v H1 d M1 t1 r1 v1 q1 => by
    obtain ⟨b, e, q1⟩ := onB_ex q1
    exact ⟨b, by subst e; exact rep_bl_inv r1, k b H1 M1 t1 v1 q1⟩⟩
theorem at_inT {k1 : Nat} {x : Str} (hu : X.A.units + 1 < cLine) (i : Nat) (ht : AA X es t) (hN : X.N[i]? = some x := by rfl) (hv : Vis X.env.scope x := by first | exact Or.inl rfl | exact Or.inr (Or.inl rfl) | exact Or.inr (Or.inr rfl)) (hd : (x == ("__debug__" : Str)) = false := by decide) (hcd : (x == ("__classdict__" : Str)) = false := by decide)
    (hm : behindInMarks .In (.Name x p) = false := by with_unfolding_all rfl) : AT X (.Compare (.Tuple es k1 tpos) [.In] [.Name x p] pos) (aB (aInT false t i)) := pt_imp (pt_cmpR (op_dIn hu) (pe_tup ht) (pe_var hN hv hd hcd) hm) inTB_imp
theorem at_notinT {k1 : Nat} {x : Str} (hu : X.A.units + 1 < cLine) (i : Nat) (ht : AA X es t) (hN : X.N[i]? = some x := by rfl) (hv : Vis X.env.scope x := by first | exact Or.inl rfl | exact Or.inr (Or.inl rfl) | exact Or.inr (Or.inr rfl)) (hd : (x == ("__debug__" : Str)) = false := by decide) (hcd : (x == ("__classdict__" : Str)) = false := by decide)
    (hm : behindInMarks .NotIn (.Name x p) = false := by with_unfolding_all rfl) : AT X (.Compare (.Tuple es k1 tpos) [.NotIn] [.Name x p] pos) (aB (aInT true t i)) := pt_imp (pt_cmpR (op_dNotIn hu) (pe_tup ht) (pe_var hN hv hd hcd) hm) inTB_imp
def agSubT (to : RE) (t : RA) : RG := fun d ρ M Q => to ρ M fun x M1 => t ρ M1 fun ds M2 => ds.length ≤ sizeLine ∧ match x with
  | .ref a => match M2 a with
    | some (.dit kvs) => onS (keysD ds) fun k => kvs.length < sizeLine ∧ Q ρ (mup M2 a (.dit (putA kvs k d)))
    | _ => False
  | _ => False
theorem ag_subT {k1 : Nat} (hu : X.A.units + 1 < cLine) (ho : AE X o to) (ht : AA X es t)
    (ha : ∀ v, assign (.Subscript o (.Tuple es k1 tpos) pos) X.env v = (do
      let ov ← holding [v] (eval o X.env)
      let iv ← holding [v, ov] (eval (.Tuple es k1 tpos) X.env)
      standAt pos
      holding [v, ov, iv] (setItem ov iv v)
      release [v, ov, iv] []) := by intro _; rfl) : AG X (.Subscript o (.Tuple es k1 tpos) pos) (agSubT to t) :=
  pg_imp (pg_sub ho (pe_tup ht) (set_H hu) ha) fun v σ H Q' h => by
    obtain ⟨d, ρ, M, Q, rd, hr, hv, q, k⟩ := h
    refine seqE hr hv q fun x H1 dx M1 t1 r1 v1 q1 => seqA (hr.mono t1) v1 q1 fun vs H2 ds M2 t2 r2 v2 zq => ?_
    have z := zq.1
    have q2 := zq.2
    clear zq
    refine ⟨by rw [← r2.length]; exact z, fun p hp => ?_⟩
    have t12 := t1.trans t2
    have tp := Tp.new (K := X.K) (H := H2) (a := p) (o := .tup vs) hp
    have v3 := v2.new (o := .tup vs) hp
    have rx := (r1.mono t2).mono tp
    have rd3 := (rd.mono t12).mono tp
    cases dx <;> first | exact q2.elim | skip
    case ref a =>
      simp only [] at q2
      split at q2
      · next kds e =>
        obtain ⟨kk, e1, hz, q3⟩ := onS_ex q2
        obtain ⟨kvs, e2, zz⟩ := (show ∃ kvs', upd H2 p (.tup vs) a = some (.dT kvs') ∧ KP X.K _ (List Key) kds kvs' from v3 a _ e)
        have := keysD_ok r2 e1
        subst this
        have tq := Tp.put (K := X.K) (H := upd H2 p (.tup (kk.map kV))) (a := a) (o := .dT (putK kvs kk v)) (v3.soft e)
        refine .inr ⟨a, _, rep_ref_inv rx, DPut.t e2 upd_same (by rw [← kp_len zz]; exact hz), ?_⟩
        exact k _ _ _ _ ((t12.trans tp).trans tq) (hr.mono ((t12.trans tp).trans tq)) (v3.put (c := .dit (putA kds kk d)) (v3.soft e) ⟨_, upd_same, kp_mono (kp_put rd3 zz) tq⟩) q3
      · exact q2.elim
end
end HC
namespace HC
open PySem L2 PyProof.Rows
section
variable {X : Cx} {a b c e o key : Expr} {es : List Expr} {ta tb tc te to tk : RE} {t : RA} {pos p pos2 p2 tpos xp yp sp ap cp rp : Pos} {K : PySem.W.Frag} {d : Addr} {x y : Str}
structure TabK (K : PySem.W.Frag) (w : World) (mg : Str → Option Value) (x : Str) (d : Addr) : Prop where
  g : mg x = some (.ref d)
  kd : ∃ es n, KDict K w d es n
def lookS {α : Type} (l : List (Str × α)) (z : Str) : Option α := (l.find? fun p => decide (p.1 = z)).map (·.2)
theorem lookS_mem {α : Type} {l : List (Str × α)} {z : Str} {r : α} (h : lookS l z = some r) : (z, r) ∈ l := by
  obtain ⟨q, h1, rfl⟩ := Option.map_eq_some_iff.mp h
  have h2 := List.find?_some h1
  have h3 := List.mem_of_find?_eq_some h1
  have h4 : q.1 = z := by simpa using h2
  subst h4
  exact h3
def lookB (l : List (Str × Bool)) (z : Str) : Option Bool := (l.find? fun p => decide (p.1 = z)).map (·.2)
theorem lookB_mem {l : List (Str × Bool)} {z : Str} {r : Bool} (h : lookB l z = some r) : (z, r) ∈ l := by
  obtain ⟨q, h1, rfl⟩ := Option.map_eq_some_iff.mp h
  have h2 := List.find?_some h1
  have h3 := List.mem_of_find?_eq_some h1
  have h4 : q.1 = z := by simpa using h2
  subst h4
  exact h3
def aInTab (tk : RE) (tab : List (Str × Bool)) : RT := fun ρ M Q => tk ρ M fun d M1 => match d with
  | .str z => onS (lookB tab z) fun b => Q b M1
  | _ => False
theorem at_inTab {tab : List (Str × Bool)} (T : TabK X.K X.w X.mg x d) (hg : Gl X x) (hT : ∀ p ∈ tab, ∃ r, PySem.W.nsIn X.K d p.1 = some r ∧ r.isSome = p.2) (ha : AE X a tk) (hd : (x == ("__debug__" : Str)) = false := by decide) (hm : behindInMarks .In (.Name x p) = false := by with_unfolding_all rfl) : AT X (.Compare a [.In] [.Name x p] pos) (aInTab tk tab) := by
  obtain ⟨es, n, D⟩ := T.kd
  refine pt_imp (pt_cmpR (op_in_kd D) ha (pe_glob (v := .ref d) hg T.g rfl hd) hm) fun σ H Q' h => ?_
  obtain ⟨ρ, M, Q, hr, hv, q, k⟩ := h
  refine seqE hr hv q fun v H1 dd M1 t1 r1 v1 q1 => ?_
  cases dd <;> first | exact q1.elim | skip
  case str z =>
    obtain ⟨b, e, q2⟩ := onS_ex q1
    obtain ⟨r, h1, h2⟩ := hT _ (lookB_mem e)
    refine ⟨z, r, rep_str_inv r1, rfl, h1, b, by rw [h2], k _ _ _ t1 v1 q2⟩
def aTabRet (i : Nat) (tk : RE) (tab : List (Str × ASp)) (t : RA) : RS := fun D ρ M => i < ρ.length ∧ tk ρ M fun d M1 => match d with
  | .str z => onS (lookS tab z) fun sp => t (ρ.set i none) M1 fun ds M2 => sp ds M2 D.rt
  | _ => False
def tCallD (X : Cx) (k i : Nat) (t : TA) : TE := fun σ H Q => ∃ f fd ps sp, σ[i]? = some (some (.ref f)) ∧ FnOk X.prog X.w X.K X.mg X.base CX0 k f fd ps sp ∧ PySem.W.keepIn X.K (.ref f) = true ∧ Binds X.K fd ps [] ∧ t σ H fun vs H1 => sp (vs ++ []) H1 Q E0
theorem pe_callD {k i : Nat} {t : TA} (hr : Room k X.A) (hN : X.N[i]? = some x) (hv : Vis X.env.scope x) (ha : PA X (e :: es) t)
    (hdb : (x == ("__debug__" : Str)) = false := by decide) (hcd : (x == ("__classdict__" : Str)) = false := by decide)
    (he : starEach (e :: es) X.env = (false, eval e X.env) :: starEach es X.env := by rfl) (hpl : (backTo pos (starEach es X.env)).any (·.1) = false := by rfl) : PE X (.Call (.Name x p) (e :: es) [] pos) (tCallD X k i t) := by
  refine ⟨fun pins s σ H Q I h => ?_⟩
  obtain ⟨f, fd, ps, sp, hs, F, hk, hb, ht⟩ := h
  exact (pe_callL (i := i) F hr hN hv hk hb .nil pass0 ha hdb hcd he hpl).run pins s σ H Q I ⟨hs, ht⟩
theorem ass_tab {tab : List (Str × ASp)} {k : Nat} (i : Nat) (nd : X.N.Nodup) (T : TabK X.K X.w X.mg y d) (hg : Gl X y)
    (hT : ∀ p ∈ tab, ∃ f fd ps, PySem.W.nsIn X.K d p.1 = some (some (.ref f)) ∧ FnA X.prog X.w X.K X.mg X.base k f fd ps p.2 ∧ PySem.W.keepIn X.K (.ref f) = true ∧ Binds X.K fd ps [])
    (hr : Room k X.A) (hk : AE X key tk) (ha : AA X (e :: es) t) (hN : X.N[i]? = some x := by rfl) (hx : Loc X.env.scope x := by first | exact .inl rfl | exact .inr rfl) (hv : Vis X.env.scope x := by first | exact Or.inl rfl | exact Or.inr (Or.inl rfl) | exact Or.inr (Or.inr rfl)) (hf : X.fn x = true ∨ X.env.scope.names.lookup x = some .local := by first | exact .inl rfl | exact .inr rfl) (hd : (y == ("__debug__" : Str)) = false := by decide) (hs : PlainIx key := by exact fun _ _ => rfl)
    (hdb : (x == ("__debug__" : Str)) = false := by decide) (hcd : (x == ("__classdict__" : Str)) = false := by decide)
    (he : starEach (e :: es) X.env = (false, eval e X.env) :: starEach es X.env := by rfl) (hpl : (backTo pos (starEach es X.env)).any (·.1) = false := by rfl) :
    ASs X [.Assign [.Name x xp] (.Subscript (.Name y yp) key sp) ap, .Return (some (.Call (.Name x cp) (e :: es) [] pos)) rp] (aTabRet i tk tab t) := by
  obtain ⟨es', n, D⟩ := T.kd
  refine pss_imp (pss_cons (ps_set (i := i) nd hN hx (pe_ix ix_kdict (pe_glob (v := .ref d) hg T.g rfl hd) hk hs)) (pss_one (ps_ret (pe_callD (i := i) hr hN hv ha hdb hcd he hpl)))) fun D' σ H h => ?_
  obtain ⟨ρ, M, DD, hr', hv', ⟨hi, q⟩, kk⟩ := h
  refine seqE hr' hv' q fun v H1 dd M1 t1 r1 v1 q1 => ?_
  cases dd <;> first | exact q1.elim | skip
  case str z =>
    obtain ⟨asp, e1, q2⟩ := onS_ex q1
    obtain ⟨f, fd, ps, h1, F, kp, b⟩ := hT _ (lookS_mem e1)
    refine ⟨d, z, .ref f, rfl, rep_str_inv r1, ⟨es', n, .ref f, D.at_, D.lit, h1, rfl⟩, ?_⟩
    refine ⟨f, fd, ps, _, List.getElem?_set_self (by rw [← hr'.len]; exact hi), F, kp, b, ?_⟩
    exact seqA ((hr'.mono t1).drop i (some (.ref f))) v1 q2 fun vs H2 ds M2 t2 r2 v2 q3 => ⟨ds, M2, DD.rt, by rw [List.append_nil]; exact r2, v2, q3, kk.rt.up (t1.trans t2)⟩
theorem tabF_nil {P : PySem.W.Frag → Addr → (Str × ASp) → Prop} {K : PySem.W.Frag} {d : Addr} : ∀ p ∈ ([] : List (Str × ASp)), P K d p := fun p hp => by cases hp
theorem tab_cons {α : Type} {P : (Str × α) → Prop} {q : Str × α} {l : List (Str × α)} (h : P q) (r : ∀ p ∈ l, P p) : ∀ p ∈ q :: l, P p := fun p hp => by
  rcases List.mem_cons.mp hp with rfl | hp
  · exact h
  · exact r p hp
theorem tabB_cons {P : (Str × Bool) → Prop} {q : Str × Bool} {l : List (Str × Bool)} (h : P q) (r : ∀ p ∈ l, P p) : ∀ p ∈ q :: l, P p := fun p hp => by
  rcases List.mem_cons.mp hp with rfl | hp
  · exact h
  · exact r p hp
theorem tab_nil {α : Type} {P : (Str × α) → Prop} : ∀ p ∈ ([] : List (Str × α)), P p := fun p hp => by cases hp
theorem tabB_nil {P : (Str × Bool) → Prop} : ∀ p ∈ ([] : List (Str × Bool)), P p := fun p hp => by cases hp
end
end HC
set_option maxHeartbeats 1000000
namespace HC
open PySem L2 PyProof.Rows
section
variable {X : Cx} {K : PySem.W.Frag}
def acSortI : ARC := fun ds M Q => match ds with
  | [d] => ∃ ns : List Int, lstA d M = some (ns.map Dv.int) ∧ ∀ ns' : List Int, ns'.Perm ns → ns'.Pairwise (· ≤ ·) → ∀ p, M p = none → Q (.ref p) (mup M p (.lst (ns'.map Dv.int)))
  | _ => False
theorem reps_ints {H : Hp} : ∀ ns : List Int, Reps K H (ns.map Dv.int) (ns.map V.int)
  | [] => .nil
  | n :: ns => .cons rep_int (reps_ints ns)
theorem abc_sortI : AbC K (rSortedI K) acSortI := by
  intro H M vs ds Q Q' r hv q k
  match ds, q with
  | [d], ⟨ns, h, q⟩ =>
    obtain ⟨v, e, rd⟩ := reps1 r
    obtain ⟨a, ws, e1, s, z⟩ := lstA_ok rd hv h
    rw [z.ints] at s
    exact ⟨a, ns, by rw [e, e1], s, fun ns' p hp hs hn => end_lst (reps_ints ns') hv (q ns' hp hs) k p hn⟩
end
end HC
namespace HC
open PySem L2 PyProof.Rows
section
variable {X : Cx}
abbrev KTV := List Key × Addr × V
theorem pairs_ofT {pins : List (Addr × Obj)} {σ : L2.St} {H : Hp} {s : Shared} (I : L2.Inv X pins σ H s) : ∀ {ps : List Addr} {kts : List KTV}, Paired (fun p kt => SqT X.K H p [.ref kt.2.1, kt.2.2] ∧ H kt.2.1 = some (.tup (kt.1.map kV))) ps kts →
    ∃ prs : List (List Key × Addr × Value), KT H (kts.map fun kt => (kt.1, kt.2.2)) prs ∧ prs.map (·.1) = kts.map (·.1) ∧ prs.length = ps.length ∧ (∀ x ∈ prs, H x.2.1 = some (.tup (x.1.map kV))) ∧ ∀ (j : Nat) (q : List Key × Addr × Value), prs[j]? = some q → ∃ b : Addr, ps[j]? = some b ∧ IsTup s.heap b #[.ref q.2.1, q.2.2]
  | _, _, .nil => ⟨[], .nil, rfl, rfl, (fun x hx => by cases hx), fun j q e => by simp at e⟩
  | _, _, .cons (a := p) (b := kt) h t => by
    obtain ⟨prs, r, hm, hl, hh, hp⟩ := pairs_ofT I t
    obtain ⟨its, rv, ht, _⟩ := I.tuple h.1
    obtain ⟨u, y, ei, ru, ry⟩ := vals2 rv
    subst ei
    cases (show u = Value.ref kt.2.1 from ru)
    refine ⟨(kt.1, kt.2.1, y) :: prs, .cons ⟨rfl, h.2, ry⟩ r, by rw [List.map_cons, List.map_cons, hm], by rw [List.length_cons, List.length_cons, hl], fun x hx => ?_, fun j q e => ?_⟩
    · rcases List.mem_cons.mp hx with e | hx
      · subst e; exact h.2
      · exact hh x hx
    · cases j with
      | zero =>
        have e' : (kt.1, kt.2.1, y) = q := Option.some.inj e
        subst e'
        exact ⟨p, rfl, ht⟩
      | succ j => exact hp j q (by simpa using e)
theorem call_dictT (hcalm : X.calm = true) (hu : X.A.units + 2 < cLine) : CallR X (.type "dict") (fun xs H Q => ∃ (a : Addr) (ps : List Addr) (kts : List KTV), xs = [.ref a] ∧ SqL X.K H a (ps.map V.ref) ∧ Paired (fun p kt => SqT X.K H p [.ref kt.2.1, kt.2.2] ∧ H kt.2.1 = some (.tup (kt.1.map kV))) ps kts ∧
    (kts.map (·.1)).Nodup ∧ ∀ p, H p = none → Q (.ref p) (upd H p (.dT (kts.map fun kt => (kt.1, kt.2.2))))) := by
  intro pins s σ H xs us Q I r q
  obtain ⟨a, ps, kts, ex, hq, hp, nd, q⟩ := q
  subst ex
  obtain ⟨u, eu, rx⟩ := vals1 r
  subst eu
  cases rx
  obtain ⟨its, rv, pl, hz⟩ := I.list hq
  have ei := refs_at rv
  subst ei
  rw [List.length_map] at hz
  obtain ⟨prs, rel, hm, hl, hk, hpr⟩ := pairs_ofT I hp
  obtain ⟨o, n, ho, hc, hd, hdat⟩ := pl
  have hst : storedAllH [] prs = prs := storedAllH_nil_of_nodup prs (by rw [hm]; exact nd)
  refine call_dict_pairsH (knd := tupleKind (mixKind X.prog X.w)) (ps := prs) (PairArg.list a (ps.map Value.ref).toArray (fun j => ps.getD j 0) (prs.map fun q => (Value.ref q.2.1, q.2.2))) (I.ok.hd hcalm) (show X.A.units + 2 < cLine from hu) ⟨⟨o, n, ho, hc, hd, hdat⟩, by simp [hl], fun j k v e => ?_⟩ ⟨by simp, fun i key v e => ?_⟩ (fun h' hk2 x hx => ?_) (by rw [List.length_map, hl]; exact hz) fun h' tk hd' k => ?_
  · rw [List.getElem?_map] at e
    obtain ⟨q', e1, e2⟩ := Option.map_eq_some_iff.mp e
    injection e2 with e2 e3
    subst e2 e3
    obtain ⟨b, f1, f2⟩ := hpr j q' e1
    have eb : ps.getD j 0 = b := by rw [List.getD_eq_getElem?_getD, f1]; rfl
    show (List.map Value.ref ps).toArray[j]? = some (.ref (ps.getD j 0)) ∧ PairAt s.heap (ps.getD j 0) _ _
    rw [eb]
    refine ⟨by simp [f1], .inl ?_⟩
    obtain ⟨ob, g1, g2, m, g3⟩ := f2
    exact ⟨ob, g1, g2, m, g3⟩
  · have e' : (prs.map fun q => (Value.ref q.2.1, q.2.2))[i]? = some (key, v) := e
    rw [List.getElem?_map] at e'
    obtain ⟨q', e1, e2⟩ := Option.map_eq_some_iff.mp e'
    injection e2 with e2 e3
    exact ⟨q'.1, q'.2.1, by rw [e1, ← e3], e2.symm⟩
  · obtain ⟨ob, items, m, g1, g2, g3, g4⟩ := key_of I.hok (hk x hx)
    exact ⟨ob, items, m, hk2 _ _ (Nat.ne_of_lt (Heap.lt_size g1)) (fun z => nomatch z) g1, g2, g3, g4⟩
  · have hm2 : (s.heap.objs.size == sysModules) = false := beq_eq_false_iff_ne.mpr (Nat.ne_of_gt I.big)
    rw [hst] at hd'
    obtain ⟨ob, es, ep, hq2, h2, h3, h4, _, h5⟩ := hd'
    have hlen : (kts.map fun kt => (kt.1, kt.2.2)).length ≤ sizeLine := by
      rw [Paired.length rel, hl]
      exact hz
    have kk : ∀ b u, s.heap.get? b = some u → h'.get? b = some u := fun b u e => k b u (fun z => nomatch z) e
    refine ⟨.ref s.heap.objs.size, upd H s.heap.objs.size (.dT (kts.map fun kt => (kt.1, kt.2.2))), I.laid (t' := tk) kk (Nat.le_refl _) (show ObjOk X.prog X.w _ _ _ (.dT _) from ⟨hlen, hm2, prs, rel.keeps fun c ys ec => ?_, ob, es, ep, hq2, h2, h3, h4, h5⟩), rfl, q _ (I.hok.fresh (Nat.le_refl _))⟩
    have fr := I.hok.fresh (Nat.le_refl s.heap.objs.size)
    rw [upd_ne (fun z => by rw [z, fr] at ec; cases ec)]
    exact ec
end
end HC
namespace HC
open PySem L2 PyProof.Rows
section
variable {X : Cx} {K : PySem.W.Frag} {o e : Expr} {es : List Expr} {apos cpos tpos : Pos} {to te : RE} {t : RA}
theorem hu2_of {A : Around} {k : Nat} (hr : Room k A) : A.units + 2 < cLine := Nat.lt_of_le_of_lt (Nat.add_le_add_left (by decide : 2 ≤ 64) _) hr.units
def pairsT : List Dv → Option (List (List Key × Dv))
  | [] => some []
  | .tup [.tup ks, v] :: r => (keysD ks).bind fun k => (pairsT r).map fun l => (k, v) :: l
  | _ => none
def acDictT : ARC := fun ds M Q => match ds with
  | [d] => onS (lstA d M) fun xs => onS (pairsT xs) fun kvs => (kvs.map (·.1)).Nodup ∧ ∀ p, M p = none → Q (.ref p) (mup M p (.dit kvs))
  | _ => False
theorem pairsT_ok {H : Hp} : ∀ {xs : List Dv} {ws : List V} {kvs : List (List Key × Dv)}, Reps K H xs ws → pairsT xs = some kvs →
    ∃ (ps : List Addr) (kts : List KTV), ws = ps.map V.ref ∧ Paired (fun p (kt : KTV) => SqT K H p [.ref kt.2.1, kt.2.2] ∧ H kt.2.1 = some (.tup (kt.1.map kV))) ps kts ∧ kts.map (·.1) = kvs.map (·.1) ∧
      Paired (fun (p : List Key × Dv) (q : List Key × V) => p.1 = q.1 ∧ Rep K H p.2 q.2) kvs (kts.map fun kt => (kt.1, kt.2.2))
  | [], _, _, r, h => by
    cases h
    rw [r.nil_inv]
    exact ⟨[], [], rfl, .nil, rfl, .nil⟩
  | x :: xs, _, kvs, r, h => by
    obtain ⟨w, ws, rfl, r1, r2⟩ := r.cons_inv
    unfold pairsT at h
    split at h
    · next h0 => cases h0
    · next ks v r' e0 =>
      injection e0 with e1 e2
      subst e1 e2
      obtain ⟨k, ek, h2⟩ := Option.bind_eq_some_iff.mp h
      obtain ⟨l, el, h3⟩ := Option.map_eq_some_iff.mp h2
      subst h3
      obtain ⟨ps, kts, f1, f2, f3, f4⟩ := pairsT_ok r2 el
      obtain ⟨a, vs, g1, g2, g3⟩ := rep_tup_inv r1
      obtain ⟨w1, w2, g4, g5, g6⟩ := reps2 g3
      obtain ⟨b, us, j1, j2, j3⟩ := rep_tup_inv' g5
      have j4 := keysD_ok j3 ek
      subst g1 g4 j1 j4 f1
      exact ⟨a :: ps, (k, b, w2) :: kts, rfl, .cons ⟨g2, j2⟩ f2, by rw [List.map_cons, List.map_cons, f3], .cons ⟨rfl, g6⟩ f4⟩
    · cases h
theorem abc_dictT : AbC K (fun xs H Q => ∃ (a : Addr) (ps : List Addr) (kts : List KTV), xs = [.ref a] ∧ SqL K H a (ps.map V.ref) ∧ Paired (fun p kt => SqT K H p [.ref kt.2.1, kt.2.2] ∧ H kt.2.1 = some (.tup (kt.1.map kV))) ps kts ∧
    (kts.map (·.1)).Nodup ∧ ∀ p, H p = none → Q (.ref p) (upd H p (.dT (kts.map fun kt => (kt.1, kt.2.2))))) acDictT := by
  intro H M vs ds Q Q' r hv q k
  match ds, q with
  | [d], q =>
    obtain ⟨xs, h, q⟩ := onS_ex q
    obtain ⟨kvs, h2, nd, q⟩ := onS_ex q
    obtain ⟨v, e, rd⟩ := reps1 r
    obtain ⟨a, ws, e1, s, z⟩ := lstA_ok rd hv h
    obtain ⟨ps, kts, f1, f2, f3, f4⟩ := pairsT_ok z h2
    subst f1
    refine ⟨a, ps, kts, by rw [e, e1], s, f2, by rw [f3]; exact nd, fun p hp => ?_⟩
    exact k _ _ (.ref p) _ (Tp.new hp) rep_ref (hv.put (c := .dit kvs) (by rw [hp]; trivial) ⟨_, upd_same, kp_mono f4 (Tp.new hp)⟩) (q p (hv.free hp))
def aGetT (to : RE) (t : RA) : RE := fun ρ M Q => to ρ M fun x M1 => match x with
  | .ref a => (∃ kvs, M1 a = some (.dit kvs)) ∧ t ρ M1 fun ds M2 => ds.length ≤ sizeLine ∧ match M2 a with
    | some (.dit kvs) => onS (keysD ds) fun k => Q ((getK kvs k).getD .non) M2
    | _ => False
  | _ => False
theorem ae_getT {k1 : Nat} (hu : X.A.units + 1 < cLine) (ho : AE X o to) (ht : AA X es t) (m : M1 X o "get" apos (.Tuple es k1 tpos) cpos) : AE X (.Call (.Attribute o "get" apos) [.Tuple es k1 tpos] [] cpos) (aGetT to t) :=
  pe_imp (pe_dget1 hu ho (pe_tup ht) m) fun σ H Q' ⟨ρ, M, Q, hr, hv, q, k⟩ => seqE hr hv q fun v H1 d M1 t1 r1 v1 q1 => by
    cases d <;> first | exact q1.elim | skip
    case ref a =>
      obtain ⟨⟨kvs0, e0⟩, q1⟩ := q1
      obtain ⟨ws0, e00, _⟩ := (show ∃ kvs', H1 a = some (.dT kvs') ∧ Paired (fun (p : List Key × Dv) (q : List Key × V) => p.1 = q.1 ∧ Rep X.K _ p.2 q.2) kvs0 kvs' from v1 a _ e0)
      refine ⟨a, rep_ref_inv r1, .inr ⟨ws0, .inl e00⟩, ?_⟩
      refine seqA (hr.mono t1) v1 q1 fun vs H2 ds M2 t2 r2 v2 ⟨z, q2⟩ => ?_
      refine ⟨by rw [← r2.length]; exact z, fun p hp => ?_⟩
      have tp := Tp.new (K := X.K) (H := H2) (a := p) (o := .tup vs) hp
      split at q2
      · next kvs e3 =>
        obtain ⟨kk, e4, q5⟩ := onS_ex q2
        have v3 := v2.new (o := .tup vs) hp
        obtain ⟨ws, e5, r⟩ := (show ∃ kvs', upd H2 p (.tup vs) a = some (.dT kvs') ∧ Paired (fun (p : List Key × Dv) (q : List Key × V) => p.1 = q.1 ∧ Rep X.K _ p.2 q.2) kvs kvs' from v3 a _ e3)
        have := keysD_ok r2 e4
        subst this
        refine ⟨_, DGet.t e5 upd_same, ?_⟩
        have tt := (t1.trans t2).trans tp
        rcases getK_ok (k := kk) r with ⟨h1, h2⟩ | ⟨d', v, h1, h2, h3⟩
        · rw [h1] at q5
          rw [h2]
          exact k _ _ .non _ tt rep_non v3 q5
        · rw [h1] at q5
          rw [h2]
          exact k _ _ d' _ tt h3 v3 q5
      · exact q2.elim
end
end HC
namespace Law
open PySem L2 HC PyProof.Rows
abbrev kS (x : Str) : Key := .inr x
def potC (q : Addr) (l s m : Int) : Cell := .dic [(kS "own", .ref q), (kS "left", .int l), (kS "seed", .int s), (kS "many", .int m)]
structure DPot (p q : Addr) (M : Ms) : Prop where
  ne : p ≠ q
  d : ∃ l s m : Int, M p = some (potC q l s m) ∧ 0 ≤ l ∧ 0 ≤ s ∧ 0 ≤ m
  o : ∃ own : List Int, M q = some (.lst (own.map Dv.int)) ∧ (∀ x ∈ own, 0 ≤ x) ∧ own.length ≤ 63
def But (p q : Addr) (M M' : Ms) : Prop := ∀ a c, a ≠ p → a ≠ q → M a = some c → M' a = some c
theorem put_left (o : Dv) (l s c x : Dv) : putA [(kS (Str.ofString "own"), o), (kS (Str.ofString "left"), l), (kS (Str.ofString "seed"), s), (kS (Str.ofString "many"), c)] (.inr (Str.ofString "left")) x = [(kS (Str.ofString "own"), o), (kS (Str.ofString "left"), x), (kS (Str.ofString "seed"), s), (kS (Str.ofString "many"), c)] := rfl
theorem put_seed (o : Dv) (l s c x : Dv) : putA [(kS (Str.ofString "own"), o), (kS (Str.ofString "left"), l), (kS (Str.ofString "seed"), s), (kS (Str.ofString "many"), c)] (.inr (Str.ofString "seed")) x = [(kS (Str.ofString "own"), o), (kS (Str.ofString "left"), l), (kS (Str.ofString "seed"), x), (kS (Str.ofString "many"), c)] := rfl
theorem put_many (o : Dv) (l s c x : Dv) : putA [(kS (Str.ofString "own"), o), (kS (Str.ofString "left"), l), (kS (Str.ofString "seed"), s), (kS (Str.ofString "many"), c)] (.inr (Str.ofString "many")) x = [(kS (Str.ofString "own"), o), (kS (Str.ofString "left"), l), (kS (Str.ofString "seed"), s), (kS (Str.ofString "many"), x)] := rfl
theorem But.p {p q : Addr} {M M1 : Ms} {c : Cell} (h : But p q M M1) : But p q M (mup M1 p c) := fun a d h1 h2 e => by rw [mup_ne h1]; exact h a d h1 h2 e
theorem But.q {p q : Addr} {M M1 : Ms} {c : Cell} (h : But p q M M1) : But p q M (mup M1 q c) := fun a d h1 h2 e => by rw [mup_ne h2]; exact h a d h1 h2 e
theorem But.new {p q r : Addr} {M M1 : Ms} {c : Cell} (h : But p q M M1) (hr : M1 r = none) : But p q M (mup M1 r c) := fun a d h1 h2 e => Sub.new hr a d (h a d h1 h2 e)
theorem But.refl (p q : Addr) (M : Ms) : But p q M M := fun _ _ _ _ e => e
theorem But.trans {p q : Addr} {M M1 M2 : Ms} (h : But p q M M1) (k : But p q M1 M2) : But p q M M2 := fun a d h1 h2 e => k a d h1 h2 (h a d h1 h2 e)
theorem But.sub {p q : Addr} {M M1 M2 : Ms} (h : But p q M M1) (k : Sub M1 M2) : But p q M M2 := fun a d h1 h2 e => k a d (h a d h1 h2 e)
theorem DPot.sub {p q : Addr} {M M1 : Ms} (h : DPot p q M) (k : Sub M M1) : DPot p q M1 := by
  obtain ⟨hne, ⟨l, s, c, hp, b⟩, own, hq, ho⟩ := h
  exact ⟨hne, ⟨l, s, c, k _ _ hp, b⟩, own, k _ _ hq, ho⟩
theorem DPot.set {p q : Addr} {M : Ms} {l s c : Int} (h : DPot p q M) (l0 : 0 ≤ l) (s0 : 0 ≤ s) (c0 : 0 ≤ c) : DPot p q (mup M p (potC q l s c)) := by
  obtain ⟨hne, _, own, hq, ho⟩ := h
  exact ⟨hne, ⟨l, s, c, mup_same, l0, s0, c0⟩, own, by rw [mup_ne hne.symm]; exact hq, ho⟩
theorem DPot.keep {p q : Addr} {M M1 : Ms} (h : DPot p q M) (k : Sub M M1) : DPot p q M1 := h.sub k
theorem DPot.nep {p q r : Addr} {M : Ms} (h : DPot p q M) (hr : M r = none) : r ≠ p := by
  obtain ⟨_, ⟨l, s, c, hp, _⟩, _⟩ := h
  exact (ne_of_new hp hr).symm
theorem DPot.neq {p q r : Addr} {M : Ms} (h : DPot p q M) (hr : M r = none) : r ≠ q := by
  obtain ⟨_, _, own, hq, _⟩ := h
  exact (ne_of_new hq hr).symm
theorem DPot.del {p q r : Addr} {M : Ms} (h : DPot p q M) (h1 : r ≠ p) (h2 : r ≠ q) : DPot p q (mdel M r) := by
  obtain ⟨hne, ⟨l, s, c, hp, b⟩, own, hq, ho⟩ := h
  exact ⟨hne, ⟨l, s, c, by rw [mdel_ne h1.symm]; exact hp, b⟩, own, by rw [mdel_ne h2.symm]; exact hq, ho⟩
theorem But.del {p q r : Addr} {M M1 : Ms} (h : But p q M M1) (hr : M r = none) : But p q M (mdel M1 r) := fun a d h1 h2 e => by rw [mdel_ne (ne_of_new e hr)]; exact h a d h1 h2 e
theorem But.at {p q r : Addr} {M M1 : Ms} {c : Cell} (h : But p q M M1) (h1 : r ≠ p) (h2 : r ≠ q) (e : M r = some c) : M1 r = some c := h r c h1 h2 e
theorem DPot.put {p q r : Addr} {M : Ms} {c : Cell} (h : DPot p q M) (h1 : r ≠ p) (h2 : r ≠ q) : DPot p q (mup M r c) := by
  obtain ⟨hne, ⟨l, s, c', hp, b⟩, own, hq, ho⟩ := h
  exact ⟨hne, ⟨l, s, c', by rw [mup_ne h1.symm]; exact hp, b⟩, own, by rw [mup_ne h2.symm]; exact hq, ho⟩
theorem But.mdel2 {p q r : Addr} {M M1 : Ms} (h : But p q M M1) : But p q (mdel M r) (mdel M1 r) := fun a d h1 h2 e => by
  by_cases ha : a = r
  · subst ha; rw [mdel_same] at e; cases e
  · rw [mdel_ne ha] at e ⊢; exact h a d h1 h2 e
theorem But.put {p q r : Addr} {M M1 : Ms} {c : Cell} (h : But p q M M1) (hr : M r = none) : But p q M (mup M1 r c) := fun a d h1 h2 e => by rw [mup_ne (ne_of_new e hr)]; exact h a d h1 h2 e
end Law
namespace Law
open PySem L2 HC PyProof.Rows
def Pn : Nat → Dv → Prop
  | _, .non => True
  | _, .bl _ => True
  | _, .int _ => True
  | _, .str x => PyData.canLay0 (.str x) = true
  | n + 1, .tup xs => xs.length ≤ sizeLine ∧ ∀ d ∈ xs, Pn n d
  | n + 1, .rol xs => xs.length ≤ sizeLine ∧ ∀ d ∈ xs, Pn n d
  | _, _ => False
theorem Pn.up : ∀ {n : Nat} {d : Dv}, Pn n d → Pn (n + 1) d
  | 0, .non, _ => trivial
  | 0, .bl _, _ => trivial
  | 0, .int _, _ => trivial
  | 0, .str _, h => h
  | n + 1, .non, _ => trivial
  | n + 1, .bl _, _ => trivial
  | n + 1, .int _, _ => trivial
  | n + 1, .str _, h => h
  | n + 1, .tup xs, h => ⟨h.1, fun d hd => Pn.up (h.2 d hd)⟩
  | n + 1, .rol xs, h => ⟨h.1, fun d hd => Pn.up (h.2 d hd)⟩
def wholeB : Dv → Bool
  | .int _ => true
  | _ => false
def betwB (d : Dv) (lo hi : Int) : Bool := match d with
  | .int i => decide (lo ≤ i) && decide (i ≤ hi)
  | _ => false
def blockB (d : Dv) (size : Int) : Bool := match d with
  | .tup xs => decide ((xs.length : Int) = size) && xs.all fun x => betwB x 0 255
  | _ => false
def diskB (d : Dv) (size rows : Int) : Bool := match d with
  | .non => true
  | .tup xs => decide ((xs.length : Int) = rows) && xs.all fun x => isNon x || blockB x size
  | _ => false
def widthsB (w m : Dv) (par rows many : Int) : Bool := match w, m with
  | .int w, .int m => (decide (par + 1 ≤ w) && decide (w ≤ 10)) && (if many = w then decide (m = 0) else decide (many = w + 1) && (decide (many ≤ 10) && (decide (0 ≤ m) && decide (m < rows))))
  | _, _ => false
def natB (d : Dv) : Bool := match d with
  | .int i => decide (0 ≤ i)
  | _ => false
def headB (d : Dv) (many : Int) : Bool := match d with
  | .tup [a, b, c, w, m, f] => betwB a 1 2 && (betwB b 1 16 && (betwB c 1 24 && (natB f && (match a, c with
    | .int p, .int r => widthsB w m p r many
    | _, _ => false))))
  | _ => false
def noteB (d : Dv) (at' par size rows many : Int) : Bool := match d with
  | .tup [.str x, a, b, c] => if x = ("end" : Str) then (match a with | .int a => decide (a = at') | _ => false) && widthsB b c par rows many
      else if x = ("block" : Str) then betwB a 0 (many - 1) && (betwB b 0 (rows - 1) && blockB c size) else false
  | _ => false
def isBlk (d : Dv) : Bool := match d with
  | .tup (.str x :: _) => decide (x = ("block" : Str))
  | _ => false
def journalB (d : Dv) (par size rows many : Int) : Bool := match d with
  | .tup xs => ((List.range xs.length).all fun (i : Nat) => noteB (xs.getD i .non) i par size rows many) && (xs.take (xs.length - 1)).all isBlk
  | _ => false
def storeB (d : Dv) : Bool := match d with
  | .tup [h, .tup disks, j] => headB h disks.length && (match h with
    | .tup [.int p, .int s, .int r, _, _, _] => (disks.all fun x => diskB x s r) && journalB j p s r disks.length
    | _ => false)
  | _ => false
theorem betwB_int {d : Dv} {lo hi : Int} (h : betwB d lo hi = true) : ∃ i, d = .int i ∧ lo ≤ i ∧ i ≤ hi := by
  cases d <;> first | cases h | skip
  simp only [betwB, Bool.and_eq_true, decide_eq_true_eq] at h
  exact ⟨_, rfl, h⟩
theorem headB_shape {d : Dv} {many : Int} (h : headB d many = true) : ∃ p s r w m f, d = .tup [.int p, .int s, .int r, w, m, .int f] := by
  unfold headB at h
  split at h
  · next a b c w m f =>
    simp only [Bool.and_eq_true] at h
    obtain ⟨h1, h2, h3, h4, _⟩ := h
    obtain ⟨p, rfl, _⟩ := betwB_int h1
    obtain ⟨s, rfl, _⟩ := betwB_int h2
    obtain ⟨r, rfl, _⟩ := betwB_int h3
    cases f <;> first | cases h4 | skip
    exact ⟨_, _, _, _, _, _, rfl⟩
  · cases h
theorem headB_len {xs : List Dv} {many : Int} (h : ¬ xs.length = 6) : headB (.tup xs) many = false := by
  unfold headB
  split
  · next e => cases e; exact absurd rfl h
  · rfl
theorem noteB_len {xs : List Dv} {a p s r m : Int} (h : ¬ xs.length = 4) : noteB (.tup xs) a p s r m = false := by
  unfold noteB
  split
  · next e => cases e; exact absurd rfl h
  · rfl
theorem noteB_str {d a b c : Dv} {a' p s r m : Int} (h : ∀ x, d ≠ .str x) : noteB (.tup [d, a, b, c]) a' p s r m = false := by
  cases d <;> first | rfl | exact absurd rfl (h _)
theorem noteB_shape {d : Dv} {a' p s r m : Int} (h : noteB d a' p s r m = true) : ∃ x a b c, d = .tup [.str x, a, b, c] := by
  unfold noteB at h
  split at h
  · exact ⟨_, _, _, _, rfl⟩
  · cases h
theorem storeB_len {xs : List Dv} (h : ¬ xs.length = 3) : storeB (.tup xs) = false := by
  unfold storeB
  split
  · next e => cases e; exact absurd rfl h
  · rfl
theorem storeB_mid {a b c : Dv} (h : ∀ xs, b ≠ .tup xs) : storeB (.tup [a, b, c]) = false := by
  cases b <;> first | rfl | exact absurd rfl (h _)
theorem cut_last (xs : List Dv) : cutA xs none (some (-1)) = xs.take (xs.length - 1) := by
  have e : HT.sIx xs.length xs.length (some (-1)) = xs.length - 1 := by
    show (if (-1 : Int) < 0 then ((-1 : Int) + (xs.length : Int)).toNat else min (-1 : Int).toNat xs.length) = _
    rw [if_pos (by decide)]
    omega
  unfold cutA
  rw [e]
  show (xs.drop 0).take (xs.length - 1 - 0) = _
  rfl
abbrev Blk := List Nat
structure Head where
  par : Nat
  size : Nat
  rows : Nat
  width : Nat
  moved : Nat
  spares : Nat
def Head.d (h : Head) : Dv := .tup [dn h.par, dn h.size, dn h.rows, dn h.width, dn h.moved, dn h.spares]
structure Head.Ok (h : Head) (many : Nat) : Prop where
  par1 : 1 ≤ h.par
  par2 : h.par ≤ 2
  size1 : 1 ≤ h.size
  size2 : h.size ≤ 16
  rows1 : 1 ≤ h.rows
  rows2 : h.rows ≤ 24
  width1 : h.par + 1 ≤ h.width
  width2 : h.width ≤ 10
  many : (many = h.width ∧ h.moved = 0) ∨ (many = h.width + 1 ∧ many ≤ 10 ∧ h.moved < h.rows)
  sp : h.spares ≤ 1000000
theorem headOk {par size rows width moved spares many : Nat} (h1 : 1 ≤ par) (h2 : par ≤ 2) (h3 : 1 ≤ size) (h4 : size ≤ 16) (h5 : 1 ≤ rows) (h6 : rows ≤ 24) (h7 : par + 1 ≤ width) (h8 : width ≤ 10)
    (h9 : (many = width ∧ moved = 0) ∨ (many = width + 1 ∧ many ≤ 10 ∧ moved < rows)) (h10 : spares ≤ 1000000) : (⟨par, size, rows, width, moved, spares⟩ : Head).Ok many := ⟨h1, h2, h3, h4, h5, h6, h7, h8, h9, h10⟩
def bD (b : Blk) : Dv := .tup (b.map fun n => dn n)
def oD : Option Blk → Dv
  | none => .non
  | some b => bD b
abbrev Disk := Option (List (Option Blk))
def kD : Disk → Dv
  | none => .non
  | some bs => .tup (bs.map oD)
inductive Note where
  | block (disk row : Nat) (b : Blk)
  | fin (many width moved : Nat)
def nD : Note → Dv
  | .block disk row b => .tup [.str ("block" : Str), dn disk, dn row, bD b]
  | .fin many width moved => .tup [.str ("end" : Str), dn many, dn width, dn moved]
structure Store where
  head : Head
  disks : List Disk
  journal : List Note
def Store.d (s : Store) : Dv := .tup [s.head.d, .tup (s.disks.map kD), .tup (s.journal.map nD)]
def BlkOk' (b : Blk) (size : Nat) : Prop := b.length = size ∧ ∀ x ∈ b, x < 256
def DiskOk (k : Disk) (size rows : Nat) : Prop := ∀ bs, k = some bs → bs.length = rows ∧ ∀ o ∈ bs, ∀ b, o = some b → BlkOk' b size
def WidthsOk (w m par rows many : Nat) : Prop := par + 1 ≤ w ∧ w ≤ 10 ∧ ((many = w ∧ m = 0) ∨ (many = w + 1 ∧ many ≤ 10 ∧ m < rows))
def NoteOk (h : Head) (many : Nat) (i : Nat) (last : Bool) : Note → Prop
  | .block disk row b => disk < many ∧ row < h.rows ∧ BlkOk' b h.size
  | .fin k w m => last = true ∧ k = i ∧ WidthsOk w m h.par h.rows many
structure Store.Ok (s : Store) : Prop where
  head : s.head.Ok s.disks.length
  disks : ∀ k ∈ s.disks, DiskOk k s.head.size s.head.rows
  journal : ∀ i n, s.journal[i]? = some n → NoteOk s.head s.disks.length i (decide (i + 1 = s.journal.length)) n
theorem blockB_ok {b : Blk} {size : Nat} (h : BlkOk' b size) : blockB (bD b) size = true := by
  unfold blockB bD
  simp only [List.length_map, h.1, decide_true, Bool.true_and, List.all_map, List.all_eq_true]
  intro x hx
  have := h.2 x hx
  simp [betwB]
  omega
theorem diskB_ok {k : Disk} {size rows : Nat} (h : DiskOk k size rows) : diskB (kD k) size rows = true := by
  cases k with
  | none => rfl
  | some bs =>
    obtain ⟨h1, h2⟩ := h bs rfl
    simp only [kD, diskB, List.length_map, h1, decide_true, Bool.true_and, List.all_map, List.all_eq_true]
    intro o ho
    cases o with
    | none => rfl
    | some b =>
      have := blockB_ok (h2 _ ho b rfl)
      simp only [Function.comp, oD, this, Bool.or_true]
theorem widthsB_ok {w m par rows many : Nat} (h : WidthsOk w m par rows many) : widthsB (dn w) (dn m) par rows many = true := by
  obtain ⟨h1, h2, h3⟩ := h
  unfold widthsB
  simp only [dn, Bool.and_eq_true, decide_eq_true_eq]
  refine ⟨⟨by omega, by omega⟩, ?_⟩
  rcases h3 with ⟨e, e2⟩ | ⟨e, e2, e3⟩
  · rw [if_pos (by omega)]
    simp [e2]
  · rw [if_neg (by omega)]
    simp only [Bool.and_eq_true, decide_eq_true_eq]
    omega
theorem headB_ok {h : Head} {many : Nat} (k : h.Ok many) : headB h.d many = true := by
  obtain ⟨h1, h2, h3, h4, h5, h6, h7, h8, h9, h10⟩ := k
  have hw : widthsB (dn h.width) (dn h.moved) h.par h.rows many = true := widthsB_ok ⟨h7, h8, h9⟩
  simp only [dn] at hw
  simp only [headB, Head.d, dn, hw, betwB, natB, Bool.and_eq_true, decide_eq_true_eq, and_true]
  omega
theorem noteB_ok {h : Head} {many i : Nat} {last : Bool} {n : Note} (k : NoteOk h many i last n) : noteB (nD n) i h.par h.size h.rows many = true := by
  cases n with
  | block disk row b =>
    obtain ⟨h1, h2, h3⟩ := k
    have hb := blockB_ok h3
    have ne : ¬ ("block" : Str) = ("end" : Str) := by decide
    simp only [nD, noteB, if_neg ne, if_pos, hb, betwB, dn, Bool.and_eq_true, decide_eq_true_eq, and_true]
    omega
  | fin kk w m =>
    obtain ⟨h1, h2, h3⟩ := k
    have hw := widthsB_ok h3
    simp only [dn] at hw
    simp only [nD, noteB, if_pos, dn, hw, Bool.and_true, decide_eq_true_eq]
    omega
theorem storeB_ok {s : Store} (h : s.Ok) : storeB s.d = true := by
  have h1 := headB_ok h.head
  have h2 : ∀ k ∈ s.disks, diskB (kD k) s.head.size s.head.rows = true := fun k hk => diskB_ok (h.disks k hk)
  have e : s.d = .tup [.tup [dn s.head.par, dn s.head.size, dn s.head.rows, dn s.head.width, dn s.head.moved, dn s.head.spares], .tup (s.disks.map kD), .tup (s.journal.map nD)] := rfl
  rw [e]
  simp only [storeB, dn, List.length_map, Bool.and_eq_true]
  refine ⟨h1, ?_, ?_⟩
  · simp only [List.all_map, List.all_eq_true]
    exact fun k hk => h2 k hk
  · simp only [journalB, List.length_map, Bool.and_eq_true, List.all_eq_true]
    refine ⟨fun i hi => ?_, fun d hd => ?_⟩
    · have hl : i < s.journal.length := List.mem_range.mp hi
      have := noteB_ok (h.journal i _ (List.getElem?_eq_getElem hl))
      simpa [List.getD, hl] using this
    · obtain ⟨i, hi, e⟩ := List.mem_iff_getElem.mp hd
      simp at hi e
      have hl : i < s.journal.length := by omega
      have k := h.journal i _ (List.getElem?_eq_getElem hl)
      rw [decide_eq_false (by omega)] at k
      subst e
      cases q : s.journal[i] with
      | block disk row b => simp [nD, isBlk]
      | fin kk w m => rw [q] at k; exact absurd k.1 (by decide)
def newS (par size rows width spares : Nat) : Store := ⟨⟨par, size, rows, width, 0, spares⟩, List.replicate width (some (List.replicate rows (some (List.replicate size 0)))), []⟩
def noughtD (size : Nat) : Dv := .tup (List.replicate size (.int 0))
theorem newS_d (par size rows width spares : Nat) : (newS par size rows width spares).d = .tup [.tup [dn par, dn size, dn rows, dn width, .int 0, dn spares], .tup (List.replicate width (.tup (List.replicate rows (noughtD size)))), .tup []] := by
  simp [newS, Store.d, Head.d, kD, oD, bD, noughtD, List.map_replicate, dn]
theorem newS_ok {par size rows width spares : Nat} (h1 : 1 ≤ par) (h2 : par ≤ 2) (h3 : 1 ≤ size) (h4 : size ≤ 16) (h5 : 1 ≤ rows) (h6 : rows ≤ 24) (h7 : par + 1 ≤ width) (h8 : width ≤ 10) (h9 : spares ≤ 1000000) : (newS par size rows width spares).Ok := by
  refine ⟨⟨h1, h2, h3, h4, h5, h6, h7, h8, .inl ⟨by simp [newS], rfl⟩, h9⟩, fun k hk => ?_, fun i n h => by simp [newS] at h⟩
  have e : k = some (List.replicate rows (some (List.replicate size 0))) := (List.mem_replicate.mp hk).2
  subst e
  intro bs e
  cases e
  refine ⟨by simp [newS], fun o ho b e => ?_⟩
  have e2 := (List.mem_replicate.mp ho).2
  rw [e2] at e
  cases e
  exact ⟨by simp [newS], fun x hx => by rw [(List.mem_replicate.mp hx).2]; decide⟩
theorem pl_block (n : Nat) (b : Blk) : Pl (n + 1) (bD b) := by
  intro d hd
  obtain ⟨x, _, rfl⟩ := List.mem_map.mp hd
  cases n <;> trivial
theorem pl_oblock (n : Nat) (b : Option Blk) : Pl (n + 1) (oD b) := by
  cases b with
  | none => trivial
  | some b => exact pl_block n b
theorem pl_disk (n : Nat) (k : Disk) : Pl (n + 2) (kD k) := by
  cases k with
  | none => trivial
  | some bs =>
    intro d hd
    obtain ⟨x, _, rfl⟩ := List.mem_map.mp hd
    exact pl_oblock n x
theorem pl_str {n : Nat} {x : Str} (h : PyData.canLay0 (.str x) = true) : Pl n (.str x) := by cases n <;> exact h
theorem pl_int {n : Nat} {i : Int} : Pl n (.int i) := by cases n <;> trivial
theorem pl_non {n : Nat} : Pl n .non := by cases n <;> trivial
theorem lay_block : PyData.canLay0 (.str ("block" : Str)) = true := by decide +kernel
theorem lay_end : PyData.canLay0 (.str ("end" : Str)) = true := by decide +kernel
theorem pl_note (n : Nat) (k : Note) : Pl (n + 2) (nD k) := by
  cases k with
  | block disk row b =>
    intro d hd
    simp only [nD, List.mem_cons, List.not_mem_nil, or_false] at hd
    rcases hd with rfl | rfl | rfl | rfl
    · exact pl_str lay_block
    · exact pl_int
    · exact pl_int
    · exact pl_block n b
  | fin a b c =>
    intro d hd
    simp only [nD, List.mem_cons, List.not_mem_nil, or_false] at hd
    rcases hd with rfl | rfl | rfl | rfl
    · exact pl_str lay_end
    · exact pl_int
    · exact pl_int
    · exact pl_int
theorem pl_head (n : Nat) (h : Head) : Pl (n + 1) h.d := by
  intro d hd
  simp only [List.mem_cons, List.not_mem_nil, or_false] at hd
  rcases hd with rfl | rfl | rfl | rfl | rfl | rfl <;> exact pl_int
theorem pl_store (n : Nat) (s : Store) : Pl (n + 4) s.d := by
  intro d hd
  simp only [List.mem_cons, List.not_mem_nil, or_false] at hd
  rcases hd with rfl | rfl | rfl
  · exact pl_head _ _
  · intro d hd
    obtain ⟨x, _, rfl⟩ := List.mem_map.mp hd
    exact pl_disk n x
  · intro d hd
    obtain ⟨x, _, rfl⟩ := List.mem_map.mp hd
    exact pl_note n x
structure Store.Fit (s : Store) : Prop where
  disks : s.disks.length ≤ 1000000
  journal : s.journal.length ≤ 1000000
  rows : ∀ k ∈ s.disks, ∀ bs, k = some bs → bs.length ≤ 1000000 ∧ ∀ o ∈ bs, ∀ b, o = some b → b.length ≤ 1000000
  notes : ∀ n ∈ s.journal, ∀ i r b, n = .block i r b → b.length ≤ 1000000
theorem pn_int {n : Nat} {i : Int} : Pn n (.int i) := by cases n <;> trivial
theorem pn_str {n : Nat} {x : Str} (h : PyData.canLay0 (.str x) = true) : Pn n (.str x) := by cases n <;> exact h
theorem pn_block (n : Nat) {b : Blk} (h : b.length ≤ 1000000) : Pn (n + 1) (bD b) := by
  refine ⟨le_line (by simpa using h), fun d hd => ?_⟩
  obtain ⟨x, _, rfl⟩ := List.mem_map.mp hd
  exact pn_int
theorem pn_store {s : Store} (h : s.Fit) : Pn 4 s.d := by
  refine ⟨le_line (by simp), fun d hd => ?_⟩
  simp only [List.mem_cons, List.not_mem_nil, or_false] at hd
  rcases hd with rfl | rfl | rfl
  · refine ⟨le_line (by simp), fun d hd => ?_⟩
    simp only [List.mem_cons, List.not_mem_nil, or_false] at hd
    rcases hd with rfl | rfl | rfl | rfl | rfl | rfl <;> exact pn_int
  · refine ⟨le_line (by simpa using h.disks), fun d hd => ?_⟩
    obtain ⟨k, hk, rfl⟩ := List.mem_map.mp hd
    cases k with
    | none => trivial
    | some bs =>
      obtain ⟨h1, h2⟩ := h.rows _ hk bs rfl
      refine ⟨le_line (by simpa using h1), fun d hd => ?_⟩
      obtain ⟨o, ho, rfl⟩ := List.mem_map.mp hd
      cases o with
      | none => trivial
      | some b => exact pn_block 0 (h2 _ ho b rfl)
  · refine ⟨le_line (by simpa using h.journal), fun d hd => ?_⟩
    obtain ⟨k, hk, rfl⟩ := List.mem_map.mp hd
    cases k with
    | block i r b =>
      refine ⟨le_line (by simp), fun d hd => ?_⟩
      simp only [List.mem_cons, List.not_mem_nil, or_false] at hd
      rcases hd with rfl | rfl | rfl | rfl
      · exact pn_str lay_block
      · exact pn_int
      · exact pn_int
      · exact pn_block 0 (h.notes _ hk i r b rfl)
    | fin a b c =>
      refine ⟨le_line (by simp), fun d hd => ?_⟩
      simp only [List.mem_cons, List.not_mem_nil, or_false] at hd
      rcases hd with rfl | rfl | rfl | rfl
      · exact pn_str lay_end
      · exact pn_int
      · exact pn_int
      · exact pn_int
theorem Store.Ok.fit {s : Store} (h : s.Ok) (hj : s.journal.length ≤ 1000000) : s.Fit := by
  have hh := h.head
  refine ⟨?_, hj, fun k hk bs e => ?_, fun n hn i r b e => ?_⟩
  · have := hh.many
    have := hh.width2
    omega
  · obtain ⟨h1, h2⟩ := h.disks k hk bs e
    refine ⟨?_, fun o ho b e => ?_⟩
    · have := hh.rows2
      omega
    · have := (h2 o ho b e).1
      have := hh.size2
      omega
  · obtain ⟨j, hj, e2⟩ := List.mem_iff_getElem.mp hn
    have := h.journal j n (by rw [List.getElem?_eq_getElem hj, e2])
    rw [e] at this
    have := this.2.2.1
    have := hh.size2
    omega
def Store.wide (s : Store) (row : Nat) : Nat := s.head.width + (if row < s.head.moved then 1 else 0)
def Store.cell (s : Store) (disk row : Nat) : Option Blk := match s.disks.getD disk none with
  | none => none
  | some bs => bs.getD row none
def Store.row (s : Store) (row : Nat) : List (Option Blk) := (List.range (s.wide row)).map fun j => s.cell ((row + j) % s.wide row) row
theorem Store.row_len {s : Store} {row : Nat} : (s.row row).length = s.wide row := by simp [Store.row]
theorem Store.Ok.wide_le {s : Store} (h : s.Ok) (row : Nat) : s.wide row ≤ s.disks.length := by
  have := h.head.many
  unfold Store.wide
  split <;> omega
theorem Store.Ok.wide_pos {s : Store} (h : s.Ok) (row : Nat) : s.head.par < s.wide row := by
  have := h.head.width1
  unfold Store.wide
  omega
theorem Store.Ok.many_le {s : Store} (h : s.Ok) : s.disks.length ≤ 10 := by
  have := h.head.many
  have := h.head.width2
  omega
theorem Store.Ok.wide_ten {s : Store} (h : s.Ok) (row : Nat) : s.wide row ≤ 10 := Nat.le_trans (h.wide_le row) h.many_le
theorem Store.Ok.wide_moved {s : Store} (h : s.Ok) {row : Nat} (hm : row < s.head.moved) : s.disks.length = s.wide row := by
  have := h.head.many
  unfold Store.wide
  rw [if_pos hm]
  omega
theorem disk_at {s : Store} {i : Nat} (h : i < s.disks.length) : (s.disks.map kD)[i]? = some (kD (s.disks.getD i none)) := by
  rw [List.getElem?_map, List.getElem?_eq_getElem h]
  simp [List.getD, h]
theorem Store.Ok.disk {s : Store} (h : s.Ok) {i : Nat} : DiskOk (s.disks.getD i none) s.head.size s.head.rows := by
  by_cases hi : i < s.disks.length
  · have : s.disks.getD i none ∈ s.disks := by
      rw [List.getD_eq_getElem?_getD, List.getElem?_eq_getElem hi]
      exact List.getElem_mem hi
    exact h.disks _ this
  · rw [List.getD_eq_getElem?_getD, List.getElem?_eq_none (by omega)]
    exact fun bs e => nomatch e
theorem cell_lost {s : Store} {i row : Nat} (h : s.disks.getD i none = none) : s.cell i row = none := by
  unfold Store.cell; rw [h]
theorem cell_there {s : Store} {i row : Nat} {bs : List (Option Blk)} (h : s.disks.getD i none = some bs) : s.cell i row = bs.getD row none := by
  unfold Store.cell; rw [h]
theorem block_at' {bs : List (Option Blk)} {row : Nat} (h : row < bs.length) : (bs.map oD)[row]? = some (oD (bs.getD row none)) := by
  rw [List.getElem?_map, List.getElem?_eq_getElem h]
  simp [List.getD, h]
def Store.kept (s : Store) : Nat := s.head.rows * (s.head.width - s.head.par)
end Law
namespace Law
open PySem L2 HC PyProof.Rows
def turnT (w r : Nat) : List Dv := (List.range (w - 1)).map fun j => dn ((r + 1 + j) % w)
def turnL (w r : Nat) : List Dv := (List.range w).map fun j => dn ((r + j) % w)
theorem turnL_len {w r : Nat} : (turnL w r).length = w := by simp [turnL]
theorem turnT_len {w r : Nat} : (turnT w r).length = w - 1 := by simp [turnT]
theorem turnL_get {w r j : Nat} (h : j < w) : (turnL w r)[j]? = some (dn ((r + j) % w)) := by simp [turnL, h]
theorem turnL_zero {w : Nat} : rangeA 0 w = turnL w 0 := by
  unfold turnL rangeA
  refine List.map_congr_left fun j hj => ?_
  have hj : j < w := List.mem_range.mp hj
  rw [Nat.zero_add, Nat.mod_eq_of_lt hj, Int.zero_add]
theorem turnL_cons {w r : Nat} (h : 0 < w) : turnL w r = dn (r % w) :: turnT w r := by
  obtain ⟨n, rfl⟩ : ∃ n, w = n + 1 := ⟨w - 1, by omega⟩
  unfold turnL turnT
  rw [List.range_succ_eq_map, List.map_cons, List.map_map]
  simp only [Nat.add_zero, Nat.add_sub_cancel]
  congr 1
  refine List.map_congr_left fun j _ => ?_
  simp only [Function.comp, Nat.succ_eq_add_one]
  rw [show r + (j + 1) = r + 1 + j by omega]
theorem turnL_succ {w r : Nat} (h : 0 < w) : turnT w r ++ [dn (r % w)] = turnL w (r + 1) := by
  obtain ⟨n, rfl⟩ : ∃ n, w = n + 1 := ⟨w - 1, by omega⟩
  unfold turnL turnT
  rw [List.range_succ, List.map_append]
  simp only [Nat.add_sub_cancel, List.map_cons, List.map_nil]
  rw [show r + 1 + n = r + (n + 1) by omega, Nat.add_mod_right]
end Law
namespace Law
open PySem L2 HC PyProof.Rows
def spD (x : Nat × Nat) : Dv := .tup [dn x.1, dn x.2]
theorem pl_spot (n : Nat) (x : Nat × Nat) : Pl (n + 1) (spD x) := by
  intro d hd
  simp only [List.mem_cons, List.not_mem_nil, or_false] at hd
  rcases hd with rfl | rfl <;> exact pl_int
def lay (k n : Nat) : Nat × Nat := (n / k, n % k)
def Store.spotN (s : Store) (n : Nat) : Nat × Nat := if n / (s.head.width + 1 - s.head.par) < s.head.moved then lay (s.head.width + 1 - s.head.par) n else lay (s.head.width - s.head.par) n
def spotsL (k kept num : Nat) : List Dv := (List.range kept).map fun n => spD (if n < num then lay (k + 1) n else lay k n)
theorem spotsL_len {k kept num : Nat} : (spotsL k kept num).length = kept := by simp [spotsL]
theorem rows_ext {i k : Nat} (hk : 0 < k) : spotsL k (i * k) 0 ++ (List.range k).map (fun j => spD (i, j)) = spotsL k ((i + 1) * k) 0 := by
  unfold spotsL
  rw [Nat.add_mul, Nat.one_mul, List.range_add, List.map_append, List.map_map]
  congr 1
  refine List.map_congr_left fun j hj => ?_
  have hj : j < k := List.mem_range.mp hj
  have e1 : (i * k + j) / k = i := by
    rw [Nat.mul_comm, Nat.mul_add_div hk, Nat.div_eq_of_lt hj, Nat.add_zero]
  have e2 : (i * k + j) % k = j := by
    rw [Nat.mul_comm, Nat.mul_add_mod, Nat.mod_eq_of_lt hj]
  simp only [Function.comp, Nat.not_lt_zero, if_false, lay, e1, e2]
theorem spots_set {k kept i j : Nat} (hj : j < k + 1) (h : i * (k + 1) + j < kept) : (spotsL k kept (i * (k + 1) + j)).set (i * (k + 1) + j) (spD (i, j)) = spotsL k kept (i * (k + 1) + j + 1) := by
  have e1 : (i * (k + 1) + j) / (k + 1) = i := by
    rw [Nat.mul_comm, Nat.mul_add_div (by omega), Nat.div_eq_of_lt hj, Nat.add_zero]
  have e2 : (i * (k + 1) + j) % (k + 1) = j := by
    rw [Nat.mul_comm, Nat.mul_add_mod, Nat.mod_eq_of_lt hj]
  generalize i * (k + 1) + j = num at *
  refine List.ext_getElem (by simp [spotsL]) fun n h1 h2 => ?_
  simp only [spotsL, List.length_set, List.length_map, List.length_range] at h1 h2
  rw [List.getElem_set]
  by_cases e : num = n
  · subst e
    rw [if_pos rfl]
    simp only [spotsL, List.getElem_map, List.getElem_range, if_pos (Nat.lt_succ_self _), lay, e1, e2]
  · rw [if_neg e]
    simp only [spotsL, List.getElem_map, List.getElem_range]
    by_cases h3 : n < num
    · rw [if_pos h3, if_pos (by omega)]
    · rw [if_neg h3, if_neg (by omega)]
theorem spots_beyond {k kept num : Nat} (h : kept ≤ num) : spotsL k kept num = spotsL k kept (num + 1) := by
  unfold spotsL
  refine List.map_congr_left fun n hn => ?_
  have hn : n < kept := List.mem_range.mp hn
  rw [if_pos (by omega), if_pos (by omega)]
theorem spots_end {s : Store} (h : s.Ok) : spotsL (s.head.width - s.head.par) s.kept (s.head.moved * (s.head.width - s.head.par + 1)) = (List.range s.kept).map fun n => spD (s.spotN n) := by
  have w1 := h.head.width1
  have e : s.head.width + 1 - s.head.par = s.head.width - s.head.par + 1 := by omega
  unfold spotsL
  refine List.map_congr_left fun n hn => ?_
  unfold Store.spotN
  rw [e]
  by_cases hd : n / (s.head.width - s.head.par + 1) < s.head.moved
  · rw [if_pos hd, if_pos ((Nat.div_lt_iff_lt_mul (by omega)).mp hd)]
  · rw [if_neg hd, if_neg fun h2 => hd ((Nat.div_lt_iff_lt_mul (by omega)).mpr h2)]
end Law
namespace Law
open PySem L2 HC PyProof.Rows
def Store.numN (s : Store) (row place : Nat) : Option Nat :=
  if s.wide row - s.head.par ≤ place then none
  else if s.kept ≤ row * (s.wide row - s.head.par) + place then none
  else if s.spotN (row * (s.wide row - s.head.par) + place) = (row, place) then some (row * (s.wide row - s.head.par) + place)
  else none
def numD : Option Nat → Dv
  | none => .non
  | some n => dn n
theorem spD_inj {x y : Nat × Nat} : spD x = spD y ↔ x = y := by
  constructor
  · intro h
    obtain ⟨a, b⟩ := x
    obtain ⟨c, d⟩ := y
    unfold spD at h
    injection h with h
    injection h with h1 h2
    injection h2 with h2 h3
    injection h1 with h1
    injection h2 with h2
    simp only [] at h1 h2
    rw [show a = c by omega, show b = d by omega]
  · rintro rfl; rfl
theorem num_some {s : Store} {r p n : Nat} (h : s.numN r p = some n) : n < s.kept ∧ s.spotN n = (r, p) := by
  unfold Store.numN at h
  split at h
  · cases h
  · split at h
    · cases h
    · split at h
      · next h1 h2 h3 =>
        cases h
        exact ⟨by omega, h3⟩
      · cases h
theorem spot_in {s : Store} (ok : s.Ok) {n : Nat} (h : n < s.kept) : (s.spotN n).1 < s.head.rows ∧ (s.spotN n).2 < s.wide (s.spotN n).1 - s.head.par ∧ s.wide (s.spotN n).1 - s.head.par ≤ s.wide (s.spotN n).1 ∧ (s.spotN n).1 * (s.wide (s.spotN n).1 - s.head.par) + (s.spotN n).2 = n := by
  have w1 := ok.head.width1
  have mv := ok.head.many
  unfold Store.kept at h
  unfold Store.spotN
  have k1 : 0 < s.head.width + 1 - s.head.par := by omega
  have k0 : 0 < s.head.width - s.head.par := by omega
  have e1 : s.head.width + 1 - s.head.par = s.head.width - s.head.par + 1 := by omega
  split
  · next hm =>
    show n / _ < _ ∧ n % _ < _ ∧ _ ≤ _ ∧ _
    have hw : s.wide (n / (s.head.width + 1 - s.head.par)) = s.head.width + 1 := by unfold Store.wide; rw [if_pos hm]
    rw [show (lay (s.head.width + 1 - s.head.par) n).1 = n / (s.head.width + 1 - s.head.par) from rfl, hw]
    refine ⟨by omega, Nat.mod_lt _ k1, by omega, ?_⟩
    show n / _ * _ + n % _ = n
    rw [Nat.mul_comm]
    exact Nat.div_add_mod n _
  · next hm =>
    have hr : s.head.moved ≤ n / (s.head.width - s.head.par) := by
      have : s.head.moved ≤ n / (s.head.width + 1 - s.head.par) := by omega
      exact Nat.le_trans this (Nat.div_le_div_left (by omega) k0)
    have hw : s.wide (n / (s.head.width - s.head.par)) = s.head.width := by unfold Store.wide; rw [if_neg (by omega)]; rfl
    rw [show (lay (s.head.width - s.head.par) n).1 = n / (s.head.width - s.head.par) from rfl, hw]
    refine ⟨(Nat.div_lt_iff_lt_mul k0).mpr h, Nat.mod_lt _ k0, by omega, ?_⟩
    show n / _ * _ + n % _ = n
    rw [Nat.mul_comm]
    exact Nat.div_add_mod n _
theorem num_spot {s : Store} (ok : s.Ok) {n : Nat} (h : n < s.kept) : s.numN (s.spotN n).1 (s.spotN n).2 = some n := by
  obtain ⟨h1, h2, h3, h4⟩ := spot_in ok h
  unfold Store.numN
  rw [if_neg (by omega), h4, if_neg (by omega), if_pos rfl]
def Store.nums (s : Store) (rows : Nat) : List (Option Nat) := ((List.range rows).map fun r => (List.range (s.wide r)).map fun p => s.numN r p).flatten
theorem nums_succ {s : Store} {r : Nat} : s.nums (r + 1) = s.nums r ++ (List.range (s.wide r)).map fun p => s.numN r p := by
  unfold Store.nums
  rw [List.range_succ, List.map_append, List.flatten_append]
  simp
theorem nums_mem {s : Store} {rows : Nat} {o : Option Nat} : o ∈ s.nums rows ↔ ∃ r p, r < rows ∧ p < s.wide r ∧ s.numN r p = o := by
  unfold Store.nums
  rw [List.mem_flatten]
  constructor
  · rintro ⟨l, hl, ho⟩
    obtain ⟨r, hr, rfl⟩ := List.mem_map.mp hl
    obtain ⟨p, hp, rfl⟩ := List.mem_map.mp ho
    exact ⟨r, p, List.mem_range.mp hr, List.mem_range.mp hp, rfl⟩
  · rintro ⟨r, p, hr, hp, rfl⟩
    exact ⟨_, List.mem_map.mpr ⟨r, List.mem_range.mpr hr, rfl⟩, List.mem_map.mpr ⟨p, List.mem_range.mpr hp, rfl⟩⟩
theorem nums_nodup (s : Store) : ∀ rows, ((s.nums rows).filterMap id).Nodup
  | 0 => List.nodup_nil
  | r + 1 => by
    rw [nums_succ, List.filterMap_append]
    refine List.nodup_append.mpr ⟨nums_nodup s r, ?_, ?_⟩
    · rw [List.filterMap_map]
      refine List.pairwise_filterMap.mpr (List.Pairwise.imp ?_ List.nodup_range)
      intro a b ne n ha m hb e
      subst e
      have h1 := (num_some (show s.numN r a = some n from ha)).2
      have h2 := (num_some (show s.numN r b = some n from hb)).2
      rw [h1] at h2
      injection h2 with _ q
      exact ne q
    · intro a ha b hb e
      subst e
      obtain ⟨o, ho, e⟩ := List.mem_filterMap.mp ha
      obtain ⟨o2, ho2, e2⟩ := List.mem_filterMap.mp hb
      obtain ⟨r1, p1, hr1, _, h1⟩ := nums_mem.mp ho
      obtain ⟨p2, _, h2⟩ := List.mem_map.mp ho2
      have e : o = some a := e
      have e2 : o2 = some a := e2
      subst e e2
      have := (num_some h1).2
      rw [(num_some h2).2] at this
      injection this with q
      omega
theorem nums_perm {s : Store} (ok : s.Ok) {L : List Int} (hp : L.Perm (((s.nums s.head.rows).filterMap id).map fun n : Nat => (n : Int))) (hs : L.Pairwise (· ≤ ·)) : L = (List.range s.kept).map fun n : Nat => (n : Int) := by
  have h1 : ((s.nums s.head.rows).filterMap id).Perm (List.range s.kept) := by
    refine (List.perm_ext_iff_of_nodup (nums_nodup s _) List.nodup_range).mpr fun n => ?_
    rw [List.mem_filterMap, List.mem_range]
    constructor
    · rintro ⟨o, ho, e⟩
      obtain ⟨r, p, _, _, h⟩ := nums_mem.mp ho
      have e : o = some n := e
      subst e
      exact (num_some h).1
    · intro h
      obtain ⟨a1, a2, a3, _⟩ := spot_in ok h
      exact ⟨some n, nums_mem.mpr ⟨_, _, a1, by omega, num_spot ok h⟩, rfl⟩
  refine List.Perm.eq_of_pairwise (le := fun a b : Int => a ≤ b) (fun a b _ _ h1 h2 => Int.le_antisymm h1 h2) hs ?_ (hp.trans (h1.map _))
  rw [List.pairwise_map]
  refine List.Pairwise.imp (fun h => ?_) List.pairwise_lt_range
  exact Int.ofNat_le.mpr (Nat.le_of_lt h)
end Law
namespace Law
open PySem L2 HC PyProof.Rows
def pnB : Nat → Dv → Bool
  | _, .non => true
  | _, .bl _ => true
  | _, .int _ => true
  | _, .str x => PyData.canLay0 (.str x)
  | n + 1, .tup xs => decide (xs.length ≤ 1000) && xs.all (pnB n)
  | n + 1, .rol xs => decide (xs.length ≤ 1000) && xs.all (pnB n)
  | _, _ => false
theorem pnB_ok : ∀ {n : Nat} {d : Dv}, pnB n d = true → Pn n d
  | 0, .non, _ => trivial
  | 0, .bl _, _ => trivial
  | 0, .int _, _ => trivial
  | 0, .str x, h => h
  | n + 1, .non, _ => trivial
  | n + 1, .bl _, _ => trivial
  | n + 1, .int _, _ => trivial
  | n + 1, .str x, h => h
  | n + 1, .tup xs, h => by
    simp only [pnB, Bool.and_eq_true, decide_eq_true_eq, List.all_eq_true] at h
    exact ⟨le_line (by omega), fun d hd => pnB_ok (h.2 d hd)⟩
  | n + 1, .rol xs, h => by
    simp only [pnB, Bool.and_eq_true, decide_eq_true_eq, List.all_eq_true] at h
    exact ⟨le_line (by omega), fun d hd => pnB_ok (h.2 d hd)⟩
theorem pn_tup {n : Nat} {xs : List Dv} (hl : xs.length ≤ 1000000) (h : ∀ d ∈ xs, Pn n d) : Pn (n + 1) (.tup xs) := ⟨le_line hl, h⟩
theorem pn_rol {n : Nat} {xs : List Dv} (hl : xs.length ≤ 1000000) (h : ∀ d ∈ xs, Pn n d) : Pn (n + 1) (.rol xs) := ⟨le_line hl, h⟩
theorem Pn.le {n : Nat} {d : Dv} (h : Pn n d) : ∀ k, Pn (n + k) d
  | 0 => h
  | k + 1 => Pn.up (Pn.le h k)
theorem pn_set {n : Nat} {xs : List Dv} {i : Nat} {d : Dv} (h : Pn (n + 1) (.tup xs)) (hd : Pn n d) : Pn (n + 1) (.tup (xs.set i d)) := ⟨by rw [List.length_set]; exact h.1, fun e he => by
  rcases List.mem_or_eq_of_mem_set he with q | q
  · exact h.2 e q
  · rw [q]; exact hd⟩
theorem nr_tup {xs : List Dv} (a : Addr) : Dv.tup xs ≠ .ref a := fun e => Dv.noConfusion e
theorem nr_rol {xs : List Dv} (a : Addr) : Dv.rol xs ≠ .ref a := fun e => Dv.noConfusion e
theorem nr_non (a : Addr) : Dv.non ≠ .ref a := fun e => Dv.noConfusion e
theorem nr_int {i : Int} (a : Addr) : Dv.int i ≠ .ref a := fun e => Dv.noConfusion e
theorem nr_str {i : Str} (a : Addr) : Dv.str i ≠ .ref a := fun e => Dv.noConfusion e
theorem nr_bl {i : Bool} (a : Addr) : Dv.bl i ≠ .ref a := fun e => Dv.noConfusion e
theorem le_k {n m : Nat} (h : Nat.ble n m = true) : n ≤ m := Nat.le_of_ble_eq_true h
structure BigOk (s : Store) : Prop where
  ok : s.Ok
  len : s.journal.length ≤ 10
  rows : 2 ≤ s.head.rows
  width : s.head.par + 2 ≤ s.head.width
  first : ∃ bs : List Blk, s.disks.getD 0 none = some (bs.map some) ∧ bs.length = s.head.rows ∧ ∀ b ∈ bs, BlkOk' b s.head.size
end Law
namespace Law
open PySem L2 HC PyProof.Rows
inductive Chg where
  | note (n : Note)
  | block (d r : Nat) (b : Blk)
  | spoil (d r : Nat) (b : Blk)
  | head (w m : Nat)
  | clear
  | add
  | lose (d : Nat)
  | bad (d r : Nat)
  | spare (d : Nat)
def cD : Chg → Dv
  | .note n => .tup [.str ("note" : Str), nD n]
  | .block d r b => .tup [.str ("block" : Str), dn d, dn r, bD b]
  | .spoil d r b => .tup [.str ("spoil" : Str), dn d, dn r, bD b]
  | .head w m => .tup [.str ("head" : Str), dn w, dn m]
  | .clear => .tup [.str ("clear" : Str)]
  | .add => .tup [.str ("add" : Str)]
  | .lose d => .tup [.str ("lose" : Str), dn d]
  | .bad d r => .tup [.str ("bad" : Str), dn d, dn r]
  | .spare d => .tup [.str ("spare" : Str), dn d]
def freshK (h : Head) : Disk := some (List.replicate h.rows none)
def lessH (h : Head) : Head := ⟨h.par, h.size, h.rows, h.width, h.moved, h.spares - 1⟩
def Store.setCell (s : Store) (d r : Nat) (o : Option Blk) : Store := match s.disks.getD d none with
  | none => s
  | some bs => ⟨s.head, s.disks.set d (some (bs.set r o)), s.journal⟩
def applyC (s : Store) : Chg → Store
  | .note n => ⟨s.head, s.disks, s.journal ++ [n]⟩
  | .block d r b => s.setCell d r (some b)
  | .spoil d r b => s.setCell d r (some b)
  | .head w m => ⟨⟨s.head.par, s.head.size, s.head.rows, w, m, s.head.spares⟩, s.disks, s.journal⟩
  | .clear => ⟨s.head, s.disks, []⟩
  | .add => ⟨lessH s.head, s.disks ++ [freshK s.head], s.journal⟩
  | .lose d => ⟨s.head, s.disks.set d none, s.journal⟩
  | .bad d r => s.setCell d r none
  | .spare d => ⟨lessH s.head, s.disks.set d (freshK s.head), s.journal⟩
def noteLen : Note → Nat
  | .block _ _ b => b.length
  | .fin _ _ _ => 0
structure SC (s : Store) (n : Nat) : Prop where
  d1 : 1 ≤ s.disks.length
  d2 : s.disks.length ≤ 10 + n
  r1 : 1 ≤ s.head.rows
  r2 : s.head.rows ≤ 24
  z2 : s.head.size ≤ 16
  rows : ∀ k ∈ s.disks, ∀ bs, k = some bs → bs.length = s.head.rows ∧ ∀ o ∈ bs, ∀ b, o = some b → b.length ≤ 16
  j : s.journal.length ≤ 20 + n
  notes : ∀ x ∈ s.journal, noteLen x ≤ 16
def CV (s : Store) : Chg → Prop
  | .note n => noteLen n ≤ 16
  | .block d r b => d < s.disks.length ∧ r < s.head.rows ∧ b.length ≤ 16
  | .spoil d r b => d < s.disks.length ∧ r < s.head.rows ∧ b.length ≤ 16
  | .head _ _ => True
  | .clear => True
  | .add => 1 ≤ s.head.spares
  | .lose d => d < s.disks.length
  | .bad d r => d < s.disks.length ∧ r < s.head.rows
  | .spare d => d < s.disks.length ∧ 1 ≤ s.head.spares
def CVs (s : Store) : List Chg → Prop
  | [] => True
  | c :: cs => CV s c ∧ CVs (applyC s c) cs
theorem SC.up {s : Store} {n : Nat} (h : SC s n) (m : Nat) : SC s (n + m) := ⟨h.d1, by have := h.d2; omega, h.r1, h.r2, h.z2, h.rows, by have := h.j; omega, h.notes⟩
theorem sc_cell {s : Store} {n d r : Nat} {o : Option Blk} (h : SC s n) (ho : ∀ b, o = some b → b.length ≤ 16) : SC (s.setCell d r o) n := by
  unfold Store.setCell
  cases q : s.disks.getD d none with
  | none => exact h
  | some bs =>
    have hm : some bs ∈ s.disks := by
      by_cases hd : d < s.disks.length
      · rw [List.getD_eq_getElem?_getD, List.getElem?_eq_getElem hd] at q
        rw [← (show s.disks[d] = some bs from q)]
        exact List.getElem_mem hd
      · rw [List.getD_eq_getElem?_getD, List.getElem?_eq_none (by omega)] at q
        cases q
    obtain ⟨h1, h2⟩ := h.rows _ hm bs rfl
    refine ⟨by rw [List.length_set]; exact h.d1, by rw [List.length_set]; exact h.d2, h.r1, h.r2, h.z2, fun k hk bs' e => ?_, h.j, h.notes⟩
    rcases List.mem_or_eq_of_mem_set hk with e' | e'
    · exact h.rows k e' bs' e
    · rw [e'] at e
      cases e
      refine ⟨by rw [List.length_set]; exact h1, fun o' ho' b e => ?_⟩
      rcases List.mem_or_eq_of_mem_set ho' with e2 | e2
      · exact h2 o' e2 b e
      · exact ho b (by rw [← e2]; exact e)
theorem fresh_ok (h : Head) : ∀ bs, freshK h = some bs → bs.length = h.rows ∧ ∀ o ∈ bs, ∀ b, o = some b → b.length ≤ 16 := by
  intro bs e
  cases e
  exact ⟨by simp, fun o ho b e => by rw [(List.mem_replicate.mp ho).2] at e; cases e⟩
theorem sc_apply {s : Store} {n : Nat} {c : Chg} (h : SC s n) (v : CV s c) : SC (applyC s c) (n + 1) := by
  have h2 := h.d2
  have h1 := h.d1
  have hj := h.j
  cases c with
  | note x =>
    refine ⟨h1, by show s.disks.length ≤ _; omega, h.r1, h.r2, h.z2, h.rows, by show (s.journal ++ [x]).length ≤ _; rw [List.length_append]; simp; omega, fun y hy => ?_⟩
    rcases List.mem_append.mp hy with q | q
    · exact h.notes y q
    · rw [List.mem_singleton.mp q]; exact v
  | block d r b => exact (sc_cell h fun b' e => by cases e; exact v.2.2).up 1
  | spoil d r b => exact (sc_cell h fun b' e => by cases e; exact v.2.2).up 1
  | bad d r => exact (sc_cell h fun b' e => by cases e).up 1
  | head w m => exact ⟨h1, by show s.disks.length ≤ _; omega, h.r1, h.r2, h.z2, h.rows, by show s.journal.length ≤ _; omega, h.notes⟩
  | clear => exact ⟨h1, by show s.disks.length ≤ _; omega, h.r1, h.r2, h.z2, h.rows, by show ([] : List Note).length ≤ _; simp, fun y hy => by cases hy⟩
  | add =>
    refine ⟨by show 1 ≤ (s.disks ++ [freshK s.head]).length; rw [List.length_append]; omega, by show (s.disks ++ [freshK s.head]).length ≤ _; rw [List.length_append]; simp; omega, h.r1, h.r2, h.z2, fun k hk bs e => ?_, by show s.journal.length ≤ _; omega, h.notes⟩
    rcases List.mem_append.mp hk with q | q
    · exact h.rows k q bs e
    · rw [List.mem_singleton.mp q] at e; exact fresh_ok s.head bs e
  | lose d =>
    refine ⟨by show 1 ≤ (s.disks.set d none).length; rw [List.length_set]; exact h1, by show (s.disks.set d none).length ≤ _; rw [List.length_set]; omega, h.r1, h.r2, h.z2, fun k hk bs e => ?_, by show s.journal.length ≤ _; omega, h.notes⟩
    rcases List.mem_or_eq_of_mem_set hk with q | q
    · exact h.rows k q bs e
    · rw [q] at e; cases e
  | spare d =>
    refine ⟨by show 1 ≤ (s.disks.set d (freshK s.head)).length; rw [List.length_set]; exact h1, by show (s.disks.set d (freshK s.head)).length ≤ _; rw [List.length_set]; omega, h.r1, h.r2, h.z2, fun k hk bs e => ?_, by show s.journal.length ≤ _; omega, h.notes⟩
    rcases List.mem_or_eq_of_mem_set hk with q | q
    · exact h.rows k q bs e
    · rw [q] at e; exact fresh_ok s.head bs e
theorem sc_all : ∀ {cs : List Chg} {s : Store} {n : Nat}, SC s n → CVs s cs → SC (cs.foldl applyC s) (n + cs.length)
  | [], _, _, h, _ => h
  | c :: cs, s, n, h, v => by
    have := sc_all (cs := cs) (sc_apply h v.1) v.2
    rw [List.length_cons, Nat.add_comm cs.length 1, ← Nat.add_assoc]
    exact this
theorem cvs_snoc : ∀ {cs : List Chg} {s : Store} {c : Chg}, CVs s cs → CV (cs.foldl applyC s) c → CVs s (cs ++ [c])
  | [], _, _, _, v => ⟨v, trivial⟩
  | d :: cs, s, c, h, v => ⟨h.1, cvs_snoc h.2 v⟩
theorem cvs_take : ∀ {cs : List Chg} {s : Store} (k : Nat), CVs s cs → CVs s (cs.take k)
  | _, _, 0, _ => trivial
  | [], _, k + 1, _ => trivial
  | c :: cs, s, k + 1, h => ⟨h.1, cvs_take k h.2⟩
theorem cvs_drop : ∀ {cs : List Chg} {s : Store} (k : Nat), CVs s cs → CVs ((cs.take k).foldl applyC s) (cs.drop k)
  | cs, _, 0, h => h
  | [], _, k + 1, _ => trivial
  | c :: cs, s, k + 1, h => cvs_drop (cs := cs) k h.2
def wordC : Chg → Str
  | .note _ => "note"
  | .block _ _ _ => "block"
  | .spoil _ _ _ => "spoil"
  | .head _ _ => "head"
  | .clear => "clear"
  | .add => "add"
  | .lose _ => "lose"
  | .bad _ _ => "bad"
  | .spare _ => "spare"
theorem cD_word (c : Chg) : ∃ ds, cD c = .tup (.str (wordC c) :: ds) := by cases c <;> exact ⟨_, rfl⟩
theorem d_disks (s : Store) : (s.disks.map kD).length = s.disks.length := by simp
theorem store_at {s : Store} {d : Nat} (h : d < s.disks.length) : atI (s.disks.map kD) (d : Int) = some (kD (s.disks.getD d none)) := HC.atI_nat (disk_at h)
theorem c_from (xs : List Dv) (k : Nat) (h : k ≤ xs.length) : cutA xs (some (k : Int)) none = xs.drop k := by
  unfold cutA
  have e : HT.sIx xs.length 0 (some (k : Int)) = k := by
    show (if (k : Int) < 0 then ((k : Int) + (xs.length : Int)).toNat else min (k : Int).toNat xs.length) = _
    rw [if_neg (by omega)]
    omega
  rw [e]
  show (xs.drop k).take (xs.length - k) = _
  rw [List.take_of_length_le (by simp)]
theorem c_to (xs : List Dv) (k : Nat) (h : k ≤ xs.length) : cutA xs none (some (k : Int)) = xs.take k := by
  unfold cutA
  have e : HT.sIx xs.length xs.length (some (k : Int)) = k := by
    show (if (k : Int) < 0 then ((k : Int) + (xs.length : Int)).toNat else min (k : Int).toNat xs.length) = _
    rw [if_neg (by omega)]
    omega
  rw [e]
  show (xs.drop 0).take (k - 0) = _
  rfl
theorem c_set {xs : List Dv} {i : Nat} {d : Dv} (h : i < xs.length) : xs.take i ++ [d] ++ xs.drop (i + 1) = xs.set i d := by
  rw [List.set_eq_take_append_cons_drop, if_pos h]
  simp
theorem kD_fresh (h : Head) : kD (freshK h) = .tup (List.replicate h.rows .non) := by
  show Dv.tup ((List.replicate h.rows none).map oD) = _
  rw [List.map_replicate]
  rfl
theorem less_d {h : Head} (h1 : 1 ≤ h.spares) : Dv.tup [dn h.par, dn h.size, dn h.rows, dn h.width, dn h.moved, .int ((h.spares : Int) - 1)] = (lessH h).d := by
  have e : ((h.spares : Int) - 1) = ((h.spares - 1 : Nat) : Int) := by omega
  rw [e]
  rfl
theorem ne_str {a b : Str} (h : decide (a = b) = false) : ¬ Dv.str a = Dv.str b := fun e => of_decide_eq_false h (Dv.str.inj e)
theorem lay_note : PyData.canLay0 (.str ("note" : Str)) = true := by decide +kernel
theorem lay_spoil : PyData.canLay0 (.str ("spoil" : Str)) = true := by decide +kernel
theorem lay_head : PyData.canLay0 (.str ("head" : Str)) = true := by decide +kernel
theorem lay_clear : PyData.canLay0 (.str ("clear" : Str)) = true := by decide +kernel
theorem lay_add : PyData.canLay0 (.str ("add" : Str)) = true := by decide +kernel
theorem lay_lose : PyData.canLay0 (.str ("lose" : Str)) = true := by decide +kernel
theorem lay_bad : PyData.canLay0 (.str ("bad" : Str)) = true := by decide +kernel
theorem lay_spare : PyData.canLay0 (.str ("spare" : Str)) = true := by decide +kernel
theorem lay_befall : PyData.canLay0 (.str ("befall" : Str)) = true := by decide +kernel
theorem lay_word (c : Chg) : PyData.canLay0 (.str (wordC c)) = true := by
  cases c
  · exact lay_note
  · exact lay_block
  · exact lay_spoil
  · exact lay_head
  · exact lay_clear
  · exact lay_add
  · exact lay_lose
  · exact lay_bad
  · exact lay_spare
theorem last_at {xs ys : List Dv} {y : Dv} (h : xs = ys ++ [y]) : atI xs (-1) = some y := by
  subst h
  have e : ixN (ys ++ [y]).length (-1) = some ys.length := by
    unfold ixN
    rw [List.length_append, List.length_singleton]
    rw [if_neg (by decide)]
    split
    · congr 1; omega
    · omega
  unfold atI
  rw [e]
  show (ys ++ [y])[ys.length]? = some y
  rw [List.getElem?_append_right (Nat.le_refl _), Nat.sub_self]
  rfl
def firstD : Dv → Dv
  | .tup (x :: _) => x
  | _ => .non
def wordN : Note → Str
  | .block _ _ _ => "block"
  | .fin _ _ _ => "end"
theorem nD_word (n : Note) : ∃ ds, nD n = .tup (.str (wordN n) :: ds) := by cases n <;> exact ⟨_, rfl⟩
theorem keysD_words : ∀ js : List Note, keysD ((js.map nD).map firstD) = some (js.map fun n => .inr (wordN n))
  | [] => rfl
  | n :: js => by
    have ih := keysD_words js
    obtain ⟨ds, e⟩ := nD_word n
    rw [List.map_cons, List.map_cons, e]
    show (keyD (.str (wordN n))).bind (fun k => (keysD ((js.map nD).map firstD)).map fun r => k :: r) = _
    rw [ih]
    rfl
def storesC (s : Store) (cs : List Chg) : List Dv := (List.range (cs.length + 1)).map fun k => ((cs.take k).foldl applyC s).d
theorem stores_last (s : Store) (cs : List Chg) : ∃ ys, storesC s cs = ys ++ [(cs.foldl applyC s).d] := by
  refine ⟨(List.range cs.length).map fun k => ((cs.take k).foldl applyC s).d, ?_⟩
  unfold storesC
  rw [List.range_succ, List.map_append, List.map_cons, List.map_nil, List.take_length]
theorem stores_snoc (s : Store) (cs : List Chg) (c : Chg) : storesC s (cs ++ [c]) = storesC s cs ++ [(applyC (cs.foldl applyC s) c).d] := by
  unfold storesC
  rw [List.length_append, List.length_singleton, List.range_succ, List.map_append, List.map_cons, List.map_nil]
  congr 1
  · refine List.map_congr_left fun k hk => ?_
    have := List.mem_range.mp hk
    rw [List.take_append_of_le_length (by omega)]
  · rw [List.take_of_length_le (by simp), List.foldl_append]
    rfl
theorem stores_at (s : Store) {cs : List Chg} {k : Nat} (h : k ≤ cs.length) : (storesC s cs)[k]? = some ((cs.take k).foldl applyC s).d := by
  unfold storesC
  rw [List.getElem?_map, List.getElem?_range (by omega)]
  rfl
theorem stores_len (s : Store) (cs : List Chg) : (storesC s cs).length = cs.length + 1 := by simp [storesC]
abbrev BN := Nat × Nat × Blk
def noteB' (x : BN) : Note := .block x.1 x.2.1 x.2.2
def chgB (x : BN) : Chg := .block x.1 x.2.1 x.2.2
theorem note_chg (x : BN) : nD (noteB' x) = cD (chgB x) := rfl
theorem notes_chgs (xs : List BN) : (xs.map noteB').map nD = (xs.map chgB).map cD := by
  rw [List.map_map, List.map_map]
  rfl
theorem setCell_journal (s : Store) (d r : Nat) (o : Option Blk) : (s.setCell d r o).journal = s.journal := by
  unfold Store.setCell
  split <;> rfl
theorem setCell_len (s : Store) (d r : Nat) (o : Option Blk) : (s.setCell d r o).disks.length = s.disks.length ∧ (s.setCell d r o).head = s.head := by
  unfold Store.setCell
  split
  · exact ⟨rfl, rfl⟩
  · exact ⟨List.length_set, rfl⟩
def BOk (n rows : Nat) (xs : List BN) : Prop := ∀ x ∈ xs, x.1 < n ∧ x.2.1 < rows ∧ x.2.2.length ≤ 16
theorem cvs_blocks {cs : List Chg} : ∀ {xs : List BN} {s : Store}, BOk s.disks.length s.head.rows xs → (∀ t : Store, CVs t cs) → CVs s (xs.map chgB ++ cs)
  | [], s, _, h => h s
  | x :: xs, s, hb, h => by
    refine ⟨hb x List.mem_cons_self, cvs_blocks (xs := xs) (s := applyC s (chgB x)) ?_ h⟩
    obtain ⟨h1, h2⟩ := setCell_len s x.1 x.2.1 (some x.2.2)
    show BOk (s.setCell x.1 x.2.1 (some x.2.2)).disks.length (s.setCell x.1 x.2.1 (some x.2.2)).head.rows xs
    rw [h1, h2]
    exact fun y hy => hb y (List.mem_cons_of_mem _ hy)
def keepsJ : Chg → Bool
  | .block _ _ _ => true
  | .head _ _ => true
  | _ => false
theorem journal_kept : ∀ {cs : List Chg} {s : Store}, (∀ c ∈ cs, keepsJ c = true) → (cs.foldl applyC s).journal = s.journal
  | [], _, _ => rfl
  | c :: cs, s, h => by
    rw [List.foldl_cons, journal_kept (fun d hd => h d (List.mem_cons_of_mem _ hd))]
    have := h c List.mem_cons_self
    cases c <;> first | cases this | skip
    · exact setCell_journal _ _ _ _
    · rfl
def endN (js : List Note) : Bool := match js.getLast? with
  | some (.fin _ _ _) => true
  | _ => false
end Law
namespace Law
open PySem L2 HC PyProof.Rows
def toldB (n size : Nat) : Blk := (n :: List.replicate 15 77).take size
def Head.s0 (h : Head) : Store := ⟨h, [], []⟩
def stL (h : Head) : Nat → Nat → Nat → Blk
  | 0, _, _ => List.replicate h.size 251
  | i + 1, d, r => if (h.s0.spotN i).1 = r ∧ ((h.s0.spotN i).1 + (h.s0.spotN i).2) % h.s0.wide (h.s0.spotN i).1 = d then toldB i h.size else stL h i d r
def laidS (h : Head) (many : Nat) : Store := ⟨h, (List.range many).map fun d => some ((List.range h.rows).map fun r => some (stL h h.s0.kept d r)), []⟩
theorem told_ok {n size : Nat} (h : n < 256) (z : size ≤ 16) : BlkOk' (toldB n size) size := by
  refine ⟨by simp [toldB]; omega, fun x hx => ?_⟩
  rcases List.mem_cons.mp (List.mem_of_mem_take hx) with e | e
  · omega
  · rw [(List.mem_replicate.mp e).2]; decide
theorem st_ok {h : Head} (z : h.size ≤ 16) {d r : Nat} : ∀ {i}, i ≤ 256 → BlkOk' (stL h i d r) h.size
  | 0, _ => ⟨by simp [stL], fun x hx => by rw [(List.mem_replicate.mp hx).2]; decide⟩
  | i + 1, hi => by
    unfold stL
    split
    · exact told_ok (by omega) z
    · exact st_ok z (by omega)
theorem laid_kept {h : Head} {many : Nat} (ok : h.Ok many) : h.s0.kept ≤ 240 := by
  have := ok.rows2
  have := ok.width2
  exact Nat.le_trans (Nat.mul_le_mul (show h.rows ≤ 24 by omega) (show h.width - h.par ≤ 10 by omega)) (by decide)
theorem laid_ok {h : Head} {many : Nat} (ok : h.Ok many) : (laidS h many).Ok := by
  refine ⟨by rw [show (laidS h many).disks.length = many from by simp [laidS]]; exact ok, fun k hk bs e => ?_, fun i n e => by simp [laidS] at e⟩
  obtain ⟨d, hd, rfl⟩ := List.mem_map.mp hk
  cases e
  refine ⟨by simp [laidS], fun o ho b e => ?_⟩
  obtain ⟨r, hr, rfl⟩ := List.mem_map.mp ho
  cases e
  exact st_ok ok.size2 (by have := laid_kept ok; omega)
theorem turn_inj {w r p q : Nat} (hp : p < w) (hq : q < w) (e : (r + p) % w = (r + q) % w) : p = q := by
  have back : ∀ {x}, x < w → ((((r + x) % w : Nat) : Int) - (r : Int)) % (w : Int) = (x : Int) := fun {x} h => by
    rw [Int.natCast_emod, Int.natCast_add, Int.emod_sub_emod, show (r : Int) + x - r = x by omega, Int.emod_eq_of_lt (by omega) (by omega)]
  have h1 := back hp
  have h2 := back hq
  rw [e] at h1
  omega
theorem st_spot {h : Head} {many : Nat} (ok : h.Ok many) {n : Nat} : ∀ {i}, i ≤ h.s0.kept → n < i → stL h i (((h.s0.spotN n).1 + (h.s0.spotN n).2) % h.s0.wide (h.s0.spotN n).1) (h.s0.spotN n).1 = toldB n h.size
  | 0, _, hn => absurd hn (Nat.not_lt_zero _)
  | i + 1, hi, hn => by
    unfold stL
    by_cases e : n = i
    · subst e
      rw [if_pos ⟨rfl, rfl⟩]
    · rw [if_neg ?_]
      · exact st_spot ok (by omega) (by omega)
      · rintro ⟨e1, e2⟩
        have sok := laid_ok ok
        have a := spot_in sok (n := n) (show n < h.s0.kept by omega)
        have b := spot_in sok (n := i) (show i < h.s0.kept by omega)
        obtain ⟨a1, a2, a3, a4⟩ := a
        obtain ⟨b1, b2, b3, b4⟩ := b
        have a2 : (h.s0.spotN n).2 < h.s0.wide (h.s0.spotN n).1 - h.par := a2
        have b2 : (h.s0.spotN i).2 < h.s0.wide (h.s0.spotN i).1 - h.par := b2
        have a4 : (h.s0.spotN n).1 * (h.s0.wide (h.s0.spotN n).1 - h.par) + (h.s0.spotN n).2 = n := a4
        have b4 : (h.s0.spotN i).1 * (h.s0.wide (h.s0.spotN i).1 - h.par) + (h.s0.spotN i).2 = i := b4
        rw [e1] at e2 b2 b4
        have := turn_inj (by omega) (by omega) e2
        rw [this] at b4
        omega
theorem st_put {h : Head} {i d r : Nat} : stL h (i + 1) d r = if (h.s0.spotN i).1 = r ∧ ((h.s0.spotN i).1 + (h.s0.spotN i).2) % h.s0.wide (h.s0.spotN i).1 = d then toldB i h.size else stL h i d r := rfl
end Law
namespace Law
open PySem L2 HC PyProof.Rows
set_option maxHeartbeats 1000000
local macro_rules | `(tactic| infer_instance) => `(tactic| (first | exact True.intro | omega | assumption | decide | (dsimp only; omega) | exact lt_line (by omega) | exact le_line (by omega) | exact lt_line (by simp <;> omega) | exact le_line (by simp <;> omega) | exact ⟨by decide, by decide, by decide⟩ | exact ⟨by omega, by omega, by omega⟩ | exact List.cons_ne_nil _ _ | exact CMul_l (by omega) | exact CMul_r (by omega) | exact tyM_list (by (first | exact mup_same | assumption | (exact look_new (by assumption) (by assumption)) | (exact look_new (look_new (by assumption) (by assumption)) (by assumption)))) | (first | exact mup_same | assumption | (exact look_new (by assumption) (by assumption)) | (exact look_new (look_new (by assumption) (by assumption)) (by assumption))) | (simp only [List.length_cons, List.length_nil, List.length_map, List.length_replicate, List.length_append, rangeA_len] <;> omega)))
local macro_rules | `(tactic| decreasing_tactic) => `(tactic| ((conv => whnf); repeat (first | (refine And.intro (by infer_instance) ?_; (conv => whnf)) | (refine And.intro (by infer_instance) fun _ hr => fz_new hr ?_; (conv => whnf)) | (refine fun _ hr => fz_new hr ?_; (conv => whnf)) | (refine onIf_ndecF (by with_reducible rfl) ?_; (conv => whnf)) | (refine onIf_decT (by with_reducible rfl) ?_; (conv => whnf)) | (refine onIf_decT (by omega) ?_; (conv => whnf)) | (refine onIf_decF (by omega) ?_; (conv => whnf)) | (refine onIf_ndecT (by omega) ?_; (conv => whnf)) | (refine onIf_ndecF (by omega) ?_; (conv => whnf)) | (refine onIf_decT (congrArg Dv.int (by omega)) ?_; (conv => whnf)) | (refine onIf_decF (fun h => absurd (Dv.int.inj h) (by omega)) ?_; (conv => whnf)) | (refine onIf_ndecT (fun h => absurd (Dv.int.inj h) (by omega)) ?_; (conv => whnf)) | (refine onIf_ndecF (congrArg Dv.int (by omega)) ?_; (conv => whnf)) | (refine ⟨_, (by (first | exact kit_ii | exact kit_ib | exact kit_it | exact kit_is | exact kit_bi | exact kit_bb | exact kit_bt | exact kit_bs | exact kit_ti | exact kit_tb | exact kit_tt | exact kit_ts | exact kit_si | exact kit_sb | exact kit_st | exact kit_ss | exact kit_ni | exact kit_nb | exact kit_nt | exact kit_ns | exact kit_li | exact kit_lb | exact kit_lt | exact kit_ls)), ?_⟩; (conv => whnf)) | (refine onS_of (itemsA_l (by (first | exact mup_same | assumption | (exact look_new (by assumption) (by assumption)) | (exact look_new (look_new (by assumption) (by assumption)) (by assumption))))) ?_; (conv => whnf)) | (refine onS_of (lstA_l (by (first | exact mup_same | assumption | (exact look_new (by assumption) (by assumption)) | (exact look_new (look_new (by assumption) (by assumption)) (by assumption))))) ?_; (conv => whnf)) | (refine onS_of (lstC_l (by (first | exact mup_same | assumption | (exact look_new (by assumption) (by assumption)) | (exact look_new (look_new (by assumption) (by assumption)) (by assumption))))) ?_; (conv => whnf)) | (refine onS_of (lenA_l (by (first | exact mup_same | assumption | (exact look_new (by assumption) (by assumption)) | (exact look_new (look_new (by assumption) (by assumption)) (by assumption))))) ?_; (conv => whnf)))))
def top (i : Nat) : Stmt := PySem.Challenge.pw_lostdisk_k31_whole_laid_anew.main.body.getD i (.Pass ⟨0, 0, 0, 0⟩)
abbrev s_law_next : Stmt := top 26
abbrev s_law_count : Stmt := top 27
abbrev s_law_pot : Stmt := top 25
abbrev s_law_laid : Stmt := top 29
abbrev s_law_spots : Stmt := top 28
abbrev s_law_told : Stmt := top 30
abbrev s_is_whole : Stmt := top 9
abbrev s_is_between : Stmt := top 10
abbrev s_is_block : Stmt := top 11
abbrev s_is_disk : Stmt := top 12
abbrev s_are_widths : Stmt := top 13
abbrev s_is_head : Stmt := top 14
abbrev s_is_note : Stmt := top 15
abbrev s_is_journal : Stmt := top 16
abbrev s_is_store : Stmt := top 17
abbrev s_block_at : Stmt := top 3
abbrev s_blocks_kept : Stmt := top 20
abbrev s_row_width : Stmt := top 18
abbrev s_spot_of : Stmt := top 2
abbrev s_spot_now : Stmt := top 22
abbrev s_number_now : Stmt := top 23
abbrev s_disk_of : Stmt := top 1
abbrev s_row_blocks : Stmt := top 19
abbrev s_law_step_right : Stmt := top 32
abbrev s_law_store_laid : Stmt := top 31
abbrev s_room_of : Stmt := top 21
abbrev s_law : Stmt := top 33
abbrev N_law_next : List Str := [("_law_pot_here" : Str), ("_law_many" : Str), ("_law_drawn" : Str), ("_law_mixed" : Str)]
theorem sc_law_next : FnScope [("_law_pot_here" : Str), ("_law_many" : Str), ("_law_drawn" : Str), ("_law_mixed" : Str)] [("_law_pot_here" : Str), ("_law_many" : Str)] (defScope s_law_next) := ⟨rfl, rfl, rfl, by decide +kernel, rfl, by decide +kernel, by decide +kernel⟩
abbrev N_law_count : List Str := [("_law_pot_here" : Str), ("_law_most" : Str), ("_law_great" : Str)]
theorem sc_law_count : FnScope [("_law_pot_here" : Str), ("_law_most" : Str), ("_law_great" : Str)] [("_law_pot_here" : Str), ("_law_most" : Str), ("_law_great" : Str)] (defScope s_law_count) := ⟨rfl, rfl, rfl, by decide +kernel, rfl, by decide +kernel, by decide +kernel⟩
abbrev N_law_pot : List Str := [("_law_script" : Str), ("_law_seed" : Str), ("_law_own" : Str), ("_law_cell" : Str)]
theorem sc_law_pot : FnScope [("_law_script" : Str), ("_law_seed" : Str), ("_law_own" : Str), ("_law_cell" : Str)] [("_law_script" : Str)] (defScope s_law_pot) := ⟨rfl, rfl, rfl, by decide +kernel, rfl, by decide +kernel, by decide +kernel⟩
abbrev N_law_laid : List Str := [("_law_head" : Str), ("_law_many" : Str), ("_law_width" : Str), ("_law_moved" : Str), ("_law_rows" : Str), ("_law_row" : Str), ("_law_order" : Str), ("_law_k" : Str)]
theorem sc_law_laid : FnScope [("_law_head" : Str), ("_law_many" : Str), ("_law_width" : Str), ("_law_moved" : Str), ("_law_rows" : Str), ("_law_row" : Str), ("_law_order" : Str), ("_law_k" : Str)] [("_law_head" : Str), ("_law_many" : Str)] (defScope s_law_laid) := ⟨rfl, rfl, rfl, by decide +kernel, rfl, by decide +kernel, by decide +kernel⟩
abbrev N_law_spots : List Str := [("_law_head" : Str), ("_law_parities" : Str), ("_law_size" : Str), ("_law_rows" : Str), ("_law_width" : Str), ("_law_moved" : Str), ("_law_spares" : Str), ("_law_keep" : Str), ("_law_spots_here" : Str), ("_law_row" : Str), ("_law_number" : Str), ("_law_place" : Str)]
theorem sc_law_spots : FnScope [("_law_head" : Str), ("_law_parities" : Str), ("_law_size" : Str), ("_law_rows" : Str), ("_law_width" : Str), ("_law_moved" : Str), ("_law_spares" : Str), ("_law_keep" : Str), ("_law_spots_here" : Str), ("_law_row" : Str), ("_law_number" : Str), ("_law_place" : Str)] [("_law_head" : Str)] (defScope s_law_spots) := ⟨rfl, rfl, rfl, by decide +kernel, rfl, by decide +kernel, by decide +kernel⟩
abbrev N_law_told : List Str := [("_law_number" : Str), ("_law_size" : Str)]
theorem sc_law_told : FnScope [("_law_number" : Str), ("_law_size" : Str)] [("_law_number" : Str), ("_law_size" : Str)] (defScope s_law_told) := ⟨rfl, rfl, rfl, by decide +kernel, rfl, by decide +kernel, by decide +kernel⟩
abbrev N_is_whole : List Str := [("thing" : Str)]
theorem sc_is_whole : FnScope [("thing" : Str)] [("thing" : Str)] (defScope s_is_whole) := ⟨rfl, rfl, rfl, by decide +kernel, rfl, by decide +kernel, by decide +kernel⟩
abbrev N_is_between : List Str := [("thing" : Str), ("low" : Str), ("high" : Str)]
theorem sc_is_between : FnScope [("thing" : Str), ("low" : Str), ("high" : Str)] [("thing" : Str), ("low" : Str), ("high" : Str)] (defScope s_is_between) := ⟨rfl, rfl, rfl, by decide +kernel, rfl, by decide +kernel, by decide +kernel⟩
abbrev N_is_block : List Str := [("thing" : Str), ("size" : Str), ("one" : Str)]
theorem sc_is_block : FnScope [("thing" : Str), ("size" : Str), ("one" : Str)] [("thing" : Str), ("size" : Str)] (defScope s_is_block) := ⟨rfl, rfl, rfl, by decide +kernel, rfl, by decide +kernel, by decide +kernel⟩
abbrev N_is_disk : List Str := [("thing" : Str), ("size" : Str), ("rows" : Str), ("one" : Str)]
theorem sc_is_disk : FnScope [("thing" : Str), ("size" : Str), ("rows" : Str), ("one" : Str)] [("thing" : Str), ("size" : Str), ("rows" : Str)] (defScope s_is_disk) := ⟨rfl, rfl, rfl, by decide +kernel, rfl, by decide +kernel, by decide +kernel⟩
abbrev N_are_widths : List Str := [("width" : Str), ("moved" : Str), ("head" : Str), ("many" : Str), ("parities" : Str), ("rows" : Str)]
theorem sc_are_widths : FnScope [("width" : Str), ("moved" : Str), ("head" : Str), ("many" : Str), ("parities" : Str), ("rows" : Str)] [("width" : Str), ("moved" : Str), ("head" : Str), ("many" : Str)] (defScope s_are_widths) := ⟨rfl, rfl, rfl, by decide +kernel, rfl, by decide +kernel, by decide +kernel⟩
abbrev N_is_head : List Str := [("thing" : Str), ("many" : Str)]
theorem sc_is_head : FnScope [("thing" : Str), ("many" : Str)] [("thing" : Str), ("many" : Str)] (defScope s_is_head) := ⟨rfl, rfl, rfl, by decide +kernel, rfl, by decide +kernel, by decide +kernel⟩
abbrev N_is_note : List Str := [("thing" : Str), ("at" : Str), ("head" : Str), ("many" : Str)]
theorem sc_is_note : FnScope [("thing" : Str), ("at" : Str), ("head" : Str), ("many" : Str)] [("thing" : Str), ("at" : Str), ("head" : Str), ("many" : Str)] (defScope s_is_note) := ⟨rfl, rfl, rfl, by decide +kernel, rfl, by decide +kernel, by decide +kernel⟩
abbrev N_is_journal : List Str := [("thing" : Str), ("head" : Str), ("many" : Str), ("at" : Str), ("note" : Str)]
theorem sc_is_journal : FnScope [("thing" : Str), ("head" : Str), ("many" : Str), ("at" : Str), ("note" : Str)] [("thing" : Str), ("head" : Str), ("many" : Str)] (defScope s_is_journal) := ⟨rfl, rfl, rfl, by decide +kernel, rfl, by decide +kernel, by decide +kernel⟩
abbrev N_is_store : List Str := [("thing" : Str), ("head" : Str), ("disks" : Str), ("journal" : Str), ("disk" : Str)]
theorem sc_is_store : FnScope [("thing" : Str), ("head" : Str), ("disks" : Str), ("journal" : Str), ("disk" : Str)] [("thing" : Str)] (defScope s_is_store) := ⟨rfl, rfl, rfl, by decide +kernel, rfl, by decide +kernel, by decide +kernel⟩
abbrev N_block_at : List Str := [("row" : Str), ("place" : Str), ("width" : Str), ("parities" : Str), ("many" : Str)]
theorem sc_block_at : FnScope [("row" : Str), ("place" : Str), ("width" : Str), ("parities" : Str), ("many" : Str)] [("row" : Str), ("place" : Str), ("width" : Str), ("parities" : Str)] (defScope s_block_at) := ⟨rfl, rfl, rfl, by decide +kernel, rfl, by decide +kernel, by decide +kernel⟩
abbrev N_blocks_kept : List Str := [("store" : Str), ("parities" : Str), ("size" : Str), ("rows" : Str), ("width" : Str)]
theorem sc_blocks_kept : FnScope [("store" : Str), ("parities" : Str), ("size" : Str), ("rows" : Str), ("width" : Str)] [("store" : Str)] (defScope s_blocks_kept) := ⟨rfl, rfl, rfl, by decide +kernel, rfl, by decide +kernel, by decide +kernel⟩
abbrev N_row_width : List Str := [("store" : Str), ("row" : Str)]
theorem sc_row_width : FnScope [("store" : Str), ("row" : Str)] [("store" : Str), ("row" : Str)] (defScope s_row_width) := ⟨rfl, rfl, rfl, by decide +kernel, rfl, by decide +kernel, by decide +kernel⟩
abbrev N_spot_of : List Str := [("block" : Str), ("width" : Str), ("parities" : Str), ("many" : Str)]
theorem sc_spot_of : FnScope [("block" : Str), ("width" : Str), ("parities" : Str), ("many" : Str)] [("block" : Str), ("width" : Str), ("parities" : Str)] (defScope s_spot_of) := ⟨rfl, rfl, rfl, by decide +kernel, rfl, by decide +kernel, by decide +kernel⟩
abbrev N_spot_now : List Str := [("store" : Str), ("block" : Str), ("parities" : Str), ("size" : Str), ("rows" : Str), ("width" : Str), ("moved" : Str), ("spares" : Str), ("spot" : Str)]
theorem sc_spot_now : FnScope [("store" : Str), ("block" : Str), ("parities" : Str), ("size" : Str), ("rows" : Str), ("width" : Str), ("moved" : Str), ("spares" : Str), ("spot" : Str)] [("store" : Str), ("block" : Str)] (defScope s_spot_now) := ⟨rfl, rfl, rfl, by decide +kernel, rfl, by decide +kernel, by decide +kernel⟩
abbrev N_number_now : List Str := [("store" : Str), ("row" : Str), ("place" : Str), ("block" : Str)]
theorem sc_number_now : FnScope [("store" : Str), ("row" : Str), ("place" : Str), ("block" : Str)] [("store" : Str), ("row" : Str), ("place" : Str)] (defScope s_number_now) := ⟨rfl, rfl, rfl, by decide +kernel, rfl, by decide +kernel, by decide +kernel⟩
abbrev N_disk_of : List Str := [("row" : Str), ("place" : Str), ("width" : Str)]
theorem sc_disk_of : FnScope [("row" : Str), ("place" : Str), ("width" : Str)] [("row" : Str), ("place" : Str), ("width" : Str)] (defScope s_disk_of) := ⟨rfl, rfl, rfl, by decide +kernel, rfl, by decide +kernel, by decide +kernel⟩
abbrev N_row_blocks : List Str := [("store" : Str), ("row" : Str), ("width" : Str), ("blocks" : Str), ("place" : Str), ("disk" : Str)]
theorem sc_row_blocks : FnScope [("store" : Str), ("row" : Str), ("width" : Str), ("blocks" : Str), ("place" : Str), ("disk" : Str)] [("store" : Str), ("row" : Str)] (defScope s_row_blocks) := ⟨rfl, rfl, rfl, by decide +kernel, rfl, by decide +kernel, by decide +kernel⟩
abbrev N_law_step_right : List Str := [("_law_store" : Str), ("_law_head" : Str), ("_law_spots_here" : Str), ("_law_number" : Str), ("_law_spot" : Str), ("_law_row" : Str), ("_law_place" : Str), ("_law_seen" : Str), ("_law_standing" : Str), ("_law_order" : Str)]
theorem sc_law_step_right : FnScope [("_law_store" : Str), ("_law_head" : Str), ("_law_spots_here" : Str), ("_law_number" : Str), ("_law_spot" : Str), ("_law_row" : Str), ("_law_place" : Str), ("_law_seen" : Str), ("_law_standing" : Str), ("_law_order" : Str)] [("_law_store" : Str)] (defScope s_law_step_right) := ⟨rfl, rfl, rfl, by decide +kernel, rfl, by decide +kernel, by decide +kernel⟩
abbrev N_law_store_laid : List Str := [("_law_head" : Str), ("_law_many" : Str), ("_law_spots_here" : Str), ("_law_laid_here" : Str), ("_law_disks" : Str), ("_law_number" : Str), ("_law_spot" : Str), ("_law_disk" : Str), ("_law_row" : Str)]
theorem sc_law_store_laid : FnScope [("_law_head" : Str), ("_law_many" : Str), ("_law_spots_here" : Str), ("_law_laid_here" : Str), ("_law_disks" : Str), ("_law_number" : Str), ("_law_spot" : Str), ("_law_disk" : Str), ("_law_row" : Str)] [("_law_head" : Str), ("_law_many" : Str)] (defScope s_law_store_laid) := ⟨rfl, rfl, rfl, by decide +kernel, rfl, by decide +kernel, by decide +kernel⟩
abbrev N_room_of : List Str := [("store" : Str)]
theorem sc_room_of : FnScope [("store" : Str)] [("store" : Str)] (defScope s_room_of) := ⟨rfl, rfl, rfl, by decide +kernel, rfl, by decide +kernel, by decide +kernel⟩
abbrev N_law : List Str := [("_law_script" : Str), ("_law_pot_here" : Str), ("_law_k" : Str), ("_law_parities" : Str), ("_law_rows" : Str), ("_law_width" : Str), ("_law_size" : Str), ("_law_steps" : Str), ("_law_wide" : Str), ("_law_moved" : Str), ("_law_many" : Str), ("_law_store" : Str)]
theorem sc_law : FnScope [("_law_script" : Str), ("_law_pot_here" : Str), ("_law_k" : Str), ("_law_parities" : Str), ("_law_rows" : Str), ("_law_width" : Str), ("_law_size" : Str), ("_law_steps" : Str), ("_law_wide" : Str), ("_law_moved" : Str), ("_law_many" : Str), ("_law_store" : Str)] [("_law_script" : Str)] (defScope s_law) := ⟨rfl, rfl, rfl, by decide +kernel, rfl, by decide +kernel, by decide +kernel⟩
structure Tx (K : PySem.W.Frag) (mg : Str → Option Value) where
  n_all : mg ("all" : Str) = none
  n_bool : mg ("bool" : Str) = none
  n_dict : mg ("dict" : Str) = none
  n_enumerate : mg ("enumerate" : Str) = none
  n_int : mg ("int" : Str) = none
  n_isinstance : mg ("isinstance" : Str) = none
  n_len : mg ("len" : Str) = none
  n_list : mg ("list" : Str) = none
  n_min : mg ("min" : Str) = none
  n_range : mg ("range" : Str) = none
  n_str : mg ("str" : Str) = none
  n_tuple : mg ("tuple" : Str) = none
  c_MOST_BYTE : ∃ t, mg ("MOST_BYTE" : Str) = some (.int 255 t)
  c_MOST_DISKS : ∃ t, mg ("MOST_DISKS" : Str) = some (.int 10 t)
  c_MOST_ROWS : ∃ t, mg ("MOST_ROWS" : Str) = some (.int 24 t)
  c_MOST_SIZE : ∃ t, mg ("MOST_SIZE" : Str) = some (.int 16 t)
  f_law_next : Addr
  d_law_next : FuncData
  F_law_next : Fun K ("_law_next" : Str) ("_law_next" : Str) s_law_next f_law_next d_law_next
  m_law_next : mg ("_law_next" : Str) = some (.ref f_law_next)
  b_law_next : Binds K d_law_next [("_law_pot_here" : Str), ("_law_many" : Str)] []
  f_law_count : Addr
  d_law_count : FuncData
  F_law_count : Fun K ("_law_count" : Str) ("_law_count" : Str) s_law_count f_law_count d_law_count
  m_law_count : mg ("_law_count" : Str) = some (.ref f_law_count)
  b_law_count : Binds K d_law_count [("_law_pot_here" : Str), ("_law_most" : Str), ("_law_great" : Str)] []
  f_law_pot : Addr
  d_law_pot : FuncData
  F_law_pot : Fun K ("_law_pot" : Str) ("_law_pot" : Str) s_law_pot f_law_pot d_law_pot
  m_law_pot : mg ("_law_pot" : Str) = some (.ref f_law_pot)
  b_law_pot : Binds K d_law_pot [("_law_script" : Str)] []
  f_law_laid : Addr
  d_law_laid : FuncData
  F_law_laid : Fun K ("_law_laid" : Str) ("_law_laid" : Str) s_law_laid f_law_laid d_law_laid
  m_law_laid : mg ("_law_laid" : Str) = some (.ref f_law_laid)
  b_law_laid : Binds K d_law_laid [("_law_head" : Str), ("_law_many" : Str)] []
  f_law_spots : Addr
  d_law_spots : FuncData
  F_law_spots : Fun K ("_law_spots" : Str) ("_law_spots" : Str) s_law_spots f_law_spots d_law_spots
  m_law_spots : mg ("_law_spots" : Str) = some (.ref f_law_spots)
  b_law_spots : Binds K d_law_spots [("_law_head" : Str)] []
  f_law_told : Addr
  d_law_told : FuncData
  F_law_told : Fun K ("_law_told" : Str) ("_law_told" : Str) s_law_told f_law_told d_law_told
  m_law_told : mg ("_law_told" : Str) = some (.ref f_law_told)
  b_law_told : Binds K d_law_told [("_law_number" : Str), ("_law_size" : Str)] []
  f_is_whole : Addr
  d_is_whole : FuncData
  F_is_whole : Fun K ("is_whole" : Str) ("is_whole" : Str) s_is_whole f_is_whole d_is_whole
  m_is_whole : mg ("is_whole" : Str) = some (.ref f_is_whole)
  b_is_whole : Binds K d_is_whole [("thing" : Str)] []
  f_is_between : Addr
  d_is_between : FuncData
  F_is_between : Fun K ("is_between" : Str) ("is_between" : Str) s_is_between f_is_between d_is_between
  m_is_between : mg ("is_between" : Str) = some (.ref f_is_between)
  b_is_between : Binds K d_is_between [("thing" : Str), ("low" : Str), ("high" : Str)] []
  f_is_block : Addr
  d_is_block : FuncData
  F_is_block : Fun K ("is_block" : Str) ("is_block" : Str) s_is_block f_is_block d_is_block
  m_is_block : mg ("is_block" : Str) = some (.ref f_is_block)
  b_is_block : Binds K d_is_block [("thing" : Str), ("size" : Str)] []
  f_is_disk : Addr
  d_is_disk : FuncData
  F_is_disk : Fun K ("is_disk" : Str) ("is_disk" : Str) s_is_disk f_is_disk d_is_disk
  m_is_disk : mg ("is_disk" : Str) = some (.ref f_is_disk)
  b_is_disk : Binds K d_is_disk [("thing" : Str), ("size" : Str), ("rows" : Str)] []
  f_are_widths : Addr
  d_are_widths : FuncData
  F_are_widths : Fun K ("are_widths" : Str) ("are_widths" : Str) s_are_widths f_are_widths d_are_widths
  m_are_widths : mg ("are_widths" : Str) = some (.ref f_are_widths)
  b_are_widths : Binds K d_are_widths [("width" : Str), ("moved" : Str), ("head" : Str), ("many" : Str)] []
  f_is_head : Addr
  d_is_head : FuncData
  F_is_head : Fun K ("is_head" : Str) ("is_head" : Str) s_is_head f_is_head d_is_head
  m_is_head : mg ("is_head" : Str) = some (.ref f_is_head)
  b_is_head : Binds K d_is_head [("thing" : Str), ("many" : Str)] []
  f_is_note : Addr
  d_is_note : FuncData
  F_is_note : Fun K ("is_note" : Str) ("is_note" : Str) s_is_note f_is_note d_is_note
  m_is_note : mg ("is_note" : Str) = some (.ref f_is_note)
  b_is_note : Binds K d_is_note [("thing" : Str), ("at" : Str), ("head" : Str), ("many" : Str)] []
  f_is_journal : Addr
  d_is_journal : FuncData
  F_is_journal : Fun K ("is_journal" : Str) ("is_journal" : Str) s_is_journal f_is_journal d_is_journal
  m_is_journal : mg ("is_journal" : Str) = some (.ref f_is_journal)
  b_is_journal : Binds K d_is_journal [("thing" : Str), ("head" : Str), ("many" : Str)] []
  f_is_store : Addr
  d_is_store : FuncData
  F_is_store : Fun K ("is_store" : Str) ("is_store" : Str) s_is_store f_is_store d_is_store
  m_is_store : mg ("is_store" : Str) = some (.ref f_is_store)
  b_is_store : Binds K d_is_store [("thing" : Str)] []
  f_block_at : Addr
  d_block_at : FuncData
  F_block_at : Fun K ("block_at" : Str) ("block_at" : Str) s_block_at f_block_at d_block_at
  m_block_at : mg ("block_at" : Str) = some (.ref f_block_at)
  b_block_at : Binds K d_block_at [("row" : Str), ("place" : Str), ("width" : Str), ("parities" : Str)] []
  f_blocks_kept : Addr
  d_blocks_kept : FuncData
  F_blocks_kept : Fun K ("blocks_kept" : Str) ("blocks_kept" : Str) s_blocks_kept f_blocks_kept d_blocks_kept
  m_blocks_kept : mg ("blocks_kept" : Str) = some (.ref f_blocks_kept)
  b_blocks_kept : Binds K d_blocks_kept [("store" : Str)] []
  f_row_width : Addr
  d_row_width : FuncData
  F_row_width : Fun K ("row_width" : Str) ("row_width" : Str) s_row_width f_row_width d_row_width
  m_row_width : mg ("row_width" : Str) = some (.ref f_row_width)
  b_row_width : Binds K d_row_width [("store" : Str), ("row" : Str)] []
  f_spot_of : Addr
  d_spot_of : FuncData
  F_spot_of : Fun K ("spot_of" : Str) ("spot_of" : Str) s_spot_of f_spot_of d_spot_of
  m_spot_of : mg ("spot_of" : Str) = some (.ref f_spot_of)
  b_spot_of : Binds K d_spot_of [("block" : Str), ("width" : Str), ("parities" : Str)] []
  f_spot_now : Addr
  d_spot_now : FuncData
  F_spot_now : Fun K ("spot_now" : Str) ("spot_now" : Str) s_spot_now f_spot_now d_spot_now
  m_spot_now : mg ("spot_now" : Str) = some (.ref f_spot_now)
  b_spot_now : Binds K d_spot_now [("store" : Str), ("block" : Str)] []
  f_number_now : Addr
  d_number_now : FuncData
  F_number_now : Fun K ("number_now" : Str) ("number_now" : Str) s_number_now f_number_now d_number_now
  m_number_now : mg ("number_now" : Str) = some (.ref f_number_now)
  b_number_now : Binds K d_number_now [("store" : Str), ("row" : Str), ("place" : Str)] []
  f_disk_of : Addr
  d_disk_of : FuncData
  F_disk_of : Fun K ("disk_of" : Str) ("disk_of" : Str) s_disk_of f_disk_of d_disk_of
  m_disk_of : mg ("disk_of" : Str) = some (.ref f_disk_of)
  b_disk_of : Binds K d_disk_of [("row" : Str), ("place" : Str), ("width" : Str)] []
  f_row_blocks : Addr
  d_row_blocks : FuncData
  F_row_blocks : Fun K ("row_blocks" : Str) ("row_blocks" : Str) s_row_blocks f_row_blocks d_row_blocks
  m_row_blocks : mg ("row_blocks" : Str) = some (.ref f_row_blocks)
  b_row_blocks : Binds K d_row_blocks [("store" : Str), ("row" : Str)] []
  f_law_step_right : Addr
  d_law_step_right : FuncData
  F_law_step_right : Fun K ("_law_step_right" : Str) ("_law_step_right" : Str) s_law_step_right f_law_step_right d_law_step_right
  m_law_step_right : mg ("_law_step_right" : Str) = some (.ref f_law_step_right)
  b_law_step_right : Binds K d_law_step_right [("_law_store" : Str)] []
  f_law_store_laid : Addr
  d_law_store_laid : FuncData
  F_law_store_laid : Fun K ("_law_store_laid" : Str) ("_law_store_laid" : Str) s_law_store_laid f_law_store_laid d_law_store_laid
  m_law_store_laid : mg ("_law_store_laid" : Str) = some (.ref f_law_store_laid)
  b_law_store_laid : Binds K d_law_store_laid [("_law_head" : Str), ("_law_many" : Str)] []
  f_room_of : Addr
  d_room_of : FuncData
  F_room_of : Fun K ("room_of" : Str) ("room_of" : Str) s_room_of f_room_of d_room_of
  m_room_of : mg ("room_of" : Str) = some (.ref f_room_of)
  b_room_of : Binds K d_room_of [("store" : Str)] []
  f_law : Addr
  d_law : FuncData
  F_law : Fun K ("law" : Str) ("law" : Str) s_law f_law d_law
  m_law : mg ("law" : Str) = some (.ref f_law)
  b_law : Binds K d_law [("_law_script" : Str)] []
variable {P : Program} {w : World} {K : PySem.W.Frag} {mg : Str → Option Value} {base : Heap}
def sp_law_next : ASp := fun ds M Q => ∃ p q, ∃ m : Int, ds = [.ref p, .int m] ∧ DPot p q M ∧ 0 < m ∧ m < 1000000000000000000000000 ∧
  ∀ (v : Nat) M', DPot p q M' → But p q M M' → (v : Int) < m → Q (dn v) M'
def tk_law_next_5 : RS := (aRet (aOp aMod (aOp aDiv (aOp aIx (aVar 0) (aC (.str ("seed" : Str)))) (aC (.int 65537))) (aVar 1)))
def tk_law_next_4 : RS := aSeq (aAsg (aOp aMod (aOp aMul (aVar 3) (aOp aAdd (aOp aMod (aVar 3) (aC (.int 1009))) (aC (.int 69621)))) (aC (.int 2305843009213693951))) (agSub (aVar 0) (aC (.str ("seed" : Str))) asSet)) (tk_law_next_5)
def tk_law_next_3 : RS := aSeq (aAsg (aOp aMod (aOp aMul (aOp aAdd (aOp aIx (aVar 0) (aC (.str ("seed" : Str)))) (aOp aMul (aOp aIx (aVar 0) (aC (.str ("many" : Str)))) (aC (.int 7919)))) (aC (.int 48271))) (aC (.int 2305843009213693951))) (agName 3)) (tk_law_next_4)
def tk_law_next_2 : RS := aSeq (aAsg (aOp aAdd (aOp aIx (aVar 0) (aC (.str ("many" : Str)))) (aC (.int 1))) (agSub (aVar 0) (aC (.str ("many" : Str))) asSet)) (tk_law_next_3)
def tk_law_next_1 : RS := aSeq (aIfS (aB (aOp aGt (aOp aIx (aVar 0) (aC (.str ("left" : Str)))) (aC (.int 0)))) (aSeq (aAsg (aOp aMod (aOp aIx (aVar 0) (aC (.str ("left" : Str)))) (aVar 1)) (agName 2))
    (aSeq (aAsg (aOp aDiv (aOp aIx (aVar 0) (aC (.str ("left" : Str)))) (aVar 1)) (agSub (aVar 0) (aC (.str ("left" : Str))) asSet))
    (aRet (aVar 2)))) aNext) (tk_law_next_2)
def t_law_next : RS := aSeq (aIfS (aAnd (aB (aOp aEq (aOp aIx (aVar 0) (aC (.str ("left" : Str)))) (aC (.int 0)))) (aB (aOp aNe (aOp aIx (aVar 0) (aC (.str ("own" : Str)))) (aFz (aLst aNil))))) (aAsg (aMth "list" amPop (aOp aIx (aVar 0) (aC (.str ("own" : Str)))) (aCons (aC (.int 0)) aNil)) (agSub (aVar 0) (aC (.str ("left" : Str))) asSet)) aNext) (tk_law_next_1)
theorem len_law_next : ∀ ds M Q, sp_law_next ds M Q → ds.length = 2 := by
  rintro ds M Q ⟨p, q, m, rfl, _⟩
  rfl
theorem spec_law_next : ∀ ds M Q, sp_law_next ds M Q → t_law_next (retD Q) (startA 4 ds) M := by
  rintro ds M Q ⟨p, q, m, rfl, ⟨hne, ⟨l, s, c, hp, l0, s0, c0⟩, own, hq, ho, hol⟩, m0, m1, k0⟩
  have k : ∀ v M', DPot p q M' → But p q M M' → 0 ≤ v → v < m → Q (.int v) M' := fun v M' h1 h2 h3 h4 => by
    obtain ⟨n, rfl⟩ := Int.eq_ofNat_of_zero_le h3
    exact k0 n M' h1 h2 h4
  have tail : ∀ M1, DPot p q M1 → But p q M M1 → (aSeq (aIfS (aB (aOp aGt (aOp aIx (aVar 0) (aC (.str ("left" : Str)))) (aC (.int 0)))) (aSeq (aAsg (aOp aMod (aOp aIx (aVar 0) (aC (.str ("left" : Str)))) (aVar 1)) (agName 2))
    (aSeq (aAsg (aOp aDiv (aOp aIx (aVar 0) (aC (.str ("left" : Str)))) (aVar 1)) (agSub (aVar 0) (aC (.str ("left" : Str))) asSet))
    (aRet (aVar 2)))) aNext)
    (aSeq (aAsg (aOp aAdd (aOp aIx (aVar 0) (aC (.str ("many" : Str)))) (aC (.int 1))) (agSub (aVar 0) (aC (.str ("many" : Str))) asSet))
    (aSeq (aAsg (aOp aMod (aOp aMul (aOp aAdd (aOp aIx (aVar 0) (aC (.str ("seed" : Str)))) (aOp aMul (aOp aIx (aVar 0) (aC (.str ("many" : Str)))) (aC (.int 7919)))) (aC (.int 48271))) (aC (.int 2305843009213693951))) (agName 3))
    (aSeq (aAsg (aOp aMod (aOp aMul (aVar 3) (aOp aAdd (aOp aMod (aVar 3) (aC (.int 1009))) (aC (.int 69621)))) (aC (.int 2305843009213693951))) (agSub (aVar 0) (aC (.str ("seed" : Str))) asSet))
    (aRet (aOp aMod (aOp aDiv (aOp aIx (aVar 0) (aC (.str ("seed" : Str)))) (aC (.int 65537))) (aVar 1))))))) (retD Q) (startA 4 [Dv.ref p, Dv.int m]) M1 := by
    rintro M1 ⟨_, ⟨l, s, c, hp, l0, s0, c0⟩, own, hq, ho, hol⟩ hb
    ((repeat ((conv => whnf); simp only [lenA_r, itemsA_r, lstA_r, lstC_s, Option.map_some, atI_0, ixN_0, mup_same, mup_mup, true_and, and_true, List.map_cons, List.map_nil, List.length_cons, List.length_map, List.length_nil, List.set_cons_zero, List.set_cons_succ, List.cons_append, List.nil_append, List.getElem?_cons_zero, List.getElem?_cons_succ, hp, potC])); (conv => whnf))
    refine onIf_dec (fun hz => ?_) (fun hz => ?_)
    · ((repeat ((conv => whnf); simp only [lenA_r, itemsA_r, lstA_r, lstC_s, Option.map_some, atI_0, ixN_0, mup_same, mup_mup, true_and, and_true, List.map_cons, List.map_nil, List.length_cons, List.length_map, List.length_nil, List.set_cons_zero, List.set_cons_succ, List.cons_append, List.nil_append, List.getElem?_cons_zero, List.getElem?_cons_succ, hp, potC])); (conv => whnf))
      refine ⟨m0, ?_⟩
      ((repeat ((conv => whnf); simp only [lenA_r, itemsA_r, lstA_r, lstC_s, Option.map_some, atI_0, ixN_0, mup_same, mup_mup, true_and, and_true, List.map_cons, List.map_nil, List.length_cons, List.length_map, List.length_nil, List.set_cons_zero, List.set_cons_succ, List.cons_append, List.nil_append, List.getElem?_cons_zero, List.getElem?_cons_succ, hp, potC])); (conv => whnf))
      refine ⟨⟨m0, m1⟩, ?_⟩
      ((repeat ((conv => whnf); simp only [lenA_r, itemsA_r, lstA_r, lstC_s, Option.map_some, atI_0, ixN_0, mup_same, mup_mup, true_and, and_true, List.map_cons, List.map_nil, List.length_cons, List.length_map, List.length_nil, List.set_cons_zero, List.set_cons_succ, List.cons_append, List.nil_append, List.getElem?_cons_zero, List.getElem?_cons_succ, hp, potC])); (conv => whnf))
      refine ⟨(by first | decide | omega | (dsimp only; decide) | (dsimp only; omega)), ?_⟩
      rw [put_left]
      refine retSub (Sub.refl _) (k _ _ (DPot.set ⟨hne, ⟨l, s, c, hp, l0, s0, c0⟩, own, hq, ho, hol⟩ (Int.ediv_nonneg l0 (by omega)) s0 c0) hb.p (Int.emod_nonneg _ (by omega)) (Int.emod_lt_of_pos _ m0))
    · ((repeat ((conv => whnf); simp only [lenA_r, itemsA_r, lstA_r, lstC_s, Option.map_some, atI_0, ixN_0, mup_same, mup_mup, true_and, and_true, List.map_cons, List.map_nil, List.length_cons, List.length_map, List.length_nil, List.set_cons_zero, List.set_cons_succ, List.cons_append, List.nil_append, List.getElem?_cons_zero, List.getElem?_cons_succ, hp, potC])); (conv => whnf))
      refine ⟨(by first | decide | omega | (dsimp only; decide) | (dsimp only; omega)), ?_⟩
      rw [put_many]
      ((repeat ((conv => whnf); simp only [lenA_r, itemsA_r, lstA_r, lstC_s, Option.map_some, atI_0, ixN_0, mup_same, mup_mup, true_and, and_true, List.map_cons, List.map_nil, List.length_cons, List.length_map, List.length_nil, List.set_cons_zero, List.set_cons_succ, List.cons_append, List.nil_append, List.getElem?_cons_zero, List.getElem?_cons_succ])); (conv => whnf))
      refine ⟨.inl (.inr ⟨by decide, by decide⟩), ?_⟩
      (conv => whnf)
      refine ⟨.inl (.inr ⟨by decide, by decide⟩), ?_⟩
      (conv => whnf)
      refine ⟨(by first | decide | omega | (dsimp only; decide) | (dsimp only; omega)), ?_⟩
      (conv => whnf)
      refine ⟨(by first | decide | omega | (dsimp only; decide) | (dsimp only; omega)), ?_⟩
      (conv => whnf)
      refine ⟨.inl (.inr ⟨by omega, by omega⟩), ?_⟩
      (conv => whnf)
      refine ⟨(by first | decide | omega | (dsimp only; decide) | (dsimp only; omega)), ?_⟩
      ((repeat ((conv => whnf); simp only [lenA_r, itemsA_r, lstA_r, lstC_s, Option.map_some, atI_0, ixN_0, mup_same, mup_mup, true_and, and_true, List.map_cons, List.map_nil, List.length_cons, List.length_map, List.length_nil, List.set_cons_zero, List.set_cons_succ, List.cons_append, List.nil_append, List.getElem?_cons_zero, List.getElem?_cons_succ])); (conv => whnf))
      refine ⟨(by first | decide | omega | (dsimp only; decide) | (dsimp only; omega)), ?_⟩
      rw [put_seed]
      have y0 : 0 ≤ (s + (c + 1) * 7919) * 48271 % 2305843009213693951 * ((s + (c + 1) * 7919) * 48271 % 2305843009213693951 % 1009 + 69621) % 2305843009213693951 := Int.emod_nonneg _ (by decide)
      generalize (s + (c + 1) * 7919) * 48271 % 2305843009213693951 * ((s + (c + 1) * 7919) * 48271 % 2305843009213693951 % 1009 + 69621) % 2305843009213693951 = y at y0 ⊢
      ((repeat ((conv => whnf); simp only [lenA_r, itemsA_r, lstA_r, lstC_s, Option.map_some, atI_0, ixN_0, mup_same, mup_mup, true_and, and_true, List.map_cons, List.map_nil, List.length_cons, List.length_map, List.length_nil, List.set_cons_zero, List.set_cons_succ, List.cons_append, List.nil_append, List.getElem?_cons_zero, List.getElem?_cons_succ])); (conv => whnf))
      refine ⟨⟨by decide, by decide⟩, ?_⟩
      (conv => whnf)
      refine ⟨m0, ?_⟩
      refine retSub (Sub.refl _) (k _ _ (DPot.set ⟨hne, ⟨l, s, c, hp, l0, s0, c0⟩, own, hq, ho, hol⟩ l0 y0 (by omega)) hb.p (Int.emod_nonneg _ (by omega)) (Int.emod_lt_of_pos _ m0))
  have h0 : DPot p q M := ⟨hne, ⟨l, s, c, hp, l0, s0, c0⟩, own, hq, ho, hol⟩
  ((repeat ((conv => whnf); simp only [lenA_r, itemsA_r, lstA_r, lstC_s, Option.map_some, atI_0, ixN_0, mup_same, mup_mup, true_and, and_true, List.map_cons, List.map_nil, List.length_cons, List.length_map, List.length_nil, List.set_cons_zero, List.set_cons_succ, List.cons_append, List.nil_append, List.getElem?_cons_zero, List.getElem?_cons_succ, hp, potC])); (conv => whnf))
  refine ⟨trivial, trivial, ?_⟩
  refine onIf_dec (fun hz => ?_) (fun hz => ?_)
  · ((repeat ((conv => whnf); simp only [lenA_r, itemsA_r, lstA_r, lstC_s, Option.map_some, atI_0, ixN_0, mup_same, mup_mup, true_and, and_true, List.map_cons, List.map_nil, List.length_cons, List.length_map, List.length_nil, List.set_cons_zero, List.set_cons_succ, List.cons_append, List.nil_append, List.getElem?_cons_zero, List.getElem?_cons_succ, hp, potC])); (conv => whnf))
    refine ⟨Nat.zero_le _, fun r hr => fz_new hr ?_⟩
    (conv => whnf)
    have pl1 : ∀ d ∈ own.map Dv.int, Pl 8 d := fun d hd => by
      obtain ⟨x, _, rfl⟩ := List.mem_map.mp hd
      trivial
    have pl2 : ∀ d ∈ ([] : List Dv), Pl 8 d := fun d hd => absurd hd (List.not_mem_nil)
    refine ⟨own.map Dv.int, hq, pl1, pl2, ?_⟩
    refine onIf_ndec (fun h => ?_) (fun h => ?_)
    · cases own with
      | nil => exact absurd rfl h
      | cons x own =>
      ((repeat ((conv => whnf); simp only [lenA_r, itemsA_r, lstA_r, lstC_s, Option.map_some, atI_0, ixN_0, mup_same, mup_mup, true_and, and_true, List.map_cons, List.map_nil, List.length_cons, List.length_map, List.length_nil, List.set_cons_zero, List.set_cons_succ, List.cons_append, List.nil_append, List.getElem?_cons_zero, List.getElem?_cons_succ, hp, potC, hq])); (conv => whnf))
      refine ⟨tyM_list hq, ?_⟩
      ((repeat ((conv => whnf); simp only [lenA_r, itemsA_r, lstA_r, lstC_s, Option.map_some, atI_0, ixN_0, mup_same, mup_mup, true_and, and_true, List.map_cons, List.map_nil, List.length_cons, List.length_map, List.length_nil, List.set_cons_zero, List.set_cons_succ, List.cons_append, List.nil_append, List.getElem?_cons_zero, List.getElem?_cons_succ, hq])); (conv => whnf))
      refine ⟨⟨by decide, by decide⟩, ?_⟩
      have x0 : 0 ≤ x := ho x (by simp)
      have e3 : mup M q (.lst (own.map Dv.int)) p = some (potC q l s c) := by rw [mup_ne hne]; exact hp
      have h2 : DPot p q (mup M q (.lst (own.map Dv.int))) := ⟨hne, ⟨l, s, c, e3, l0, s0, c0⟩, own, mup_same, fun y hy => ho y (by simp [hy]), by simp at hol; omega⟩
      have b2 : But p q M (mup M q (.lst (own.map Dv.int))) := (But.refl p q M).q
      simp only [show Int.toNat 0 = 0 from rfl, List.getElem?_cons_zero, List.eraseIdx_cons_zero]
      generalize mup M q (.lst (own.map Dv.int)) = M2 at e3 h2 b2 ⊢
      (conv => whnf)
      simp only [e3, potC]
      (conv => whnf)
      refine ⟨show 4 < sizeLine by decide, ?_⟩
      rw [put_left]
      exact tail _ (h2.set (l := x) x0 s0 c0) b2.p
    · exact tail _ h0 (But.refl p q M)
  · exact tail _ h0 (But.refl p q M)
theorem ok_law_next (T : Tx K mg) : FnA P w K mg base 1 T.f_law_next T.d_law_next [("_law_pot_here" : Str), ("_law_many" : Str)] sp_law_next :=
  fnA T.F_law_next sc_law_next len_law_next (fun cdv A outer s H E hr => by
    have hu1 := hu_of hr
    have hu64 := hr.units
    exact (ass_cons (as_if (AW.pt (aw_and (at_eq hu64 (ae_ix hu1 (av 0) ae_str) ae_int) (aw_and1 (at_ne hu64 (ae_ix hu1 (av 0) ae_str) (ae_fz (ae_lst aa_nil)))))) (ass_one (as_asg (ae_popAt (ae_ix hu1 (av 0) ae_str) (aa_cons ae_int aa_nil)) (ag_sub hu1 (av 0) ae_str))) ass_nil)
    (ass_cons (as_if (at_gt (ae_ix hu1 (av 0) ae_str) ae_int) (ass_cons (as_set 2 sc_law_next.nd (ae_mod (ae_ix hu1 (av 0) ae_str) (av 1)))
    (ass_cons (as_asg (ae_div (ae_ix hu1 (av 0) ae_str) (av 1)) (ag_sub hu1 (av 0) ae_str))
    (ass_one (as_ret (av 2))))) ass_nil)
    (ass_cons (as_asg (ae_add (ae_ix hu1 (av 0) ae_str) ae_int) (ag_sub hu1 (av 0) ae_str))
    (ass_cons (as_set 3 sc_law_next.nd (ae_mod (ae_mul (ae_add (ae_ix hu1 (av 0) ae_str) (ae_mul (ae_ix hu1 (av 0) ae_str) ae_int)) ae_int) ae_int))
    (ass_cons (as_asg (ae_mod (ae_mul (av 3) (ae_add (ae_mod (av 3) ae_int) ae_int)) ae_int) (ag_sub hu1 (av 0) ae_str))
    (ass_one (as_ret (ae_mod (ae_div (ae_ix hu1 (av 0) ae_str) ae_int) (av 1)))))))))) spec_law_next
def sp_law_count : ASp := fun ds M Q => ∃ p q, ∃ a b : Int, ds = [.ref p, .int a, .int b] ∧ DPot p q M ∧ 0 ≤ a ∧ a < 1000000 ∧ 0 ≤ b ∧ b < 1000000 ∧
  ∀ (v : Nat) M', DPot p q M' → But p q M M' → (v : Int) ≤ max a b → Q (dn v) M'
def t_law_count : RS := (aRet (aCall sp_law_next (aCons (aVar 0) (aCons (aOp aAdd (aOp aIx (aFz (aLst (aCons (aVar 1) (aCons (aVar 2) aNil)))) (aFn acInt (aCons (aOp aEq (aCall sp_law_next (aCons (aVar 0) (aCons (aC (.int 8)) aNil))) (aC (.int 0))) aNil))) (aC (.int 1))) aNil))))
theorem len_law_count : ∀ ds M Q, sp_law_count ds M Q → ds.length = 3 := by
  rintro ds M Q ⟨p, q, a, b, rfl, _⟩
  rfl
theorem spec_law_count : ∀ ds M Q, sp_law_count ds M Q → t_law_count (retD Q) (startA 3 ds) M := by
  rintro ds M Q ⟨p, q, a, b, rfl, hd, a0, a1, b0, b1, k⟩
  decreasing_tactic
  (refine ⟨_, _, _, rfl, by assumption, (by infer_instance), (by infer_instance), fun v Mv dv bv lv => ?_⟩; decreasing_tactic)
  by_cases hv : dn v = Dv.int 0
  · rw [dec_T hv]
    decreasing_tactic
    (refine ⟨_, _, _, rfl, by assumption, (by infer_instance), (by infer_instance), fun w Mw dw bw lw => ?_⟩; decreasing_tactic)
    exact retEnd (k w Mw dw (bv.trans bw) (by omega))
  · rw [dec_F hv]
    decreasing_tactic
    (refine ⟨_, _, _, rfl, by assumption, (by infer_instance), (by infer_instance), fun w Mw dw bw lw => ?_⟩; decreasing_tactic)
    exact retEnd (k w Mw dw (bv.trans bw) (by omega))
theorem ok_law_count (T : Tx K mg) : FnA P w K mg base 2 T.f_law_count T.d_law_count [("_law_pot_here" : Str), ("_law_most" : Str), ("_law_great" : Str)] sp_law_count :=
  fnA T.F_law_count sc_law_count len_law_count (fun cdv A outer s H E hr => by
    have hu1 := hu_of hr
    have hu64 := hr.units
    exact (ass_one (as_ret (ae_call (ok_law_next T) (hr.mono (by decide)) T.m_law_next T.F_law_next.kp T.b_law_next (aa_cons (av 0) (aa_cons (ae_add (ae_ix hu1 (ae_fz (ae_lst (aa_cons (av 1) (aa_cons (av 2) aa_nil)))) (ae_callTy call_int1 abc_int (aa_cons (ae_eq hu64 (ae_call (ok_law_next T) (hr.mono (by decide)) T.m_law_next T.F_law_next.kp T.b_law_next (aa_cons (av 0) (aa_cons ae_int aa_nil))) ae_int) aa_nil) T.n_int boot_int)) ae_int) aa_nil)))))) spec_law_count
def sp_law_pot : ASp := fun ds M Q => ∃ ns : List Int, ds = [.rol (ns.map Dv.int)] ∧ ns.length ≤ 63 ∧ ∀ p q M', DPot p q M' → Sub M M' → Q (.ref p) M'
def tk_law_pot_3 : RS := (aRet (aDisp (((aC (.str ("own" : Str))), (aVar 2)) :: (((aC (.str ("left" : Str))), (aC (.int 0))) :: (((aC (.str ("seed" : Str))), (aVar 1)) :: (((aC (.str ("many" : Str))), (aC (.int 0))) :: []))))))
def tk_law_pot_2 : RS := aSeq (aFor (aiSeq (aVar 0)) (agName 3) (aSeq (aAsg (aOp aMod (aOp aAdd (aOp aAdd (aOp aMul (aVar 1) (aC (.int 48271))) (aOp aMod (aVar 3) (aC (.int 2147483629)))) (aC (.int 7))) (aC (.int 2305843009213693951))) (agName 1))
    (aIfS (aB (aOp aGe (aVar 3) (aOp aPow (aC (.int 10)) (aC (.int 18))))) (aDrop (aMth "list" amApp (aVar 2) (aCons (aVar 3) aNil))) aNext))) (tk_law_pot_3)
def tk_law_pot_1 : RS := aSeq (aAsg (aLst aNil) (agName 2)) (tk_law_pot_2)
def t_law_pot : RS := aSeq (aAsg (aC (.int 11)) (agName 1)) (tk_law_pot_1)
theorem len_law_pot : ∀ ds M Q, sp_law_pot ds M Q → ds.length = 1 := by
  rintro ds M Q ⟨ns, rfl, _⟩
  rfl
theorem spec_law_pot : ∀ ds M Q, sp_law_pot ds M Q → t_law_pot (retD Q) (startA 4 ds) M := by
  rintro ds M Q ⟨ns, rfl, hl, k⟩
  (conv => whnf)
  refine ⟨Nat.zero_le _, fun q hq => ?_⟩
  (conv => whnf)
  refine forW_inv (fun i ρ M' => ∃ own : List Int, ∃ seed : Int, ∃ x3, 0 ≤ seed ∧ (∀ x ∈ own, 0 ≤ x) ∧ own.length ≤ i ∧ ρ = [some (.rol (ns.map Dv.int)), some (.int seed), some (.ref q), x3] ∧ M' = mup M q (.lst (own.map Dv.int))) ⟨[], 11, none, by decide, by simp, by simp, rfl, rfl⟩ (fun _ _ _ _ _ => rfl) ?_ ?_
  · rintro i d ρ M' hd ⟨own, seed, x3, h0, ho, hlen, rfl, rfl⟩
    have hi := (List.getElem?_eq_some_iff.mp hd).1
    rw [List.length_map] at hi
    rw [List.getElem?_map] at hd
    obtain ⟨c, hc, rfl⟩ := Option.map_eq_some_iff.mp hd
    (conv => whnf)
    refine ⟨.inl (.inr ⟨by decide, by decide⟩), ?_⟩
    (conv => whnf)
    refine ⟨(by first | decide | omega | (dsimp only; decide) | (dsimp only; omega)), ?_⟩
    (conv => whnf)
    refine ⟨(by first | decide | omega | (dsimp only; decide) | (dsimp only; omega)), ?_⟩
    (conv => whnf)
    refine ⟨⟨by decide, by decide, by decide⟩, ?_⟩
    (conv => whnf)
    refine onIf_dec (fun hg => ?_) (fun _ => ?_)
    · have hg : (10 : Int) ^ (18 : Int).toNat ≤ c := hg
      have h18 : (0 : Int) ≤ (10 : Int) ^ (18 : Int).toNat := by decide
      (conv => whnf)
      refine ⟨tyM_list mup_same, ?_⟩
      ((repeat ((conv => whnf); simp only [lenA_r, itemsA_r, lstA_r, lstC_s, Option.map_some, atI_0, ixN_0, mup_same, mup_mup, true_and, and_true, List.map_cons, List.map_nil, List.length_cons, List.length_map, List.length_nil, List.set_cons_zero, List.set_cons_succ, List.cons_append, List.nil_append, List.getElem?_cons_zero, List.getElem?_cons_succ])); (conv => whnf))
      refine ⟨lt_line (by omega), ?_⟩
      refine wk_of ⟨own ++ [c], _, _, Int.emod_nonneg _ (by decide), fun x hx => ?_, by simp; omega, rfl, by rw [List.map_append]; rfl⟩
      rcases List.mem_append.mp hx with h | h
      · exact ho x h
      · rw [List.mem_singleton.mp h]; exact Int.le_trans h18 hg
    · refine wk_of ⟨own, _, _, Int.emod_nonneg _ (by decide), ho, by omega, rfl, rfl⟩
  · rintro ρ M' ⟨own, seed, x3, h0, ho, hlen, rfl, rfl⟩
    rw [List.length_map] at hlen
    (conv => whnf)
    intro p hp
    have hqp : q ≠ p := ne_of_new mup_same hp
    (conv => whnf)
    refine ⟨mup_same, ?_⟩
    dsimp only [keysP, keyD, Option.bind, Option.map, onS, mergeA, List.foldl]
    refine ⟨show 4 ≤ 15 by decide, ?_⟩
    rw [mup_mup]
    refine retSub (Sub.refl _) (k p q _ ⟨hqp.symm, ⟨0, seed, 0, mup_same, by decide, h0, by decide⟩, own, by rw [mup_ne hqp, mup_same], ho, by omega⟩ ((Sub.new hq).trans (Sub.new hp)))
theorem ok_law_pot (T : Tx K mg) : FnA P w K mg base 1 T.f_law_pot T.d_law_pot [("_law_script" : Str)] sp_law_pot :=
  fnA T.F_law_pot sc_law_pot len_law_pot (fun cdv A outer s H E hr => by
    have hu1 := hu_of hr
    have hu64 := hr.units
    exact (ass_cons (as_set 1 sc_law_pot.nd ae_int)
    (ass_cons (as_set 2 sc_law_pot.nd (ae_lst aa_nil))
    (ass_cons (as_for PassesOwn.never rfl (ai_seq (av 0)) (ag_name 3 sc_law_pot.nd) (ass_cons (as_set 1 sc_law_pot.nd (ae_mod (ae_add (ae_add (ae_mul (av 1) ae_int) (ae_mod (av 3) ae_int)) ae_int) ae_int))
    (ass_one (as_if (at_ge (av 3) (ae_pow ae_int ae_int)) (ass_one (as_expr (ae_append (av 2) (aa_cons (av 3) aa_nil)))) ass_nil))))
    (ass_one (as_ret (ae_disp (app_cons ae_str (av 2) (app_cons ae_str ae_int (app_cons ae_str (av 1) (app_cons ae_str ae_int app_nil)))) rfl rfl (fun z => by cases z) (by decide)))))))) spec_law_pot
def laidD (s : Store) (n : Nat) : List Dv := (List.range n).map fun r => .rol (turnL (s.wide r) r)
def sp_law_laid : ASp := fun ds M Q => ∃ s : Store, ds = [s.head.d, dn s.disks.length] ∧ s.Ok ∧ Q (.rol (laidD s s.head.rows)) M
def tk_law_laid_3 : RS := (aRet (aFz (aVar 4)))
def tk_law_laid_2 : RS := aSeq (aFor (aiR1 (aCons (aOp aIx (aVar 0) (aC (.int 2))) aNil)) (agName 5) (aSeq (aAsg (aLstR1 (aOp aIx (aFz (aLst (aCons (aVar 2) (aCons (aVar 1) aNil)))) (aFn acInt (aCons (aOp aLt (aVar 5) (aVar 3)) aNil)))) (agName 6))
    (aSeq (aFor (aiR1 (aCons (aVar 5) aNil)) (agName 7) (aDrop (aMth "list" amApp (aVar 6) (aCons (aMth "list" amPop (aVar 6) (aCons (aC (.int 0)) aNil)) aNil))))
    (aDrop (aMth "list" amApp (aVar 4) (aCons (aFz (aVar 6)) aNil)))))) (tk_law_laid_3)
def tk_law_laid_1 : RS := aSeq (aAsg (aLst aNil) (agName 4)) (tk_law_laid_2)
def t_law_laid : RS := aSeq (aPar 2 3 (aCons (aOp aIx (aVar 0) (aC (.int 3))) (aCons (aOp aIx (aVar 0) (aC (.int 4))) aNil))) (tk_law_laid_1)
theorem len_law_laid : ∀ ds M Q, sp_law_laid ds M Q → ds.length = 2 := by
  rintro ds M Q ⟨s, rfl, _⟩
  rfl
theorem spec_law_laid : ∀ ds M Q, sp_law_laid ds M Q → t_law_laid (retD Q) (startA 8 ds) M := by
  rintro ds M Q ⟨s, rfl, ok, k⟩
  have r2 := ok.head.rows2
  have ml := ok.many_le
  have w2 := ok.head.width2
  decreasing_tactic
  intro r hr
  decreasing_tactic
  refine forW_inv (fun i ρ M' => ∃ x5 x6 x7, ρ = [some s.head.d, some (dn s.disks.length), some (dn s.head.width), some (dn s.head.moved), some (.ref r), x5, x6, x7] ∧ M' r = some (.lst (laidD s i)) ∧ Sub M (mdel M' r)) ⟨none, none, none, rfl, mup_same, grow_new hr⟩ (fun _ _ _ _ _ => trivial) ?_ ?_
  · rintro i d ρ M' hi ⟨x5, x6, x7, rfl, hl, hs⟩
    obtain ⟨hi, rfl⟩ := rangeA_get hi
    rw [Int.zero_add]
    have wp := ok.wide_pos i
    have wt := ok.wide_ten i
    have go : ∀ d, d = dn (s.wide i) → (aLstR1 fun _ M Q => Q d M) [some s.head.d, some (dn s.disks.length), some (dn s.head.width), some (dn s.head.moved), some (.ref r), some (dn i), x6, x7] M' fun d M1 => agName 6 d [some s.head.d, some (dn s.disks.length), some (dn s.head.width), some (dn s.head.moved), some (.ref r), some (dn i), x6, x7] M1 (aSeq (aFor (aiR1 (aCons (aVar 5) aNil)) (agName 7) (aDrop (aMth "list" amApp (aVar 6) (aCons (aMth "list" amPop (aVar 6) (aCons (aC (.int 0)) aNil)) aNil))))
        (aDrop (aMth "list" amApp (aVar 4) (aCons (aFz (aVar 6)) aNil)))
        { nx := wk fun ρ M' => ∃ x5 x6 x7, ρ = [some s.head.d, some (dn s.disks.length), some (dn s.head.width), some (dn s.head.moved), some (.ref r), x5, x6, x7] ∧ M' r = some (.lst (laidD s (i + 1))) ∧ Sub M (mdel M' r), rt := (retD Q).rt, bk := aRet (aFz (aVar 4)) (retD Q), ct := wk fun ρ M' => ∃ x5 x6 x7, ρ = [some s.head.d, some (dn s.disks.length), some (dn s.head.width), some (dn s.head.moved), some (.ref r), x5, x6, x7] ∧ M' r = some (.lst (laidD s (i + 1))) ∧ Sub M (mdel M' r) }) := by
      rintro d rfl
      decreasing_tactic
      intro q hq
      have hrq : r ≠ q := ne_of_new hl hq
      decreasing_tactic
      refine forW_inv (fun j ρ M2 => ∃ x7, ρ = [some s.head.d, some (dn s.disks.length), some (dn s.head.width), some (dn s.head.moved), some (.ref r), some (dn i), some (.ref q), x7] ∧ M2 q = some (.lst (turnL (s.wide i) j)) ∧ Sub M' (mdel M2 q)) ⟨x7, rfl, by rw [mup_same, Int.toNat_natCast, turnL_zero], grow_new hq⟩ (fun _ _ _ _ _ => trivial) ?_ ?_
      · rintro j d ρ M2 hj ⟨x7, rfl, hq2, hs2⟩
        rw [turnL_cons (show 0 < s.wide i by omega)] at hq2
        have tt := turnT_len (w := s.wide i) (r := j)
        decreasing_tactic
        simp only [show Int.toNat 0 = 0 from rfl, List.getElem?_cons_zero, List.eraseIdx_cons_zero]
        decreasing_tactic
        refine wk_of ⟨_, rfl, ?_, grow_put (grow_put hs2)⟩
        rw [mup_same, turnL_succ (by omega)]
      · rintro ρ M2 ⟨x7, rfl, hq2, hs2⟩
        rw [rangeA_len, Int.toNat_natCast] at hq2
        have hl2 := grow_at hs2 hl
        have hl3 : mdel M2 q r = some (.lst (laidD s i)) := hs2 r _ hl
        decreasing_tactic
        refine ⟨mdel M2 q, mdel_same, mdel_sub, ?_⟩
        have hlen : (laidD s i).length < 1000 := by simp [laidD]; omega
        decreasing_tactic
        refine wk_of ⟨_, _, _, rfl, ?_, ?_⟩
        · rw [mup_same, laidD, laidD, List.range_succ, List.map_append]; rfl
        · rw [mdel_put]
          exact fun a c e => by
            have ha : a ≠ r := ne_of_new e hr
            rw [mdel_ne ha]
            have := hs a c e
            rw [mdel_ne ha] at this
            exact hs2 a c this
    decreasing_tactic
    by_cases hm : i < s.head.moved
    · rw [decide_eq_true (show (i : Int) < (s.head.moved : Int) by omega)]
      exact go (dn s.disks.length) (by rw [ok.wide_moved hm])
    · rw [decide_eq_false (show ¬ (i : Int) < (s.head.moved : Int) by omega)]
      exact go (dn s.head.width) (by unfold Store.wide; rw [if_neg hm]; rfl)
  · rintro ρ M' ⟨x5, x6, x7, rfl, hl, hs⟩
    rw [rangeA_len, Int.toNat_natCast] at hl
    decreasing_tactic
    exact ⟨mdel M' r, mdel_same, mdel_sub, retSub hs k⟩
theorem ok_law_laid (T : Tx K mg) : FnA P w K mg base 1 T.f_law_laid T.d_law_laid [("_law_head" : Str), ("_law_many" : Str)] sp_law_laid :=
  fnA T.F_law_laid sc_law_laid len_law_laid (fun cdv A outer s H E hr => by
    have hu1 := hu_of hr
    have hu64 := hr.units
    exact (ass_cons (as_par 2 3 rfl sc_law_laid.nd (aa_cons (ae_ix hu1 (av 0) ae_int) (aa_cons (ae_ix hu1 (av 0) ae_int) aa_nil)))
    (ass_cons (as_set 4 sc_law_laid.nd (ae_lst aa_nil))
    (ass_cons (as_for PassesOwn.never rfl (ai_range1 T.n_range (aa_cons (ae_ix hu1 (av 0) ae_int) aa_nil)) (ag_name 5 sc_law_laid.nd) (ass_cons (as_set 6 sc_law_laid.nd (ae_listR1 rfl T.n_list T.n_range (ae_ix hu1 (ae_fz (ae_lst (aa_cons (av 2) (aa_cons (av 1) aa_nil)))) (ae_callTy call_int1 abc_int (aa_cons (ae_lt (av 5) (av 3)) aa_nil) T.n_int boot_int))))
    (ass_cons (as_for PassesOwn.never rfl (ai_range1 T.n_range (aa_cons (av 5) aa_nil)) (ag_name 7 sc_law_laid.nd) (ass_one (as_expr (ae_append (av 6) (aa_cons (ae_popAt (av 6) (aa_cons ae_int aa_nil)) aa_nil)))))
    (ass_one (as_expr (ae_append (av 4) (aa_cons (ae_fz (av 6)) aa_nil)))))))
    (ass_one (as_ret (ae_fz (av 4)))))))) spec_law_laid
def sp_law_spots : ASp := fun ds M Q => ∃ s : Store, ds = [s.head.d] ∧ s.Ok ∧ Q (.rol ((List.range s.kept).map fun n => spD (s.spotN n))) M
def tk_law_spots_6 : RS := (aRet (aFz (aVar 8)))
def tk_law_spots_5 : RS := aSeq (aFor (aiR1 (aCons (aVar 5) aNil)) (agName 9) (aFor (aiR1 (aCons (aOp aSub (aOp aAdd (aVar 4) (aC (.int 1))) (aVar 1)) aNil)) (agName 11) (aSeq (aIfS (aB (aOp aLt (aVar 10) (aVar 7))) (aAsg (aTup (aCons (aVar 9) (aCons (aVar 11) aNil))) (agSub (aVar 8) (aVar 10) asSet)) aNext)
    (aAsg (aOp aAdd (aVar 10) (aC (.int 1))) (agName 10))))) (tk_law_spots_6)
def tk_law_spots_4 : RS := aSeq (aAsg (aC (.int 0)) (agName 10)) (tk_law_spots_5)
def tk_law_spots_3 : RS := aSeq (aFor (aiR1 (aCons (aVar 3) aNil)) (agName 9) (aDrop (aMth "list" amExt (aVar 8) (aCons (aLc (aiR1 (aCons (aOp aSub (aVar 4) (aVar 1)) aNil)) (.nm 11) [11] aYes (aTup (aCons (aVar 9) (aCons (aVar 11) aNil)))) aNil)))) (tk_law_spots_4)
def tk_law_spots_2 : RS := aSeq (aAsg (aLst aNil) (agName 8)) (tk_law_spots_3)
def tk_law_spots_1 : RS := aSeq (aAsg (aOp aMul (aVar 3) (aOp aSub (aVar 4) (aVar 1))) (agName 7)) (tk_law_spots_2)
def t_law_spots : RS := aSeq (aAsg (aVar 0) (agTup 6 (agCons (agName 1) (agCons (agName 2) (agCons (agName 3) (agCons (agName 4) (agCons (agName 5) (agCons (agName 6) agNil)))))))) (tk_law_spots_1)
theorem len_law_spots : ∀ ds M Q, sp_law_spots ds M Q → ds.length = 1 := by
  rintro ds M Q ⟨s, rfl, _⟩
  rfl
theorem spec_law_spots : ∀ ds M Q, sp_law_spots ds M Q → t_law_spots (retD Q) (startA 12 ds) M := by
  rintro ds M Q ⟨s, rfl, ok, kk⟩
  have w1 := ok.head.width1
  have w2 := ok.head.width2
  have r2 := ok.head.rows2
  have wm := ok.head.many
  rw [← spots_end ok] at kk
  obtain ⟨k, hk⟩ : ∃ k, s.head.width - s.head.par = k := ⟨_, rfl⟩
  have hkept : s.kept = s.head.rows * k := by rw [Store.kept, hk]
  rw [hk] at kk
  have k10 : k ≤ 10 := by omega
  have e1 : (s.head.width : Int) - (s.head.par : Int) = (k : Int) := by omega
  have e2 : (s.head.width : Int) + 1 - (s.head.par : Int) = ((k + 1 : Nat) : Int) := by omega
  have kl : s.kept ≤ 240 := by
    rw [hkept]
    exact Nat.le_trans (Nat.mul_le_mul r2 k10) (by decide)
  decreasing_tactic
  rw [e1]
  have e3 : (s.head.rows : Int) * (k : Int) = ((s.kept : Nat) : Int) := by rw [hkept, Int.natCast_mul]
  rw [e3]
  decreasing_tactic
  intro r hr
  decreasing_tactic
  refine forW_inv (fun i ρ M' => ∃ x9, ρ = [some s.head.d, some (dn s.head.par), some (dn s.head.size), some (dn s.head.rows), some (dn s.head.width), some (dn s.head.moved), some (dn s.head.spares), some (dn s.kept), some (.ref r), x9, none, none] ∧ M' r = some (.lst (spotsL k (i * k) 0)) ∧ Sub M (mdel M' r)) ?_ (fun _ _ _ _ _ => trivial) ?_ ?_
  · exact ⟨none, rfl, by rw [mup_same, Nat.zero_mul]; rfl, grow_new hr⟩
  · rintro i d ρ M' hi ⟨x9, rfl, hl, hs⟩
    obtain ⟨hi, rfl⟩ := rangeA_get hi
    rw [Int.zero_add]
    have hik : i * k ≤ 240 := by
      have : i * k ≤ s.head.rows * k := Nat.mul_le_mul_right k (by omega)
      omega
    decreasing_tactic
    rw [e1]
    decreasing_tactic
    intro q hq
    have hlq := look_new (x := .lst []) hl hq
    refine lcW_idx (fun j => spD (i, j)) (fun _ => trivial) (by rw [rangeA_len]; exact le_line (by omega)) (fun j d hd acc N hN => ?_) ?_
    · obtain ⟨hj, rfl⟩ := rangeA_get hd
      refine ⟨_, rfl, ?_⟩
      rw [Int.zero_add]
      decreasing_tactic
      exact lcEnd hN
    · rw [rangeA_len, Int.toNat_natCast]
      have hl3 := look_new (x := .lst ((List.range k).map fun j => spD (i, j))) hl hq
      have sl := spotsL_len (k := k) (kept := i * k) (num := 0)
      decreasing_tactic
      rw [rows_ext (by omega)]
      refine wk_of ⟨_, rfl, mup_same, ?_⟩
      rw [mdel_put]
      exact fun a c e => by
        have ha : a ≠ r := ne_of_new e hr
        have := hs a c e
        rw [mdel_ne ha] at this ⊢
        exact Sub.new hq a c this
  · rintro ρ M' ⟨x9, rfl, hl, hs⟩
    rw [rangeA_len, Int.toNat_natCast, ← hkept] at hl
    decreasing_tactic
    refine forW_inv (fun i ρ M' => ∃ x9 x11, ρ = [some s.head.d, some (dn s.head.par), some (dn s.head.size), some (dn s.head.rows), some (dn s.head.width), some (dn s.head.moved), some (dn s.head.spares), some (dn s.kept), some (.ref r), x9, some (dn (i * (k + 1))), x11] ∧ M' r = some (.lst (spotsL k s.kept (i * (k + 1)))) ∧ Sub M (mdel M' r)) ?_ (fun _ _ _ _ _ => trivial) ?_ ?_
    · exact ⟨x9, none, by rw [Nat.zero_mul]; rfl, by rw [Nat.zero_mul]; exact hl, hs⟩
    · rintro i d ρ M2 hi ⟨x9, x11, rfl, hl, hs⟩
      obtain ⟨hi, rfl⟩ := rangeA_get hi
      rw [Int.zero_add]
      decreasing_tactic
      rw [e2]
      decreasing_tactic
      refine forW_inv (fun j ρ M' => ∃ x11, ρ = [some s.head.d, some (dn s.head.par), some (dn s.head.size), some (dn s.head.rows), some (dn s.head.width), some (dn s.head.moved), some (dn s.head.spares), some (dn s.kept), some (.ref r), some (dn i), some (dn (i * (k + 1) + j)), x11] ∧ M' r = some (.lst (spotsL k s.kept (i * (k + 1) + j))) ∧ Sub M (mdel M' r)) ?_ (fun _ _ _ _ _ => trivial) ?_ ?_
      · exact ⟨x11, rfl, hl, hs⟩
      · rintro j d ρ M3 hj ⟨x11, rfl, hl, hs⟩
        obtain ⟨hj, rfl⟩ := rangeA_get hj
        rw [Int.zero_add]
        have hj : j < k + 1 := by omega
        by_cases hb : i * (k + 1) + j < s.kept
        · have e4 := spots_set hj hb
          generalize hn : i * (k + 1) + j = num at *
          have e6 : i * (k + 1) + (j + 1) = num + 1 := by omega
          rw [e6]
          decreasing_tactic
          ((repeat ((conv => whnf); simp only [lenA_r, itemsA_r, lstA_r, lstC_s, Option.map_some, atI_0, ixN_0, mup_same, mup_mup, true_and, and_true, List.map_cons, List.map_nil, List.length_cons, List.length_map, List.length_nil, List.set_cons_zero, List.set_cons_succ, List.cons_append, List.nil_append, List.getElem?_cons_zero, List.getElem?_cons_succ, hl])); (conv => whnf))
          refine onS_of (ixN_nat (by rw [spotsL_len]; exact hb)) ?_
          decreasing_tactic
          refine wk_of ⟨some (dn j), rfl, ?_, grow_put hs⟩
          rw [mup_same]
          have e5 : spD (i, j) = .tup [dn i, dn j] := rfl
          rw [e5] at e4
          rw [e4]
        · have e4 := spots_beyond (k := k) (show s.kept ≤ i * (k + 1) + j by omega)
          generalize hn : i * (k + 1) + j = num at *
          have e6 : i * (k + 1) + (j + 1) = num + 1 := by omega
          rw [e6]
          decreasing_tactic
          exact wk_of ⟨some (dn j), rfl, by rw [hl, e4], hs⟩
      · rintro ρ M3 ⟨x11, rfl, hl, hs⟩
        rw [rangeA_len, Int.toNat_natCast] at *
        refine wk_of ⟨some (dn i), x11, ?_, ?_, hs⟩
        · rw [Nat.add_mul i 1, Nat.one_mul]
        · rw [Nat.add_mul i 1, Nat.one_mul]; exact hl
    · rintro ρ M2 ⟨x9, x11, rfl, hl, hs⟩
      rw [rangeA_len, Int.toNat_natCast] at hl
      decreasing_tactic
      exact ⟨mdel M2 r, mdel_same, mdel_sub, retSub hs kk⟩
theorem ok_law_spots (T : Tx K mg) : FnA P w K mg base 1 T.f_law_spots T.d_law_spots [("_law_head" : Str)] sp_law_spots :=
  fnA T.F_law_spots sc_law_spots len_law_spots (fun cdv A outer s H E hr => by
    have hu1 := hu_of hr
    have hu64 := hr.units
    exact (ass_cons (as_asg (av 0) (ag_tup rfl (ags_cons (ag_name 1 sc_law_spots.nd) (ags_cons (ag_name 2 sc_law_spots.nd) (ags_cons (ag_name 3 sc_law_spots.nd) (ags_cons (ag_name 4 sc_law_spots.nd) (ags_cons (ag_name 5 sc_law_spots.nd) (ags_cons (ag_name 6 sc_law_spots.nd) ags_nil))))))))
    (ass_cons (as_set 7 sc_law_spots.nd (ae_mul (av 3) (ae_sub (av 4) (av 1))))
    (ass_cons (as_set 8 sc_law_spots.nd (ae_lst aa_nil))
    (ass_cons (as_for PassesOwn.never rfl (ai_range1 T.n_range (aa_cons (av 3) aa_nil)) (ag_name 9 sc_law_spots.nd) (ass_one (as_expr (ae_extend (av 8) (aa_cons (ae_lc (own := [(("_law_place" : Str), 11)]) (tg := (.nm 11)) (by decide) rfl sc_law_spots.nd (ai_range1 T.n_range (aa_cons (ae_sub (av 4) (av 1)) aa_nil)) (blkOk_by (own := [(("_law_place" : Str), 11)]) (N := N_law_spots) (sc := defScope s_law_spots) (by decide +kernel)) (fun _ _ _ _ _ => (pgt_name 11 sc_law_spots.nd)) (fun _ _ _ _ _ => ats_nil) (fun _ _ _ _ _ => (ae_tup (aa_cons (av 9) (aa_cons (av 11) aa_nil))))) aa_nil)))))
    (ass_cons (as_set 10 sc_law_spots.nd ae_int)
    (ass_cons (as_for PassesOwn.never rfl (ai_range1 T.n_range (aa_cons (av 5) aa_nil)) (ag_name 9 sc_law_spots.nd) (ass_one (as_for PassesOwn.never rfl (ai_range1 T.n_range (aa_cons (ae_sub (ae_add (av 4) ae_int) (av 1)) aa_nil)) (ag_name 11 sc_law_spots.nd) (ass_cons (as_if (at_lt (av 10) (av 7)) (ass_one (as_asg (ae_tup (aa_cons (av 9) (aa_cons (av 11) aa_nil))) (ag_sub hu1 (av 8) (av 10)))) ass_nil)
    (ass_one (as_set 10 sc_law_spots.nd (ae_add (av 10) ae_int)))))))
    (ass_one (as_ret (ae_fz (av 8))))))))))) spec_law_spots
def sp_law_told : ASp := fun ds M Q => ∃ n size : Nat, ds = [dn n, dn size] ∧ size ≤ 16 ∧ Q (bD (toldB n size)) M
def t_law_told : RS := (aRet (aFn acTup (aCons (aFz (aSl (aFz (aOp aAdd (aLst (aCons (aVar 0) aNil)) (aOp aMul (aLst (aCons (aC (.int 77)) aNil)) (aC (.int 15))))) aoN (aoS (aVar 1)))) aNil)))
theorem len_law_told : ∀ ds M Q, sp_law_told ds M Q → ds.length = 2 := by
  rintro ds M Q ⟨n, size, rfl, _⟩
  rfl
theorem spec_law_told : ∀ ds M Q, sp_law_told ds M Q → t_law_told (retD Q) (startA 2 ds) M := by
  rintro ds M Q ⟨n, size, rfl, hz, k⟩
  decreasing_tactic
  intro p1 h1
  decreasing_tactic
  intro p2 h2
  refine ⟨[.int 77], mup_same, by omega, by omega, le_line (by decide), fun p3 h3 => ?_⟩
  have n21 : p2 ≠ p1 := (mup_none h2).1
  have n31 : p3 ≠ p1 := (mup_none (mup_none h3).2).1
  have l1 : mup (mup (mup M p1 (.lst [dn n])) p2 (.lst [.int 77])) p3 (.lst (List.replicate 15 [Dv.int 77]).flatten) p1 = some (.lst [dn n]) := by
    rw [mup_ne n31.symm, mup_ne n21.symm, mup_same]
  have s1 : HC.Sub M (mup (mup (mup M p1 (.lst [dn n])) p2 (.lst [.int 77])) p3 (.lst (List.replicate 15 [Dv.int 77]).flatten)) := ((HC.Sub.new h1).trans (HC.Sub.new h2)).trans (HC.Sub.new h3)
  have l3 : mup (mup (mup M p1 (.lst [dn n])) p2 (.lst [.int 77])) p3 (.lst (List.replicate 15 [Dv.int 77]).flatten) p3 = some (.lst (List.replicate 15 [Dv.int 77]).flatten) := mup_same
  have el : [dn n] ++ (List.replicate 15 [Dv.int 77]).flatten = (n :: List.replicate 15 77).map fun x => dn x := rfl
  have er : List.replicate (Int.toNat 15) [Dv.int 77] = List.replicate 15 [Dv.int 77] := rfl
  rw [er]
  generalize mup (mup (mup M p1 (.lst [dn n])) p2 (.lst [.int 77])) p3 (.lst (List.replicate 15 [Dv.int 77]).flatten) = M3 at l1 s1 l3 ⊢
  refine ⟨_, _, l1, l3, le_line (show 1 + 15 ≤ 1000000 by decide), fun p4 h4 => fz_new h4 ?_⟩
  rw [el]
  decreasing_tactic
  rw [c_to _ _ (by simp; omega), ← List.map_take]
  exact retSub s1 k
theorem ok_law_told (T : Tx K mg) : FnA P w K mg base 1 T.f_law_told T.d_law_told [("_law_number" : Str), ("_law_size" : Str)] sp_law_told :=
  fnA T.F_law_told sc_law_told len_law_told (fun cdv A outer s H E hr => by
    have hu1 := hu_of hr
    have hu64 := hr.units
    exact (ass_one (as_ret (ae_callTy call_tuple_of abc_tup (aa_cons (ae_fz (ae_slice (ae_fz (ae_add (ae_lst (aa_cons (av 0) aa_nil)) (ae_mul (ae_lst (aa_cons ae_int aa_nil)) ae_int))) ao_none (ao_some (av 1)))) aa_nil) T.n_tuple boot_tuple)))) spec_law_told
def sp_is_whole : ASp := fun ds M Q => ∃ d n, ds = [d] ∧ Pn n d ∧ Q (.bl (wholeB d)) M
def t_is_whole : RS := (aRet (aAndV (aFn acIsi (aCons (aVar 0) (aCons (aC (.ty "int")) aNil))) (aNotV (aFn acIsi (aCons (aVar 0) (aCons (aC (.ty "bool")) aNil))))))
theorem len_is_whole : ∀ ds M Q, sp_is_whole ds M Q → ds.length = 1 := by
  rintro ds M Q ⟨d, n, rfl, _⟩
  rfl
theorem spec_is_whole : ∀ ds M Q, sp_is_whole ds M Q → t_is_whole (retD Q) (startA 1 ds) M := by
  rintro ds M Q ⟨d, n, rfl, h, k⟩
  cases d <;> first | (cases n <;> exact h.elim) | (decreasing_tactic; exact retEnd k)
theorem ok_is_whole (T : Tx K mg) : FnA P w K mg base 1 T.f_is_whole T.d_is_whole [("thing" : Str)] sp_is_whole :=
  fnA T.F_is_whole sc_is_whole len_is_whole (fun cdv A outer s H E hr => by
    have hu1 := hu_of hr
    have hu64 := hr.units
    exact (ass_one (as_ret (ae_and (ae_callB call_isi abc_isi (aa_cons (av 0) (aa_cons (ae_gty rfl T.n_int boot_int) aa_nil)) T.n_isinstance boot_isinstance) (ae_and1 (ae_not (ae_callB call_isi abc_isi (aa_cons (av 0) (aa_cons (ae_gty rfl T.n_bool boot_bool) aa_nil)) T.n_isinstance boot_isinstance))))))) spec_is_whole
def sp_is_between : ASp := fun ds M Q => ∃ d n, ∃ lo hi : Int, ds = [d, .int lo, .int hi] ∧ Pn n d ∧ Q (.bl (betwB d lo hi)) M
def t_is_between : RS := (aRet (aAndV (aCall sp_is_whole (aCons (aVar 0) aNil)) (aChain aLe aLe (aVar 1) (aVar 0) (aVar 2))))
theorem len_is_between : ∀ ds M Q, sp_is_between ds M Q → ds.length = 3 := by
  rintro ds M Q ⟨d, n, lo, hi, rfl, _⟩
  rfl
theorem spec_is_between : ∀ ds M Q, sp_is_between ds M Q → t_is_between (retD Q) (startA 3 ds) M := by
  rintro ds M Q ⟨d, n, lo, hi, rfl, h, k⟩
  decreasing_tactic
  refine ⟨d, n, rfl, h, ?_⟩
  cases d <;> first | (cases n <;> exact h.elim) | (exact retEnd k) | skip
  (conv => whnf)
  simp only [betwB] at k
  refine onIf_dec (fun h1 => ?_) (fun h1 => ?_)
  · rw [decide_eq_true h1, Bool.true_and] at k
    exact retEnd k
  · rw [decide_eq_false h1, Bool.false_and] at k
    exact retEnd k
theorem ok_is_between (T : Tx K mg) : FnA P w K mg base 2 T.f_is_between T.d_is_between [("thing" : Str), ("low" : Str), ("high" : Str)] sp_is_between :=
  fnA T.F_is_between sc_is_between len_is_between (fun cdv A outer s H E hr => by
    have hu1 := hu_of hr
    have hu64 := hr.units
    exact (ass_one (as_ret (ae_and (ae_call (ok_is_whole T) (hr.mono (by decide)) T.m_is_whole T.F_is_whole.kp T.b_is_whole (aa_cons (av 0) aa_nil)) (ae_and1 (ae_chain2 op_le op_le ab_B0 ab_B0 (av 1) (av 0) (av 2))))))) spec_is_between
def sp_is_block : ASp := fun ds M Q => ∃ d n, ∃ size : Int, ds = [d, .int size] ∧ Pn n d ∧ Q (.bl (blockB d size)) M
def tk_is_block_1 : RS := (aRet (aFn acAll (aCons (aFz (aLc (aiSeq (aVar 0)) (.nm 2) [2] aYes (aCall sp_is_between (aCons (aVar 2) (aCons (aC (.int 0)) (aCons (aC (.int 255)) aNil)))))) aNil)))
def t_is_block : RS := aSeq (aIfS (aOr (aNot (aTru (aFn acIsi (aCons (aVar 0) (aCons (aC (.ty "tuple")) aNil))))) (aB (aOp aNe (aFn acLen (aCons (aVar 0) aNil)) (aVar 1)))) (aRet (aC (.bl false))) aNext) (tk_is_block_1)
theorem len_is_block : ∀ ds M Q, sp_is_block ds M Q → ds.length = 2 := by
  rintro ds M Q ⟨d, n, size, rfl, _⟩
  rfl
theorem spec_is_block : ∀ ds M Q, sp_is_block ds M Q → t_is_block (retD Q) (startA 3 ds) M := by
  rintro ds M Q ⟨d, n, size, rfl, h, k⟩
  cases d <;> first | (cases n <;> exact h.elim) | (decreasing_tactic; exact retEnd k) | skip
  case tup xs =>
  decreasing_tactic
  simp only [blockB] at k
  refine onIf_ndec (fun h1 => ?_) (fun h1 => ?_)
  · have h2 : ¬ (xs.length : Int) = size := fun e => h1 (by rw [e])
    rw [decide_eq_false h2, Bool.false_and] at k
    exact retEnd k
  · have h2 : (xs.length : Int) = size := Dv.int.inj h1
    rw [decide_eq_true h2, Bool.true_and] at k
    cases n with
    | zero => exact h.elim
    | succ n =>
    decreasing_tactic
    refine lcM (fun x => .bl (betwB x 0 255)) (fun _ => rfl) h.1 (fun d hd M' N hs q => ⟨_, rfl, d, n, 0, 255, rfl, h.2 d hd, q⟩) ?_
    exact acAll_map (retEnd k)
theorem ok_is_block (T : Tx K mg) : FnA P w K mg base 3 T.f_is_block T.d_is_block [("thing" : Str), ("size" : Str)] sp_is_block :=
  fnA T.F_is_block sc_is_block len_is_block (fun cdv A outer s H E hr => by
    have hu1 := hu_of hr
    have hu64 := hr.units
    exact (ass_cons (as_if (AW.pt (aw_or (at_not (at_tru (ae_callB call_isi abc_isi (aa_cons (av 0) (aa_cons (ae_gty rfl T.n_tuple boot_tuple) aa_nil)) T.n_isinstance boot_isinstance))) (aw_or1 (at_ne hu64 (ae_callB call_len abc_len (aa_cons (av 0) aa_nil) T.n_len boot_len) (av 1))))) (ass_one (as_ret ae_bl)) ass_nil)
    (ass_one (as_ret (ae_callB (cr_all rfl) abc_all (aa_cons (ae_fz (ae_lc (own := [(("one" : Str), 2)]) (tg := (.nm 2)) (by decide) rfl sc_is_block.nd (ai_seq (av 0)) (blkOk_by (own := [(("one" : Str), 2)]) (N := N_is_block) (sc := defScope s_is_block) (by decide +kernel)) (fun _ _ _ _ _ => (pgt_name 2 sc_is_block.nd)) (fun _ _ _ _ _ => ats_nil) (fun _ _ _ _ _ => (ae_call (ok_is_between T) (hr.mono (by decide)) T.m_is_between T.F_is_between.kp T.b_is_between (aa_cons (av 2) (aa_cons ae_int (aa_cons (ae_gint rfl T.c_MOST_BYTE.choose_spec) aa_nil))))))) aa_nil) T.n_all boot_all))))) spec_is_block
def sp_is_disk : ASp := fun ds M Q => ∃ d n, ∃ size rows : Int, ds = [d, .int size, .int rows] ∧ Pn n d ∧ Q (.bl (diskB d size rows)) M
def tk_is_disk_2 : RS := (aRet (aFn acAll (aCons (aFz (aLc (aiSeq (aVar 0)) (.nm 3) [3] aYes (aOrV (aOp aIs (aVar 3) (aC .non)) (aCall sp_is_block (aCons (aVar 3) (aCons (aVar 1) aNil)))))) aNil)))
def tk_is_disk_1 : RS := aSeq (aIfS (aOr (aNot (aTru (aFn acIsi (aCons (aVar 0) (aCons (aC (.ty "tuple")) aNil))))) (aB (aOp aNe (aFn acLen (aCons (aVar 0) aNil)) (aVar 2)))) (aRet (aC (.bl false))) aNext) (tk_is_disk_2)
def t_is_disk : RS := aSeq (aIfS (aB (aOp aIs (aVar 0) (aC .non))) (aRet (aC (.bl true))) aNext) (tk_is_disk_1)
theorem len_is_disk : ∀ ds M Q, sp_is_disk ds M Q → ds.length = 3 := by
  rintro ds M Q ⟨d, n, size, rows, rfl, _⟩
  rfl
theorem spec_is_disk : ∀ ds M Q, sp_is_disk ds M Q → t_is_disk (retD Q) (startA 4 ds) M := by
  rintro ds M Q ⟨d, n, size, rows, rfl, h, k⟩
  cases d <;> first | (cases n <;> exact h.elim) | (decreasing_tactic; exact retEnd k) | skip
  case tup xs =>
  decreasing_tactic
  simp only [diskB] at k
  refine onIf_ndec (fun h1 => ?_) (fun h1 => ?_)
  · have h2 : ¬ (xs.length : Int) = rows := fun e => h1 (by rw [e])
    rw [decide_eq_false h2, Bool.false_and] at k
    exact retEnd k
  · have h2 : (xs.length : Int) = rows := Dv.int.inj h1
    rw [decide_eq_true h2, Bool.true_and] at k
    cases n with
    | zero => exact h.elim
    | succ n =>
    decreasing_tactic
    refine lcM (fun x => .bl (isNon x || blockB x size)) (fun _ => rfl) h.1 (fun d hd M' N hs q => ⟨_, rfl, ?_⟩) ?_
    · (conv => whnf)
      cases e : isNon d with
      | true =>
        rw [e, Bool.true_or] at q
        exact q
      | false =>
        rw [e, Bool.false_or] at q
        exact ⟨d, n, size, rfl, h.2 d hd, q⟩
    · exact acAll_map (retEnd k)
theorem ok_is_disk (T : Tx K mg) : FnA P w K mg base 4 T.f_is_disk T.d_is_disk [("thing" : Str), ("size" : Str), ("rows" : Str)] sp_is_disk :=
  fnA T.F_is_disk sc_is_disk len_is_disk (fun cdv A outer s H E hr => by
    have hu1 := hu_of hr
    have hu64 := hr.units
    exact (ass_cons (as_if (at_is (av 0) ae_non) (ass_one (as_ret ae_bl)) ass_nil)
    (ass_cons (as_if (AW.pt (aw_or (at_not (at_tru (ae_callB call_isi abc_isi (aa_cons (av 0) (aa_cons (ae_gty rfl T.n_tuple boot_tuple) aa_nil)) T.n_isinstance boot_isinstance))) (aw_or1 (at_ne hu64 (ae_callB call_len abc_len (aa_cons (av 0) aa_nil) T.n_len boot_len) (av 2))))) (ass_one (as_ret ae_bl)) ass_nil)
    (ass_one (as_ret (ae_callB (cr_all rfl) abc_all (aa_cons (ae_fz (ae_lc (own := [(("one" : Str), 3)]) (tg := (.nm 3)) (by decide) rfl sc_is_disk.nd (ai_seq (av 0)) (blkOk_by (own := [(("one" : Str), 3)]) (N := N_is_disk) (sc := defScope s_is_disk) (by decide +kernel)) (fun _ _ _ _ _ => (pgt_name 3 sc_is_disk.nd)) (fun _ _ _ _ _ => ats_nil) (fun _ _ _ _ _ => (ae_or (ae_is (av 3) ae_non) (ae_or1 (ae_call (ok_is_block T) (hr.mono (by decide)) T.m_is_block T.F_is_block.kp T.b_is_block (aa_cons (av 3) (aa_cons (av 1) aa_nil)))))))) aa_nil) T.n_all boot_all)))))) spec_is_disk
def sp_are_widths : ASp := fun ds M Q => ∃ w m n, ∃ par rows many : Int, ∃ s a b c, ds = [w, m, .tup [.int par, s, .int rows, a, b, c], .int many] ∧ Pn n w ∧ Pn n m ∧ Q (.bl (widthsB w m par rows many)) M
def tk_are_widths_3 : RS := (aRet (aAndV (aOp aEq (aVar 3) (aOp aAdd (aVar 0) (aC (.int 1)))) (aAndV (aOp aLe (aVar 3) (aC (.int 10))) (aChain aLe aLt (aC (.int 0)) (aVar 1) (aVar 5)))))
def tk_are_widths_2 : RS := aSeq (aIfS (aB (aOp aEq (aVar 3) (aVar 0))) (aRet (aOp aEq (aVar 1) (aC (.int 0)))) aNext) (tk_are_widths_3)
def tk_are_widths_1 : RS := aSeq (aIfS (aOr (aNot (aTru (aCall sp_is_between (aCons (aVar 0) (aCons (aOp aAdd (aVar 4) (aC (.int 1))) (aCons (aC (.int 10)) aNil)))))) (aNot (aTru (aCall sp_is_whole (aCons (aVar 1) aNil))))) (aRet (aC (.bl false))) aNext) (tk_are_widths_2)
def t_are_widths : RS := aSeq (aPar 4 5 (aCons (aOp aIx (aVar 2) (aC (.int 0))) (aCons (aOp aIx (aVar 2) (aC (.int 2))) aNil))) (tk_are_widths_1)
theorem len_are_widths : ∀ ds M Q, sp_are_widths ds M Q → ds.length = 4 := by
  rintro ds M Q ⟨w, m, n, par, rows, many, s, a, b, c, rfl, _⟩
  rfl
theorem spec_are_widths : ∀ ds M Q, sp_are_widths ds M Q → t_are_widths (retD Q) (startA 6 ds) M := by
  rintro ds M Q ⟨w, m, n, par, rows, many, s, a, b, c, rfl, hw, hm, k⟩
  have i0 : atI [Dv.int par, s, .int rows, a, b, c] 0 = some (.int par) := rfl
  have i2 : atI [Dv.int par, s, .int rows, a, b, c] 2 = some (.int rows) := rfl
  ((repeat ((conv => whnf); simp only [lenA_r, itemsA_r, lstA_r, lstC_s, Option.map_some, atI_0, ixN_0, mup_same, mup_mup, true_and, and_true, List.map_cons, List.map_nil, List.length_cons, List.length_map, List.length_nil, List.set_cons_zero, List.set_cons_succ, List.cons_append, List.nil_append, List.getElem?_cons_zero, List.getElem?_cons_succ, i0, i2])); (conv => whnf))
  refine ⟨w, n, par + 1, 10, rfl, hw, ?_⟩
  cases w <;> first | (exact retEnd k) | (cases m <;> exact retEnd k) | skip
  case int w =>
  cases e1 : betwB (.int w) (par + 1) 10 with
  | false =>
    simp only [betwB] at e1
    have k' : Q (.bl false) M := by
      cases m <;> first | exact k | skip
      simp only [widthsB, e1, Bool.false_and] at k
      exact k
    exact retEnd k'
  | true =>
    (conv => whnf)
    refine ⟨m, n, rfl, hm, ?_⟩
    cases m <;> first | (cases n <;> exact hm.elim) | (exact retEnd k) | skip
    case int m =>
    simp only [betwB] at e1
    simp only [widthsB, e1, Bool.true_and] at k
    decreasing_tactic
    refine onIf_dec (fun h1 => ?_) (fun h1 => ?_)
    · have h2 : many = w := Dv.int.inj h1
      rw [if_pos h2] at k
      decreasing_tactic
      rw [HC.dec_int]
      exact retEnd k
    · have h2 : ¬ many = w := fun e => h1 (by rw [e])
      rw [if_neg h2] at k
      decreasing_tactic
      rw [HC.dec_int]
      by_cases c1 : many = w + 1
      · rw [decide_eq_true c1, Bool.true_and] at k
        rw [decide_eq_true c1]
        (conv => whnf)
        by_cases c2 : many ≤ 10
        · rw [decide_eq_true c2, Bool.true_and] at k
          refine onIf_decT c2 ?_
          (conv => whnf)
          by_cases c3 : 0 ≤ m
          · rw [decide_eq_true c3, Bool.true_and] at k
            refine onIf_decT c3 ?_
            exact retEnd k
          · rw [decide_eq_false c3, Bool.false_and] at k
            refine onIf_decF c3 ?_
            exact retEnd k
        · rw [decide_eq_false c2, Bool.false_and] at k
          refine onIf_decF c2 ?_
          exact retEnd k
      · rw [decide_eq_false c1, Bool.false_and] at k
        rw [decide_eq_false c1]
        exact retEnd k
theorem ok_are_widths (T : Tx K mg) : FnA P w K mg base 3 T.f_are_widths T.d_are_widths [("width" : Str), ("moved" : Str), ("head" : Str), ("many" : Str)] sp_are_widths :=
  fnA T.F_are_widths sc_are_widths len_are_widths (fun cdv A outer s H E hr => by
    have hu1 := hu_of hr
    have hu64 := hr.units
    exact (ass_cons (as_par 4 5 rfl sc_are_widths.nd (aa_cons (ae_ix hu1 (av 2) ae_int) (aa_cons (ae_ix hu1 (av 2) ae_int) aa_nil)))
    (ass_cons (as_if (AW.pt (aw_or (at_not (at_tru (ae_call (ok_is_between T) (hr.mono (by decide)) T.m_is_between T.F_is_between.kp T.b_is_between (aa_cons (av 0) (aa_cons (ae_add (av 4) ae_int) (aa_cons (ae_gint rfl T.c_MOST_DISKS.choose_spec) aa_nil)))))) (aw_or1 (at_not (at_tru (ae_call (ok_is_whole T) (hr.mono (by decide)) T.m_is_whole T.F_is_whole.kp T.b_is_whole (aa_cons (av 1) aa_nil))))))) (ass_one (as_ret ae_bl)) ass_nil)
    (ass_cons (as_if (at_eq hu64 (av 3) (av 0)) (ass_one (as_ret (ae_eq hu64 (av 1) ae_int))) ass_nil)
    (ass_one (as_ret (ae_and (ae_eq hu64 (av 3) (ae_add (av 0) ae_int)) (ae_and (ae_le (av 3) (ae_gint rfl T.c_MOST_DISKS.choose_spec)) (ae_and1 (ae_chain2 op_le op_lt ab_B0 ab_B0 ae_int (av 1) (av 5))))))))))) spec_are_widths
def sp_is_head : ASp := fun ds M Q => ∃ d n, ∃ many : Int, ds = [d, .int many] ∧ Pn (n + 1) d ∧ Q (.bl (headB d many)) M
def tk_is_head_3 : RS := (aRet (aCall sp_are_widths (aCons (aOp aIx (aVar 0) (aC (.int 3))) (aCons (aOp aIx (aVar 0) (aC (.int 4))) (aCons (aVar 0) (aCons (aVar 1) aNil))))))
def tk_is_head_2 : RS := aSeq (aIfS (aOr (aNot (aTru (aCall sp_is_between (aCons (aOp aIx (aVar 0) (aC (.int 2))) (aCons (aC (.int 1)) (aCons (aC (.int 24)) aNil)))))) (aOr (aNot (aTru (aCall sp_is_whole (aCons (aOp aIx (aVar 0) (aC (.int 5))) aNil)))) (aB (aOp aLt (aOp aIx (aVar 0) (aC (.int 5))) (aC (.int 0)))))) (aRet (aC (.bl false))) aNext) (tk_is_head_3)
def tk_is_head_1 : RS := aSeq (aIfS (aOr (aNot (aTru (aCall sp_is_between (aCons (aOp aIx (aVar 0) (aC (.int 0))) (aCons (aC (.int 1)) (aCons (aC (.int 2)) aNil)))))) (aNot (aTru (aCall sp_is_between (aCons (aOp aIx (aVar 0) (aC (.int 1))) (aCons (aC (.int 1)) (aCons (aC (.int 16)) aNil))))))) (aRet (aC (.bl false))) aNext) (tk_is_head_2)
def t_is_head : RS := aSeq (aIfS (aOr (aNot (aTru (aFn acIsi (aCons (aVar 0) (aCons (aC (.ty "tuple")) aNil))))) (aB (aOp aNe (aFn acLen (aCons (aVar 0) aNil)) (aC (.int 6))))) (aRet (aC (.bl false))) aNext) (tk_is_head_1)
theorem len_is_head : ∀ ds M Q, sp_is_head ds M Q → ds.length = 2 := by
  rintro ds M Q ⟨d, n, many, rfl, _⟩
  rfl
theorem spec_is_head : ∀ ds M Q, sp_is_head ds M Q → t_is_head (retD Q) (startA 2 ds) M := by
  rintro ds M Q ⟨d, n, many, rfl, h, k⟩
  cases d <;> first | exact h.elim | (decreasing_tactic; exact retEnd k) | skip
  case tup xs =>
  by_cases hl : xs.length = 6
  case neg =>
    rw [headB_len hl] at k
    decreasing_tactic
    exact retEnd k
  match xs, hl with
  | [a, b, c, w, m, f], hl6 =>
  obtain ⟨hlen, h⟩ := h
  have ha := h a (by simp)
  have hb := h b (by simp)
  have hc := h c (by simp)
  have hw := h w (by simp)
  have hm := h m (by simp)
  have hf := h f (by simp)
  have i0 : atI [a, b, c, w, m, f] 0 = some a := rfl
  have i1 : atI [a, b, c, w, m, f] 1 = some b := rfl
  have i2 : atI [a, b, c, w, m, f] 2 = some c := rfl
  have i3 : atI [a, b, c, w, m, f] 3 = some w := rfl
  have i4 : atI [a, b, c, w, m, f] 4 = some m := rfl
  have i5 : atI [a, b, c, w, m, f] 5 = some f := rfl
  simp only [headB] at k
  decreasing_tactic
  ((repeat ((conv => whnf); simp only [lenA_r, itemsA_r, lstA_r, lstC_s, Option.map_some, atI_0, ixN_0, mup_same, mup_mup, true_and, and_true, List.map_cons, List.map_nil, List.length_cons, List.length_map, List.length_nil, List.set_cons_zero, List.set_cons_succ, List.cons_append, List.nil_append, List.getElem?_cons_zero, List.getElem?_cons_succ, i0])); (conv => whnf))
  refine ⟨a, n, 1, 2, rfl, ha, ?_⟩
  cases e1 : betwB a 1 2 with
  | false => rw [e1, Bool.false_and] at k; exact retEnd k
  | true =>
  rw [e1, Bool.true_and] at k
  ((repeat ((conv => whnf); simp only [lenA_r, itemsA_r, lstA_r, lstC_s, Option.map_some, atI_0, ixN_0, mup_same, mup_mup, true_and, and_true, List.map_cons, List.map_nil, List.length_cons, List.length_map, List.length_nil, List.set_cons_zero, List.set_cons_succ, List.cons_append, List.nil_append, List.getElem?_cons_zero, List.getElem?_cons_succ, i1])); (conv => whnf))
  refine ⟨b, n, 1, 16, rfl, hb, ?_⟩
  cases e2 : betwB b 1 16 with
  | false => rw [e2, Bool.false_and] at k; exact retEnd k
  | true =>
  rw [e2, Bool.true_and] at k
  ((repeat ((conv => whnf); simp only [lenA_r, itemsA_r, lstA_r, lstC_s, Option.map_some, atI_0, ixN_0, mup_same, mup_mup, true_and, and_true, List.map_cons, List.map_nil, List.length_cons, List.length_map, List.length_nil, List.set_cons_zero, List.set_cons_succ, List.cons_append, List.nil_append, List.getElem?_cons_zero, List.getElem?_cons_succ, i2])); (conv => whnf))
  refine ⟨c, n, 1, 24, rfl, hc, ?_⟩
  cases e3 : betwB c 1 24 with
  | false => rw [e3, Bool.false_and] at k; exact retEnd k
  | true =>
  rw [e3, Bool.true_and] at k
  obtain ⟨p, rfl, _, _⟩ := betwB_int e1
  obtain ⟨s, rfl, _, _⟩ := betwB_int e2
  obtain ⟨r, rfl, _, _⟩ := betwB_int e3
  ((repeat ((conv => whnf); simp only [lenA_r, itemsA_r, lstA_r, lstC_s, Option.map_some, atI_0, ixN_0, mup_same, mup_mup, true_and, and_true, List.map_cons, List.map_nil, List.length_cons, List.length_map, List.length_nil, List.set_cons_zero, List.set_cons_succ, List.cons_append, List.nil_append, List.getElem?_cons_zero, List.getElem?_cons_succ, i5])); (conv => whnf))
  refine ⟨f, n, rfl, hf, ?_⟩
  cases f <;> first | (cases n <;> exact hf.elim) | exact retEnd k | skip
  case int f =>
  ((repeat ((conv => whnf); simp only [lenA_r, itemsA_r, lstA_r, lstC_s, Option.map_some, atI_0, ixN_0, mup_same, mup_mup, true_and, and_true, List.map_cons, List.map_nil, List.length_cons, List.length_map, List.length_nil, List.set_cons_zero, List.set_cons_succ, List.cons_append, List.nil_append, List.getElem?_cons_zero, List.getElem?_cons_succ, i5])); (conv => whnf))
  simp only [natB] at k
  by_cases h0 : 0 ≤ f
  · rw [decide_eq_true h0, Bool.true_and] at k
    decreasing_tactic
    ((repeat ((conv => whnf); simp only [lenA_r, itemsA_r, lstA_r, lstC_s, Option.map_some, atI_0, ixN_0, mup_same, mup_mup, true_and, and_true, List.map_cons, List.map_nil, List.length_cons, List.length_map, List.length_nil, List.set_cons_zero, List.set_cons_succ, List.cons_append, List.nil_append, List.getElem?_cons_zero, List.getElem?_cons_succ, i3, i4])); (conv => whnf))
    exact ⟨w, m, n, p, r, many, .int s, w, m, .int f, rfl, hw, hm, retEnd k⟩
  · rw [decide_eq_false h0, Bool.false_and] at k
    decreasing_tactic
    exact retEnd k
theorem ok_is_head (T : Tx K mg) : FnA P w K mg base 4 T.f_is_head T.d_is_head [("thing" : Str), ("many" : Str)] sp_is_head :=
  fnA T.F_is_head sc_is_head len_is_head (fun cdv A outer s H E hr => by
    have hu1 := hu_of hr
    have hu64 := hr.units
    exact (ass_cons (as_if (AW.pt (aw_or (at_not (at_tru (ae_callB call_isi abc_isi (aa_cons (av 0) (aa_cons (ae_gty rfl T.n_tuple boot_tuple) aa_nil)) T.n_isinstance boot_isinstance))) (aw_or1 (at_ne hu64 (ae_callB call_len abc_len (aa_cons (av 0) aa_nil) T.n_len boot_len) ae_int)))) (ass_one (as_ret ae_bl)) ass_nil)
    (ass_cons (as_if (AW.pt (aw_or (at_not (at_tru (ae_call (ok_is_between T) (hr.mono (by decide)) T.m_is_between T.F_is_between.kp T.b_is_between (aa_cons (ae_ix hu1 (av 0) ae_int) (aa_cons ae_int (aa_cons ae_int aa_nil)))))) (aw_or1 (at_not (at_tru (ae_call (ok_is_between T) (hr.mono (by decide)) T.m_is_between T.F_is_between.kp T.b_is_between (aa_cons (ae_ix hu1 (av 0) ae_int) (aa_cons ae_int (aa_cons (ae_gint rfl T.c_MOST_SIZE.choose_spec) aa_nil))))))))) (ass_one (as_ret ae_bl)) ass_nil)
    (ass_cons (as_if (AW.pt (aw_or (at_not (at_tru (ae_call (ok_is_between T) (hr.mono (by decide)) T.m_is_between T.F_is_between.kp T.b_is_between (aa_cons (ae_ix hu1 (av 0) ae_int) (aa_cons ae_int (aa_cons (ae_gint rfl T.c_MOST_ROWS.choose_spec) aa_nil)))))) (aw_or (at_not (at_tru (ae_call (ok_is_whole T) (hr.mono (by decide)) T.m_is_whole T.F_is_whole.kp T.b_is_whole (aa_cons (ae_ix hu1 (av 0) ae_int) aa_nil)))) (aw_or1 (at_lt (ae_ix hu1 (av 0) ae_int) ae_int))))) (ass_one (as_ret ae_bl)) ass_nil)
    (ass_one (as_ret (ae_call (ok_are_widths T) (hr.mono (by decide)) T.m_are_widths T.F_are_widths.kp T.b_are_widths (aa_cons (ae_ix hu1 (av 0) ae_int) (aa_cons (ae_ix hu1 (av 0) ae_int) (aa_cons (av 0) (aa_cons (av 1) aa_nil))))))))))) spec_is_head
def sp_is_note : ASp := fun ds M Q => ∃ d n, ∃ at' par size rows many : Int, ∃ a b c, ds = [d, .int at', .tup [.int par, .int size, .int rows, a, b, c], .int many] ∧ Pn (n + 1) d ∧ Q (.bl (noteB d at' par size rows many)) M
def tk_is_note_3 : RS := (aRet (aAndV (aCall sp_is_between (aCons (aOp aIx (aVar 0) (aC (.int 2))) (aCons (aC (.int 0)) (aCons (aOp aSub (aOp aIx (aVar 2) (aC (.int 2))) (aC (.int 1))) aNil)))) (aCall sp_is_block (aCons (aOp aIx (aVar 0) (aC (.int 3))) (aCons (aOp aIx (aVar 2) (aC (.int 1))) aNil)))))
def tk_is_note_2 : RS := aSeq (aIfS (aOr (aB (aOp aNe (aOp aIx (aVar 0) (aC (.int 0))) (aC (.str ("block" : Str))))) (aNot (aTru (aCall sp_is_between (aCons (aOp aIx (aVar 0) (aC (.int 1))) (aCons (aC (.int 0)) (aCons (aOp aSub (aVar 3) (aC (.int 1))) aNil))))))) (aRet (aC (.bl false))) aNext) (tk_is_note_3)
def tk_is_note_1 : RS := aSeq (aIfS (aB (aOp aEq (aOp aIx (aVar 0) (aC (.int 0))) (aC (.str ("end" : Str))))) (aRet (aAndV (aCall sp_is_whole (aCons (aOp aIx (aVar 0) (aC (.int 1))) aNil)) (aAndV (aOp aEq (aOp aIx (aVar 0) (aC (.int 1))) (aVar 1)) (aCall sp_are_widths (aCons (aOp aIx (aVar 0) (aC (.int 2))) (aCons (aOp aIx (aVar 0) (aC (.int 3))) (aCons (aVar 2) (aCons (aVar 3) aNil)))))))) aNext) (tk_is_note_2)
def t_is_note : RS := aSeq (aIfS (aOr (aNot (aTru (aFn acIsi (aCons (aVar 0) (aCons (aC (.ty "tuple")) aNil))))) (aOr (aB (aOp aNe (aFn acLen (aCons (aVar 0) aNil)) (aC (.int 4)))) (aNot (aTru (aFn acIsi (aCons (aOp aIx (aVar 0) (aC (.int 0))) (aCons (aC (.ty "str")) aNil))))))) (aRet (aC (.bl false))) aNext) (tk_is_note_1)
theorem len_is_note : ∀ ds M Q, sp_is_note ds M Q → ds.length = 4 := by
  rintro ds M Q ⟨d, n, at', par, size, rows, many, a, b, c, rfl, _⟩
  rfl
theorem spec_is_note : ∀ ds M Q, sp_is_note ds M Q → t_is_note (retD Q) (startA 4 ds) M := by
  rintro ds M Q ⟨d, n, at', par, size, rows, many, u, v, w, rfl, h, k⟩
  cases d <;> first | exact h.elim | (decreasing_tactic; exact retEnd k) | skip
  case tup xs =>
  by_cases hl : xs.length = 4
  case neg =>
    rw [noteB_len hl] at k
    decreasing_tactic
    exact retEnd k
  match xs, hl with
  | [x, a, b, c], hl6 =>
  obtain ⟨hlen, h⟩ := h
  have hx := h x (by simp)
  have ha := h a (by simp)
  have hb := h b (by simp)
  have hc := h c (by simp)
  have i0 : atI [x, a, b, c] 0 = some x := rfl
  have i1 : atI [x, a, b, c] 1 = some a := rfl
  have i2 : atI [x, a, b, c] 2 = some b := rfl
  have i3 : atI [x, a, b, c] 3 = some c := rfl
  have j1 : atI [Dv.int par, .int size, .int rows, u, v, w] 1 = some (.int size) := rfl
  have j2 : atI [Dv.int par, .int size, .int rows, u, v, w] 2 = some (.int rows) := rfl
  decreasing_tactic
  ((repeat ((conv => whnf); simp only [lenA_r, itemsA_r, lstA_r, lstC_s, Option.map_some, atI_0, ixN_0, mup_same, mup_mup, true_and, and_true, List.map_cons, List.map_nil, List.length_cons, List.length_map, List.length_nil, List.set_cons_zero, List.set_cons_succ, List.cons_append, List.nil_append, List.getElem?_cons_zero, List.getElem?_cons_succ, i0])); (conv => whnf))
  by_cases hs : ∃ y, x = .str y
  case neg =>
    have hs' : ∀ y, x ≠ .str y := fun y e => hs ⟨y, e⟩
    rw [noteB_str hs'] at k
    cases x <;> first | (cases n <;> exact hx.elim) | exact absurd rfl (hs' _) | (decreasing_tactic; exact retEnd k)
  obtain ⟨y, rfl⟩ := hs
  have py : Pl 9 (.str y) := by cases n <;> exact hx
  have pe : Pl 9 (.str ("end" : Str)) := by show PyData.canLay0 (.str _) = true; decide +kernel
  have pb : Pl 9 (.str ("block" : Str)) := by show PyData.canLay0 (.str _) = true; decide +kernel
  simp only [noteB] at k
  decreasing_tactic
  ((repeat ((conv => whnf); simp only [lenA_r, itemsA_r, lstA_r, lstC_s, Option.map_some, atI_0, ixN_0, mup_same, mup_mup, true_and, and_true, List.map_cons, List.map_nil, List.length_cons, List.length_map, List.length_nil, List.set_cons_zero, List.set_cons_succ, List.cons_append, List.nil_append, List.getElem?_cons_zero, List.getElem?_cons_succ, i0])); (conv => whnf))
  refine onIf_dec (fun h1 => ?_) (fun h1 => ?_)
  · have h2 : y = ("end" : Str) := Dv.str.inj h1
    rw [if_pos h2] at k
    ((repeat ((conv => whnf); simp only [lenA_r, itemsA_r, lstA_r, lstC_s, Option.map_some, atI_0, ixN_0, mup_same, mup_mup, true_and, and_true, List.map_cons, List.map_nil, List.length_cons, List.length_map, List.length_nil, List.set_cons_zero, List.set_cons_succ, List.cons_append, List.nil_append, List.getElem?_cons_zero, List.getElem?_cons_succ, i1])); (conv => whnf))
    refine ⟨a, n, rfl, ha, ?_⟩
    cases a <;> first | (cases n <;> exact ha.elim) | exact retEnd k | skip
    case int a =>
    simp only [] at k
    ((repeat ((conv => whnf); simp only [lenA_r, itemsA_r, lstA_r, lstC_s, Option.map_some, atI_0, ixN_0, mup_same, mup_mup, true_and, and_true, List.map_cons, List.map_nil, List.length_cons, List.length_map, List.length_nil, List.set_cons_zero, List.set_cons_succ, List.cons_append, List.nil_append, List.getElem?_cons_zero, List.getElem?_cons_succ, i1])); (conv => whnf))
    try refine ⟨trivial, trivial, ?_⟩
    rw [HC.dec_int]
    by_cases h3 : a = at'
    · rw [decide_eq_true h3, Bool.true_and] at k
      rw [decide_eq_true h3]
      ((repeat ((conv => whnf); simp only [lenA_r, itemsA_r, lstA_r, lstC_s, Option.map_some, atI_0, ixN_0, mup_same, mup_mup, true_and, and_true, List.map_cons, List.map_nil, List.length_cons, List.length_map, List.length_nil, List.set_cons_zero, List.set_cons_succ, List.cons_append, List.nil_append, List.getElem?_cons_zero, List.getElem?_cons_succ, i2, i3])); (conv => whnf))
      exact ⟨b, c, n, par, rows, many, .int size, u, v, w, rfl, hb, hc, retEnd k⟩
    · rw [decide_eq_false h3, Bool.false_and] at k
      rw [decide_eq_false h3]
      exact retEnd k
  · have h2 : ¬ y = ("end" : Str) := fun e => h1 (by rw [e])
    rw [if_neg h2] at k
    ((repeat ((conv => whnf); simp only [lenA_r, itemsA_r, lstA_r, lstC_s, Option.map_some, atI_0, ixN_0, mup_same, mup_mup, true_and, and_true, List.map_cons, List.map_nil, List.length_cons, List.length_map, List.length_nil, List.set_cons_zero, List.set_cons_succ, List.cons_append, List.nil_append, List.getElem?_cons_zero, List.getElem?_cons_succ, i0])); (conv => whnf))
    try refine ⟨py, pb, ?_⟩
    refine onIf_ndec (fun h3 => ?_) (fun h3 => ?_)
    · have h4 : ¬ y = ("block" : Str) := fun e => h3 (by rw [e])
      rw [if_neg h4] at k
      exact retEnd k
    · have h4 : y = ("block" : Str) := Dv.str.inj h3
      rw [if_pos h4] at k
      ((repeat ((conv => whnf); simp only [lenA_r, itemsA_r, lstA_r, lstC_s, Option.map_some, atI_0, ixN_0, mup_same, mup_mup, true_and, and_true, List.map_cons, List.map_nil, List.length_cons, List.length_map, List.length_nil, List.set_cons_zero, List.set_cons_succ, List.cons_append, List.nil_append, List.getElem?_cons_zero, List.getElem?_cons_succ, i1])); (conv => whnf))
      refine ⟨a, n, 0, many - 1, rfl, ha, ?_⟩
      cases e1 : betwB a 0 (many - 1) with
      | false => rw [e1, Bool.false_and] at k; exact retEnd k
      | true =>
      rw [e1, Bool.true_and] at k
      ((repeat ((conv => whnf); simp only [lenA_r, itemsA_r, lstA_r, lstC_s, Option.map_some, atI_0, ixN_0, mup_same, mup_mup, true_and, and_true, List.map_cons, List.map_nil, List.length_cons, List.length_map, List.length_nil, List.set_cons_zero, List.set_cons_succ, List.cons_append, List.nil_append, List.getElem?_cons_zero, List.getElem?_cons_succ, i2, j2])); (conv => whnf))
      refine ⟨b, n, 0, rows - 1, rfl, hb, ?_⟩
      cases e2 : betwB b 0 (rows - 1) with
      | false => rw [e2, Bool.false_and] at k; exact retEnd k
      | true =>
      rw [e2, Bool.true_and] at k
      ((repeat ((conv => whnf); simp only [lenA_r, itemsA_r, lstA_r, lstC_s, Option.map_some, atI_0, ixN_0, mup_same, mup_mup, true_and, and_true, List.map_cons, List.map_nil, List.length_cons, List.length_map, List.length_nil, List.set_cons_zero, List.set_cons_succ, List.cons_append, List.nil_append, List.getElem?_cons_zero, List.getElem?_cons_succ, i3, j1])); (conv => whnf))
      exact ⟨c, n, size, rfl, hc, retEnd k⟩
theorem ok_is_note (T : Tx K mg) : FnA P w K mg base 4 T.f_is_note T.d_is_note [("thing" : Str), ("at" : Str), ("head" : Str), ("many" : Str)] sp_is_note :=
  fnA T.F_is_note sc_is_note len_is_note (fun cdv A outer s H E hr => by
    have hu1 := hu_of hr
    have hu64 := hr.units
    exact (ass_cons (as_if (AW.pt (aw_or (at_not (at_tru (ae_callB call_isi abc_isi (aa_cons (av 0) (aa_cons (ae_gty rfl T.n_tuple boot_tuple) aa_nil)) T.n_isinstance boot_isinstance))) (aw_or (at_ne hu64 (ae_callB call_len abc_len (aa_cons (av 0) aa_nil) T.n_len boot_len) ae_int) (aw_or1 (at_not (at_tru (ae_callB call_isi abc_isi (aa_cons (ae_ix hu1 (av 0) ae_int) (aa_cons (ae_gty rfl T.n_str boot_str) aa_nil)) T.n_isinstance boot_isinstance))))))) (ass_one (as_ret ae_bl)) ass_nil)
    (ass_cons (as_if (at_eq hu64 (ae_ix hu1 (av 0) ae_int) ae_str) (ass_one (as_ret (ae_and (ae_call (ok_is_whole T) (hr.mono (by decide)) T.m_is_whole T.F_is_whole.kp T.b_is_whole (aa_cons (ae_ix hu1 (av 0) ae_int) aa_nil)) (ae_and (ae_eq hu64 (ae_ix hu1 (av 0) ae_int) (av 1)) (ae_and1 (ae_call (ok_are_widths T) (hr.mono (by decide)) T.m_are_widths T.F_are_widths.kp T.b_are_widths (aa_cons (ae_ix hu1 (av 0) ae_int) (aa_cons (ae_ix hu1 (av 0) ae_int) (aa_cons (av 2) (aa_cons (av 3) aa_nil)))))))))) ass_nil)
    (ass_cons (as_if (AW.pt (aw_or (at_ne hu64 (ae_ix hu1 (av 0) ae_int) ae_str) (aw_or1 (at_not (at_tru (ae_call (ok_is_between T) (hr.mono (by decide)) T.m_is_between T.F_is_between.kp T.b_is_between (aa_cons (ae_ix hu1 (av 0) ae_int) (aa_cons ae_int (aa_cons (ae_sub (av 3) ae_int) aa_nil))))))))) (ass_one (as_ret ae_bl)) ass_nil)
    (ass_one (as_ret (ae_and (ae_call (ok_is_between T) (hr.mono (by decide)) T.m_is_between T.F_is_between.kp T.b_is_between (aa_cons (ae_ix hu1 (av 0) ae_int) (aa_cons ae_int (aa_cons (ae_sub (ae_ix hu1 (av 2) ae_int) ae_int) aa_nil)))) (ae_and1 (ae_call (ok_is_block T) (hr.mono (by decide)) T.m_is_block T.F_is_block.kp T.b_is_block (aa_cons (ae_ix hu1 (av 0) ae_int) (aa_cons (ae_ix hu1 (av 2) ae_int) aa_nil))))))))))) spec_is_note
def sp_is_journal : ASp := fun ds M Q => ∃ d n, ∃ par size rows many : Int, ∃ a b c, ds = [d, .tup [.int par, .int size, .int rows, a, b, c], .int many] ∧ Pn (n + 2) d ∧ Q (.bl (journalB d par size rows many)) M
def tk_is_journal_1 : RS := (aRet (aFn acAll (aCons (aFz (aLc (aiSeq (aFz (aSl (aVar 0) aoN (aoS (aUn aNeg (aC (.int 1))))))) (.nm 4) [4] aYes (aOp aEq (aOp aIx (aVar 4) (aC (.int 0))) (aC (.str ("block" : Str)))))) aNil)))
def t_is_journal : RS := aSeq (aIfS (aOr (aNot (aTru (aFn acIsi (aCons (aVar 0) (aCons (aC (.ty "tuple")) aNil))))) (aNot (aTru (aFn acAll (aCons (aFz (aLc (aiEnum (aCons (aVar 0) aNil)) (.tp [(.nm 3), (.nm 4)]) [3, 4] aYes (aCall sp_is_note (aCons (aVar 4) (aCons (aVar 3) (aCons (aVar 1) (aCons (aVar 2) aNil))))))) aNil))))) (aRet (aC (.bl false))) aNext) (tk_is_journal_1)
theorem len_is_journal : ∀ ds M Q, sp_is_journal ds M Q → ds.length = 3 := by
  rintro ds M Q ⟨d, n, par, size, rows, many, a, b, c, rfl, _⟩
  rfl
theorem spec_is_journal : ∀ ds M Q, sp_is_journal ds M Q → t_is_journal (retD Q) (startA 5 ds) M := by
  rintro ds M Q ⟨d, n, par, size, rows, many, u, v, w, rfl, h, k⟩
  cases d <;> first | exact h.elim | (decreasing_tactic; exact retEnd k) | skip
  case tup xs =>
  obtain ⟨hl, h⟩ := h
  have hg : ∀ i, i < xs.length → xs.getD i .non ∈ xs := fun i hi => by
    rw [List.getD_eq_getElem?_getD, List.getElem?_eq_getElem hi]
    exact List.getElem_mem hi
  simp only [journalB] at k
  decreasing_tactic
  refine lcF (fun i => .bl (noteB (xs.getD i .non) i par size rows many)) (fun _ => rfl) (by rw [enumD_len]; exact hl) (fun i d hd M' N hs q => ?_) ?_
  · obtain ⟨f, hf, rfl⟩ := enumD_get' hd
    have e : xs.getD i .non = f := by rw [List.getD_eq_getElem?_getD, hf]; rfl
    rw [e] at q
    exact ⟨_, rfl, f, n, i, par, size, rows, many, u, v, w, rfl, h f (List.mem_of_getElem? hf), q⟩
  · rw [enumD_len]
    ((conv => whnf); refine ⟨_, acAll_eq, ?_⟩; rw [all_map_id])
    cases e1 : ((List.range xs.length).all fun (i : Nat) => noteB (xs.getD i .non) i par size rows many) with
    | false => rw [e1, Bool.false_and] at k; exact retEnd k
    | true =>
    rw [e1, Bool.true_and] at k
    rw [List.all_eq_true] at e1
    decreasing_tactic
    rw [cut_last]
    refine lcM (fun d => .bl (isBlk d)) (fun _ => rfl) (by simp; omega) (fun d hd M' N hs q => ?_) ?_
    · obtain ⟨i, hi, e⟩ := List.mem_iff_getElem.mp hd
      simp at hi e
      have hi' : i < xs.length := by omega
      have e2 := e1 i (List.mem_range.mpr hi')
      rw [List.getD_eq_getElem?_getD, List.getElem?_eq_getElem hi'] at e2
      have e3 : noteB d i par size rows many = true := by rw [← e]; exact e2
      obtain ⟨x, a, b, c, rfl⟩ := noteB_shape e3
      have hm : Dv.tup [.str x, a, b, c] ∈ xs := by rw [← e]; exact List.getElem_mem hi'
      have px : Pn n (.str x) := (h _ hm).2 _ (by simp)
      have py : Pl 9 (.str x) := by cases n <;> exact px
      have pb : Pl 9 (.str ("block" : Str)) := by show PyData.canLay0 (.str _) = true; decide +kernel
      have i0 : atI [.str x, a, b, c] 0 = some (.str x) := rfl
      refine ⟨_, rfl, ?_⟩
      ((repeat ((conv => whnf); simp only [lenA_r, itemsA_r, lstA_r, lstC_s, Option.map_some, atI_0, ixN_0, mup_same, mup_mup, true_and, and_true, List.map_cons, List.map_nil, List.length_cons, List.length_map, List.length_nil, List.set_cons_zero, List.set_cons_succ, List.cons_append, List.nil_append, List.getElem?_cons_zero, List.getElem?_cons_succ, i0])); (conv => whnf))
      refine ⟨py, pb, ?_⟩
      rw [HC.dec_str]
      exact q
    · exact acAll_map (retEnd k)
theorem ok_is_journal (T : Tx K mg) : FnA P w K mg base 5 T.f_is_journal T.d_is_journal [("thing" : Str), ("head" : Str), ("many" : Str)] sp_is_journal :=
  fnA T.F_is_journal sc_is_journal len_is_journal (fun cdv A outer s H E hr => by
    have hu1 := hu_of hr
    have hu64 := hr.units
    exact (ass_cons (as_if (AW.pt (aw_or (at_not (at_tru (ae_callB call_isi abc_isi (aa_cons (av 0) (aa_cons (ae_gty rfl T.n_tuple boot_tuple) aa_nil)) T.n_isinstance boot_isinstance))) (aw_or1 (at_not (at_tru (ae_callB (cr_all rfl) abc_all (aa_cons (ae_fz (ae_lc (own := [(("at" : Str), 3), (("note" : Str), 4)]) (tg := (.tp [(.nm 3), (.nm 4)])) (by decide) rfl sc_is_journal.nd (ai_enum T.n_enumerate (aa_cons (av 0) aa_nil)) (blkOk_by (own := [(("at" : Str), 3), (("note" : Str), 4)]) (N := N_is_journal) (sc := defScope s_is_journal) (by decide +kernel)) (fun _ _ _ _ _ => (pgt_tup rfl (pgts_cons (pgt_name 3 sc_is_journal.nd) (pgts_cons (pgt_name 4 sc_is_journal.nd) pgts_nil)))) (fun _ _ _ _ _ => ats_nil) (fun _ _ _ _ _ => (ae_call (ok_is_note T) (hr.mono (by decide)) T.m_is_note T.F_is_note.kp T.b_is_note (aa_cons (av 4) (aa_cons (av 3) (aa_cons (av 1) (aa_cons (av 2) aa_nil)))))))) aa_nil) T.n_all boot_all)))))) (ass_one (as_ret ae_bl)) ass_nil)
    (ass_one (as_ret (ae_callB (cr_all rfl) abc_all (aa_cons (ae_fz (ae_lc (own := [(("note" : Str), 4)]) (tg := (.nm 4)) (by decide) rfl sc_is_journal.nd (ai_seq (ae_fz (ae_slice (av 0) ao_none (ao_some (ae_neg ae_int))))) (blkOk_by (own := [(("note" : Str), 4)]) (N := N_is_journal) (sc := defScope s_is_journal) (by decide +kernel)) (fun _ _ _ _ _ => (pgt_name 4 sc_is_journal.nd)) (fun _ _ _ _ _ => ats_nil) (fun _ _ _ _ _ => (ae_eq hu64 (ae_ix hu1 (av 4) ae_int) ae_str)))) aa_nil) T.n_all boot_all))))) spec_is_journal
def sp_is_store : ASp := fun ds M Q => ∃ d, ds = [d] ∧ ((∃ n, Pn (n + 3) d ∧ Q (.bl (storeB d)) M) ∨ (∃ a kvs, d = .ref a ∧ M a = some (.dic kvs) ∧ Q (.bl false) M))
def tk_is_store_3 : RS := (aRet (aCall sp_is_journal (aCons (aVar 3) (aCons (aVar 1) (aCons (aFn acLen (aCons (aVar 2) aNil)) aNil)))))
def tk_is_store_2 : RS := aSeq (aIfS (aOr (aNot (aTru (aCall sp_is_head (aCons (aVar 1) (aCons (aFn acLen (aCons (aVar 2) aNil)) aNil))))) (aNot (aTru (aFn acAll (aCons (aFz (aLc (aiSeq (aVar 2)) (.nm 4) [4] aYes (aCall sp_is_disk (aCons (aVar 4) (aCons (aOp aIx (aVar 1) (aC (.int 1))) (aCons (aOp aIx (aVar 1) (aC (.int 2))) aNil)))))) aNil))))) (aRet (aC (.bl false))) aNext) (tk_is_store_3)
def tk_is_store_1 : RS := aSeq (aAsg (aVar 0) (agTup 3 (agCons (agName 1) (agCons (agName 2) (agCons (agName 3) agNil))))) (tk_is_store_2)
def t_is_store : RS := aSeq (aIfS (aOr (aNot (aTru (aFn acIsi (aCons (aVar 0) (aCons (aC (.ty "tuple")) aNil))))) (aOr (aB (aOp aNe (aFn acLen (aCons (aVar 0) aNil)) (aC (.int 3)))) (aNot (aTru (aFn acIsi (aCons (aOp aIx (aVar 0) (aC (.int 1))) (aCons (aC (.ty "tuple")) aNil))))))) (aRet (aC (.bl false))) aNext) (tk_is_store_1)
theorem len_is_store : ∀ ds M Q, sp_is_store ds M Q → ds.length = 1 := by
  rintro ds M Q ⟨d, rfl, _⟩
  rfl
theorem spec_is_store : ∀ ds M Q, sp_is_store ds M Q → t_is_store (retD Q) (startA 5 ds) M := by
  rintro ds M Q ⟨d, rfl, ⟨n, h, k⟩ | ⟨a, kvs, rfl, ha, k⟩⟩
  case inr =>
    ((repeat ((conv => whnf); simp only [lenA_r, itemsA_r, lstA_r, lstC_s, Option.map_some, atI_0, ixN_0, mup_same, mup_mup, true_and, and_true, List.map_cons, List.map_nil, List.length_cons, List.length_map, List.length_nil, List.set_cons_zero, List.set_cons_succ, List.cons_append, List.nil_append, List.getElem?_cons_zero, List.getElem?_cons_succ, tyN, ha])); (conv => whnf))
    refine ⟨false, by decide +kernel, ?_⟩
    exact retEnd k
  cases d <;> first | exact h.elim | (decreasing_tactic; exact retEnd k) | skip
  case tup xs =>
  by_cases hl : xs.length = 3
  case neg =>
    rw [storeB_len hl] at k
    decreasing_tactic
    exact retEnd k
  match xs, hl with
  | [hd, b, j], hl6 =>
  obtain ⟨hlen, h⟩ := h
  have hh := h hd (by simp)
  have hb := h b (by simp)
  have hj := h j (by simp)
  have i1 : atI [hd, b, j] 1 = some b := rfl
  decreasing_tactic
  ((repeat ((conv => whnf); simp only [lenA_r, itemsA_r, lstA_r, lstC_s, Option.map_some, atI_0, ixN_0, mup_same, mup_mup, true_and, and_true, List.map_cons, List.map_nil, List.length_cons, List.length_map, List.length_nil, List.set_cons_zero, List.set_cons_succ, List.cons_append, List.nil_append, List.getElem?_cons_zero, List.getElem?_cons_succ, i1])); (conv => whnf))
  by_cases hs : ∃ y, b = .tup y
  case neg =>
    have hs' : ∀ y, b ≠ .tup y := fun y e => hs ⟨y, e⟩
    rw [storeB_mid hs'] at k
    cases b <;> first | exact hb.elim | exact absurd rfl (hs' _) | (decreasing_tactic; exact retEnd k)
  obtain ⟨disks, rfl⟩ := hs
  simp only [storeB] at k
  decreasing_tactic
  refine ⟨hd, n + 1, disks.length, rfl, hh, ?_⟩
  cases e1 : headB hd disks.length with
  | false => rw [e1, Bool.false_and] at k; exact retEnd k
  | true =>
  rw [e1, Bool.true_and] at k
  obtain ⟨p, s, r, w, m, f, rfl⟩ := headB_shape e1
  simp only [] at k
  have j1 : atI [Dv.int p, .int s, .int r, w, m, .int f] 1 = some (.int s) := rfl
  have j2 : atI [Dv.int p, .int s, .int r, w, m, .int f] 2 = some (.int r) := rfl
  decreasing_tactic
  refine lcM (fun x => .bl (diskB x s r)) (fun _ => rfl) hb.1 (fun d hd M' N hs q => ⟨_, rfl, ?_⟩) ?_
  · ((repeat ((conv => whnf); simp only [lenA_r, itemsA_r, lstA_r, lstC_s, Option.map_some, atI_0, ixN_0, mup_same, mup_mup, true_and, and_true, List.map_cons, List.map_nil, List.length_cons, List.length_map, List.length_nil, List.set_cons_zero, List.set_cons_succ, List.cons_append, List.nil_append, List.getElem?_cons_zero, List.getElem?_cons_succ, j1, j2])); (conv => whnf))
    exact ⟨d, n + 1, s, r, rfl, hb.2 d hd, q⟩
  · ((conv => whnf); refine ⟨_, acAll_eq, ?_⟩; rw [all_map_id])
    cases e2 : (disks.all fun x => diskB x s r) with
    | false => rw [e2, Bool.false_and] at k; exact retEnd k
    | true =>
    rw [e2, Bool.true_and] at k
    decreasing_tactic
    exact ⟨j, n, p, s, r, disks.length, w, m, .int f, rfl, hj, retEnd k⟩
theorem ok_is_store (T : Tx K mg) : FnA P w K mg base 6 T.f_is_store T.d_is_store [("thing" : Str)] sp_is_store :=
  fnA T.F_is_store sc_is_store len_is_store (fun cdv A outer s H E hr => by
    have hu1 := hu_of hr
    have hu64 := hr.units
    exact (ass_cons (as_if (AW.pt (aw_or (at_not (at_tru (ae_callB call_isi abc_isi (aa_cons (av 0) (aa_cons (ae_gty rfl T.n_tuple boot_tuple) aa_nil)) T.n_isinstance boot_isinstance))) (aw_or (at_ne hu64 (ae_callB call_len abc_len (aa_cons (av 0) aa_nil) T.n_len boot_len) ae_int) (aw_or1 (at_not (at_tru (ae_callB call_isi abc_isi (aa_cons (ae_ix hu1 (av 0) ae_int) (aa_cons (ae_gty rfl T.n_tuple boot_tuple) aa_nil)) T.n_isinstance boot_isinstance))))))) (ass_one (as_ret ae_bl)) ass_nil)
    (ass_cons (as_asg (av 0) (ag_tup rfl (ags_cons (ag_name 1 sc_is_store.nd) (ags_cons (ag_name 2 sc_is_store.nd) (ags_cons (ag_name 3 sc_is_store.nd) ags_nil)))))
    (ass_cons (as_if (AW.pt (aw_or (at_not (at_tru (ae_call (ok_is_head T) (hr.mono (by decide)) T.m_is_head T.F_is_head.kp T.b_is_head (aa_cons (av 1) (aa_cons (ae_callB call_len abc_len (aa_cons (av 2) aa_nil) T.n_len boot_len) aa_nil))))) (aw_or1 (at_not (at_tru (ae_callB (cr_all rfl) abc_all (aa_cons (ae_fz (ae_lc (own := [(("disk" : Str), 4)]) (tg := (.nm 4)) (by decide) rfl sc_is_store.nd (ai_seq (av 2)) (blkOk_by (own := [(("disk" : Str), 4)]) (N := N_is_store) (sc := defScope s_is_store) (by decide +kernel)) (fun _ _ _ _ _ => (pgt_name 4 sc_is_store.nd)) (fun _ _ _ _ _ => ats_nil) (fun _ _ _ _ _ => (ae_call (ok_is_disk T) (hr.mono (by decide)) T.m_is_disk T.F_is_disk.kp T.b_is_disk (aa_cons (av 4) (aa_cons (ae_ix hu1 (av 1) ae_int) (aa_cons (ae_ix hu1 (av 1) ae_int) aa_nil))))))) aa_nil) T.n_all boot_all)))))) (ass_one (as_ret ae_bl)) ass_nil)
    (ass_one (as_ret (ae_call (ok_is_journal T) (hr.mono (by decide)) T.m_is_journal T.F_is_journal.kp T.b_is_journal (aa_cons (av 3) (aa_cons (av 1) (aa_cons (ae_callB call_len abc_len (aa_cons (av 2) aa_nil) T.n_len boot_len) aa_nil)))))))))) spec_is_store
def sp_block_at : ASp := fun ds M Q => ∃ row place width par : Nat, ds = [dn row, dn place, dn width, dn par] ∧ par ≤ width ∧ width ≤ 1000 ∧ Q (if width - par ≤ place then .non else dn (row * (width - par) + place)) M
def tk_block_at_2 : RS := (aRet (aOp aAdd (aOp aMul (aVar 0) (aVar 4)) (aVar 1)))
def tk_block_at_1 : RS := aSeq (aIfS (aB (aOp aGe (aVar 1) (aVar 4))) (aRet (aC .non)) aNext) (tk_block_at_2)
def t_block_at : RS := aSeq (aAsg (aOp aSub (aVar 2) (aVar 3)) (agName 4)) (tk_block_at_1)
theorem len_block_at : ∀ ds M Q, sp_block_at ds M Q → ds.length = 4 := by
  rintro ds M Q ⟨row, place, width, par, rfl, _⟩
  rfl
theorem spec_block_at : ∀ ds M Q, sp_block_at ds M Q → t_block_at (retD Q) (startA 5 ds) M := by
  rintro ds M Q ⟨row, place, width, par, rfl, h, hw, k⟩
  (conv => whnf)
  refine onIf_dec (fun hg => ?_) (fun hg => ?_)
  · have hg : (width : Int) - (par : Int) ≤ (place : Int) := hg
    rw [if_pos (by omega)] at k
    exact retEnd k
  · have hg : ¬ (width : Int) - (par : Int) ≤ (place : Int) := hg
    rw [if_neg (by omega)] at k
    (conv => whnf)
    refine ⟨.inl (.inr ⟨by omega, by omega⟩), ?_⟩
    have e : (row : Int) * ((width : Int) - (par : Int)) + (place : Int) = ((row * (width - par) + place : Nat) : Int) := by
      rw [Int.natCast_add, Int.natCast_mul, Int.ofNat_sub h]
    simp only [dn, ← e] at k
    exact retEnd k
theorem ok_block_at (T : Tx K mg) : FnA P w K mg base 1 T.f_block_at T.d_block_at [("row" : Str), ("place" : Str), ("width" : Str), ("parities" : Str)] sp_block_at :=
  fnA T.F_block_at sc_block_at len_block_at (fun cdv A outer s H E hr => by
    have hu1 := hu_of hr
    have hu64 := hr.units
    exact (ass_cons (as_set 4 sc_block_at.nd (ae_sub (av 2) (av 3)))
    (ass_cons (as_if (at_ge (av 1) (av 4)) (ass_one (as_ret ae_non)) ass_nil)
    (ass_one (as_ret (ae_add (ae_mul (av 0) (av 4)) (av 1))))))) spec_block_at
def sp_blocks_kept : ASp := fun ds M Q => ∃ s : Store, ds = [s.d] ∧ s.Ok ∧ Q (dn s.kept) M
def tk_blocks_kept_1 : RS := (aRet (aOp aMul (aVar 3) (aOp aSub (aVar 4) (aVar 1))))
def t_blocks_kept : RS := aSeq (aAsg (aFz (aSl (aOp aIx (aVar 0) (aC (.int 0))) aoN (aoS (aC (.int 4))))) (agTup 4 (agCons (agName 1) (agCons (agName 2) (agCons (agName 3) (agCons (agName 4) agNil)))))) (tk_blocks_kept_1)
theorem len_blocks_kept : ∀ ds M Q, sp_blocks_kept ds M Q → ds.length = 1 := by
  rintro ds M Q ⟨s, rfl, _⟩
  rfl
theorem spec_blocks_kept : ∀ ds M Q, sp_blocks_kept ds M Q → t_blocks_kept (retD Q) (startA 5 ds) M := by
  rintro ds M Q ⟨s, rfl, ok, k⟩
  have r2 := ok.head.rows2
  have w1 := ok.head.width1
  have ec : cutA [dn s.head.par, dn s.head.size, dn s.head.rows, dn s.head.width, dn s.head.moved, dn s.head.spares] none (some 4) = [dn s.head.par, dn s.head.size, dn s.head.rows, dn s.head.width] := rfl
  decreasing_tactic
  rw [ec]
  decreasing_tactic
  have e : (s.head.rows : Int) * ((s.head.width : Int) - (s.head.par : Int)) = ((s.kept : Nat) : Int) := by
    rw [Store.kept, Int.natCast_mul, Int.ofNat_sub (by omega)]
  rw [e]
  exact retEnd k
theorem ok_blocks_kept (T : Tx K mg) : FnA P w K mg base 1 T.f_blocks_kept T.d_blocks_kept [("store" : Str)] sp_blocks_kept :=
  fnA T.F_blocks_kept sc_blocks_kept len_blocks_kept (fun cdv A outer s H E hr => by
    have hu1 := hu_of hr
    have hu64 := hr.units
    exact (ass_cons (as_asg (ae_fz (ae_slice (ae_ix hu1 (av 0) ae_int) ao_none (ao_some ae_int))) (ag_tup rfl (ags_cons (ag_name 1 sc_blocks_kept.nd) (ags_cons (ag_name 2 sc_blocks_kept.nd) (ags_cons (ag_name 3 sc_blocks_kept.nd) (ags_cons (ag_name 4 sc_blocks_kept.nd) ags_nil))))))
    (ass_one (as_ret (ae_mul (av 3) (ae_sub (av 4) (av 1))))))) spec_blocks_kept
def sp_row_width : ASp := fun ds M Q => ∃ s : Store, ∃ row : Nat, ds = [s.d, dn row] ∧ Q (dn (s.wide row)) M
def t_row_width : RS := (aRet (aOp aAdd (aOp aIx (aOp aIx (aVar 0) (aC (.int 0))) (aC (.int 3))) (aFn acInt (aCons (aOp aLt (aVar 1) (aOp aIx (aOp aIx (aVar 0) (aC (.int 0))) (aC (.int 4)))) aNil))))
theorem len_row_width : ∀ ds M Q, sp_row_width ds M Q → ds.length = 2 := by
  rintro ds M Q ⟨s, row, rfl, _⟩
  rfl
theorem spec_row_width : ∀ ds M Q, sp_row_width ds M Q → t_row_width (retD Q) (startA 2 ds) M := by
  rintro ds M Q ⟨s, row, rfl, k⟩
  decreasing_tactic
  unfold Store.wide at k
  by_cases h : row < s.head.moved
  · rw [if_pos h] at k
    rw [decide_eq_true (show (row : Int) < (s.head.moved : Int) by omega)]
    exact retEnd k
  · rw [if_neg h] at k
    rw [decide_eq_false (show ¬ (row : Int) < (s.head.moved : Int) by omega)]
    exact retEnd k
theorem ok_row_width (T : Tx K mg) : FnA P w K mg base 1 T.f_row_width T.d_row_width [("store" : Str), ("row" : Str)] sp_row_width :=
  fnA T.F_row_width sc_row_width len_row_width (fun cdv A outer s H E hr => by
    have hu1 := hu_of hr
    have hu64 := hr.units
    exact (ass_one (as_ret (ae_add (ae_ix hu1 (ae_ix hu1 (av 0) ae_int) ae_int) (ae_callTy call_int1 abc_int (aa_cons (ae_lt (av 1) (ae_ix hu1 (ae_ix hu1 (av 0) ae_int) ae_int)) aa_nil) T.n_int boot_int))))) spec_row_width
def sp_spot_of : ASp := fun ds M Q => ∃ block width par : Nat, ds = [dn block, dn width, dn par] ∧ par < width ∧ width ≤ 1000 ∧ Q (.tup [dn (block / (width - par)), dn (block % (width - par))]) M
def tk_spot_of_1 : RS := (aRet (aTup (aCons (aOp aDiv (aVar 0) (aVar 3)) (aCons (aOp aMod (aVar 0) (aVar 3)) aNil))))
def t_spot_of : RS := aSeq (aAsg (aOp aSub (aVar 1) (aVar 2)) (agName 3)) (tk_spot_of_1)
theorem len_spot_of : ∀ ds M Q, sp_spot_of ds M Q → ds.length = 3 := by
  rintro ds M Q ⟨b, w, p, rfl, _⟩
  rfl
theorem spec_spot_of : ∀ ds M Q, sp_spot_of ds M Q → t_spot_of (retD Q) (startA 4 ds) M := by
  rintro ds M Q ⟨b, w, p, rfl, h, hw, k⟩
  have e : (w : Int) - (p : Int) = ((w - p : Nat) : Int) := (Int.ofNat_sub (by omega)).symm
  have e1 : (b : Int) / ((w : Int) - (p : Int)) = ((b / (w - p) : Nat) : Int) := by rw [e]; rfl
  have e2 : (b : Int) % ((w : Int) - (p : Int)) = ((b % (w - p) : Nat) : Int) := by rw [e]; rfl
  simp only [dn, ← e1, ← e2] at k
  (conv => whnf)
  refine ⟨⟨by omega, by omega⟩, ?_⟩
  (conv => whnf)
  refine ⟨by omega, ?_⟩
  (conv => whnf)
  refine ⟨show 2 ≤ sizeLine by decide, ?_⟩
  exact retEnd k
theorem ok_spot_of (T : Tx K mg) : FnA P w K mg base 1 T.f_spot_of T.d_spot_of [("block" : Str), ("width" : Str), ("parities" : Str)] sp_spot_of :=
  fnA T.F_spot_of sc_spot_of len_spot_of (fun cdv A outer s H E hr => by
    have hu1 := hu_of hr
    have hu64 := hr.units
    exact (ass_cons (as_set 3 sc_spot_of.nd (ae_sub (av 1) (av 2)))
    (ass_one (as_ret (ae_tup (aa_cons (ae_div (av 0) (av 3)) (aa_cons (ae_mod (av 0) (av 3)) aa_nil))))))) spec_spot_of
def sp_spot_now : ASp := fun ds M Q => ∃ s : Store, ∃ n : Nat, ds = [s.d, dn n] ∧ s.Ok ∧ Q (spD (s.spotN n)) M
def tk_spot_now_3 : RS := (aRet (aCall sp_spot_of (aCons (aVar 1) (aCons (aVar 5) (aCons (aVar 2) aNil)))))
def tk_spot_now_2 : RS := aSeq (aIfS (aB (aOp aLt (aOp aIx (aVar 8) (aC (.int 0))) (aVar 6))) (aRet (aVar 8)) aNext) (tk_spot_now_3)
def tk_spot_now_1 : RS := aSeq (aAsg (aCall sp_spot_of (aCons (aVar 1) (aCons (aOp aAdd (aVar 5) (aC (.int 1))) (aCons (aVar 2) aNil)))) (agName 8)) (tk_spot_now_2)
def t_spot_now : RS := aSeq (aAsg (aOp aIx (aVar 0) (aC (.int 0))) (agTup 6 (agCons (agName 2) (agCons (agName 3) (agCons (agName 4) (agCons (agName 5) (agCons (agName 6) (agCons (agName 7) agNil)))))))) (tk_spot_now_1)
theorem len_spot_now : ∀ ds M Q, sp_spot_now ds M Q → ds.length = 2 := by
  rintro ds M Q ⟨s, n, rfl, _⟩
  rfl
theorem spec_spot_now : ∀ ds M Q, sp_spot_now ds M Q → t_spot_now (retD Q) (startA 9 ds) M := by
  rintro ds M Q ⟨s, n, rfl, ok, k⟩
  have w1 := ok.head.width1
  have w2 := ok.head.width2
  unfold Store.spotN at k
  decreasing_tactic
  refine ⟨n, s.head.width + 1, s.head.par, rfl, by omega, by omega, ?_⟩
  decreasing_tactic
  by_cases h : n / (s.head.width + 1 - s.head.par) < s.head.moved
  · rw [if_pos h] at k
    refine onIf_decT (show ((n / (s.head.width + 1 - s.head.par) : Nat) : Int) < _ by omega) ?_
    exact retEnd k
  · rw [if_neg h] at k
    refine onIf_decF (show ¬ ((n / (s.head.width + 1 - s.head.par) : Nat) : Int) < _ by omega) ?_
    decreasing_tactic
    refine ⟨n, s.head.width, s.head.par, rfl, by omega, by omega, ?_⟩
    exact retEnd k
theorem ok_spot_now (T : Tx K mg) : FnA P w K mg base 2 T.f_spot_now T.d_spot_now [("store" : Str), ("block" : Str)] sp_spot_now :=
  fnA T.F_spot_now sc_spot_now len_spot_now (fun cdv A outer s H E hr => by
    have hu1 := hu_of hr
    have hu64 := hr.units
    exact (ass_cons (as_asg (ae_ix hu1 (av 0) ae_int) (ag_tup rfl (ags_cons (ag_name 2 sc_spot_now.nd) (ags_cons (ag_name 3 sc_spot_now.nd) (ags_cons (ag_name 4 sc_spot_now.nd) (ags_cons (ag_name 5 sc_spot_now.nd) (ags_cons (ag_name 6 sc_spot_now.nd) (ags_cons (ag_name 7 sc_spot_now.nd) ags_nil))))))))
    (ass_cons (as_set 8 sc_spot_now.nd (ae_call (ok_spot_of T) (hr.mono (by decide)) T.m_spot_of T.F_spot_of.kp T.b_spot_of (aa_cons (av 1) (aa_cons (ae_add (av 5) ae_int) (aa_cons (av 2) aa_nil)))))
    (ass_cons (as_if (at_lt (ae_ix hu1 (av 8) ae_int) (av 6)) (ass_one (as_ret (av 8))) ass_nil)
    (ass_one (as_ret (ae_call (ok_spot_of T) (hr.mono (by decide)) T.m_spot_of T.F_spot_of.kp T.b_spot_of (aa_cons (av 1) (aa_cons (av 5) (aa_cons (av 2) aa_nil)))))))))) spec_spot_now
def sp_number_now : ASp := fun ds M Q => ∃ s : Store, ∃ row place : Nat, ds = [s.d, dn row, dn place] ∧ s.Ok ∧ Q (numD (s.numN row place)) M
def tk_number_now_2 : RS := (aRet (aVar 3))
def tk_number_now_1 : RS := aSeq (aIfS (aOr (aB (aOp aIs (aVar 3) (aC .non))) (aOr (aB (aOp aGe (aVar 3) (aCall sp_blocks_kept (aCons (aVar 0) aNil)))) (aB (aOp aNe (aCall sp_spot_now (aCons (aVar 0) (aCons (aVar 3) aNil))) (aTup (aCons (aVar 1) (aCons (aVar 2) aNil))))))) (aRet (aC .non)) aNext) (tk_number_now_2)
def t_number_now : RS := aSeq (aAsg (aCall sp_block_at (aCons (aVar 1) (aCons (aVar 2) (aCons (aCall sp_row_width (aCons (aVar 0) (aCons (aVar 1) aNil))) (aCons (aOp aIx (aOp aIx (aVar 0) (aC (.int 0))) (aC (.int 0))) aNil))))) (agName 3)) (tk_number_now_1)
theorem len_number_now : ∀ ds M Q, sp_number_now ds M Q → ds.length = 3 := by
  rintro ds M Q ⟨s, row, place, rfl, _⟩
  rfl
theorem spec_number_now : ∀ ds M Q, sp_number_now ds M Q → t_number_now (retD Q) (startA 4 ds) M := by
  rintro ds M Q ⟨s, row, place, rfl, ok, k⟩
  have w1 := ok.head.width1
  have w2 := ok.head.width2
  have wl : s.head.par ≤ s.wide row ∧ s.wide row ≤ 1000 := by unfold Store.wide; split <;> omega
  unfold Store.numN at k
  decreasing_tactic
  refine ⟨s, row, rfl, ?_⟩
  decreasing_tactic
  refine ⟨row, place, s.wide row, s.head.par, rfl, wl.1, wl.2, ?_⟩
  by_cases h1 : s.wide row - s.head.par ≤ place
  · rw [if_pos h1] at k ⊢
    decreasing_tactic
    exact retEnd k
  · rw [if_neg h1] at k ⊢
    decreasing_tactic
    refine ⟨s, rfl, ok, ?_⟩
    by_cases h2 : s.kept ≤ row * (s.wide row - s.head.par) + place
    · rw [if_pos h2] at k
      decreasing_tactic
      exact retEnd k
    · rw [if_neg h2] at k
      decreasing_tactic
      refine ⟨s, _, rfl, ok, ?_⟩
      decreasing_tactic
      refine ⟨pl_spot 8 _, pl_spot 8 (row, place), ?_⟩
      by_cases h3 : s.spotN (row * (s.wide row - s.head.par) + place) = (row, place)
      · rw [if_pos h3] at k
        rw [dec_T (show spD (s.spotN (row * (s.wide row - s.head.par) + place)) = Dv.tup [dn row, dn place] from by rw [h3]; rfl)]
        decreasing_tactic
        exact retEnd k
      · rw [if_neg h3] at k
        rw [dec_F (p := spD (s.spotN (row * (s.wide row - s.head.par) + place)) = Dv.tup [dn row, dn place]) (fun e => h3 (spD_inj (y := (row, place)).mp e))]
        decreasing_tactic
        exact retEnd k
theorem ok_number_now (T : Tx K mg) : FnA P w K mg base 3 T.f_number_now T.d_number_now [("store" : Str), ("row" : Str), ("place" : Str)] sp_number_now :=
  fnA T.F_number_now sc_number_now len_number_now (fun cdv A outer s H E hr => by
    have hu1 := hu_of hr
    have hu64 := hr.units
    exact (ass_cons (as_set 3 sc_number_now.nd (ae_call (ok_block_at T) (hr.mono (by decide)) T.m_block_at T.F_block_at.kp T.b_block_at (aa_cons (av 1) (aa_cons (av 2) (aa_cons (ae_call (ok_row_width T) (hr.mono (by decide)) T.m_row_width T.F_row_width.kp T.b_row_width (aa_cons (av 0) (aa_cons (av 1) aa_nil))) (aa_cons (ae_ix hu1 (ae_ix hu1 (av 0) ae_int) ae_int) aa_nil))))))
    (ass_cons (as_if (AW.pt (aw_or (at_is (av 3) ae_non) (aw_or (at_ge (av 3) (ae_call (ok_blocks_kept T) (hr.mono (by decide)) T.m_blocks_kept T.F_blocks_kept.kp T.b_blocks_kept (aa_cons (av 0) aa_nil))) (aw_or1 (at_ne hu64 (ae_call (ok_spot_now T) (hr.mono (by decide)) T.m_spot_now T.F_spot_now.kp T.b_spot_now (aa_cons (av 0) (aa_cons (av 3) aa_nil))) (ae_tup (aa_cons (av 1) (aa_cons (av 2) aa_nil)))))))) (ass_one (as_ret ae_non)) ass_nil)
    (ass_one (as_ret (av 3)))))) spec_number_now
def sp_disk_of : ASp := fun ds M Q => ∃ row place width : Nat, ds = [dn row, dn place, dn width] ∧ 0 < width ∧ Q (dn ((row + place) % width)) M
def t_disk_of : RS := (aRet (aOp aMod (aOp aAdd (aVar 0) (aVar 1)) (aVar 2)))
theorem len_disk_of : ∀ ds M Q, sp_disk_of ds M Q → ds.length = 3 := by
  rintro ds M Q ⟨row, place, width, rfl, _⟩
  rfl
theorem spec_disk_of : ∀ ds M Q, sp_disk_of ds M Q → t_disk_of (retD Q) (startA 3 ds) M := by
  rintro ds M Q ⟨row, place, width, rfl, h, k⟩
  decreasing_tactic
  exact retEnd k
theorem ok_disk_of (T : Tx K mg) : FnA P w K mg base 1 T.f_disk_of T.d_disk_of [("row" : Str), ("place" : Str), ("width" : Str)] sp_disk_of :=
  fnA T.F_disk_of sc_disk_of len_disk_of (fun cdv A outer s H E hr => by
    have hu1 := hu_of hr
    have hu64 := hr.units
    exact (ass_one (as_ret (ae_mod (ae_add (av 0) (av 1)) (av 2))))) spec_disk_of
def sp_row_blocks : ASp := fun ds M Q => ∃ s : Store, ∃ row : Nat, ds = [s.d, dn row] ∧ s.Ok ∧ row < s.head.rows ∧ Q (.tup ((s.row row).map oD)) M
def tk_row_blocks_3 : RS := (aRet (aFn acTup (aCons (aVar 3) aNil)))
def tk_row_blocks_2 : RS := aSeq (aFor (aiR1 (aCons (aVar 2) aNil)) (agName 4) (aSeq (aAsg (aOp aIx (aOp aIx (aVar 0) (aC (.int 1))) (aCall sp_disk_of (aCons (aVar 1) (aCons (aVar 4) (aCons (aVar 2) aNil))))) (agName 5))
    (aDrop (aMth "list" amApp (aVar 3) (aCons (aIf (aB (aOp aIs (aVar 5) (aC .non))) (aC .non) (aOp aIx (aVar 5) (aVar 1))) aNil))))) (tk_row_blocks_3)
def tk_row_blocks_1 : RS := aSeq (aAsg (aLst aNil) (agName 3)) (tk_row_blocks_2)
def t_row_blocks : RS := aSeq (aAsg (aCall sp_row_width (aCons (aVar 0) (aCons (aVar 1) aNil))) (agName 2)) (tk_row_blocks_1)
theorem len_row_blocks : ∀ ds M Q, sp_row_blocks ds M Q → ds.length = 2 := by
  rintro ds M Q ⟨s, row, rfl, _⟩
  rfl
theorem spec_row_blocks : ∀ ds M Q, sp_row_blocks ds M Q → t_row_blocks (retD Q) (startA 6 ds) M := by
  rintro ds M Q ⟨s, row, rfl, ok, hr, k⟩
  have wp := ok.wide_pos row
  have wl := ok.wide_le row
  have wt := ok.wide_ten row
  decreasing_tactic
  refine ⟨s, row, rfl, ?_⟩
  decreasing_tactic
  intro r hr'
  decreasing_tactic
  refine forW_inv (fun i ρ M' => ∃ x4 x5, ρ = [some s.d, some (dn row), some (dn (s.wide row)), some (.ref r), x4, x5] ∧ M' r = some (.lst (((List.range i).map fun j => s.cell ((row + j) % s.wide row) row).map oD)) ∧ Sub M (mdel M' r)) ⟨none, none, rfl, mup_same, grow_new hr'⟩ (fun _ _ _ _ _ => trivial) ?_ ?_
  · rintro i d ρ M' hi ⟨x4, x5, rfl, hl, hs⟩
    obtain ⟨hi, rfl⟩ := rangeA_get hi
    rw [Int.zero_add]
    have hm : (row + i) % s.wide row < s.disks.length := Nat.lt_of_lt_of_le (Nat.mod_lt _ (by omega)) wl
    have fin : ∀ x4 x5, wk (fun ρ M' => ∃ x4 x5, ρ = [some s.d, some (dn row), some (dn (s.wide row)), some (.ref r), x4, x5] ∧ M' r = some (.lst (((List.range (i + 1)).map fun j => s.cell ((row + j) % s.wide row) row).map oD)) ∧ Sub M (mdel M' r))
        [some s.d, some (dn row), some (dn (s.wide row)), some (.ref r), x4, x5] (mup M' r (.lst (((List.range i).map fun j => s.cell ((row + j) % s.wide row) row).map oD ++ [oD (s.cell ((row + i) % s.wide row) row)]))) := fun x4 x5 => by
      refine wk_of ⟨_, _, rfl, ?_, grow_put hs⟩
      rw [mup_same, List.range_succ, List.map_append, List.map_append]
      rfl
    decreasing_tactic
    refine ⟨row, i, s.wide row, rfl, by omega, ?_⟩
    refine onS_of (HC.atI_nat (disk_at hm)) ?_
    cases e : s.disks.getD ((row + i) % s.wide row) none with
    | none =>
      rw [cell_lost e] at fin
      decreasing_tactic
      exact fin _ _
    | some bs =>
      rw [cell_there e] at fin
      have hb := (ok.disk (i := (row + i) % s.wide row) bs e).1
      decreasing_tactic
      refine onS_of (HC.atI_nat (block_at' (by omega))) ?_
      decreasing_tactic
      exact fin _ _
  · rintro ρ M' ⟨x4, x5, rfl, hl, hs⟩
    rw [rangeA_len, Int.toNat_natCast] at hl
    decreasing_tactic
    exact retSub (grow_sub hs) k
theorem ok_row_blocks (T : Tx K mg) : FnA P w K mg base 2 T.f_row_blocks T.d_row_blocks [("store" : Str), ("row" : Str)] sp_row_blocks :=
  fnA T.F_row_blocks sc_row_blocks len_row_blocks (fun cdv A outer s H E hr => by
    have hu1 := hu_of hr
    have hu64 := hr.units
    exact (ass_cons (as_set 2 sc_row_blocks.nd (ae_call (ok_row_width T) (hr.mono (by decide)) T.m_row_width T.F_row_width.kp T.b_row_width (aa_cons (av 0) (aa_cons (av 1) aa_nil))))
    (ass_cons (as_set 3 sc_row_blocks.nd (ae_lst aa_nil))
    (ass_cons (as_for PassesOwn.never rfl (ai_range1 T.n_range (aa_cons (av 2) aa_nil)) (ag_name 4 sc_row_blocks.nd) (ass_cons (as_set 5 sc_row_blocks.nd (ae_ix hu1 (ae_ix hu1 (av 0) ae_int) (ae_call (ok_disk_of T) (hr.mono (by decide)) T.m_disk_of T.F_disk_of.kp T.b_disk_of (aa_cons (av 1) (aa_cons (av 4) (aa_cons (av 2) aa_nil))))))
    (ass_one (as_expr (ae_append (av 3) (aa_cons (ae_if (at_is (av 5) ae_non) ae_non (ae_ix hu1 (av 5) (av 1))) aa_nil))))))
    (ass_one (as_ret (ae_callTy call_tuple_of abc_tup (aa_cons (av 3) aa_nil) T.n_tuple boot_tuple))))))) spec_row_blocks
def sp_law_step_right : ASp := fun ds M Q => ∃ h : Head, ∃ many : Nat, ds = [(laidS h many).d] ∧ h.Ok many ∧ Q (.bl true) M
def spK (x : Nat × Nat) : List Key := [.inl (x.1 : Int), .inl (x.2 : Int)]
theorem spK_inj {x y : Nat × Nat} (h : spK x = spK y) : x = y := by
  obtain ⟨a, b⟩ := x
  obtain ⟨c, d⟩ := y
  unfold spK at h
  injection h with h1 h2
  injection h2 with h2 h3
  injection h1 with h1
  injection h2 with h2
  simp only [] at h1 h2
  rw [show a = c by omega, show b = d by omega]
def standB (s : Store) : List (List Key × Dv) := (List.range s.kept).map fun n => (spK (s.spotN n), .bl true)
theorem standB_pairs (s : Store) : pairsT ((List.range s.kept).map fun n => .tup [spD (s.spotN n), .bl true]) = some (standB s) := by
  unfold standB
  generalize List.range s.kept = L
  induction L with
  | nil => rfl
  | cons n L ih =>
    rw [List.map_cons, List.map_cons]
    show ((keysD [dn (s.spotN n).1, dn (s.spotN n).2]).bind fun k => (pairsT (L.map fun n => .tup [spD (s.spotN n), .bl true])).map fun l => (k, .bl true) :: l) = _
    rw [ih]
    rfl
theorem standB_nodup {s : Store} (ok : s.Ok) : ((standB s).map (·.1)).Nodup := by
  unfold standB
  rw [List.map_map]
  refine List.pairwise_map.mpr (List.Pairwise.imp_of_mem ?_ List.nodup_range)
  intro a b ha hb ne e
  have h1 := num_spot ok (List.mem_range.mp ha)
  have h2 := num_spot ok (List.mem_range.mp hb)
  rw [spK_inj e, h2] at h1
  exact ne (Option.some.inj h1).symm
theorem standB_in {s : Store} {row place n : Nat} (e : s.numN row place = some n) : (getK (standB s) [.inl (row : Int), .inl (place : Int)]).isSome = true := by
  obtain ⟨h1, h2⟩ := num_some e
  unfold getK
  rw [Option.isSome_map, List.find?_isSome]
  refine ⟨(spK (s.spotN n), .bl true), List.mem_map.mpr ⟨n, List.mem_range.mpr h1, rfl⟩, ?_⟩
  rw [h2]
  exact decide_eq_true rfl
def tk_law_step_right_5 : RS := (aRet (aOp aIs (aCall sp_is_store (aCons (aVar 0) aNil)) (aC (.bl true))))
def tk_law_step_right_4 : RS := aSeq (aFor (aiEnum (aCons (aCall sp_law_laid (aCons (aVar 1) (aCons (aFn acLen (aCons (aOp aIx (aVar 0) (aC (.int 1))) aNil)) aNil))) aNil)) (agTup 2 (agCons (agName 5) (agCons (agName 9) agNil))) (aFor (aiR1 (aCons (aFn acLen (aCons (aVar 9) aNil)) aNil)) (agName 6) (aSeq (aAsg (aCall sp_number_now (aCons (aVar 0) (aCons (aVar 5) (aCons (aVar 6) aNil)))) (agName 3))
    (aIfS (aAnd (aB (aInT true (aCons (aVar 5) (aCons (aVar 6) aNil)) 8)) (aB (aOp aIsNot (aVar 3) (aC .non)))) (aRet (aC (.bl false))) aNext)))) (tk_law_step_right_5)
def tk_law_step_right_3 : RS := aSeq (aAsg (aFn acDictT (aCons (aFz (aLc (aiSeq (aVar 2)) (.nm 4) [4] aYes (aTup (aCons (aVar 4) (aCons (aC (.bl true)) aNil))))) aNil)) (agName 8)) (tk_law_step_right_4)
def tk_law_step_right_2 : RS := aSeq (aFor (aiEnum (aCons (aVar 2) aNil)) (agTup 2 (agCons (agName 3) (agCons (agName 4) agNil))) (aSeq (aAsg (aCall sp_spot_now (aCons (aVar 0) (aCons (aVar 3) aNil))) (agTup 2 (agCons (agName 5) (agCons (agName 6) agNil))))
    (aSeq (aAsg (aOp aIx (aCall sp_row_blocks (aCons (aVar 0) (aCons (aVar 5) aNil))) (aVar 6)) (agName 7))
    (aIfS (aOr (aB (aOp aNe (aTup (aCons (aVar 5) (aCons (aVar 6) aNil))) (aVar 4))) (aB (aOp aNe (aVar 7) (aCall sp_law_told (aCons (aVar 3) (aCons (aOp aIx (aVar 1) (aC (.int 1))) aNil)))))) (aRet (aC (.bl false))) aNext)))) (tk_law_step_right_3)
def tk_law_step_right_1 : RS := aSeq (aAsg (aCall sp_law_spots (aCons (aVar 1) aNil)) (agName 2)) (tk_law_step_right_2)
def t_law_step_right : RS := aSeq (aAsg (aOp aIx (aVar 0) (aC (.int 0))) (agName 1)) (tk_law_step_right_1)
theorem len_law_step_right : ∀ ds M Q, sp_law_step_right ds M Q → ds.length = 1 := by
  rintro ds M Q ⟨h, many, rfl, _⟩
  rfl
theorem spec_law_step_right : ∀ ds M Q, sp_law_step_right ds M Q → t_law_step_right (retD Q) (startA 10 ds) M := by
  rintro ds M Q ⟨h, many, rfl, ok, k⟩
  have sok := laid_ok ok
  have md : (laidS h many).disks.length = many := by simp [laidS]
  have z2 := ok.size2
  have hh : (laidS h many).head = h := rfl
  have hcell : ∀ n, n < (laidS h many).kept → (laidS h many).cell ((((laidS h many).spotN n).1 + ((laidS h many).spotN n).2) % (laidS h many).wide ((laidS h many).spotN n).1) ((laidS h many).spotN n).1 = some (toldB n h.size) := fun n hn => by
    obtain ⟨a1, a2, a3, a4⟩ := spot_in sok hn
    have wl := sok.wide_le ((laidS h many).spotN n).1
    rw [md] at wl
    have dlt : (((laidS h many).spotN n).1 + ((laidS h many).spotN n).2) % (laidS h many).wide ((laidS h many).spotN n).1 < many := Nat.lt_of_lt_of_le (Nat.mod_lt _ (by omega)) (by omega)
    have st := st_spot ok (Nat.le_refl _) hn
    have a1 : ((laidS h many).spotN n).1 < h.rows := a1
    unfold Store.cell
    rw [show (laidS h many).disks = (List.range many).map fun d => some ((List.range h.rows).map fun r => some (stL h h.s0.kept d r)) from rfl]
    rw [List.getD_eq_getElem?_getD, List.getElem?_map, List.getElem?_range dlt]
    simp only [Option.map_some, Option.getD_some]
    rw [List.getD_eq_getElem?_getD, List.getElem?_map, List.getElem?_range a1]
    exact congrArg some st
  have i0 : atI [h.d, .tup ((laidS h many).disks.map kD), .tup ((laidS h many).journal.map nD)] 0 = some h.d := rfl
  have i1 : atI [h.d, .tup ((laidS h many).disks.map kD), .tup ((laidS h many).journal.map nD)] 1 = some (.tup ((laidS h many).disks.map kD)) := rfl
  have j1 : atI [dn h.par, dn h.size, dn h.rows, dn h.width, dn h.moved, dn h.spares] 1 = some (dn h.size) := rfl
  have dl : ((laidS h many).disks.map kD).length = (laidS h many).disks.length := by simp
  have kl := laid_kept ok
  have jl : (laidS h many).journal.length ≤ 1000000 := by simp [laidS]
  have ekl : (laidS h many).kept = h.s0.kept := rfl
  have sd : (laidS h many).d = .tup [h.d, .tup ((laidS h many).disks.map kD), .tup ((laidS h many).journal.map nD)] := rfl
  generalize laidS h many = s at *
  subst hh
  decreasing_tactic
  ((repeat ((conv => whnf); simp only [lenA_r, itemsA_r, lstA_r, lstC_s, Option.map_some, atI_0, ixN_0, mup_same, mup_mup, true_and, and_true, List.map_cons, List.map_nil, List.length_cons, List.length_map, List.length_nil, List.set_cons_zero, List.set_cons_succ, List.cons_append, List.nil_append, List.getElem?_cons_zero, List.getElem?_cons_succ, i0])); (conv => whnf))
  refine ⟨s, rfl, sok, ?_⟩
  decreasing_tactic
  have base : HC.Sub M M := HC.Sub.refl M
  refine forW_inv (fun i ρ M2 => ∃ x3 x4 x5 x6 x7 x8 x9, ρ = [some s.d, some s.head.d, some (.rol ((List.range s.kept).map fun n => spD (s.spotN n))), x3, x4, x5, x6, x7, x8, x9] ∧ M2 = M) ⟨none, none, none, none, none, none, none, rfl, rfl⟩ (fun _ _ _ _ _ => rfl) ?_ ?_
  · rintro n dd ρ M2 hi ⟨x3, x4, x5, x6, x7, x8, x9, rfl, rfl⟩
    obtain ⟨f, hf, rfl⟩ := enumD_get' hi
    have hn : n < s.kept := by
      have := (List.getElem?_eq_some_iff.mp hf).1
      simpa using this
    rw [List.getElem?_map, List.getElem?_range hn] at hf
    have ef : f = spD (s.spotN n) := (Option.some.inj hf).symm
    obtain ⟨a1, a2, a3, a4⟩ := spot_in sok hn
    have hc := hcell n hn
    obtain ⟨row, place, es⟩ : ∃ row place, s.spotN n = (row, place) := ⟨_, _, rfl⟩
    rw [es] at a1 a2 a3 a4 hc
    simp only [] at a1 a2 a3 a4 hc
    have rg : ((s.row row).map oD)[place]? = some (bD (toldB n s.head.size)) := by
      rw [List.getElem?_map, Store.row, List.getElem?_map, List.getElem?_range (by omega)]
      simp only [Option.map_some]
      rw [hc]
      rfl
    have rat : atI ((s.row row).map oD) (place : Int) = some (bD (toldB n s.head.size)) := HC.atI_nat rg
    rw [es] at ef
    subst ef
    decreasing_tactic
    refine ⟨s, n, rfl, sok, ?_⟩
    rw [es]
    decreasing_tactic
    refine ⟨s, row, rfl, sok, a1, ?_⟩
    decreasing_tactic
    ((repeat ((conv => whnf); simp only [lenA_r, itemsA_r, lstA_r, lstC_s, Option.map_some, atI_0, ixN_0, mup_same, mup_mup, true_and, and_true, List.map_cons, List.map_nil, List.length_cons, List.length_map, List.length_nil, List.set_cons_zero, List.set_cons_succ, List.cons_append, List.nil_append, List.getElem?_cons_zero, List.getElem?_cons_succ, rat])); (conv => whnf))
    refine ⟨le_line (by decide), pl_spot 8 (row, place), pl_spot 8 (row, place), ?_⟩
    rw [dec_T (p := Dv.tup [dn row, dn place] = spD (row, place)) rfl]
    decreasing_tactic
    ((repeat ((conv => whnf); simp only [lenA_r, itemsA_r, lstA_r, lstC_s, Option.map_some, atI_0, ixN_0, mup_same, mup_mup, true_and, and_true, List.map_cons, List.map_nil, List.length_cons, List.length_map, List.length_nil, List.set_cons_zero, List.set_cons_succ, List.cons_append, List.nil_append, List.getElem?_cons_zero, List.getElem?_cons_succ, j1])); (conv => whnf))
    refine ⟨n, s.head.size, rfl, z2, ?_⟩
    decreasing_tactic
    refine ⟨pl_block 8 _, pl_block 8 _, ?_⟩
    rw [dec_T rfl]
    decreasing_tactic
    exact wk_of ⟨_, _, _, _, _, _, _, rfl, rfl⟩
  · rintro ρ M2 ⟨x3, x4, x5, x6, x7, x8, x9, rfl, rfl⟩
    decreasing_tactic
    refine lcM (fun d => .tup [d, .bl true]) (fun _ => rfl) (by simp; exact le_line (by omega)) (fun dd hdd M' N hs hn => ⟨_, rfl, ?_⟩) ?_
    · decreasing_tactic
      exact hn
    rw [show ((List.range s.kept).map fun n => spD (s.spotN n)).map (fun d => Dv.tup [d, .bl true]) = (List.range s.kept).map fun n => .tup [spD (s.spotN n), .bl true] from by rw [List.map_map]; rfl]
    decreasing_tactic
    rw [standB_pairs]
    refine ⟨standB_nodup sok, fun r hr => ?_⟩
    have l1 : mup M2 r (.dit (standB s)) r = some (.dit (standB s)) := mup_same
    have s1 : HC.Sub M2 (mup M2 r (.dit (standB s))) := HC.Sub.new hr
    generalize mup M2 r (.dit (standB s)) = M3 at l1 s1 ⊢
    decreasing_tactic
    ((repeat ((conv => whnf); simp only [lenA_r, itemsA_r, lstA_r, lstC_s, Option.map_some, atI_0, ixN_0, mup_same, mup_mup, true_and, and_true, List.map_cons, List.map_nil, List.length_cons, List.length_map, List.length_nil, List.set_cons_zero, List.set_cons_succ, List.cons_append, List.nil_append, List.getElem?_cons_zero, List.getElem?_cons_succ, i1, dl])); (conv => whnf))
    refine ⟨s, rfl, sok, ?_⟩
    decreasing_tactic
    refine forW_inv (fun i ρ M' => ∃ x3 x5 x6 x9, ρ = [some s.d, some s.head.d, some (.rol ((List.range s.kept).map fun n => spD (s.spotN n))), x3, x4, x5, x6, x7, some (.ref r), x9] ∧ M' = M3) ⟨_, _, _, _, rfl, rfl⟩ (fun _ _ _ _ _ => rfl) ?_ ?_
    · rintro row dd ρ M' hi ⟨x3, x5, x6, x9, rfl, rfl⟩
      obtain ⟨f, hf, rfl⟩ := enumD_get' hi
      have hr2 : row < s.head.rows := by
        have := (List.getElem?_eq_some_iff.mp hf).1
        simpa [laidD] using this
      have ef : f = .rol (turnL (s.wide row) row) := by
        simp [laidD, hr2] at hf
        exact hf.symm
      subst ef
      have tl := turnL_len (w := s.wide row) (r := row)
      have wt := sok.wide_ten row
      decreasing_tactic
      rw [tl]
      decreasing_tactic
      refine forW_inv (fun i ρ M2 => ∃ x3 x6, ρ = [some s.d, some s.head.d, some (.rol ((List.range s.kept).map fun n => spD (s.spotN n))), x3, x4, some (dn row), x6, x7, some (.ref r), some (.rol (turnL (s.wide row) row))] ∧ M2 = M') ⟨_, _, rfl, rfl⟩ (fun _ _ _ _ _ => trivial) ?_ ?_
      · rintro pl dd ρ M2 hi ⟨x3, x6, rfl, rfl⟩
        obtain ⟨hp, rfl⟩ := rangeA_get hi
        rw [Int.zero_add]
        decreasing_tactic
        refine ⟨s, row, pl, rfl, sok, ?_⟩
        decreasing_tactic
        ((repeat ((conv => whnf); simp only [lenA_r, itemsA_r, lstA_r, lstC_s, Option.map_some, atI_0, ixN_0, mup_same, mup_mup, true_and, and_true, List.map_cons, List.map_nil, List.length_cons, List.length_map, List.length_nil, List.set_cons_zero, List.set_cons_succ, List.cons_append, List.nil_append, List.getElem?_cons_zero, List.getElem?_cons_succ, l1])); (conv => whnf))
        cases e : s.numN row pl with
        | none =>
          generalize negB true (getK (standB s) [Sum.inl (row : Int), Sum.inl (pl : Int)]).isSome = bb
          cases bb
          · decreasing_tactic
            exact wk_of ⟨_, _, rfl, rfl⟩
          · decreasing_tactic
            exact wk_of ⟨_, _, rfl, rfl⟩
        | some n =>
          have hin := standB_in e
          rw [show negB true (getK (standB s) [Sum.inl (row : Int), Sum.inl (pl : Int)]).isSome = false from by rw [hin]; rfl]
          decreasing_tactic
          exact wk_of ⟨_, _, rfl, rfl⟩
      · rintro ρ M2 ⟨x3, x6, rfl, rfl⟩
        exact wk_of ⟨_, _, _, _, rfl, rfl⟩
    · rintro ρ M' ⟨x3, x5, x6, x9, rfl, rfl⟩
      decreasing_tactic
      refine ⟨s.d, rfl, .inl ⟨1, pn_store (sok.fit jl), ?_⟩⟩
      rw [storeB_ok sok]
      decreasing_tactic
      exact retSub s1 k
theorem ok_law_step_right (T : Tx K mg) : FnA P w K mg base 7 T.f_law_step_right T.d_law_step_right [("_law_store" : Str)] sp_law_step_right :=
  fnA T.F_law_step_right sc_law_step_right len_law_step_right (fun cdv A outer s H E hr => by
    have hu1 := hu_of hr
    have hu64 := hr.units
    exact (ass_cons (as_set 1 sc_law_step_right.nd (ae_ix hu1 (av 0) ae_int))
    (ass_cons (as_set 2 sc_law_step_right.nd (ae_call (ok_law_spots T) (hr.mono (by decide)) T.m_law_spots T.F_law_spots.kp T.b_law_spots (aa_cons (av 1) aa_nil)))
    (ass_cons (as_for PassesOwn.never rfl (ai_enum T.n_enumerate (aa_cons (av 2) aa_nil)) (ag_tup rfl (ags_cons (ag_name 3 sc_law_step_right.nd) (ags_cons (ag_name 4 sc_law_step_right.nd) ags_nil))) (ass_cons (as_asg (ae_call (ok_spot_now T) (hr.mono (by decide)) T.m_spot_now T.F_spot_now.kp T.b_spot_now (aa_cons (av 0) (aa_cons (av 3) aa_nil))) (ag_tup rfl (ags_cons (ag_name 5 sc_law_step_right.nd) (ags_cons (ag_name 6 sc_law_step_right.nd) ags_nil))))
    (ass_cons (as_set 7 sc_law_step_right.nd (ae_ix hu1 (ae_call (ok_row_blocks T) (hr.mono (by decide)) T.m_row_blocks T.F_row_blocks.kp T.b_row_blocks (aa_cons (av 0) (aa_cons (av 5) aa_nil))) (av 6)))
    (ass_one (as_if (AW.pt (aw_or (at_ne hu64 (ae_tup (aa_cons (av 5) (aa_cons (av 6) aa_nil))) (av 4)) (aw_or1 (at_ne hu64 (av 7) (ae_call (ok_law_told T) (hr.mono (by decide)) T.m_law_told T.F_law_told.kp T.b_law_told (aa_cons (av 3) (aa_cons (ae_ix hu1 (av 1) ae_int) aa_nil))))))) (ass_one (as_ret ae_bl)) ass_nil)))))
    (ass_cons (as_set 8 sc_law_step_right.nd (ae_callTy (call_dictT rfl (hu2_of hr)) abc_dictT (aa_cons (ae_fz (ae_lc (own := [(("_law_spot" : Str), 4)]) (tg := (.nm 4)) (by decide) rfl sc_law_step_right.nd (ai_seq (av 2)) (blkOk_by (own := [(("_law_spot" : Str), 4)]) (N := N_law_step_right) (sc := defScope s_law_step_right) (by decide +kernel)) (fun _ _ _ _ _ => (pgt_name 4 sc_law_step_right.nd)) (fun _ _ _ _ _ => ats_nil) (fun _ _ _ _ _ => (ae_tup (aa_cons (av 4) (aa_cons ae_bl aa_nil)))))) aa_nil) T.n_dict boot_dict))
    (ass_cons (as_for PassesOwn.never rfl (ai_enum T.n_enumerate (aa_cons (ae_call (ok_law_laid T) (hr.mono (by decide)) T.m_law_laid T.F_law_laid.kp T.b_law_laid (aa_cons (av 1) (aa_cons (ae_callB call_len abc_len (aa_cons (ae_ix hu1 (av 0) ae_int) aa_nil) T.n_len boot_len) aa_nil))) aa_nil)) (ag_tup rfl (ags_cons (ag_name 5 sc_law_step_right.nd) (ags_cons (ag_name 9 sc_law_step_right.nd) ags_nil))) (ass_one (as_for PassesOwn.never rfl (ai_range1 T.n_range (aa_cons (ae_callB call_len abc_len (aa_cons (av 9) aa_nil) T.n_len boot_len) aa_nil)) (ag_name 6 sc_law_step_right.nd) (ass_cons (as_set 3 sc_law_step_right.nd (ae_call (ok_number_now T) (hr.mono (by decide)) T.m_number_now T.F_number_now.kp T.b_number_now (aa_cons (av 0) (aa_cons (av 5) (aa_cons (av 6) aa_nil)))))
    (ass_one (as_if (AW.pt (aw_and (at_notinT hu1 8 (aa_cons (av 5) (aa_cons (av 6) aa_nil))) (aw_and1 (at_isnot (av 3) ae_non)))) (ass_one (as_ret ae_bl)) ass_nil))))))
    (ass_one (as_ret (ae_is (ae_call (ok_is_store T) (hr.mono (by decide)) T.m_is_store T.F_is_store.kp T.b_is_store (aa_cons (av 0) aa_nil)) ae_bl))))))))) spec_law_step_right
def sp_law_store_laid : ASp := fun ds M Q => ∃ h : Head, ∃ many : Nat, ds = [h.d, dn many] ∧ h.Ok many ∧ Q (laidS h many).d M
theorem wkM_of {N : Ms → Prop} {M : Ms} (h : N M) : wkM N M := ⟨M, HC.Sub.refl M, h⟩
structure DL (M M' : Ms) (D : Addr) (rows : Nat) (qs : List Addr) (f : Nat → Nat → Blk) : Prop where
  outer : M' D = some (.lst (qs.map Dv.ref))
  inner : ∀ d q, qs[d]? = some q → M' q = some (.lst ((List.range rows).map fun r => bD (f d r)))
  nd : qs.Nodup
  new : ∀ q ∈ qs, q ≠ D ∧ M q = none
  sub : ∀ a c, M a = some c → M' a = some c
theorem DL.add {M M' : Ms} {D q : Addr} {rows : Nat} {qs : List Addr} {f : Nat → Nat → Blk} (h : DL M M' D rows qs f) (hD : M D = none) (hq : M' q = none) :
    DL M (mup (mup M' q (.lst ((List.range rows).map fun r => bD (f qs.length r)))) D (.lst ((qs ++ [q]).map Dv.ref))) D rows (qs ++ [q]) f := by
  have qD : q ≠ D := fun e => by rw [e, h.outer] at hq; cases hq
  have qn : ∀ x ∈ qs, x ≠ q := fun x hx e => by
    obtain ⟨d, hd⟩ := List.getElem?_of_mem hx
    rw [e] at hd
    rw [h.inner d q hd] at hq
    cases hq
  refine ⟨mup_same, fun d x hx => ?_, ?_, fun x hx => ?_, fun a c e => ?_⟩
  · by_cases hd : d < qs.length
    · rw [List.getElem?_append_left hd] at hx
      have hm := List.mem_of_getElem? hx
      rw [mup_ne (h.new x hm).1, mup_ne (qn x hm)]
      exact h.inner d x hx
    · rw [List.getElem?_append_right (by omega)] at hx
      have e0 : d - qs.length = 0 := by
        rcases Nat.eq_zero_or_pos (d - qs.length) with e | e
        · exact e
        · rw [List.getElem?_eq_none (by simp only [List.length_singleton]; omega)] at hx; cases hx
      rw [e0] at hx
      cases hx
      rw [show d = qs.length by omega, mup_ne qD, mup_same]
  · refine List.nodup_append.mpr ⟨h.nd, by simp, fun a ha b hb e => ?_⟩
    rw [List.mem_singleton.mp hb] at e
    exact qn a ha e
  · rcases List.mem_append.mp hx with hx | hx
    · exact h.new x hx
    · rw [List.mem_singleton.mp hx]
      refine ⟨qD, ?_⟩
      cases e : M q with
      | none => rfl
      | some c => rw [h.sub q c e] at hq; cases hq
  · have aD : a ≠ D := fun z => by rw [z, hD] at e; cases e
    have aq : a ≠ q := fun z => by rw [z] at e; rw [h.sub q c e] at hq; cases hq
    rw [mup_ne aD, mup_ne aq]
    exact h.sub a c e
theorem DL.put {M M' : Ms} {D q : Addr} {rows d r : Nat} {qs : List Addr} {f g : Nat → Nat → Blk} (h : DL M M' D rows qs f) (hd : qs[d]? = some q) (hg : ∀ d' r', g d' r' = if r = r' ∧ d = d' then g d r else f d' r') :
    DL M (mup M' q (.lst (((List.range rows).map fun r => bD (f d r)).set r (bD (g d r))))) D rows qs g := by
  have hm := List.mem_of_getElem? hd
  refine ⟨by rw [mup_ne (h.new q hm).1.symm]; exact h.outer, fun d' x hx => ?_, h.nd, h.new, fun a c e => ?_⟩
  · by_cases e : d' = d
    · subst e
      rw [hd] at hx
      cases hx
      rw [mup_same]
      congr 2
      refine List.ext_getElem? fun i => ?_
      rw [List.getElem?_set, List.getElem?_map, List.getElem?_map]
      by_cases hi : i < rows
      · rw [List.getElem?_range hi]
        by_cases e : r = i
        · subst e
          rw [if_pos rfl, if_pos (by simpa using hi)]
          rfl
        · rw [if_neg e]
          show some (bD (f d' i)) = some (bD (g d' i))
          rw [hg d' i, if_neg (fun z => e z.1)]
      · rw [List.getElem?_eq_none (l := List.range rows) (by simpa using hi)]
        by_cases e : r = i
        · subst e
          rw [if_pos rfl, if_neg (by simpa using hi)]
          rfl
        · rw [if_neg e]
          rfl
    · have xq : x ≠ q := fun z => by
        subst z
        exact e ((List.getElem?_inj (List.getElem?_eq_some_iff.mp hx).1 h.nd).mp (hx.trans hd.symm))
      rw [mup_ne xq, h.inner d' x hx]
      congr 3
      funext r'
      rw [hg d' r', if_neg (fun z => e z.2.symm)]
  · have aq : a ≠ q := fun z => by rw [z, (h.new q hm).2] at e; cases e
    rw [mup_ne aq]
    exact h.sub a c e
def tk_law_store_laid_4 : RS := (aRet (aTup (aCons (aVar 0) (aCons (aFn acTup (aCons (aFz (aLc (aiSeq (aFz (aVar 4))) (.nm 7) [7] aYes (aFn acTup (aCons (aVar 7) aNil)))) aNil)) (aCons (aTup aNil) aNil)))))
def tk_law_store_laid_3 : RS := aSeq (aFor (aiEnum (aCons (aVar 2) aNil)) (agTup 2 (agCons (agName 5) (agCons (agName 6) agNil))) (aAsg (aCall sp_law_told (aCons (aVar 5) (aCons (aOp aIx (aVar 0) (aC (.int 1))) aNil))) (agSub (aOp aIx (aVar 4) (aOp aIx (aOp aIx (aVar 3) (aOp aIx (aVar 6) (aC (.int 0)))) (aOp aIx (aVar 6) (aC (.int 1))))) (aOp aIx (aVar 6) (aC (.int 0))) asSet))) (tk_law_store_laid_4)
def tk_law_store_laid_2 : RS := aSeq (aAsg (aLc (aiR1 (aCons (aVar 1) aNil)) (.nm 7) [7] aYes (aLc (aiR1 (aCons (aOp aIx (aVar 0) (aC (.int 2))) aNil)) (.nm 8) [8] aYes (aOp aMul (aTup (aCons (aC (.int 251)) aNil)) (aOp aIx (aVar 0) (aC (.int 1)))))) (agName 4)) (tk_law_store_laid_3)
def tk_law_store_laid_1 : RS := aSeq (aAsg (aCall sp_law_laid (aCons (aVar 0) (aCons (aVar 1) aNil))) (agName 3)) (tk_law_store_laid_2)
def t_law_store_laid : RS := aSeq (aAsg (aCall sp_law_spots (aCons (aVar 0) aNil)) (agName 2)) (tk_law_store_laid_1)
theorem len_law_store_laid : ∀ ds M Q, sp_law_store_laid ds M Q → ds.length = 2 := by
  rintro ds M Q ⟨h, many, rfl, _⟩
  rfl
theorem spec_law_store_laid : ∀ ds M Q, sp_law_store_laid ds M Q → t_law_store_laid (retD Q) (startA 9 ds) M := by
  rintro ds M Q ⟨h, many, rfl, ok, k⟩
  have sok := laid_ok ok
  have md : (laidS h many).disks.length = many := by simp [laidS]
  have m10 := sok.many_le
  rw [md] at m10
  have r2 := ok.rows2
  have z1 := ok.size1
  have z2 := ok.size2
  have kl := laid_kept ok
  have j1 : atI [dn h.par, dn h.size, dn h.rows, dn h.width, dn h.moved, dn h.spares] 1 = some (dn h.size) := rfl
  have j2 : atI [dn h.par, dn h.size, dn h.rows, dn h.width, dn h.moved, dn h.spares] 2 = some (dn h.rows) := rfl
  decreasing_tactic
  refine ⟨laidS h many, rfl, sok, ?_⟩
  decreasing_tactic
  refine ⟨laidS h many, by rw [md]; rfl, sok, ?_⟩
  decreasing_tactic
  intro D hD
  refine lcW_inv (fun i M' => ∃ qs : List Addr, qs.length = i ∧ DL M M' D h.rows qs (stL h 0)) ⟨[], rfl, mup_same, (fun d q e => by simp at e), List.nodup_nil, (fun q hq => by cases hq), fun a c e => HC.Sub.new hD a c e⟩ (fun _ _ _ _ => trivial) ?_ ?_
  · rintro i dd M' hi ⟨qs, ql, dl⟩
    obtain ⟨hi, rfl⟩ := rangeA_get hi
    rw [Int.zero_add]
    refine ⟨_, rfl, ?_⟩
    decreasing_tactic
    intro q hq
    ((repeat ((conv => whnf); simp only [lenA_r, itemsA_r, lstA_r, lstC_s, Option.map_some, atI_0, ixN_0, mup_same, mup_mup, true_and, and_true, List.map_cons, List.map_nil, List.length_cons, List.length_map, List.length_nil, List.set_cons_zero, List.set_cons_succ, List.cons_append, List.nil_append, List.getElem?_cons_zero, List.getElem?_cons_succ, j2])); (conv => whnf))
    refine lcW_idx (fun r => bD (stL h 0 i r)) (fun _ => trivial) (by rw [rangeA_len]; exact le_line (by omega)) (fun r dd hdd acc N hN => ?_) ?_
    · refine ⟨_, rfl, ?_⟩
      decreasing_tactic
      refine ⟨acc, mup_same, hN.1, ?_⟩
      rw [mup_mup]
      refine wkM_of ?_
      have e : (List.replicate ((h.size : Int)).toNat [Dv.int 251]).flatten = (stL h 0 i r).map fun n => dn n := by
        rw [Int.toNat_natCast, stL]
        rw [List.map_replicate]
        generalize h.size = n
        induction n with
        | zero => rfl
        | succ n ih => rw [List.replicate_succ, List.replicate_succ, List.flatten_cons, ih]; rfl
      rw [e]
      exact hN.2
    · have qD : q ≠ D := fun e => by rw [e, dl.outer] at hq; cases hq
      refine ⟨qs.map Dv.ref, by rw [mup_ne qD.symm]; exact dl.outer, lt_line (by simp; omega), wkM_of ?_⟩
      rw [rangeA_len, Int.toNat_natCast]
      have := dl.add hD hq
      rw [ql, List.map_append] at this
      exact ⟨qs ++ [q], by simp [ql], this⟩
  · rintro M' ⟨qs, ql, dl⟩
    rw [rangeA_len, Int.toNat_natCast] at ql
    decreasing_tactic
    refine forW_inv (fun i ρ M2 => ∃ x5 x6 x7 x8, ρ = [some h.d, some (dn many), some (.rol ((List.range (laidS h many).kept).map fun n => spD ((laidS h many).spotN n))), some (.rol (laidD (laidS h many) h.rows)), some (.ref D), x5, x6, x7, x8] ∧ DL M M2 D h.rows qs (stL h i)) ⟨none, none, none, none, rfl, dl⟩ (fun _ _ _ _ _ => rfl) ?_ ?_
    · rintro n dd ρ M2 hi ⟨x5, x6, x7, x8, rfl, dl⟩
      obtain ⟨f, hf, rfl⟩ := enumD_get' hi
      have hn : n < (laidS h many).kept := by
        have := (List.getElem?_eq_some_iff.mp hf).1
        simpa using this
      rw [List.getElem?_map, List.getElem?_range hn] at hf
      cases hf
      obtain ⟨a1, a2, a3, a4⟩ := spot_in sok hn
      have wl := sok.wide_le ((laidS h many).spotN n).1
      rw [md] at wl
      have a1 : ((laidS h many).spotN n).1 < h.rows := a1
      have ea1 : ((laidS h many).spotN n).1 = (h.s0.spotN n).1 := rfl
      have ea2 : ((laidS h many).spotN n).2 = (h.s0.spotN n).2 := rfl
      have ea3 : (laidS h many).wide ((laidS h many).spotN n).1 = h.s0.wide (h.s0.spotN n).1 := rfl
      have b1 : atI (laidD (laidS h many) h.rows) ((((laidS h many).spotN n).1 : Nat) : Int) = some (.rol (turnL ((laidS h many).wide ((laidS h many).spotN n).1) ((laidS h many).spotN n).1)) := HC.atI_nat (by simp [laidD, a1])
      have b2 : atI (turnL ((laidS h many).wide ((laidS h many).spotN n).1) ((laidS h many).spotN n).1) ((((laidS h many).spotN n).2 : Nat) : Int) = some (dn ((((laidS h many).spotN n).1 + ((laidS h many).spotN n).2) % (laidS h many).wide ((laidS h many).spotN n).1)) := HC.atI_nat (turnL_get (by omega))
      have dlt : (((laidS h many).spotN n).1 + ((laidS h many).spotN n).2) % (laidS h many).wide ((laidS h many).spotN n).1 < qs.length := Nat.lt_of_lt_of_le (Nat.mod_lt _ (by omega)) (by omega)
      obtain ⟨q, hq⟩ : ∃ q, qs[(((laidS h many).spotN n).1 + ((laidS h many).spotN n).2) % (laidS h many).wide ((laidS h many).spotN n).1]? = some q := ⟨_, List.getElem?_eq_getElem dlt⟩
      have b3 : atI (qs.map Dv.ref) ((((((laidS h many).spotN n).1 + ((laidS h many).spotN n).2) % (laidS h many).wide ((laidS h many).spotN n).1 : Nat)) : Int) = some (.ref q) := HC.atI_nat (by rw [List.getElem?_map, hq]; rfl)
      have lD := dl.outer
      have lq := dl.inner _ q hq
      decreasing_tactic
      ((repeat ((conv => whnf); simp only [lenA_r, itemsA_r, lstA_r, lstC_s, Option.map_some, atI_0, ixN_0, mup_same, mup_mup, true_and, and_true, List.map_cons, List.map_nil, List.length_cons, List.length_map, List.length_nil, List.set_cons_zero, List.set_cons_succ, List.cons_append, List.nil_append, List.getElem?_cons_zero, List.getElem?_cons_succ, j1])); (conv => whnf))
      refine ⟨n, h.size, rfl, z2, ?_⟩
      decreasing_tactic
      have b4 : ixN (List.range h.rows).length ((((laidS h many).spotN n).1 : Nat) : Int) = some ((laidS h many).spotN n).1 := HC.ixN_nat (by rw [List.length_range]; exact a1)
      ((repeat ((conv => whnf); simp only [lenA_r, itemsA_r, lstA_r, lstC_s, Option.map_some, atI_0, ixN_0, mup_same, mup_mup, true_and, and_true, List.map_cons, List.map_nil, List.length_cons, List.length_map, List.length_nil, List.set_cons_zero, List.set_cons_succ, List.cons_append, List.nil_append, List.getElem?_cons_zero, List.getElem?_cons_succ, lD, b1, b2, b3, lq, b4])); (conv => whnf))
      have e0 : stL h (n + 1) ((((laidS h many).spotN n).1 + ((laidS h many).spotN n).2) % (laidS h many).wide ((laidS h many).spotN n).1) ((laidS h many).spotN n).1 = toldB n h.size := by rw [st_put]; exact if_pos ⟨rfl, rfl⟩
      have dp := dl.put (g := stL h (n + 1)) (r := ((laidS h many).spotN n).1) hq fun d' r' => by
        rw [st_put (d := d') (r := r')]
        by_cases c : (h.s0.spotN n).1 = r' ∧ ((h.s0.spotN n).1 + (h.s0.spotN n).2) % h.s0.wide (h.s0.spotN n).1 = d'
        · rw [if_pos c, e0, if_pos (show ((laidS h many).spotN n).1 = r' ∧ (((laidS h many).spotN n).1 + ((laidS h many).spotN n).2) % (laidS h many).wide ((laidS h many).spotN n).1 = d' from c)]
        · rw [if_neg c, if_neg (show ¬ (((laidS h many).spotN n).1 = r' ∧ (((laidS h many).spotN n).1 + ((laidS h many).spotN n).2) % (laidS h many).wide ((laidS h many).spotN n).1 = d') from c)]
      rw [e0] at dp
      exact wk_of ⟨_, _, _, _, rfl, dp⟩
    · rintro ρ M2 ⟨x5, x6, x7, x8, rfl, dl⟩
      rw [enumD_len, List.length_map, List.length_range] at dl
      have lD := dl.outer
      decreasing_tactic
      ((repeat ((conv => whnf); simp only [lenA_r, itemsA_r, lstA_r, lstC_s, Option.map_some, atI_0, ixN_0, mup_same, mup_mup, true_and, and_true, List.map_cons, List.map_nil, List.length_cons, List.length_map, List.length_nil, List.set_cons_zero, List.set_cons_succ, List.cons_append, List.nil_append, List.getElem?_cons_zero, List.getElem?_cons_succ, lD])); (conv => whnf))
      have sM : HC.Sub M (mdel M2 D) := fun a c e => by
        rw [mdel_ne (fun z => by rw [z, hD] at e; cases e)]
        exact dl.sub a c e
      refine ⟨mdel M2 D, mdel_same, mdel_sub, ?_⟩
      decreasing_tactic
      refine lcF (fun d => .tup ((List.range h.rows).map fun r => bD (stL h h.s0.kept d r))) (fun _ => rfl) (by simp; exact le_line (by omega)) (fun i dd hdd M' N hs hn => ?_) ?_
      · rw [List.getElem?_map] at hdd
        obtain ⟨q, hq, rfl⟩ := Option.map_eq_some_iff.mp hdd
        have lq : M' q = some (.lst ((List.range h.rows).map fun r => bD (stL h h.s0.kept i r))) := hs q _ (by rw [mdel_ne (dl.new q (List.mem_of_getElem? hq)).1]; exact dl.inner i q hq)
        refine ⟨_, rfl, ?_⟩
        decreasing_tactic
        ((repeat ((conv => whnf); simp only [lenA_r, itemsA_r, lstA_r, lstC_s, Option.map_some, atI_0, ixN_0, mup_same, mup_mup, true_and, and_true, List.map_cons, List.map_nil, List.length_cons, List.length_map, List.length_nil, List.set_cons_zero, List.set_cons_succ, List.cons_append, List.nil_append, List.getElem?_cons_zero, List.getElem?_cons_succ, lq])); (conv => whnf))
        exact hn
      rw [List.length_map, ql]
      decreasing_tactic
      refine retSub sM ?_
      have e : (laidS h many).d = .tup [h.d, .tup ((List.range many).map fun d => .tup ((List.range h.rows).map fun r => bD (stL h h.s0.kept d r))), .tup []] := by
        show Dv.tup [h.d, .tup (((List.range many).map fun d => some ((List.range h.rows).map fun r => some (stL h h.s0.kept d r))).map kD), .tup []] = _
        rw [List.map_map]
        congr 4
        refine List.map_congr_left fun d _ => ?_
        show Dv.tup (((List.range h.rows).map fun r => some (stL h h.s0.kept d r)).map oD) = _
        rw [List.map_map]
        rfl
      rw [← e]
      exact k
theorem ok_law_store_laid (T : Tx K mg) : FnA P w K mg base 2 T.f_law_store_laid T.d_law_store_laid [("_law_head" : Str), ("_law_many" : Str)] sp_law_store_laid :=
  fnA T.F_law_store_laid sc_law_store_laid len_law_store_laid (fun cdv A outer s H E hr => by
    have hu1 := hu_of hr
    have hu64 := hr.units
    exact (ass_cons (as_set 2 sc_law_store_laid.nd (ae_call (ok_law_spots T) (hr.mono (by decide)) T.m_law_spots T.F_law_spots.kp T.b_law_spots (aa_cons (av 0) aa_nil)))
    (ass_cons (as_set 3 sc_law_store_laid.nd (ae_call (ok_law_laid T) (hr.mono (by decide)) T.m_law_laid T.F_law_laid.kp T.b_law_laid (aa_cons (av 0) (aa_cons (av 1) aa_nil))))
    (ass_cons (as_setLc 4 (own := [(("_law_disk" : Str), 7)]) (tg := (.nm 7)) (by decide) rfl sc_law_store_laid.nd rfl rfl (sw_true rfl rfl rfl (by decide +kernel)) (ai_range1 T.n_range (aa_cons (av 1) aa_nil)) (blkOk_by (own := [(("_law_disk" : Str), 7)]) (N := N_law_store_laid) (sc := defScope s_law_store_laid) (by decide +kernel)) (fun _ _ _ _ _ => (pgt_name 7 sc_law_store_laid.nd)) (fun _ _ _ _ _ => ats_nil) (fun _ _ _ _ _ => (ae_lc (own := [(("_law_row" : Str), 8)]) (tg := (.nm 8)) (by decide) rfl sc_law_store_laid.nd (ai_range1 T.n_range (aa_cons (ae_ix hu1 (av 0) ae_int) aa_nil)) (blkOk_by (own := [(("_law_row" : Str), 8)]) (N := N_law_store_laid) (sc := _) rfl) (fun _ _ _ _ _ => (pgt_name 8 sc_law_store_laid.nd)) (fun _ _ _ _ _ => ats_nil) (fun _ _ _ _ _ => (ae_mul (ae_tup (aa_cons ae_int aa_nil)) (ae_ix hu1 (av 0) ae_int))))))
    (ass_cons (as_for PassesOwn.never rfl (ai_enum T.n_enumerate (aa_cons (av 2) aa_nil)) (ag_tup rfl (ags_cons (ag_name 5 sc_law_store_laid.nd) (ags_cons (ag_name 6 sc_law_store_laid.nd) ags_nil))) (ass_one (as_asg (ae_call (ok_law_told T) (hr.mono (by decide)) T.m_law_told T.F_law_told.kp T.b_law_told (aa_cons (av 5) (aa_cons (ae_ix hu1 (av 0) ae_int) aa_nil))) (ag_sub hu1 (ae_ix hu1 (av 4) (ae_ix hu1 (ae_ix hu1 (av 3) (ae_ix hu1 (av 6) ae_int)) (ae_ix hu1 (av 6) ae_int))) (ae_ix hu1 (av 6) ae_int)))))
    (ass_one (as_ret (ae_tup (aa_cons (av 0) (aa_cons (ae_callTy call_tuple_of abc_tup (aa_cons (ae_fz (ae_lc (own := [(("_law_disk" : Str), 7)]) (tg := (.nm 7)) (by decide) rfl sc_law_store_laid.nd (ai_seq (ae_fz (av 4))) (blkOk_by (own := [(("_law_disk" : Str), 7)]) (N := N_law_store_laid) (sc := defScope s_law_store_laid) (by decide +kernel)) (fun _ _ _ _ _ => (pgt_name 7 sc_law_store_laid.nd)) (fun _ _ _ _ _ => ats_nil) (fun _ _ _ _ _ => (ae_callTy call_tuple_of abc_tup (aa_cons (av 7) aa_nil) T.n_tuple boot_tuple)))) aa_nil) T.n_tuple boot_tuple) (aa_cons (ae_tup aa_nil) aa_nil))))))))))) spec_law_store_laid
def sp_room_of : ASp := fun ds M Q => ∃ s : Store, ds = [s.d] ∧ s.Ok ∧ Q (dn (s.kept * s.head.size)) M
def t_room_of : RS := (aRet (aOp aMul (aCall sp_blocks_kept (aCons (aVar 0) aNil)) (aOp aIx (aOp aIx (aVar 0) (aC (.int 0))) (aC (.int 1)))))
theorem len_room_of : ∀ ds M Q, sp_room_of ds M Q → ds.length = 1 := by
  rintro ds M Q ⟨s, rfl, _⟩
  rfl
theorem spec_room_of : ∀ ds M Q, sp_room_of ds M Q → t_room_of (retD Q) (startA 1 ds) M := by
  rintro ds M Q ⟨s, rfl, ok, k⟩
  have s2 := ok.head.size2
  decreasing_tactic
  refine ⟨s, rfl, ok, ?_⟩
  decreasing_tactic
  rw [← Int.natCast_mul]
  exact retEnd k
theorem ok_room_of (T : Tx K mg) : FnA P w K mg base 2 T.f_room_of T.d_room_of [("store" : Str)] sp_room_of :=
  fnA T.F_room_of sc_room_of len_room_of (fun cdv A outer s H E hr => by
    have hu1 := hu_of hr
    have hu64 := hr.units
    exact (ass_one (as_ret (ae_mul (ae_call (ok_blocks_kept T) (hr.mono (by decide)) T.m_blocks_kept T.F_blocks_kept.kp T.b_blocks_kept (aa_cons (av 0) aa_nil)) (ae_ix hu1 (ae_ix hu1 (av 0) ae_int) ae_int))))) spec_room_of
def sp_law : ASp := fun ds M Q => ∃ ns : List Int, ds = [.rol (ns.map Dv.int)] ∧ ns.length ≤ 63 ∧ ∀ M', Q (.bl true) M'
theorem law_true (ns : List Int) (h : ns.length ≤ 63) : sp_law [.rol (ns.map Dv.int)] (fun _ => none) (fun d _ => d = .bl true) := ⟨ns, rfl, h, fun _ => rfl⟩
def stepsL (W rows : Nat) : List (Nat × Nat × Nat) := (W, 0, W) :: ((List.range rows).map fun m => (W, m, W + 1)) ++ [(W + 1, 0, W + 1)]
def stepD (x : Nat × Nat × Nat) : Dv := .tup [dn x.1, dn x.2.1, dn x.2.2]
theorem steps_ok {par size rows W : Nat} (p1 : 1 ≤ par) (p2 : par ≤ 2) (z1 : 1 ≤ size) (z2 : size ≤ 16) (r1 : 1 ≤ rows) (r2 : rows ≤ 24) (w1 : par + 1 ≤ W) (w2 : W ≤ 9) {x : Nat × Nat × Nat} (h : x ∈ stepsL W rows) : Head.Ok ⟨par, size, rows, x.1, x.2.1, 1⟩ x.2.2 := by
  simp only [stepsL, List.cons_append, List.mem_cons, List.mem_append, List.not_mem_nil, or_false] at h
  rcases h with rfl | h | rfl
  · exact ⟨p1, p2, z1, z2, r1, r2, w1, by show W ≤ 10; omega, .inl ⟨rfl, rfl⟩, by show 1 ≤ 1000000; omega⟩
  · obtain ⟨m, hm, rfl⟩ := List.mem_map.mp h
    have := List.mem_range.mp hm
    exact ⟨p1, p2, z1, z2, r1, r2, w1, by show W ≤ 10; omega, .inr ⟨rfl, by show W + 1 ≤ 10; omega, this⟩, by show 1 ≤ 1000000; omega⟩
  · exact ⟨p1, p2, z1, z2, r1, r2, by show par + 1 ≤ W + 1; omega, by show W + 1 ≤ 10; omega, .inl ⟨rfl, rfl⟩, by show 1 ≤ 1000000; omega⟩
def tk_law_2 : RS := (aRet (aC (.bl true)))
def tk_law_1 : RS := aSeq (aFor (aiR1 (aCons (aOp aAdd (aC (.int 2)) (aFn acMin2 (aCons (aC (.int 4)) (aCons (aFn acLen (aCons (aVar 0) aNil)) aNil)))) aNil)) (agName 2) (aSeq (aAsg (aOp aAdd (aC (.int 1)) (aCall sp_law_next (aCons (aVar 1) (aCons (aC (.int 2)) aNil)))) (agName 3))
    (aSeq (aAsg (aOp aAdd (aC (.int 1)) (aCall sp_law_count (aCons (aVar 1) (aCons (aC (.int 4)) (aCons (aC (.int 23)) aNil))))) (agName 4))
    (aSeq (aAsg (aOp aAdd (aOp aAdd (aVar 3) (aC (.int 1))) (aCall sp_law_count (aCons (aVar 1) (aCons (aC (.int 3)) (aCons (aOp aSub (aC (.int 8)) (aVar 3)) aNil))))) (agName 5))
    (aSeq (aAsg (aOp aAdd (aC (.int 1)) (aCall sp_law_count (aCons (aVar 1) (aCons (aC (.int 3)) (aCons (aC (.int 15)) aNil))))) (agName 6))
    (aSeq (aAsg (aLc (aiR1 (aCons (aVar 4) aNil)) (.nm 9) [9] aYes (aTup (aCons (aVar 5) (aCons (aVar 9) (aCons (aOp aAdd (aVar 5) (aC (.int 1))) aNil))))) (agName 7))
    (aSeq (aAsg (aOp aAdd (aOp aAdd (aLst (aCons (aTup (aCons (aVar 5) (aCons (aC (.int 0)) (aCons (aVar 5) aNil)))) aNil)) (aVar 7)) (aLst (aCons (aTup (aCons (aOp aAdd (aVar 5) (aC (.int 1))) (aCons (aC (.int 0)) (aCons (aOp aAdd (aVar 5) (aC (.int 1))) aNil)))) aNil))) (agName 7))
    (aFor (aiSeq (aVar 7)) (agTup 3 (agCons (agName 8) (agCons (agName 9) (agCons (agName 10) agNil)))) (aSeq (aAsg (aCall sp_law_store_laid (aCons (aTup (aCons (aVar 3) (aCons (aVar 6) (aCons (aVar 4) (aCons (aVar 8) (aCons (aVar 9) (aCons (aC (.int 1)) aNil))))))) (aCons (aVar 10) aNil))) (agName 11))
    (aSeq (aIfS (aNot (aTru (aCall sp_law_step_right (aCons (aVar 11) aNil)))) (aRet (aC (.bl false))) aNext)
    (aIfS (aB (aOp aNe (aCall sp_room_of (aCons (aVar 11) aNil)) (aOp aMul (aOp aMul (aVar 4) (aOp aSub (aVar 8) (aVar 3))) (aVar 6)))) (aRet (aC (.bl false))) aNext))))))))))) (tk_law_2)
def t_law : RS := aSeq (aAsg (aCall sp_law_pot (aCons (aVar 0) aNil)) (agName 1)) (tk_law_1)
theorem len_law : ∀ ds M Q, sp_law ds M Q → ds.length = 1 := by
  rintro ds M Q ⟨ns, rfl, _⟩
  rfl
theorem spec_law : ∀ ds M Q, sp_law ds M Q → t_law (retD Q) (startA 12 ds) M := by
  rintro ds M Q ⟨ns, rfl, hl, k⟩
  (conv => whnf)
  refine ⟨ns, rfl, hl, fun p q M1 hd hs => ?_⟩
  decreasing_tactic
  refine forW_inv (fun i ρ M' => ∃ x2 x3 x4 x5 x6 x7 x8 x9 x10 x11, ρ = [some (.rol (ns.map Dv.int)), some (.ref p), x2, x3, x4, x5, x6, x7, x8, x9, x10, x11] ∧ DPot p q M') ⟨none, none, none, none, none, none, none, none, none, none, rfl, hd⟩ (fun _ _ _ _ _ => trivial) ?_ ?_
  · rintro i d ρ M' hi ⟨x2, x3, x4, x5, x6, x7, x8, x9, x10, x11, rfl, hd⟩
    decreasing_tactic
    (refine ⟨_, _, _, rfl, by assumption, (by infer_instance), (by infer_instance), fun a Ma da ba la => ?_⟩; decreasing_tactic)
    (refine ⟨_, _, _, _, rfl, by assumption, (by infer_instance), (by infer_instance), (by infer_instance), (by infer_instance), fun b Mb db bb lb => ?_⟩; decreasing_tactic)
    (refine ⟨_, _, _, _, rfl, by assumption, (by infer_instance), (by infer_instance), (by infer_instance), (by infer_instance), fun c Mc dc bc lc => ?_⟩; decreasing_tactic)
    (refine ⟨_, _, _, _, rfl, by assumption, (by infer_instance), (by infer_instance), (by infer_instance), (by infer_instance), fun e Me de be le => ?_⟩; decreasing_tactic)
    have ha : a ≤ 1 := by omega
    have hb : b ≤ 23 := by omega
    have he : e ≤ 15 := by omega
    obtain ⟨par, epar⟩ : ∃ par, par = 1 + a := ⟨_, rfl⟩
    obtain ⟨rows, erows⟩ : ∃ rows, rows = 1 + b := ⟨_, rfl⟩
    obtain ⟨W, eW⟩ : ∃ W, W = 1 + a + 1 + c := ⟨_, rfl⟩
    obtain ⟨size, esize⟩ : ∃ size, size = 1 + e := ⟨_, rfl⟩
    have ep : (1 : Int) + (a : Int) = (par : Int) := by omega
    have er : (1 : Int) + (b : Int) = (rows : Int) := by omega
    have ez : (1 : Int) + (e : Int) = (size : Int) := by omega
    have ew : (par : Int) + 1 + (c : Int) = (W : Int) := by omega
    have w9 : W ≤ 9 := by omega
    have w1 : par + 1 ≤ W := by omega
    have p1 : 1 ≤ par := by omega
    have p2 : par ≤ 2 := by omega
    have z1 : 1 ≤ size := by omega
    have z2 : size ≤ 16 := by omega
    have r1 : 1 ≤ rows := by omega
    have r2 : rows ≤ 24 := by omega
    rw [ep, er, ez, ew]
    intro D hD
    refine lcW_idx (fun m => stepD (W, m, W + 1)) (fun _ => trivial) (by rw [rangeA_len]; exact le_line (by omega)) (fun m dd hdd acc N hN => ?_) ?_
    · obtain ⟨hm, rfl⟩ := rangeA_get hdd
      rw [Int.zero_add]
      refine ⟨_, rfl, ?_⟩
      decreasing_tactic
      exact lcEnd hN
    have Dp := de.nep hD
    have Dq := de.neq hD
    have d1 := de.put (c := .lst ((List.range (rangeA 0 ((rows : Int)).toNat).length).map fun m => stepD (W, m, W + 1))) Dp Dq
    have l1 : mup Me D (.lst ((List.range (rangeA 0 ((rows : Int)).toNat).length).map fun m => stepD (W, m, W + 1))) D = some (.lst ((List.range (rangeA 0 ((rows : Int)).toNat).length).map fun m => stepD (W, m, W + 1))) := mup_same
    generalize mup Me D (.lst ((List.range (rangeA 0 ((rows : Int)).toNat).length).map fun m => stepD (W, m, W + 1))) = M2 at d1 l1 ⊢
    rw [rangeA_len, Int.toNat_natCast] at l1
    decreasing_tactic
    intro pa hpa
    have d2 := d1.put (c := .lst [stepD (W, 0, W)]) (d1.nep hpa) (d1.neq hpa)
    have l2 : mup M2 pa (.lst [stepD (W, 0, W)]) pa = some (.lst [stepD (W, 0, W)]) := mup_same
    have l1' : mup M2 pa (.lst [stepD (W, 0, W)]) D = _ := (mup_ne (ne_of_new l1 hpa)).trans l1
    have e0 : Dv.tup [dn W, Dv.int 0, dn W] = stepD (W, 0, W) := rfl
    rw [e0]
    generalize mup M2 pa (.lst [stepD (W, 0, W)]) = M3 at d2 l2 l1' ⊢
    decreasing_tactic
    refine ⟨_, _, l2, l1', le_line (by simp; omega), fun pb hpb => ?_⟩
    have d3 := d2.put (c := .lst ([stepD (W, 0, W)] ++ (List.range rows).map fun m => stepD (W, m, W + 1))) (d2.nep hpb) (d2.neq hpb)
    have l3 : mup M3 pb (.lst ([stepD (W, 0, W)] ++ (List.range rows).map fun m => stepD (W, m, W + 1))) pb = some (.lst ([stepD (W, 0, W)] ++ (List.range rows).map fun m => stepD (W, m, W + 1))) := mup_same
    generalize mup M3 pb (.lst ([stepD (W, 0, W)] ++ (List.range rows).map fun m => stepD (W, m, W + 1))) = M4 at d3 l3 ⊢
    decreasing_tactic
    intro pc hpc
    have e1 : Dv.tup [Dv.int ((W : Int) + 1), Dv.int 0, Dv.int ((W : Int) + 1)] = stepD (W + 1, 0, W + 1) := rfl
    rw [e1]
    have d4 := d3.put (c := .lst [stepD (W + 1, 0, W + 1)]) (d3.nep hpc) (d3.neq hpc)
    have l4 : mup M4 pc (.lst [stepD (W + 1, 0, W + 1)]) pc = some (.lst [stepD (W + 1, 0, W + 1)]) := mup_same
    have l3' : mup M4 pc (.lst [stepD (W + 1, 0, W + 1)]) pb = _ := (mup_ne (ne_of_new l3 hpc)).trans l3
    generalize mup M4 pc (.lst [stepD (W + 1, 0, W + 1)]) = M5 at d4 l4 l3' ⊢
    refine ⟨_, _, l3', l4, le_line (by simp; omega), fun r hr => ?_⟩
    have es : ([stepD (W, 0, W)] ++ (List.range rows).map fun m => stepD (W, m, W + 1)) ++ [stepD (W + 1, 0, W + 1)] = (stepsL W rows).map stepD := by
      simp [stepsL]
    rw [es]
    have rp := d4.nep hr
    have rq := d4.neq hr
    have d5 := d4.put (c := .lst ((stepsL W rows).map stepD)) rp rq
    have l5 : mup M5 r (.lst ((stepsL W rows).map stepD)) r = some (.lst ((stepsL W rows).map stepD)) := mup_same
    generalize mup M5 r (.lst ((stepsL W rows).map stepD)) = M6 at d5 l5 ⊢
    decreasing_tactic
    refine forW_inv (fun i ρ M' => ∃ x8 x9 x10 x11, ρ = [some (.rol (ns.map Dv.int)), some (.ref p), some d, some (dn par), some (dn rows), some (dn W), some (dn size), some (.ref r), x8, x9, x10, x11] ∧ DPot p q M' ∧ M' r = some (.lst ((stepsL W rows).map stepD))) ⟨_, _, _, _, rfl, d5, l5⟩ (fun i ρ M' _ h => by obtain ⟨_, _, _, _, _, _, h⟩ := h; simp [itemsA, h]) ?_ ?_
    · rintro j dd ρ M' hj ⟨x8, x9, x10, x11, rfl, hd, hl5⟩
      obtain ⟨x, hx, rfl⟩ := List.mem_map.mp (List.mem_of_getElem? hj)
      have ok := steps_ok p1 p2 z1 z2 r1 r2 w1 w9 hx
      have sok := laid_ok ok
      have x1 : par ≤ x.1 ∧ x.1 ≤ 10 := ⟨by have : par + 1 ≤ x.1 := ok.width1; omega, ok.width2⟩
      obtain ⟨w, m, many⟩ := x
      simp only [] at ok sok x1
      decreasing_tactic
      refine ⟨⟨par, size, rows, w, m, 1⟩, many, rfl, ok, ?_⟩
      decreasing_tactic
      refine ⟨⟨par, size, rows, w, m, 1⟩, many, rfl, ok, ?_⟩
      decreasing_tactic
      refine ⟨_, rfl, sok, ?_⟩
      decreasing_tactic
      have ek : dn ((laidS ⟨par, size, rows, w, m, 1⟩ many).kept * (laidS ⟨par, size, rows, w, m, 1⟩ many).head.size) = Dv.int ((rows : Int) * ((w : Int) - (par : Int)) * (size : Int)) := by
        refine congrArg Dv.int ?_
        show ((rows * (w - par) * size : Nat) : Int) = _
        rw [Int.natCast_mul, Int.natCast_mul, Int.ofNat_sub x1.1]
      refine onIf_ndecF ek ?_
      decreasing_tactic
      exact wk_of ⟨_, _, _, _, rfl, hd, hl5⟩
    · rintro ρ M' ⟨x8, x9, x10, x11, rfl, hd, hl5⟩
      exact wk_of ⟨_, _, _, _, _, _, _, _, _, _, rfl, hd⟩
  · rintro ρ M' ⟨x2, x3, x4, x5, x6, x7, x8, x9, x10, x11, rfl, hd⟩
    decreasing_tactic
    exact retEnd (k _)
theorem ok_law (T : Tx K mg) : FnA P w K mg base 8 T.f_law T.d_law [("_law_script" : Str)] sp_law :=
  fnA T.F_law sc_law len_law (fun cdv A outer s H E hr => by
    have hu1 := hu_of hr
    have hu64 := hr.units
    exact (ass_cons (as_set 1 sc_law.nd (ae_call (ok_law_pot T) (hr.mono (by decide)) T.m_law_pot T.F_law_pot.kp T.b_law_pot (aa_cons (av 0) aa_nil)))
    (ass_cons (as_for PassesOwn.never rfl (ai_range1 T.n_range (aa_cons (ae_add ae_int (ae_callB (call_min2 rfl) abc_min2 (aa_cons ae_int (aa_cons (ae_callB call_len abc_len (aa_cons (av 0) aa_nil) T.n_len boot_len) aa_nil)) T.n_min boot_min)) aa_nil)) (ag_name 2 sc_law.nd) (ass_cons (as_set 3 sc_law.nd (ae_add ae_int (ae_call (ok_law_next T) (hr.mono (by decide)) T.m_law_next T.F_law_next.kp T.b_law_next (aa_cons (av 1) (aa_cons ae_int aa_nil)))))
    (ass_cons (as_set 4 sc_law.nd (ae_add ae_int (ae_call (ok_law_count T) (hr.mono (by decide)) T.m_law_count T.F_law_count.kp T.b_law_count (aa_cons (av 1) (aa_cons ae_int (aa_cons ae_int aa_nil))))))
    (ass_cons (as_set 5 sc_law.nd (ae_add (ae_add (av 3) ae_int) (ae_call (ok_law_count T) (hr.mono (by decide)) T.m_law_count T.F_law_count.kp T.b_law_count (aa_cons (av 1) (aa_cons ae_int (aa_cons (ae_sub ae_int (av 3)) aa_nil))))))
    (ass_cons (as_set 6 sc_law.nd (ae_add ae_int (ae_call (ok_law_count T) (hr.mono (by decide)) T.m_law_count T.F_law_count.kp T.b_law_count (aa_cons (av 1) (aa_cons ae_int (aa_cons ae_int aa_nil))))))
    (ass_cons (as_setLc 7 (own := [(("_law_moved" : Str), 9)]) (tg := (.nm 9)) (by decide) rfl sc_law.nd rfl rfl (sw_true rfl rfl rfl (by decide +kernel)) (ai_range1 T.n_range (aa_cons (av 4) aa_nil)) (blkOk_by (own := [(("_law_moved" : Str), 9)]) (N := N_law) (sc := defScope s_law) (by decide +kernel)) (fun _ _ _ _ _ => (pgt_name 9 sc_law.nd)) (fun _ _ _ _ _ => ats_nil) (fun _ _ _ _ _ => (ae_tup (aa_cons (av 5) (aa_cons (av 9) (aa_cons (ae_add (av 5) ae_int) aa_nil))))))
    (ass_cons (as_set 7 sc_law.nd (ae_add (ae_add (ae_lst (aa_cons (ae_tup (aa_cons (av 5) (aa_cons ae_int (aa_cons (av 5) aa_nil)))) aa_nil)) (av 7)) (ae_lst (aa_cons (ae_tup (aa_cons (ae_add (av 5) ae_int) (aa_cons ae_int (aa_cons (ae_add (av 5) ae_int) aa_nil)))) aa_nil))))
    (ass_one (as_for PassesOwn.never rfl (ai_seq (av 7)) (ag_tup rfl (ags_cons (ag_name 8 sc_law.nd) (ags_cons (ag_name 9 sc_law.nd) (ags_cons (ag_name 10 sc_law.nd) ags_nil)))) (ass_cons (as_set 11 sc_law.nd (ae_call (ok_law_store_laid T) (hr.mono (by decide)) T.m_law_store_laid T.F_law_store_laid.kp T.b_law_store_laid (aa_cons (ae_tup (aa_cons (av 3) (aa_cons (av 6) (aa_cons (av 4) (aa_cons (av 8) (aa_cons (av 9) (aa_cons ae_int aa_nil))))))) (aa_cons (av 10) aa_nil))))
    (ass_cons (as_if (at_not (at_tru (ae_call (ok_law_step_right T) (hr.mono (by decide)) T.m_law_step_right T.F_law_step_right.kp T.b_law_step_right (aa_cons (av 11) aa_nil)))) (ass_one (as_ret ae_bl)) ass_nil)
    (ass_one (as_if (at_ne hu64 (ae_call (ok_room_of T) (hr.mono (by decide)) T.m_room_of T.F_room_of.kp T.b_room_of (aa_cons (av 11) aa_nil)) (ae_mul (ae_mul (av 4) (ae_sub (av 8) (av 3))) (av 6))) (ass_one (as_ret ae_bl)) ass_nil)))))))))))))
    (ass_one (as_ret ae_bl))))) spec_law
end Law
namespace Law
open PySem L2 HC PyProof.Rows
set_option maxHeartbeats 4000000
theorem all_mk {l : PySem.W.OpenLaw} {w : World} {K : PySem.W.Frag} {h : Heap} {mg : Str → Option Value} {fa f0 f1 f2 f3 f4 f5 f6 f7 f8 f9 f10 f11 f12 f13 f14 f15 f16 f17 f18 f19 f20 f21 f22 f23 f24 f25 f26 : Addr} (X : K.In h) (G : h.Ns mainGlobals mg) (hfa : mg "law" = some (.ref fa))
    {od0 an0 od1 an1 od2 an2 od3 an3 od4 an4 od5 an5 od6 an6 od7 an7 od8 an8 od9 an9 od10 an10 od11 an11 od12 an12 od13 an13 od14 an14 od15 an15 od16 an16 od17 an17 od18 an18 od19 an19 od20 an20 od21 an21 od22 an22 od23 an23 od24 an24 od25 an25 od26 an26 : Option Addr} {sl0 sl1 sl2 sl3 sl4 sl5 sl6 sl7 sl8 sl9 sl10 sl11 sl12 sl13 sl14 sl15 sl16 sl17 sl18 sl19 sl20 sl21 sl22 sl23 sl24 sl25 sl26 : Array (Option Value)} {oc0 kV0 dc0 pm0 cd0 ct0 oc1 kV1 dc1 pm1 cd1 ct1 oc2 kV2 dc2 pm2 cd2 ct2 oc3 kV3 dc3 pm3 cd3 ct3 oc4 kV4 dc4 pm4 cd4 ct4 oc5 kV5 dc5 pm5 cd5 ct5 oc6 kV6 dc6 pm6 cd6 ct6 oc7 kV7 dc7 pm7 cd7 ct7 oc8 kV8 dc8 pm8 cd8 ct8 oc9 kV9 dc9 pm9 cd9 ct9 oc10 kV10 dc10 pm10 cd10 ct10 oc11 kV11 dc11 pm11 cd11 ct11 oc12 kV12 dc12 pm12 cd12 ct12 oc13 kV13 dc13 pm13 cd13 ct13 oc14 kV14 dc14 pm14 cd14 ct14 oc15 kV15 dc15 pm15 cd15 ct15 oc16 kV16 dc16 pm16 cd16 ct16 oc17 kV17 dc17 pm17 cd17 ct17 oc18 kV18 dc18 pm18 cd18 ct18 oc19 kV19 dc19 pm19 cd19 ct19 oc20 kV20 dc20 pm20 cd20 ct20 oc21 kV21 dc21 pm21 cd21 ct21 oc22 kV22 dc22 pm22 cd22 ct22 oc23 kV23 dc23 pm23 cd23 ct23 oc24 kV24 dc24 pm24 cd24 ct24 oc25 kV25 dc25 pm25 cd25 ct25 oc26 kV26 dc26 pm26 cd26 ct26 : Value} {tk1 tk2 tk3 tk4 : Tok}
    (a0 : PySem.W.nsIn K mainGlobals ("_law_next" : Str) = some (some (.ref f0))) (l0 : K.lookup f0 = some ⟨oc0, od0, .func (PySem.W.fnOf ("_law_next" : Str) ("_law_next" : Str) (defArgs s_law_next) (defBody s_law_next) (defScope s_law_next) .none kV0 dc0 pm0 an0 cd0 ct0), sl0⟩) (c0 : PySem.W.codeIn K cd0 ("_law_next" : Str) = true) (k0 : PySem.W.keepIn K (.ref f0) = true)
    (a1 : PySem.W.nsIn K mainGlobals ("_law_count" : Str) = some (some (.ref f1))) (l1 : K.lookup f1 = some ⟨oc1, od1, .func (PySem.W.fnOf ("_law_count" : Str) ("_law_count" : Str) (defArgs s_law_count) (defBody s_law_count) (defScope s_law_count) .none kV1 dc1 pm1 an1 cd1 ct1), sl1⟩) (c1 : PySem.W.codeIn K cd1 ("_law_count" : Str) = true) (k1 : PySem.W.keepIn K (.ref f1) = true)
    (a2 : PySem.W.nsIn K mainGlobals ("_law_pot" : Str) = some (some (.ref f2))) (l2 : K.lookup f2 = some ⟨oc2, od2, .func (PySem.W.fnOf ("_law_pot" : Str) ("_law_pot" : Str) (defArgs s_law_pot) (defBody s_law_pot) (defScope s_law_pot) .none kV2 dc2 pm2 an2 cd2 ct2), sl2⟩) (c2 : PySem.W.codeIn K cd2 ("_law_pot" : Str) = true) (k2 : PySem.W.keepIn K (.ref f2) = true)
    (a3 : PySem.W.nsIn K mainGlobals ("_law_laid" : Str) = some (some (.ref f3))) (l3 : K.lookup f3 = some ⟨oc3, od3, .func (PySem.W.fnOf ("_law_laid" : Str) ("_law_laid" : Str) (defArgs s_law_laid) (defBody s_law_laid) (defScope s_law_laid) .none kV3 dc3 pm3 an3 cd3 ct3), sl3⟩) (c3 : PySem.W.codeIn K cd3 ("_law_laid" : Str) = true) (k3 : PySem.W.keepIn K (.ref f3) = true)
    (a4 : PySem.W.nsIn K mainGlobals ("_law_spots" : Str) = some (some (.ref f4))) (l4 : K.lookup f4 = some ⟨oc4, od4, .func (PySem.W.fnOf ("_law_spots" : Str) ("_law_spots" : Str) (defArgs s_law_spots) (defBody s_law_spots) (defScope s_law_spots) .none kV4 dc4 pm4 an4 cd4 ct4), sl4⟩) (c4 : PySem.W.codeIn K cd4 ("_law_spots" : Str) = true) (k4 : PySem.W.keepIn K (.ref f4) = true)
    (a5 : PySem.W.nsIn K mainGlobals ("_law_told" : Str) = some (some (.ref f5))) (l5 : K.lookup f5 = some ⟨oc5, od5, .func (PySem.W.fnOf ("_law_told" : Str) ("_law_told" : Str) (defArgs s_law_told) (defBody s_law_told) (defScope s_law_told) .none kV5 dc5 pm5 an5 cd5 ct5), sl5⟩) (c5 : PySem.W.codeIn K cd5 ("_law_told" : Str) = true) (k5 : PySem.W.keepIn K (.ref f5) = true)
    (a6 : PySem.W.nsIn K mainGlobals ("is_whole" : Str) = some (some (.ref f6))) (l6 : K.lookup f6 = some ⟨oc6, od6, .func (PySem.W.fnOf ("is_whole" : Str) ("is_whole" : Str) (defArgs s_is_whole) (defBody s_is_whole) (defScope s_is_whole) .none kV6 dc6 pm6 an6 cd6 ct6), sl6⟩) (c6 : PySem.W.codeIn K cd6 ("is_whole" : Str) = true) (k6 : PySem.W.keepIn K (.ref f6) = true)
    (a7 : PySem.W.nsIn K mainGlobals ("is_between" : Str) = some (some (.ref f7))) (l7 : K.lookup f7 = some ⟨oc7, od7, .func (PySem.W.fnOf ("is_between" : Str) ("is_between" : Str) (defArgs s_is_between) (defBody s_is_between) (defScope s_is_between) .none kV7 dc7 pm7 an7 cd7 ct7), sl7⟩) (c7 : PySem.W.codeIn K cd7 ("is_between" : Str) = true) (k7 : PySem.W.keepIn K (.ref f7) = true)
    (a8 : PySem.W.nsIn K mainGlobals ("is_block" : Str) = some (some (.ref f8))) (l8 : K.lookup f8 = some ⟨oc8, od8, .func (PySem.W.fnOf ("is_block" : Str) ("is_block" : Str) (defArgs s_is_block) (defBody s_is_block) (defScope s_is_block) .none kV8 dc8 pm8 an8 cd8 ct8), sl8⟩) (c8 : PySem.W.codeIn K cd8 ("is_block" : Str) = true) (k8 : PySem.W.keepIn K (.ref f8) = true)
    (a9 : PySem.W.nsIn K mainGlobals ("is_disk" : Str) = some (some (.ref f9))) (l9 : K.lookup f9 = some ⟨oc9, od9, .func (PySem.W.fnOf ("is_disk" : Str) ("is_disk" : Str) (defArgs s_is_disk) (defBody s_is_disk) (defScope s_is_disk) .none kV9 dc9 pm9 an9 cd9 ct9), sl9⟩) (c9 : PySem.W.codeIn K cd9 ("is_disk" : Str) = true) (k9 : PySem.W.keepIn K (.ref f9) = true)
    (a10 : PySem.W.nsIn K mainGlobals ("are_widths" : Str) = some (some (.ref f10))) (l10 : K.lookup f10 = some ⟨oc10, od10, .func (PySem.W.fnOf ("are_widths" : Str) ("are_widths" : Str) (defArgs s_are_widths) (defBody s_are_widths) (defScope s_are_widths) .none kV10 dc10 pm10 an10 cd10 ct10), sl10⟩) (c10 : PySem.W.codeIn K cd10 ("are_widths" : Str) = true) (k10 : PySem.W.keepIn K (.ref f10) = true)
    (a11 : PySem.W.nsIn K mainGlobals ("is_head" : Str) = some (some (.ref f11))) (l11 : K.lookup f11 = some ⟨oc11, od11, .func (PySem.W.fnOf ("is_head" : Str) ("is_head" : Str) (defArgs s_is_head) (defBody s_is_head) (defScope s_is_head) .none kV11 dc11 pm11 an11 cd11 ct11), sl11⟩) (c11 : PySem.W.codeIn K cd11 ("is_head" : Str) = true) (k11 : PySem.W.keepIn K (.ref f11) = true)
    (a12 : PySem.W.nsIn K mainGlobals ("is_note" : Str) = some (some (.ref f12))) (l12 : K.lookup f12 = some ⟨oc12, od12, .func (PySem.W.fnOf ("is_note" : Str) ("is_note" : Str) (defArgs s_is_note) (defBody s_is_note) (defScope s_is_note) .none kV12 dc12 pm12 an12 cd12 ct12), sl12⟩) (c12 : PySem.W.codeIn K cd12 ("is_note" : Str) = true) (k12 : PySem.W.keepIn K (.ref f12) = true)
    (a13 : PySem.W.nsIn K mainGlobals ("is_journal" : Str) = some (some (.ref f13))) (l13 : K.lookup f13 = some ⟨oc13, od13, .func (PySem.W.fnOf ("is_journal" : Str) ("is_journal" : Str) (defArgs s_is_journal) (defBody s_is_journal) (defScope s_is_journal) .none kV13 dc13 pm13 an13 cd13 ct13), sl13⟩) (c13 : PySem.W.codeIn K cd13 ("is_journal" : Str) = true) (k13 : PySem.W.keepIn K (.ref f13) = true)
    (a14 : PySem.W.nsIn K mainGlobals ("is_store" : Str) = some (some (.ref f14))) (l14 : K.lookup f14 = some ⟨oc14, od14, .func (PySem.W.fnOf ("is_store" : Str) ("is_store" : Str) (defArgs s_is_store) (defBody s_is_store) (defScope s_is_store) .none kV14 dc14 pm14 an14 cd14 ct14), sl14⟩) (c14 : PySem.W.codeIn K cd14 ("is_store" : Str) = true) (k14 : PySem.W.keepIn K (.ref f14) = true)
    (a15 : PySem.W.nsIn K mainGlobals ("block_at" : Str) = some (some (.ref f15))) (l15 : K.lookup f15 = some ⟨oc15, od15, .func (PySem.W.fnOf ("block_at" : Str) ("block_at" : Str) (defArgs s_block_at) (defBody s_block_at) (defScope s_block_at) .none kV15 dc15 pm15 an15 cd15 ct15), sl15⟩) (c15 : PySem.W.codeIn K cd15 ("block_at" : Str) = true) (k15 : PySem.W.keepIn K (.ref f15) = true)
    (a16 : PySem.W.nsIn K mainGlobals ("blocks_kept" : Str) = some (some (.ref f16))) (l16 : K.lookup f16 = some ⟨oc16, od16, .func (PySem.W.fnOf ("blocks_kept" : Str) ("blocks_kept" : Str) (defArgs s_blocks_kept) (defBody s_blocks_kept) (defScope s_blocks_kept) .none kV16 dc16 pm16 an16 cd16 ct16), sl16⟩) (c16 : PySem.W.codeIn K cd16 ("blocks_kept" : Str) = true) (k16 : PySem.W.keepIn K (.ref f16) = true)
    (a17 : PySem.W.nsIn K mainGlobals ("row_width" : Str) = some (some (.ref f17))) (l17 : K.lookup f17 = some ⟨oc17, od17, .func (PySem.W.fnOf ("row_width" : Str) ("row_width" : Str) (defArgs s_row_width) (defBody s_row_width) (defScope s_row_width) .none kV17 dc17 pm17 an17 cd17 ct17), sl17⟩) (c17 : PySem.W.codeIn K cd17 ("row_width" : Str) = true) (k17 : PySem.W.keepIn K (.ref f17) = true)
    (a18 : PySem.W.nsIn K mainGlobals ("spot_of" : Str) = some (some (.ref f18))) (l18 : K.lookup f18 = some ⟨oc18, od18, .func (PySem.W.fnOf ("spot_of" : Str) ("spot_of" : Str) (defArgs s_spot_of) (defBody s_spot_of) (defScope s_spot_of) .none kV18 dc18 pm18 an18 cd18 ct18), sl18⟩) (c18 : PySem.W.codeIn K cd18 ("spot_of" : Str) = true) (k18 : PySem.W.keepIn K (.ref f18) = true)
    (a19 : PySem.W.nsIn K mainGlobals ("spot_now" : Str) = some (some (.ref f19))) (l19 : K.lookup f19 = some ⟨oc19, od19, .func (PySem.W.fnOf ("spot_now" : Str) ("spot_now" : Str) (defArgs s_spot_now) (defBody s_spot_now) (defScope s_spot_now) .none kV19 dc19 pm19 an19 cd19 ct19), sl19⟩) (c19 : PySem.W.codeIn K cd19 ("spot_now" : Str) = true) (k19 : PySem.W.keepIn K (.ref f19) = true)
    (a20 : PySem.W.nsIn K mainGlobals ("number_now" : Str) = some (some (.ref f20))) (l20 : K.lookup f20 = some ⟨oc20, od20, .func (PySem.W.fnOf ("number_now" : Str) ("number_now" : Str) (defArgs s_number_now) (defBody s_number_now) (defScope s_number_now) .none kV20 dc20 pm20 an20 cd20 ct20), sl20⟩) (c20 : PySem.W.codeIn K cd20 ("number_now" : Str) = true) (k20 : PySem.W.keepIn K (.ref f20) = true)
    (a21 : PySem.W.nsIn K mainGlobals ("disk_of" : Str) = some (some (.ref f21))) (l21 : K.lookup f21 = some ⟨oc21, od21, .func (PySem.W.fnOf ("disk_of" : Str) ("disk_of" : Str) (defArgs s_disk_of) (defBody s_disk_of) (defScope s_disk_of) .none kV21 dc21 pm21 an21 cd21 ct21), sl21⟩) (c21 : PySem.W.codeIn K cd21 ("disk_of" : Str) = true) (k21 : PySem.W.keepIn K (.ref f21) = true)
    (a22 : PySem.W.nsIn K mainGlobals ("row_blocks" : Str) = some (some (.ref f22))) (l22 : K.lookup f22 = some ⟨oc22, od22, .func (PySem.W.fnOf ("row_blocks" : Str) ("row_blocks" : Str) (defArgs s_row_blocks) (defBody s_row_blocks) (defScope s_row_blocks) .none kV22 dc22 pm22 an22 cd22 ct22), sl22⟩) (c22 : PySem.W.codeIn K cd22 ("row_blocks" : Str) = true) (k22 : PySem.W.keepIn K (.ref f22) = true)
    (a23 : PySem.W.nsIn K mainGlobals ("_law_step_right" : Str) = some (some (.ref f23))) (l23 : K.lookup f23 = some ⟨oc23, od23, .func (PySem.W.fnOf ("_law_step_right" : Str) ("_law_step_right" : Str) (defArgs s_law_step_right) (defBody s_law_step_right) (defScope s_law_step_right) .none kV23 dc23 pm23 an23 cd23 ct23), sl23⟩) (c23 : PySem.W.codeIn K cd23 ("_law_step_right" : Str) = true) (k23 : PySem.W.keepIn K (.ref f23) = true)
    (a24 : PySem.W.nsIn K mainGlobals ("_law_store_laid" : Str) = some (some (.ref f24))) (l24 : K.lookup f24 = some ⟨oc24, od24, .func (PySem.W.fnOf ("_law_store_laid" : Str) ("_law_store_laid" : Str) (defArgs s_law_store_laid) (defBody s_law_store_laid) (defScope s_law_store_laid) .none kV24 dc24 pm24 an24 cd24 ct24), sl24⟩) (c24 : PySem.W.codeIn K cd24 ("_law_store_laid" : Str) = true) (k24 : PySem.W.keepIn K (.ref f24) = true)
    (a25 : PySem.W.nsIn K mainGlobals ("room_of" : Str) = some (some (.ref f25))) (l25 : K.lookup f25 = some ⟨oc25, od25, .func (PySem.W.fnOf ("room_of" : Str) ("room_of" : Str) (defArgs s_room_of) (defBody s_room_of) (defScope s_room_of) .none kV25 dc25 pm25 an25 cd25 ct25), sl25⟩) (c25 : PySem.W.codeIn K cd25 ("room_of" : Str) = true) (k25 : PySem.W.keepIn K (.ref f25) = true)
    (a26 : PySem.W.nsIn K mainGlobals ("law" : Str) = some (some (.ref f26))) (l26 : K.lookup f26 = some ⟨oc26, od26, .func (PySem.W.fnOf ("law" : Str) ("law" : Str) (defArgs s_law) (defBody s_law) (defScope s_law) .none kV26 dc26 pm26 an26 cd26 ct26), sl26⟩) (c26 : PySem.W.codeIn K cd26 ("law" : Str) = true) (k26 : PySem.W.keepIn K (.ref f26) = true)
    (z0 : PySem.W.nsIn K mainGlobals ("all" : Str) = some none)
    (z1 : PySem.W.nsIn K mainGlobals ("bool" : Str) = some none)
    (z2 : PySem.W.nsIn K mainGlobals ("dict" : Str) = some none)
    (z3 : PySem.W.nsIn K mainGlobals ("enumerate" : Str) = some none)
    (z4 : PySem.W.nsIn K mainGlobals ("int" : Str) = some none)
    (z5 : PySem.W.nsIn K mainGlobals ("isinstance" : Str) = some none)
    (z6 : PySem.W.nsIn K mainGlobals ("len" : Str) = some none)
    (z7 : PySem.W.nsIn K mainGlobals ("list" : Str) = some none)
    (z8 : PySem.W.nsIn K mainGlobals ("min" : Str) = some none)
    (z9 : PySem.W.nsIn K mainGlobals ("range" : Str) = some none)
    (z10 : PySem.W.nsIn K mainGlobals ("str" : Str) = some none)
    (z11 : PySem.W.nsIn K mainGlobals ("tuple" : Str) = some none)
    (q0 : PySem.W.nsIn K mainGlobals ("MOST_BYTE" : Str) = some (some (.int 255 tk1)))
    (q1 : PySem.W.nsIn K mainGlobals ("MOST_DISKS" : Str) = some (some (.int 10 tk2)))
    (q2 : PySem.W.nsIn K mainGlobals ("MOST_ROWS" : Str) = some (some (.int 24 tk3)))
    (q3 : PySem.W.nsIn K mainGlobals ("MOST_SIZE" : Str) = some (some (.int 16 tk4)))
    : ∃ fd : FuncData, (∀ (s : Shared) (v : Value), BindsTo s fd ⟨[v], []⟩ [(("_law_script" : Str), v)]) ∧ ∀ base : Heap, K.In base → base.Ns mainGlobals mg → FnA l.prog w K mg base 8 fa fd [("_law_script" : Str)] sp_law := by
  have e := hfa.symm.trans (PySem.W.mg_of X G a26)
  cases e
  let T : Tx K mg := {
    n_all := PySem.W.mg_none_of X G z0
    n_bool := PySem.W.mg_none_of X G z1
    n_dict := PySem.W.mg_none_of X G z2
    n_enumerate := PySem.W.mg_none_of X G z3
    n_int := PySem.W.mg_none_of X G z4
    n_isinstance := PySem.W.mg_none_of X G z5
    n_len := PySem.W.mg_none_of X G z6
    n_list := PySem.W.mg_none_of X G z7
    n_min := PySem.W.mg_none_of X G z8
    n_range := PySem.W.mg_none_of X G z9
    n_str := PySem.W.mg_none_of X G z10
    n_tuple := PySem.W.mg_none_of X G z11
    c_MOST_BYTE := ⟨_, PySem.W.mg_of X G q0⟩
    c_MOST_DISKS := ⟨_, PySem.W.mg_of X G q1⟩
    c_MOST_ROWS := ⟨_, PySem.W.mg_of X G q2⟩
    c_MOST_SIZE := ⟨_, PySem.W.mg_of X G q3⟩
    f_law_next := f0, d_law_next := _, F_law_next := fun_mk (st := s_law_next) l0 c0 k0, m_law_next := PySem.W.mg_of X G a0, b_law_next := (fun_mk (st := s_law_next) l0 c0 k0).binds (ps := [("_law_pot_here" : Str), ("_law_many" : Str)]) fun _ _ _ _ _ _ us hl => match us, hl with | [_, _], _ => rfl
    f_law_count := f1, d_law_count := _, F_law_count := fun_mk (st := s_law_count) l1 c1 k1, m_law_count := PySem.W.mg_of X G a1, b_law_count := (fun_mk (st := s_law_count) l1 c1 k1).binds (ps := [("_law_pot_here" : Str), ("_law_most" : Str), ("_law_great" : Str)]) fun _ _ _ _ _ _ us hl => match us, hl with | [_, _, _], _ => rfl
    f_law_pot := f2, d_law_pot := _, F_law_pot := fun_mk (st := s_law_pot) l2 c2 k2, m_law_pot := PySem.W.mg_of X G a2, b_law_pot := (fun_mk (st := s_law_pot) l2 c2 k2).binds (ps := [("_law_script" : Str)]) fun _ _ _ _ _ _ us hl => match us, hl with | [_], _ => rfl
    f_law_laid := f3, d_law_laid := _, F_law_laid := fun_mk (st := s_law_laid) l3 c3 k3, m_law_laid := PySem.W.mg_of X G a3, b_law_laid := (fun_mk (st := s_law_laid) l3 c3 k3).binds (ps := [("_law_head" : Str), ("_law_many" : Str)]) fun _ _ _ _ _ _ us hl => match us, hl with | [_, _], _ => rfl
    f_law_spots := f4, d_law_spots := _, F_law_spots := fun_mk (st := s_law_spots) l4 c4 k4, m_law_spots := PySem.W.mg_of X G a4, b_law_spots := (fun_mk (st := s_law_spots) l4 c4 k4).binds (ps := [("_law_head" : Str)]) fun _ _ _ _ _ _ us hl => match us, hl with | [_], _ => rfl
    f_law_told := f5, d_law_told := _, F_law_told := fun_mk (st := s_law_told) l5 c5 k5, m_law_told := PySem.W.mg_of X G a5, b_law_told := (fun_mk (st := s_law_told) l5 c5 k5).binds (ps := [("_law_number" : Str), ("_law_size" : Str)]) fun _ _ _ _ _ _ us hl => match us, hl with | [_, _], _ => rfl
    f_is_whole := f6, d_is_whole := _, F_is_whole := fun_mk (st := s_is_whole) l6 c6 k6, m_is_whole := PySem.W.mg_of X G a6, b_is_whole := (fun_mk (st := s_is_whole) l6 c6 k6).binds (ps := [("thing" : Str)]) fun _ _ _ _ _ _ us hl => match us, hl with | [_], _ => rfl
    f_is_between := f7, d_is_between := _, F_is_between := fun_mk (st := s_is_between) l7 c7 k7, m_is_between := PySem.W.mg_of X G a7, b_is_between := (fun_mk (st := s_is_between) l7 c7 k7).binds (ps := [("thing" : Str), ("low" : Str), ("high" : Str)]) fun _ _ _ _ _ _ us hl => match us, hl with | [_, _, _], _ => rfl
    f_is_block := f8, d_is_block := _, F_is_block := fun_mk (st := s_is_block) l8 c8 k8, m_is_block := PySem.W.mg_of X G a8, b_is_block := (fun_mk (st := s_is_block) l8 c8 k8).binds (ps := [("thing" : Str), ("size" : Str)]) fun _ _ _ _ _ _ us hl => match us, hl with | [_, _], _ => rfl
    f_is_disk := f9, d_is_disk := _, F_is_disk := fun_mk (st := s_is_disk) l9 c9 k9, m_is_disk := PySem.W.mg_of X G a9, b_is_disk := (fun_mk (st := s_is_disk) l9 c9 k9).binds (ps := [("thing" : Str), ("size" : Str), ("rows" : Str)]) fun _ _ _ _ _ _ us hl => match us, hl with | [_, _, _], _ => rfl
    f_are_widths := f10, d_are_widths := _, F_are_widths := fun_mk (st := s_are_widths) l10 c10 k10, m_are_widths := PySem.W.mg_of X G a10, b_are_widths := (fun_mk (st := s_are_widths) l10 c10 k10).binds (ps := [("width" : Str), ("moved" : Str), ("head" : Str), ("many" : Str)]) fun _ _ _ _ _ _ us hl => match us, hl with | [_, _, _, _], _ => rfl
    f_is_head := f11, d_is_head := _, F_is_head := fun_mk (st := s_is_head) l11 c11 k11, m_is_head := PySem.W.mg_of X G a11, b_is_head := (fun_mk (st := s_is_head) l11 c11 k11).binds (ps := [("thing" : Str), ("many" : Str)]) fun _ _ _ _ _ _ us hl => match us, hl with | [_, _], _ => rfl
    f_is_note := f12, d_is_note := _, F_is_note := fun_mk (st := s_is_note) l12 c12 k12, m_is_note := PySem.W.mg_of X G a12, b_is_note := (fun_mk (st := s_is_note) l12 c12 k12).binds (ps := [("thing" : Str), ("at" : Str), ("head" : Str), ("many" : Str)]) fun _ _ _ _ _ _ us hl => match us, hl with | [_, _, _, _], _ => rfl
    f_is_journal := f13, d_is_journal := _, F_is_journal := fun_mk (st := s_is_journal) l13 c13 k13, m_is_journal := PySem.W.mg_of X G a13, b_is_journal := (fun_mk (st := s_is_journal) l13 c13 k13).binds (ps := [("thing" : Str), ("head" : Str), ("many" : Str)]) fun _ _ _ _ _ _ us hl => match us, hl with | [_, _, _], _ => rfl
    f_is_store := f14, d_is_store := _, F_is_store := fun_mk (st := s_is_store) l14 c14 k14, m_is_store := PySem.W.mg_of X G a14, b_is_store := (fun_mk (st := s_is_store) l14 c14 k14).binds (ps := [("thing" : Str)]) fun _ _ _ _ _ _ us hl => match us, hl with | [_], _ => rfl
    f_block_at := f15, d_block_at := _, F_block_at := fun_mk (st := s_block_at) l15 c15 k15, m_block_at := PySem.W.mg_of X G a15, b_block_at := (fun_mk (st := s_block_at) l15 c15 k15).binds (ps := [("row" : Str), ("place" : Str), ("width" : Str), ("parities" : Str)]) fun _ _ _ _ _ _ us hl => match us, hl with | [_, _, _, _], _ => rfl
    f_blocks_kept := f16, d_blocks_kept := _, F_blocks_kept := fun_mk (st := s_blocks_kept) l16 c16 k16, m_blocks_kept := PySem.W.mg_of X G a16, b_blocks_kept := (fun_mk (st := s_blocks_kept) l16 c16 k16).binds (ps := [("store" : Str)]) fun _ _ _ _ _ _ us hl => match us, hl with | [_], _ => rfl
    f_row_width := f17, d_row_width := _, F_row_width := fun_mk (st := s_row_width) l17 c17 k17, m_row_width := PySem.W.mg_of X G a17, b_row_width := (fun_mk (st := s_row_width) l17 c17 k17).binds (ps := [("store" : Str), ("row" : Str)]) fun _ _ _ _ _ _ us hl => match us, hl with | [_, _], _ => rfl
    f_spot_of := f18, d_spot_of := _, F_spot_of := fun_mk (st := s_spot_of) l18 c18 k18, m_spot_of := PySem.W.mg_of X G a18, b_spot_of := (fun_mk (st := s_spot_of) l18 c18 k18).binds (ps := [("block" : Str), ("width" : Str), ("parities" : Str)]) fun _ _ _ _ _ _ us hl => match us, hl with | [_, _, _], _ => rfl
    f_spot_now := f19, d_spot_now := _, F_spot_now := fun_mk (st := s_spot_now) l19 c19 k19, m_spot_now := PySem.W.mg_of X G a19, b_spot_now := (fun_mk (st := s_spot_now) l19 c19 k19).binds (ps := [("store" : Str), ("block" : Str)]) fun _ _ _ _ _ _ us hl => match us, hl with | [_, _], _ => rfl
    f_number_now := f20, d_number_now := _, F_number_now := fun_mk (st := s_number_now) l20 c20 k20, m_number_now := PySem.W.mg_of X G a20, b_number_now := (fun_mk (st := s_number_now) l20 c20 k20).binds (ps := [("store" : Str), ("row" : Str), ("place" : Str)]) fun _ _ _ _ _ _ us hl => match us, hl with | [_, _, _], _ => rfl
    f_disk_of := f21, d_disk_of := _, F_disk_of := fun_mk (st := s_disk_of) l21 c21 k21, m_disk_of := PySem.W.mg_of X G a21, b_disk_of := (fun_mk (st := s_disk_of) l21 c21 k21).binds (ps := [("row" : Str), ("place" : Str), ("width" : Str)]) fun _ _ _ _ _ _ us hl => match us, hl with | [_, _, _], _ => rfl
    f_row_blocks := f22, d_row_blocks := _, F_row_blocks := fun_mk (st := s_row_blocks) l22 c22 k22, m_row_blocks := PySem.W.mg_of X G a22, b_row_blocks := (fun_mk (st := s_row_blocks) l22 c22 k22).binds (ps := [("store" : Str), ("row" : Str)]) fun _ _ _ _ _ _ us hl => match us, hl with | [_, _], _ => rfl
    f_law_step_right := f23, d_law_step_right := _, F_law_step_right := fun_mk (st := s_law_step_right) l23 c23 k23, m_law_step_right := PySem.W.mg_of X G a23, b_law_step_right := (fun_mk (st := s_law_step_right) l23 c23 k23).binds (ps := [("_law_store" : Str)]) fun _ _ _ _ _ _ us hl => match us, hl with | [_], _ => rfl
    f_law_store_laid := f24, d_law_store_laid := _, F_law_store_laid := fun_mk (st := s_law_store_laid) l24 c24 k24, m_law_store_laid := PySem.W.mg_of X G a24, b_law_store_laid := (fun_mk (st := s_law_store_laid) l24 c24 k24).binds (ps := [("_law_head" : Str), ("_law_many" : Str)]) fun _ _ _ _ _ _ us hl => match us, hl with | [_, _], _ => rfl
    f_room_of := f25, d_room_of := _, F_room_of := fun_mk (st := s_room_of) l25 c25 k25, m_room_of := PySem.W.mg_of X G a25, b_room_of := (fun_mk (st := s_room_of) l25 c25 k25).binds (ps := [("store" : Str)]) fun _ _ _ _ _ _ us hl => match us, hl with | [_], _ => rfl
    f_law := fa, d_law := _, F_law := fun_mk (st := s_law) l26 c26 k26, m_law := PySem.W.mg_of X G a26, b_law := (fun_mk (st := s_law) l26 c26 k26).binds (ps := [("_law_script" : Str)]) fun _ _ _ _ _ _ us hl => match us, hl with | [_], _ => rfl
  }
  exact ⟨_, fun s v => .of_eq rfl, fun base _ _ => ok_law T⟩
theorem walk {l : PySem.W.OpenLaw} {q : Program} {loose : List Str} {XP : (Str → Option Value) → Heap → Prop} {YP : World → Heap → Prop} {d : DefRec} {K : Params → PySem.W.Frag} (hn : l.most = some 63) (hdf : d.params.defaults = [])
    (hY : ∀ (w : World) (h : Heap), YP w h → (K w.params).In h)
    (F : ∀ (w : World) (mg : Str → Option Value) (fa : Addr) (h : Heap), (K w.params).In h → h.Ns mainGlobals mg → mg d.name = some (.ref fa) →
      ∃ fd : FuncData, (∀ (s : Shared) (u : Value), BindsTo s fd ⟨[u], []⟩ [(("_law_script" : Str), u)]) ∧ ∀ base : Heap, (K w.params).In base → base.Ns mainGlobals mg → FnA l.prog w (K w.params) mg base 8 fa fd [("_law_script" : Str)] sp_law) :
    PySem.W.WalkO q loose XP YP l.row.toRowW d [] (fun f vs => PySem.call f vs) :=
  L2.walk_of (n := 63) (k := 8) (x := ("_law_script" : Str)) (CX := fun _ => CX0) (sp := fun w => cSp (K w.params) sp_law) hn (by decide) hdf ⟨rfl, by decide, by decide⟩ hY F (fun w H a ns hl hO hS => law_end hl hO hS law_true) fun _ _ _ _ _ z => z
end Law
open PySem PySem.W PyProof.Rows
set_option maxRecDepth 100000 in
set_option maxHeartbeats 0 in
theorem PySem.Challenge.cw_lostdisk_k31_whole_laid_anew_holds : PySem.Challenge.rw_lostdisk_k31_whole_laid_anew.Holds := by
  w_on; o_law; k_head; (case hw => w_witness2)
  k_fill
  refine Law.walk (l := PySem.Challenge.rw_lostdisk_k31_whole_laid_anew) rfl rfl (fun w h Y => PySem.W.kIn_of Y) ?F
  case F =>
    intro w mg fa h KX G hmg
    refine' Law.all_mk KX G hmg ?a0 ?l0 ?c0 ?k0 ?a1 ?l1 ?c1 ?k1 ?a2 ?l2 ?c2 ?k2 ?a3 ?l3 ?c3 ?k3 ?a4 ?l4 ?c4 ?k4 ?a5 ?l5 ?c5 ?k5 ?a6 ?l6 ?c6 ?k6 ?a7 ?l7 ?c7 ?k7 ?a8 ?l8 ?c8 ?k8 ?a9 ?l9 ?c9 ?k9 ?a10 ?l10 ?c10 ?k10 ?a11 ?l11 ?c11 ?k11 ?a12 ?l12 ?c12 ?k12 ?a13 ?l13 ?c13 ?k13 ?a14 ?l14 ?c14 ?k14 ?a15 ?l15 ?c15 ?k15 ?a16 ?l16 ?c16 ?k16 ?a17 ?l17 ?c17 ?k17 ?a18 ?l18 ?c18 ?k18 ?a19 ?l19 ?c19 ?k19 ?a20 ?l20 ?c20 ?k20 ?a21 ?l21 ?c21 ?k21 ?a22 ?l22 ?c22 ?k22 ?a23 ?l23 ?c23 ?k23 ?a24 ?l24 ?c24 ?k24 ?a25 ?l25 ?c25 ?k25 ?a26 ?l26 ?c26 ?k26 ?z0 ?z1 ?z2 ?z3 ?z4 ?z5 ?z6 ?z7 ?z8 ?z9 ?z10 ?z11 ?q0 ?q1 ?q2 ?q3
    (case a0 => k_is)
    (case l0 => k_is)
    (case c0 => k_is)
    (case k0 => k_is)
    (case a1 => k_is)
    (case l1 => k_is)
    (case c1 => k_is)
    (case k1 => k_is)
    (case a2 => k_is)
    (case l2 => k_is)
    (case c2 => k_is)
    (case k2 => k_is)
    (case a3 => k_is)
    (case l3 => k_is)
    (case c3 => k_is)
    (case k3 => k_is)
    (case a4 => k_is)
    (case l4 => k_is)
    (case c4 => k_is)
    (case k4 => k_is)
    (case a5 => k_is)
    (case l5 => k_is)
    (case c5 => k_is)
    (case k5 => k_is)
    (case a6 => k_is)
    (case l6 => k_is)
    (case c6 => k_is)
    (case k6 => k_is)
    (case a7 => k_is)
    (case l7 => k_is)
    (case c7 => k_is)
    (case k7 => k_is)
    (case a8 => k_is)
    (case l8 => k_is)
    (case c8 => k_is)
    (case k8 => k_is)
    (case a9 => k_is)
    (case l9 => k_is)
    (case c9 => k_is)
    (case k9 => k_is)
    (case a10 => k_is)
    (case l10 => k_is)
    (case c10 => k_is)
    (case k10 => k_is)
    (case a11 => k_is)
    (case l11 => k_is)
    (case c11 => k_is)
    (case k11 => k_is)
    (case a12 => k_is)
    (case l12 => k_is)
    (case c12 => k_is)
    (case k12 => k_is)
    (case a13 => k_is)
    (case l13 => k_is)
    (case c13 => k_is)
    (case k13 => k_is)
    (case a14 => k_is)
    (case l14 => k_is)
    (case c14 => k_is)
    (case k14 => k_is)
    (case a15 => k_is)
    (case l15 => k_is)
    (case c15 => k_is)
    (case k15 => k_is)
    (case a16 => k_is)
    (case l16 => k_is)
    (case c16 => k_is)
    (case k16 => k_is)
    (case a17 => k_is)
    (case l17 => k_is)
    (case c17 => k_is)
    (case k17 => k_is)
    (case a18 => k_is)
    (case l18 => k_is)
    (case c18 => k_is)
    (case k18 => k_is)
    (case a19 => k_is)
    (case l19 => k_is)
    (case c19 => k_is)
    (case k19 => k_is)
    (case a20 => k_is)
    (case l20 => k_is)
    (case c20 => k_is)
    (case k20 => k_is)
    (case a21 => k_is)
    (case l21 => k_is)
    (case c21 => k_is)
    (case k21 => k_is)
    (case a22 => k_is)
    (case l22 => k_is)
    (case c22 => k_is)
    (case k22 => k_is)
    (case a23 => k_is)
    (case l23 => k_is)
    (case c23 => k_is)
    (case k23 => k_is)
    (case a24 => k_is)
    (case l24 => k_is)
    (case c24 => k_is)
    (case k24 => k_is)
    (case a25 => k_is)
    (case l25 => k_is)
    (case c25 => k_is)
    (case k25 => k_is)
    (case a26 => k_is)
    (case l26 => k_is)
    (case c26 => k_is)
    (case k26 => k_is)
    (case z0 => k_is)
    (case z1 => k_is)
    (case z2 => k_is)
    (case z3 => k_is)
    (case z4 => k_is)
    (case z5 => k_is)
    (case z6 => k_is)
    (case z7 => k_is)
    (case z8 => k_is)
    (case z9 => k_is)
    (case z10 => k_is)
    (case z11 => k_is)
    (case q0 => k_is)
    (case q1 => k_is)
    (case q2 => k_is)
    (case q3 => k_is)
