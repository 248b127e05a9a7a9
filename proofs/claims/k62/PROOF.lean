import PyProof.Rows.All
import Wide.All
import OpenK.AllK
import Wide.FinOn
import HandS.ForMost
import HandS.ForExc
import HandS.Wide
import HandS.TupAny
import HandS.RaiseMore
import PyProof.ReprRoads
import HandS.SortInts
import HandS.Style
import HandS.TryOnly
import HandS.Zip
import HandS.Iter
import HandS.Property
import HandS.OwnEq
import PyProof.ReprLen
import PyProof.FitsInt
import HandS.IsInst
import KE.RegKIsAll
import HandS.SetFor
import HandS.Strs
import HandS.SetBool
import HandS.ExcInit
import HandS.ExcField
import HandS.ExcIs
import HandS.TryMany
import KE.KCallOwn
import PyProof.InstNe
import OpenK.KOps
import PySem.Challenge.RW_dueclocks_k62_tickets_switched_and_enlar
set_option maxHeartbeats 0
set_option Elab.async false
set_option linter.all false
set_option maxRecDepth 100000
/-! Dv1: data trees, slot values, their representation in the tracked heap, and how a piece of code may change the heap. -/
namespace Dv
open PySem PySem.Spec PyProof.Rows L2

/-- immutable data (also lists that nobody changes any more; instances of class number k with their fields) -/
inductive D where
  | non | bl (b : Bool) | int (i : Int) | str (s : Str)
  | lst (ds : List D) | tup (ds : List D)
  | obj (k : Nat) (ds : List D)
  | scr (ns : List Int)

/-- what a name holds: data; a list or an instance that this name alone owns; a caught error of class number k; a place (slot i, field j of slot i) -/
inductive SV where
  | d (x : D)
  | lst (ds : List D)
  | ins (k : Nat) (fs : List SV)
  | exc (k : Nat) (x : D)
  | sl (i : Nat)
  | fl (i j : Nat)

abbrev Rho := List (Option SV)

/-- static names of the classes: their address and their fields in order -/
structure Cl where
  adr : Addr
  fld : List Str
  deriving Inhabited

section
variable (K : PySem.W.Frag) (cl : Nat → Cl)
mutual
def R (F : Hp) : V → D → Prop
  | v, .non => v = .non
  | v, .bl b => v = .bl b
  | v, .int i => v = .int i
  | v, .str s => v = .str s
  | v, .lst ds => ∃ a vs, v = .ref a ∧ F a = some (.lst vs) ∧ RL F vs ds
  | v, .tup ds => ∃ a vs, v = .ref a ∧ F a = some (.tup vs) ∧ RL F vs ds
  | v, .scr ns => ∃ a, v = .ref a ∧ SqL K F a (ns.map V.int)
  | v, .obj k ds => ∃ a dx vs, v = .ref a ∧ F a = some (.ins (cl k).adr dx ((cl k).fld.zip vs)) ∧ vs.length ≤ (cl k).fld.length ∧ RL F vs ds
def RL (F : Hp) : List V → List D → Prop
  | vs, [] => vs = []
  | vs, d :: ds => ∃ v r, vs = v :: r ∧ R F v d ∧ RL F r ds
end
end

section
variable {K : PySem.W.Frag} {cl : Nat → Cl} {F F' H H' : Hp}
mutual
theorem R.mono (e : Same F F') : ∀ {v : V} {d : D}, R K cl F v d → R K cl F' v d
  | _, .non, h => by simpa [R] using h
  | _, .bl _, h => by simpa [R] using h
  | _, .int _, h => by simpa [R] using h
  | _, .str _, h => by simpa [R] using h
  | _, .lst ds, h => by
    simp only [R] at h ⊢
    obtain ⟨a, vs, h1, h2, h3⟩ := h
    exact ⟨a, vs, h1, e _ _ h2, RL.mono e h3⟩
  | _, .tup ds, h => by
    simp only [R] at h ⊢
    obtain ⟨a, vs, h1, h2, h3⟩ := h
    exact ⟨a, vs, h1, e _ _ h2, RL.mono e h3⟩
  | _, .scr ns, h => by
    simp only [R] at h ⊢
    obtain ⟨a, h1, h2⟩ := h
    exact ⟨a, h1, e.seq h2⟩
  | _, .obj k ds, h => by
    simp only [R] at h ⊢
    obtain ⟨a, dx, vs, h1, h2, h3, h4⟩ := h
    exact ⟨a, dx, vs, h1, e _ _ h2, h3, RL.mono e h4⟩
theorem RL.mono (e : Same F F') : ∀ {vs : List V} {ds : List D}, RL K cl F vs ds → RL K cl F' vs ds
  | _, [], h => by simpa [RL] using h
  | _, d :: ds, h => by
    simp only [RL] at h ⊢
    obtain ⟨v, r, h1, h2, h3⟩ := h
    exact ⟨v, r, h1, R.mono e h2, RL.mono e h3⟩
end
theorem RL.length : ∀ {vs : List V} {ds : List D}, RL K cl F vs ds → vs.length = ds.length
  | _, [], h => by simp only [RL] at h; simp [h]
  | _, d :: ds, h => by
    simp only [RL] at h
    obtain ⟨v, r, rfl, _, h3⟩ := h
    simp [RL.length h3]
theorem RL.get : ∀ {vs : List V} {ds : List D} {i : Nat} {d : D}, RL K cl F vs ds → ds[i]? = some d → ∃ v, vs[i]? = some v ∧ R K cl F v d
  | _, [], i, d, _, e => by simp at e
  | _, x :: ds, 0, d, h, e => by
    simp only [RL] at h
    obtain ⟨v, r, rfl, h2, _⟩ := h
    simp at e; subst e
    exact ⟨v, rfl, h2⟩
  | _, x :: ds, i + 1, d, h, e => by
    simp only [RL] at h
    obtain ⟨v, r, rfl, _, h3⟩ := h
    obtain ⟨w, h1, h2⟩ := RL.get (i := i) h3 (by simpa using e)
    exact ⟨w, by simpa using h1, h2⟩
theorem RL.get' : ∀ {vs : List V} {ds : List D} {i : Nat} {v : V}, RL K cl F vs ds → vs[i]? = some v → ∃ d, ds[i]? = some d ∧ R K cl F v d := fun {vs ds i v} h e => by
  have hl := h.length
  have hi : i < vs.length := (List.getElem?_eq_some_iff.mp e).1
  obtain ⟨w, h1, h2⟩ := h.get (i := i) (d := ds[i]'(by omega)) (by simp)
  rw [e] at h1; cases h1
  exact ⟨_, by simp, h2⟩
theorem RL.nil : RL K cl F [] [] := by simp [RL]
theorem RL.cons {v : V} {d : D} {vs : List V} {ds : List D} (h : R K cl F v d) (t : RL K cl F vs ds) : RL K cl F (v :: vs) (d :: ds) := by
  simp only [RL]
  exact ⟨v, vs, rfl, h, t⟩
theorem RL.append : ∀ {vs ws : List V} {ds es : List D}, RL K cl F vs ds → RL K cl F ws es → RL K cl F (vs ++ ws) (ds ++ es)
  | _, _, [], _, h, t => by simp only [RL] at h; subst h; exact t
  | _, _, d :: ds, _, h, t => by
    simp only [RL] at h
    obtain ⟨v, r, rfl, h2, h3⟩ := h
    exact RL.cons h2 (RL.append h3 t)
theorem RL.set : ∀ {vs : List V} {ds : List D} {v : V} {d : D} (i : Nat), RL K cl F vs ds → R K cl F v d → RL K cl F (vs.set i v) (ds.set i d)
  | _, [], _, _, _, h, _ => by simp only [RL] at h; subst h; exact RL.nil
  | _, x :: ds, v, d, 0, h, q => by
    simp only [RL] at h
    obtain ⟨w, r, rfl, h2, h3⟩ := h
    exact RL.cons q h3
  | _, x :: ds, v, d, i + 1, h, q => by
    simp only [RL] at h
    obtain ⟨w, r, rfl, h2, h3⟩ := h
    exact RL.cons h2 (RL.set i h3 q)
theorem RL.take : ∀ {vs : List V} {ds : List D} (n : Nat), RL K cl F vs ds → RL K cl F (vs.take n) (ds.take n)
  | _, [], n, h => by simp only [RL] at h; subst h; simp [RL]
  | _, x :: ds, 0, h => by simp [RL]
  | _, x :: ds, n + 1, h => by
    simp only [RL] at h
    obtain ⟨w, r, rfl, h2, h3⟩ := h
    exact RL.cons h2 (RL.take n h3)
theorem RL.drop : ∀ {vs : List V} {ds : List D} (n : Nat), RL K cl F vs ds → RL K cl F (vs.drop n) (ds.drop n)
  | _, [], n, h => by simp only [RL] at h; subst h; simp [RL]
  | _, x :: ds, 0, h => h
  | _, x :: ds, n + 1, h => by
    simp only [RL] at h
    obtain ⟨w, r, rfl, h2, h3⟩ := h
    exact RL.drop n h3
theorem RL.reverse : ∀ {vs : List V} {ds : List D}, RL K cl F vs ds → RL K cl F vs.reverse ds.reverse
  | _, [], h => by simp only [RL] at h; subst h; exact RL.nil
  | _, x :: ds, h => by
    simp only [RL] at h
    obtain ⟨w, r, rfl, h2, h3⟩ := h
    rw [List.reverse_cons, List.reverse_cons]
    exact RL.append (RL.reverse h3) (RL.cons h2 RL.nil)
theorem RL.ints : ∀ {vs : List V} {ns : List Int}, RL K cl F vs (ns.map D.int) → vs = ns.map V.int
  | _, [], h => by simpa [RL] using h
  | _, n :: ns, h => by
    simp only [List.map_cons, RL, R] at h
    obtain ⟨v, r, rfl, rfl, h3⟩ := h
    rw [RL.ints h3]; rfl
theorem RL.of_ints : ∀ {ns : List Int}, RL K cl F (ns.map V.int) (ns.map D.int)
  | [] => RL.nil
  | n :: ns => RL.cons (by simp [R]) RL.of_ints
end

/-! ### what code may do to the heap: F data that stay, H all, A the owned addresses -/
structure Ext (F H : Hp) (A : List Addr) (F' H' : Hp) (A' : List Addr) : Prop where
  sf : Same F F'
  fr : ∀ a o, H a = some o → a ∉ A → H' a = some o
  nf : ∀ a o, F' a = some o → F a = some o ∨ H a = none ∨ a ∈ A
  na : ∀ a ∈ A', a ∈ A ∨ H a = none
theorem Ext.refl {F H : Hp} {A : List Addr} : Ext F H A F H A := ⟨Same.refl F, fun _ _ h _ => h, fun _ _ h => .inl h, fun _ h => .inl h⟩
theorem Ext.trans {F H F1 H1 F2 H2 : Hp} {A A1 A2 : List Addr} (x : Ext F H A F1 H1 A1) (y : Ext F1 H1 A1 F2 H2 A2) : Ext F H A F2 H2 A2 where
  sf := x.sf.trans y.sf
  fr := fun a o h n => y.fr a o (x.fr a o h n) fun m => by
    rcases x.na a m with q | q
    · exact n q
    · rw [h] at q; cases q
  nf := fun a o h => by
    rcases y.nf a o h with q | q | q
    · exact x.nf a o q
    · by_cases m : a ∈ A
      · exact .inr (.inr m)
      · cases e : H a with
        | none => exact .inr (.inl rfl)
        | some u => rw [x.fr a u e m] at q; cases q
    · rcases x.na a q with r | r
      · exact .inr (.inr r)
      · exact .inr (.inl r)
  na := fun a h => by
    rcases y.na a h with q | q
    · exact x.na a q
    · by_cases m : a ∈ A
      · exact .inl m
      · cases e : H a with
        | none => exact .inr rfl
        | some u => rw [x.fr a u e m] at q; cases q
/-- fewer owned addresses behind -/
theorem Ext.sub {F H F' H' : Hp} {A A' B : List Addr} (x : Ext F H A F' H' A') (h : ∀ a ∈ B, a ∈ A') : Ext F H A F' H' B := ⟨x.sf, x.fr, x.nf, fun a m => x.na a (h a m)⟩
/-- code that knows of the owned A, run where B is owned besides -/
theorem Ext.frame {F H F' H' : Hp} {A A' B : List Addr} (x : Ext F H A F' H' A') : Ext F H (B ++ A) F' H' (B ++ A') where
  sf := x.sf
  fr := fun a o h n => x.fr a o h fun m => n (List.mem_append_right _ m)
  nf := fun a o h => by
    rcases x.nf a o h with q | q | q
    · exact .inl q
    · exact .inr (.inl q)
    · exact .inr (.inr (List.mem_append_right _ q))
  na := fun a m => by
    rcases List.mem_append.mp m with q | q
    · exact .inl (List.mem_append_left _ q)
    · rcases x.na a q with r | r
      · exact .inl (List.mem_append_right _ r)
      · exact .inr r

/-! ### what a slot's value is -/
section
variable (K : PySem.W.Frag) (cl : Nat → Cl)
mutual
/-- B: the addresses that the value owns (places are no values of slots) -/
def RS (F H : Hp) : V → SV → List Addr → Prop
  | v, .d x, B => R K cl F v x ∧ B = []
  | v, .lst ds, B => ∃ a vs, v = .ref a ∧ H a = some (.lst vs) ∧ RL K cl F vs ds ∧ B = [a]
  | v, .ins k fs, B => ∃ a dx vs B', v = .ref a ∧ H a = some (.ins (cl k).adr dx (((cl k).fld.take fs.length).zip vs)) ∧ fs.length ≤ (cl k).fld.length ∧ RSL F H vs fs B' ∧ B = a :: B'
  | v, .exc k x, B => False
  | v, .sl i, B => False
  | v, .fl i j, B => False
def RSL (F H : Hp) : List V → List SV → List Addr → Prop
  | vs, [], B => vs = [] ∧ B = []
  | vs, x :: xs, B => ∃ v r B1 B2, vs = v :: r ∧ RS F H v x B1 ∧ RSL F H r xs B2 ∧ B = B1 ++ B2
end
/-- the slots one by one -/
inductive Sl (F H : Hp) : L2.St → Rho → List Addr → Prop
  | nil : Sl F H [] [] []
  | skip {x σ ρ A} : Sl F H σ ρ A → Sl F H (x :: σ) (none :: ρ) A
  | one {v sv B σ ρ A} : RS K cl F H v sv B → Sl F H σ ρ A → Sl F H (some v :: σ) (some sv :: ρ) (B ++ A)
structure Hold (σ : L2.St) (F H : Hp) (ρ : Rho) (A : List Addr) : Prop where
  sl : ∃ A1, Sl K cl F H σ ρ A1 ∧ A1.Perm A
  sub : Same F H
  nd : A.Nodup
  av : ∀ a ∈ A, F a = none
end
section
variable {K : PySem.W.Frag} {cl : Nat → Cl} {F F' H H' : Hp} {σ : L2.St} {ρ : Rho} {A B : List Addr}
mutual
theorem RS.mono (e : Same F F') : ∀ {v : V} {x : SV} {B : List Addr}, (∀ a ∈ B, ∀ o, H a = some o → H' a = some o) → RS K cl F H v x B → RS K cl F' H' v x B
  | _, .d x, _, _, h => by
    simp only [RS] at h ⊢
    exact ⟨h.1.mono e, h.2⟩
  | _, .lst ds, _, k, h => by
    simp only [RS] at h ⊢
    obtain ⟨a, vs, h1, h2, h3, rfl⟩ := h
    exact ⟨a, vs, h1, k a (by simp) _ h2, h3.mono e, rfl⟩
  | _, .ins n fs, _, k, h => by
    simp only [RS] at h ⊢
    obtain ⟨a, dx, vs, B', h1, h2, h3, h4, rfl⟩ := h
    exact ⟨a, dx, vs, B', h1, k a (by simp) _ h2, h3, RSL.mono e (fun b m => k b (List.mem_cons_of_mem _ m)) h4, rfl⟩
  | _, .exc _ _, _, _, h => by simp only [RS] at h
  | _, .sl i, _, _, h => by simp only [RS] at h
  | _, .fl _ _, _, _, h => by simp only [RS] at h
theorem RSL.mono (e : Same F F') : ∀ {vs : List V} {xs : List SV} {B : List Addr}, (∀ a ∈ B, ∀ o, H a = some o → H' a = some o) → RSL K cl F H vs xs B → RSL K cl F' H' vs xs B
  | _, [], _, _, h => by simpa only [RSL] using h
  | _, x :: xs, _, k, h => by
    simp only [RSL] at h ⊢
    obtain ⟨v, r, B1, B2, h1, h2, h3, rfl⟩ := h
    exact ⟨v, r, B1, B2, h1, RS.mono e (fun b m => k b (List.mem_append_left _ m)) h2, RSL.mono e (fun b m => k b (List.mem_append_right _ m)) h3, rfl⟩
end
mutual
theorem RS.own : ∀ {v : V} {x : SV} {B : List Addr}, RS K cl F H v x B → ∀ a ∈ B, ∃ o, H a = some o ∧ Mut (some o)
  | _, .d x, _, h => by
    simp only [RS] at h
    obtain ⟨_, rfl⟩ := h
    simp
  | _, .lst ds, _, h => by
    simp only [RS] at h
    obtain ⟨a, vs, h1, h2, h3, rfl⟩ := h
    intro b m
    simp at m; subst m
    exact ⟨_, h2, trivial⟩
  | _, .ins n fs, _, h => by
    simp only [RS] at h
    obtain ⟨a, dx, vs, B', h1, h2, h3, h4, rfl⟩ := h
    intro b m
    rcases List.mem_cons.mp m with rfl | m
    · exact ⟨_, h2, trivial⟩
    · exact RSL.own h4 b m
  | _, .exc _ _, _, h => by simp only [RS] at h
  | _, .sl i, _, h => by simp only [RS] at h
  | _, .fl _ _, _, h => by simp only [RS] at h
theorem RSL.own : ∀ {vs : List V} {xs : List SV} {B : List Addr}, RSL K cl F H vs xs B → ∀ a ∈ B, ∃ o, H a = some o ∧ Mut (some o)
  | _, [], _, h => by
    simp only [RSL] at h
    obtain ⟨_, rfl⟩ := h
    simp
  | _, x :: xs, _, h => by
    simp only [RSL] at h
    obtain ⟨v, r, B1, B2, h1, h2, h3, rfl⟩ := h
    intro b m
    rcases List.mem_append.mp m with m | m
    · exact RS.own h2 b m
    · exact RSL.own h3 b m
end
theorem Sl.mono (e : Same F F') (k : ∀ a ∈ A, ∀ o, H a = some o → H' a = some o) (h : Sl K cl F H σ ρ A) : Sl K cl F' H' σ ρ A := by
  induction h with
  | nil => exact .nil
  | skip _ ih => exact .skip (ih k)
  | one r _ ih => exact .one (RS.mono e (fun a m => k a (List.mem_append_left _ m)) r) (ih fun a m => k a (List.mem_append_right _ m))
theorem Sl.own (h : Sl K cl F H σ ρ A) : ∀ a ∈ A, ∃ o, H a = some o ∧ Mut (some o) := by
  induction h with
  | nil => simp
  | skip _ ih => exact ih
  | one r _ ih =>
    intro a m
    rcases List.mem_append.mp m with m | m
    · exact r.own a m
    · exact ih a m
theorem Sl.length (h : Sl K cl F H σ ρ A) : σ.length = ρ.length := by
  induction h with
  | nil => rfl
  | skip _ ih => simp [ih]
  | one _ _ ih => simp [ih]
theorem Hold.own (h : Hold K cl σ F H ρ A) : ∀ a ∈ A, ∃ o, H a = some o ∧ Mut (some o) := fun a m =>
  let ⟨_, s, p⟩ := h.sl
  s.own a (p.mem_iff.mpr m)
theorem Hold.len (h : Hold K cl σ F H ρ A) : σ.length = ρ.length := let ⟨_, s, _⟩ := h.sl; s.length
/-- one slot, and what it is to put another thing there -/
theorem Sl.at (h : Sl K cl F H σ ρ A) {i : Nat} {sv : SV} (e : ρ[i]? = some (some sv)) :
    ∃ v B A0, σ[i]? = some (some v) ∧ RS K cl F H v sv B ∧ A.Perm (B ++ A0) ∧
      ∀ v' sv' B', RS K cl F H v' sv' B' → ∃ A', Sl K cl F H (σ.set i (some v')) (ρ.set i (some sv')) A' ∧ A'.Perm (B' ++ A0) := by
  induction h generalizing i with
  | nil => simp at e
  | @skip x σ ρ A h ih =>
    cases i with
    | zero => simp at e
    | succ i =>
      obtain ⟨v, B, A0, h1, h2, h3, h4⟩ := ih (i := i) (by simpa using e)
      refine ⟨v, B, A0, by simpa using h1, h2, h3, fun v' sv' B' q => ?_⟩
      obtain ⟨A', h5, h6⟩ := h4 v' sv' B' q
      exact ⟨A', .skip h5, h6⟩
  | @one v0 sv0 B0 σ ρ A r h ih =>
    cases i with
    | zero =>
      simp at e; subst e
      exact ⟨v0, B0, A, rfl, r, .refl _, fun v' sv' B' q => ⟨_, .one q h, .refl _⟩⟩
    | succ i =>
      obtain ⟨v, B, A0, h1, h2, h3, h4⟩ := ih (i := i) (by simpa using e)
      refine ⟨v, B, B0 ++ A0, by simpa using h1, h2, ?_, fun v' sv' B' q => ?_⟩
      · refine (List.Perm.append_left B0 h3).trans ?_
        rw [← List.append_assoc, ← List.append_assoc]
        exact List.Perm.append_right _ List.perm_append_comm
      · obtain ⟨A', h5, h6⟩ := h4 v' sv' B' q
        refine ⟨_, .one r h5, ?_⟩
        refine (List.Perm.append_left B0 h6).trans ?_
        rw [← List.append_assoc, ← List.append_assoc]
        exact List.Perm.append_right _ List.perm_append_comm
/-- a slot that held nothing known, or data: something is put there -/
theorem Sl.put (h : Sl K cl F H σ ρ A) {i : Nat} (hi : i < σ.length) {v' : V} {sv' : SV} {B' : List Addr} (q : RS K cl F H v' sv' B') :
    ∃ A' A0, Sl K cl F H (σ.set i (some v')) (ρ.set i (some sv')) A' ∧ A'.Perm (B' ++ A0) ∧ A0.Sublist A := by
  induction h generalizing i with
  | nil => simp at hi
  | @skip x σ ρ A h ih =>
    cases i with
    | zero => exact ⟨_, A, .one q h, .refl _, .refl _⟩
    | succ i =>
      obtain ⟨A', A0, h5, h6, h7⟩ := ih (i := i) (by simpa using hi)
      exact ⟨A', A0, .skip h5, h6, h7⟩
  | @one v0 sv0 B0 σ ρ A r h ih =>
    cases i with
    | zero => exact ⟨_, A, .one q h, .refl _, List.sublist_append_right _ _⟩
    | succ i =>
      obtain ⟨A', A0, h5, h6, h7⟩ := ih (i := i) (by simpa using hi)
      refine ⟨_, B0 ++ A0, .one r h5, ?_, List.Sublist.append_left h7 _⟩
      refine (List.Perm.append_left B0 h6).trans ?_
      rw [← List.append_assoc, ← List.append_assoc]
      exact List.Perm.append_right _ List.perm_append_comm
/-- slots forgotten: ρ' tells less -/
inductive Fgt : Rho → Rho → Prop
  | nil : Fgt [] []
  | same {x ρ ρ'} : Fgt ρ ρ' → Fgt (x :: ρ) (x :: ρ')
  | lose {x ρ ρ'} : Fgt ρ ρ' → Fgt (x :: ρ) (none :: ρ')
theorem Fgt.refl : ∀ (ρ : Rho), Fgt ρ ρ
  | [] => .nil
  | _ :: ρ => .same (Fgt.refl ρ)
theorem Sl.fgt (h : Sl K cl F H σ ρ A) {ρ' : Rho} (f : Fgt ρ ρ') : ∃ A', Sl K cl F H σ ρ' A' ∧ A'.Sublist A := by
  induction h generalizing ρ' with
  | nil => cases f; exact ⟨_, .nil, .refl _⟩
  | skip h ih =>
    cases f with
    | same f => obtain ⟨A', h1, h2⟩ := ih f; exact ⟨A', .skip h1, h2⟩
    | lose f => obtain ⟨A', h1, h2⟩ := ih f; exact ⟨A', .skip h1, h2⟩
  | one r h ih =>
    cases f with
    | same f => obtain ⟨A', h1, h2⟩ := ih f; exact ⟨_, .one r h1, List.Sublist.append_left h2 _⟩
    | lose f => obtain ⟨A', h1, h2⟩ := ih f; exact ⟨A', .skip h1, h2.trans (List.sublist_append_right _ _)⟩
theorem Hold.fgt (h : Hold K cl σ F H ρ A) {ρ' : Rho} (f : Fgt ρ ρ') : ∃ A', Hold K cl σ F H ρ' A' ∧ ∀ a ∈ A', a ∈ A := by
  obtain ⟨A1, s, p⟩ := h.sl
  obtain ⟨A', h1, h2⟩ := s.fgt f
  have hm : ∀ a ∈ A', a ∈ A := fun a m => p.mem_iff.mp (h2.subset m)
  exact ⟨A', ⟨⟨A', h1, .refl _⟩, h.sub, (p.nodup_iff.mpr h.nd).sublist h2, fun a m => h.av a (hm a m)⟩, hm⟩
end
end Dv

/-! Dv2: what code is worth (combinators over slots), and that it is so: expressions, tests, arguments. -/
namespace Dv
open PySem PySem.Spec PyProof.Rows L2
abbrev Sg := L2.St

/-- the run's constants -/
structure Wd where
  P : Program
  w : World
  K : PySem.W.Frag
  mg : Str → Option Value
  base : Heap
  cl : Nat → Cl
  exc : Nat → Addr

/-- built-in names that the module leaves alone -/
def bnames : List Str := ["len", "abs", "max", "min", "int", "str", "list", "tuple", "sum", "sorted", "all", "repr", "range", "enumerate", "zip", "isinstance", "divmod", "set", "any", "bool", "reversed", "type", "iter", "next"]
structure Ctx (Γ : Wd) (X : Cx) (N : List Str) (sc : Scope) (fp : Str → Bool) (k : Nat) : Prop where
  p : X.prog = Γ.P
  w : X.w = Γ.w
  K : X.K = Γ.K
  mg : X.mg = Γ.mg
  base : X.base = Γ.base
  hN : X.N = N
  nd : N.Nodup
  hs : X.env.scope = sc
  calm : X.calm = true
  room : Room k X.A
  gd : X.A.guards = some []
  fn : X.fn = fp
  bn : ∀ x ∈ bnames, Γ.mg x = none

/-! ### wishes -/
abbrev WK := SV → Rho → Prop
abbrev EK := Nat → D → Rho → Prop
abbrev WE := Rho → WK → EK → Prop
abbrev WT := Rho → (Bool → Rho → Prop) → EK → Prop
abbrev WA := Rho → (List SV → Rho → Prop) → EK → Prop
structure Nd where
  nx : Rho → Prop
  rt : SV → Rho → Prop
  bk : Rho → Prop
  ct : Rho → Prop
abbrev WS := Rho → Nd → EK → Prop
/-- two ways -/
structure Br (b : Bool) (A B : Prop) : Prop where
  t : b = true → A
  f : b = false → B
theorem Br.tt {A B : Prop} (h : A) : Br true A B := Br.mk (fun _ => h) (fun e => Bool.noConfusion e)
theorem Br.ff {A B : Prop} (h : B) : Br false A B := Br.mk (fun e => Bool.noConfusion e) (fun _ => h)
def noE : EK := fun _ _ _ => False

/-! ### ends -/
section
variable (Γ : Wd)
abbrev rep (F : Hp) (v : V) (d : D) : Prop := R Γ.K Γ.cl F v d
abbrev repL (F : Hp) (v : List V) (d : List D) : Prop := RL Γ.K Γ.cl F v d
abbrev hold (σ : Sg) (F H : Hp) (ρ : Rho) (A : List Addr) : Prop := Hold Γ.K Γ.cl σ F H ρ A
/-- of an expression's value: also a place -/
def rs (σ : Sg) (F H : Hp) (v : V) (x : SV) (B : List Addr) : Prop := match x with
  | .sl i => σ[i]? = some (some v) ∧ B = []
  | x => RS Γ.K Γ.cl F H v x B
structure Out (σ : Sg) (F H : Hp) (A : List Addr) (ρ' : Rho) (sv : SV) (v : V) (F' H' : Hp) (A' B : List Addr) : Prop where
  oe : Ext F H A F' H' (B ++ A')
  oh : hold Γ σ F' H' ρ' A'
  ors : rs Γ σ F' H' v sv B
  ond : (B ++ A').Nodup
  ofb : ∀ b ∈ B, F' b = none
/-- what is wanted of errors -/
def EL (σ : Sg) (F H : Hp) (A : List Addr) (E : EK) (W : WX) : Prop :=
  ∀ k x ρ', E k x ρ' → ∀ F' H' A' dx v, Ext F H A F' H' A' → hold Γ σ F' H' ρ' A' → H' dx = some (.xd [(("value" : Str), v)]) → rep Γ F' v x → W (.ref (Γ.exc k)) (some dx) σ H'
def wpX (X : Cx) (e : Expr) : TE := fun σ H Q => ∀ pins s, Inv X pins σ H s → wpAny (model X.prog X.w) X.A (eval e X.env) (EP X pins σ Q) X.xe s
def wpXT (X : Cx) (e : Expr) : TT := fun σ H Q => ∀ pins s, Inv X pins σ H s → wpAny (model X.prog X.w) X.A (isTrue e X.env (eval e X.env)) (TP X pins σ Q) X.xe s
def wpXA (X : Cx) (es : List Expr) : TA := fun σ H Q => ∀ pos pins s, Inv X pins σ H s → wpAny (model X.prog X.w) X.A (spliced (backTo pos (starEach es X.env))) (AP X pins σ Q) X.xe s
end
theorem pe_x {X : Cx} {e : Expr} : PE X e (wpX X e) := ⟨fun pins s _ _ _ I h => h pins s I⟩
theorem pt_x {X : Cx} {e : Expr} : PT X e (wpXT X e) := ⟨fun pins s _ _ _ I h => h pins s I⟩
theorem pa_x {X : Cx} {es : List Expr} : PA X es (wpXA X es) := ⟨fun pos pins s _ _ _ I h => h pos pins s I⟩

section
variable {Γ : Wd} {X : Cx} {N : List Str} {sc : Scope} {fp : Str → Bool} {k : Nat}

theorem rs_of {σ : Sg} {F H : Hp} {v : V} {x : SV} {B : List Addr} (h : RS Γ.K Γ.cl F H v x B) : rs Γ σ F H v x B := by
  cases x <;> first | exact h | (simp only [RS] at h)
theorem rs_mono {σ : Sg} {F F' H H' : Hp} {v : V} {x : SV} {B : List Addr} (e : Same F F') (k : ∀ a ∈ B, ∀ o, H a = some o → H' a = some o) (h : rs Γ σ F H v x B) : rs Γ σ F' H' v x B := by
  cases x <;> first | exact RS.mono (K := Γ.K) (cl := Γ.cl) e k h | exact h
theorem rs_own {σ : Sg} {F H : Hp} {v : V} {x : SV} {B : List Addr} (h : rs Γ σ F H v x B) : ∀ a ∈ B, ∃ o, H a = some o ∧ Mut (some o) := by
  cases x with
  | sl i => obtain ⟨_, rfl⟩ := h; intro a m; cases m
  | _ => exact RS.own (K := Γ.K) (cl := Γ.cl) h
theorem EL.ext {σ : Sg} {F H F' H' : Hp} {A A' : List Addr} {E : EK} {W : WX} (h : EL Γ σ F H A E W) (x : Ext F H A F' H' A') : EL Γ σ F' H' A' E W :=
  fun k d ρ' e F2 H2 A2 dx v y hh q r => h k d ρ' e F2 H2 A2 dx v (x.trans y) hh q r
theorem Out.ext1 {σ : Sg} {F H F' H' : Hp} {A A' B : List Addr} {ρ' : Rho} {sv : SV} {v : V} (o : Out Γ σ F H A ρ' sv v F' H' A' B) : Ext F H A F' H' A' := o.oe.sub fun a m => List.mem_append_right _ m
/-- a value is as it was behind what comes next -/
theorem Out.stay {σ : Sg} {F H F1 H1 F2 H2 : Hp} {A A1 A2 B : List Addr} {ρ1 : Rho} {sv : SV} {v : V} (o : Out Γ σ F H A ρ1 sv v F1 H1 A1 B) (x : Ext F1 H1 A1 F2 H2 A2) :
    rs Γ σ F2 H2 v sv B ∧ (∀ b ∈ B, b ∉ A2) ∧ (∀ b ∈ B, F2 b = none) ∧ Ext F H A F2 H2 (B ++ A2) := by
  have dis : ∀ b ∈ B, b ∉ A1 := fun b m n => (List.nodup_append.mp o.ond).2.2 b m b n rfl
  have tr : ∀ b ∈ B, ∃ o, H1 b = some o := fun b m => let ⟨u, e, _⟩ := rs_own o.ors b m; ⟨u, e⟩
  refine ⟨rs_mono x.sf (fun b m u e => x.fr b u e (dis b m)) o.ors, fun b m n => ?_, fun b m => ?_, o.oe.trans x.frame⟩
  · rcases x.na b n with q | q
    · exact dis b m q
    · obtain ⟨u, e⟩ := tr b m
      rw [e] at q; cases q
  · cases e : F2 b with
    | none => rfl
    | some u =>
      rcases x.nf b u e with q | q | q
      · rw [o.ofb b m] at q; cases q
      · obtain ⟨u, e⟩ := tr b m
        rw [e] at q; cases q
      · exact absurd q (dis b m)
/-- nothing is made: a value that stands -/
theorem Out.now {σ : Sg} {F H : Hp} {A : List Addr} {ρ : Rho} {sv : SV} {v : V} (hh : hold Γ σ F H ρ A) (r : rs Γ σ F H v sv []) : Out Γ σ F H A ρ sv v F H A [] :=
  ⟨Ext.refl, hh, r, hh.nd, fun _ m => nomatch m⟩
/-- the state that one more object gives -/
theorem hold_new {σ : Sg} {F H : Hp} {A : List Addr} {ρ : Rho} {p : Addr} {o : HO} (hh : hold Γ σ F H ρ A) (hp : H p = none) : hold Γ σ F (upd H p o) ρ A ∧ Ext F H A F (upd H p o) ([p] ++ A) ∧ F p = none ∧ p ∉ A := by
  have hF : F p = none := hh.sub.free hp
  have hA : p ∉ A := fun m => by
    obtain ⟨u, e, _⟩ := hh.own p m
    rw [hp] at e; cases e
  have st : ∀ a u, H a = some u → upd H p o a = some u := fun a u e => by rw [upd_ne (ne_of_none e hp)]; exact e
  obtain ⟨A1, s, q⟩ := hh.sl
  refine ⟨⟨⟨A1, s.mono (Same.refl F) fun a _ => st a, q⟩, fun a u e => st a u (hh.sub a u e), hh.nd, hh.av⟩, ⟨Same.refl F, fun a u e _ => st a u e, fun a u e => .inl e, fun a m => ?_⟩, hF, hA⟩
  simp only [List.cons_append, List.nil_append, List.mem_cons] at m
  rcases m with rfl | m
  · exact .inr hp
  · exact .inl m
/-- a new list -/
theorem Out.newL {σ : Sg} {F H : Hp} {A : List Addr} {ρ : Rho} {p : Addr} {vs : List V} {ds : List D} (hh : hold Γ σ F H ρ A) (hp : H p = none) (r : repL Γ F vs ds) : Out Γ σ F H A ρ (.lst ds) (.ref p) F (upd H p (.lst vs)) A [p] := by
  obtain ⟨h1, h2, h3, h4⟩ := hold_new (o := .lst vs) hh hp
  refine ⟨h2, h1, ?_, ?_, fun b m => by simp at m; subst m; exact h3⟩
  · unfold rs RS
    exact ⟨p, vs, rfl, upd_same, r, rfl⟩
  · simp only [List.cons_append, List.nil_append, List.nodup_cons]
    exact ⟨h4, hh.nd⟩
/-- data that stand from now on: the object at p, new | owned so far -/
theorem hold_frz {σ : Sg} {F H : Hp} {A A' : List Addr} {ρ : Rho} {p : Addr} {o : HO} (sl : ∃ A1, Sl Γ.K Γ.cl F H σ ρ A1 ∧ A1.Perm A') (hs : Same F H) (nd : A'.Nodup) (av : ∀ a ∈ A', F a = none) (hp : H p = some o) (nF : F p = none) (nA : p ∉ A') :
    hold Γ σ (upd F p o) H ρ A' := by
  obtain ⟨A1, s, q⟩ := sl
  have sF : Same F (upd F p o) := fun a u e => by rw [upd_ne (ne_of_none e nF)]; exact e
  refine ⟨⟨A1, s.mono sF fun _ _ _ e => e, q⟩, fun a u e => ?_, nd, fun a m => ?_⟩
  · by_cases h : a = p
    · subst h; rw [upd_same] at e; cases e; exact hp
    · rw [upd_ne h] at e; exact hs a u e
  · rw [upd_ne (fun z => nA (by rw [← z]; exact m))]
    exact av a m
/-- a new tuple: data at once -/
theorem Out.newT {σ : Sg} {F H : Hp} {A : List Addr} {ρ : Rho} {p : Addr} {vs : List V} {ds : List D} (hh : hold Γ σ F H ρ A) (hp : H p = none) (r : repL Γ F vs ds) : Out Γ σ F H A ρ (.d (.tup ds)) (.ref p) (upd F p (.tup vs)) (upd H p (.tup vs)) A [] := by
  obtain ⟨h1, h2, h3, h4⟩ := hold_new (o := .tup vs) hh hp
  have sF : Same F (upd F p (.tup vs)) := fun a u e => by rw [upd_ne (ne_of_none e h3)]; exact e
  refine ⟨⟨sF, h2.fr, fun a u e => ?_, fun a m => .inl m⟩, hold_frz (A := A) h1.sl h1.sub h1.nd h1.av upd_same h3 h4, ?_, hh.nd, fun _ m => nomatch m⟩
  · by_cases h : a = p
    · subst h; exact .inr (.inl hp)
    · rw [upd_ne h] at e; exact .inl e
  · unfold rs RS
    refine ⟨?_, rfl⟩
    unfold R
    exact ⟨p, vs, rfl, upd_same, r.mono sF⟩

theorem rs_d {σ : Sg} {F H : Hp} {v : V} {x : D} (h : rep Γ F v x) : rs Γ σ F H v (.d x) [] := by
  unfold rs RS
  exact ⟨h, rfl⟩
theorem rs_sl {σ : Sg} {F H : Hp} {v : V} {i : Nat} (h : σ[i]? = some (some v)) : rs Γ σ F H v (.sl i) [] := ⟨h, rfl⟩
/-! ### reading a value now -/
def rd (sv : SV) (ρ : Rho) : Option D := match sv with
  | .d x => some x
  | .lst ds => some (.lst ds)
  | .sl i => match ρ[i]? with
    | some (some (.d x)) => some x
    | some (some (.lst ds)) => some (.lst ds)
    | _ => none
  | _ => none
/-- readable: a list may be owned -/
def RV (Γ : Wd) (F H : Hp) (v : V) (d : D) : Prop := match d with
  | .lst ds => ∃ a vs, v = .ref a ∧ H a = some (.lst vs) ∧ repL Γ F vs ds
  | d => rep Γ F v d
theorem RV.of {F H : Hp} {v : V} {d : D} (s : Same F H) (h : rep Γ F v d) : RV Γ F H v d := by
  cases d with
  | lst ds =>
    simp only [rep, R] at h
    obtain ⟨a, vs, h1, h2, h3⟩ := h
    exact ⟨a, vs, h1, s a _ h2, h3⟩
  | _ => exact h
theorem rd_core {F H : Hp} (sub : Same F H) {v : V} {sv : SV} {B : List Addr} (r : RS Γ.K Γ.cl F H v sv B) {d : D} (e : (match sv with | .d x => some x | .lst ds => some (.lst ds) | _ => none) = some d) : RV Γ F H v d := by
  cases sv with
  | d x =>
    unfold RS at r
    cases e
    exact .of sub r.1
  | lst ds =>
    unfold RS at r
    obtain ⟨a, vs, h1, h2, h3, _⟩ := r
    cases e
    exact ⟨a, vs, h1, h2, h3⟩
  | _ => cases e
theorem rd_ok {σ : Sg} {F H : Hp} {A B : List Addr} {ρ : Rho} {v : V} {sv : SV} {d : D} (hh : hold Γ σ F H ρ A) (r : rs Γ σ F H v sv B) (e : rd sv ρ = some d) : RV Γ F H v d := by
  cases sv with
  | sl i =>
    obtain ⟨A1, s, q⟩ := hh.sl
    cases q : ρ[i]? with
    | none => simp [rd, q] at e
    | some o =>
      cases o with
      | none => simp [rd, q] at e
      | some sv =>
        obtain ⟨v', B', A0, h1, h2, _⟩ := s.at q
        rw [r.1] at h1; cases h1
        refine rd_core hh.sub h2 ?_
        simp only [rd, q] at e
        cases sv <;> first | exact e | cases e
  | d x => exact rd_core hh.sub r e
  | lst ds => exact rd_core hh.sub r e
  | ins _ _ => cases e
  | exc _ _ => cases e
  | fl _ _ => cases e

/-! ### that an expression is worth w -/
structure SE (Γ : Wd) (X : Cx) (e : Expr) (w : WE) : Prop where
  run : ∀ (σ : Sg) (F H : Hp) (A : List Addr) (ρ : Rho) (Q : WK) (E : EK) (QV : VK) (W : WX), hold Γ σ F H ρ A → Takes X W → EL Γ σ F H A E W → w ρ Q E →
    (∀ sv ρ', Q sv ρ' → ∀ v F' H' A' B, Out Γ σ F H A ρ' sv v F' H' A' B → QV v H') → wpX X e σ H QV
structure ST (Γ : Wd) (X : Cx) (e : Expr) (w : WT) : Prop where
  run : ∀ (σ : Sg) (F H : Hp) (A : List Addr) (ρ : Rho) (Q : Bool → Rho → Prop) (E : EK) (QV : Bool → Hp → Prop) (W : WX), hold Γ σ F H ρ A → Takes X W → EL Γ σ F H A E W → w ρ Q E →
    (∀ b ρ', Q b ρ' → ∀ F' H' A', Ext F H A F' H' A' → hold Γ σ F' H' ρ' A' → QV b H') → wpXT X e σ H QV
theorem SE.use {e : Expr} {w : WE} (h : SE Γ X e w) {σ : Sg} {F H : Hp} {A : List Addr} {ρ : Rho} {Q : WK} {E : EK} {QV : VK} {W : WX} (hh : hold Γ σ F H ρ A) (tk : Takes X W) (el : EL Γ σ F H A E W) (hw : w ρ Q E)
    (hq : ∀ sv ρ', Q sv ρ' → ∀ v F' H' A' B, Out Γ σ F H A ρ' sv v F' H' A' B → QV v H') : wpX X e σ H QV := h.run σ F H A ρ Q E QV W hh tk el hw hq
theorem ST.use {e : Expr} {w : WT} (h : ST Γ X e w) {σ : Sg} {F H : Hp} {A : List Addr} {ρ : Rho} {Q : Bool → Rho → Prop} {E : EK} {QV : Bool → Hp → Prop} {W : WX} (hh : hold Γ σ F H ρ A) (tk : Takes X W) (el : EL Γ σ F H A E W) (hw : w ρ Q E)
    (hq : ∀ b ρ', Q b ρ' → ∀ F' H' A', Ext F H A F' H' A' → hold Γ σ F' H' ρ' A' → QV b H') : wpXT X e σ H QV := h.run σ F H A ρ Q E QV W hh tk el hw hq

def wVar (i : Nat) : WE := fun ρ Q _ => match ρ[i]? with
  | some (some (.d x)) => Q (.d x) ρ
  | some (some _) => Q (.sl i) ρ
  | _ => False
def wRef (i : Nat) : WE := fun ρ Q _ => (ρ[i]?.join).isSome = true ∧ Q (.sl i) ρ
def wC (x : D) : WE := fun ρ Q _ => Q (.d x) ρ

theorem se_of {e : Expr} {w : WE} (h : ∀ (σ : Sg) (F H : Hp) (A : List Addr) (ρ : Rho) (Q : WK) (E : EK) (QV : VK), hold Γ σ F H ρ A → w ρ Q E →
    (∀ sv ρ', Q sv ρ' → ∀ v F' H' A' B, Out Γ σ F H A ρ' sv v F' H' A' B → QV v H') → wpX X e σ H QV) : SE Γ X e w := .mk fun σ F H A ρ Q E QV W hh _ _ hw hq => h σ F H A ρ Q E QV hh hw hq

theorem se_var (C : Ctx Γ X N sc fp k) (i : Nat) {x : Str} {pos : Pos} (hN : N[i]? = some x := by rfl) (hv : Vis sc x := by first | exact Or.inl rfl | exact Or.inr (Or.inl rfl) | exact Or.inr (Or.inr rfl)) (hd : (x == ("__debug__" : Str)) = false := by decide) (hcd : (x == ("__classdict__" : Str)) = false := by decide) :
    SE Γ X (.Name x pos) (wVar i) := se_of fun σ F H A ρ Q E QV hh hw hq pins s I => by
  have pe : PE X (.Name x pos) (tVar i) := pe_var (by rw [C.hN]; exact hN) (by rw [C.hs]; exact hv) hd hcd
  refine pe.run pins s σ H QV I ?_
  unfold wVar at hw
  obtain ⟨A1, sl, q⟩ := hh.sl
  cases e : ρ[i]? with
  | none => simp [e] at hw
  | some o =>
    cases o with
    | none => simp [e] at hw
    | some sv =>
      obtain ⟨v, B, A0, h1, h2, _⟩ := sl.at e
      refine ⟨v, h1, ?_⟩
      cases sv with
      | d x =>
        simp only [e] at hw
        unfold RS at h2
        exact hq _ _ hw v F H A [] (.now hh (rs_d h2.1))
      | _ =>
        simp only [e] at hw
        exact hq _ _ hw v F H A [] (.now hh (rs_sl h1))
theorem se_ref (C : Ctx Γ X N sc fp k) (i : Nat) {x : Str} {pos : Pos} (hN : N[i]? = some x := by rfl) (hv : Vis sc x := by first | exact Or.inl rfl | exact Or.inr (Or.inl rfl) | exact Or.inr (Or.inr rfl)) (hd : (x == ("__debug__" : Str)) = false := by decide) (hcd : (x == ("__classdict__" : Str)) = false := by decide) :
    SE Γ X (.Name x pos) (wRef i) := se_of fun σ F H A ρ Q E QV hh hw hq pins s I => by
  have pe : PE X (.Name x pos) (tVar i) := pe_var (by rw [C.hN]; exact hN) (by rw [C.hs]; exact hv) hd hcd
  refine pe.run pins s σ H QV I ?_
  obtain ⟨e, hw⟩ := hw
  obtain ⟨A1, sl, q⟩ := hh.sl
  cases e' : ρ[i]? with
  | none => simp [e'] at e
  | some o =>
    cases o with
    | none => simp [e'] at e
    | some sv =>
      obtain ⟨v, B, A0, h1, h2, _⟩ := sl.at e'
      exact ⟨v, h1, hq _ _ hw v F H A [] (.now hh (rs_sl h1))⟩
theorem se_const {e : Expr} {v : V} {d : D} (pe : PE X e (tC v)) (r : ∀ F : Hp, rep Γ F v d) : SE Γ X e (wC d) := se_of fun σ F H A ρ Q E QV hh hw hq pins s I =>
  pe.run pins s σ H QV I (hq _ _ hw v F H A [] (.now hh (rs_d (r F))))
theorem se_int {i : Int} {j pos} : SE Γ X (.Constant (.int i) j pos) (wC (.int i)) := se_const pe_int fun F => by simp [rep, R]
theorem se_bl {b : Bool} {j pos} : SE Γ X (.Constant (.bool b) j pos) (wC (.bl b)) := se_const pe_bl fun F => by simp [rep, R]
theorem se_non {j pos} : SE Γ X (.Constant .none j pos) (wC .non) := se_const pe_non fun F => by simp [rep, R]
theorem se_str {x : Str} {j pos} : SE Γ X (.Constant (.str x) j pos) (wC (.str x)) := se_const pe_str fun F => by simp [rep, R]
theorem se_gint (C : Ctx Γ X N sc fp k) {x : Str} {i : Int} {t : Tok} {pos : Pos} (hg : sc.names.lookup x = some .globalImplicit) (hm : Γ.mg x = some (.int i t)) (hd : (x == ("__debug__" : Str)) = false := by decide) : SE Γ X (.Name x pos) (wC (.int i)) :=
  se_const (pe_glob (v := .int i) (by show X.env.scope.names.lookup x = _; rw [C.hs]; exact hg) (by rw [C.mg]; exact hm) ⟨_, rfl⟩ hd) fun F => by simp [rep, R]
theorem se_gstr (C : Ctx Γ X N sc fp k) {x z : Str} {t : Tok} {pos : Pos} (hg : sc.names.lookup x = some .globalImplicit) (hm : Γ.mg x = some (.str z t)) (hd : (x == ("__debug__" : Str)) = false := by decide) : SE Γ X (.Name x pos) (wC (.str z)) :=
  se_const (pe_glob (v := .str z) (by show X.env.scope.names.lookup x = _; rw [C.hs]; exact hg) (by rw [C.mg]; exact hm) ⟨_, rfl⟩ hd) fun F => by simp [rep, R]

/-! ### two operands, read where both have come -/
def w2 (kf : D → D → (SV → Prop) → Prop) (wa wb : WE) : WE := fun ρ Q E => wa ρ (fun x ρ1 => wb ρ1 (fun y ρ2 => match rd x ρ2, rd y ρ2 with
  | some dx, some dy => kf dx dy fun z => Q z ρ2
  | _, _ => False) E) E
/-- an operation by values does kf -/
def Bop (Γ : Wd) (r : R2) (kf : D → D → (SV → Prop) → Prop) : Prop :=
  ∀ (σ : Sg) (F H : Hp) (A : List Addr) (ρ : Rho) (v1 v2 : V) (d1 d2 : D) (Q : SV → Prop) (QV : VK), hold Γ σ F H ρ A → RV Γ F H v1 d1 → RV Γ F H v2 d2 → kf d1 d2 Q →
    (∀ z, Q z → ∀ v F' H' A' B, Out Γ σ F H A ρ z v F' H' A' B → QV v H') → r v1 v2 H QV
theorem se_2 {e a b : Expr} {r : R2} {kf : D → D → (SV → Prop) → Prop} {wa wb : WE} (rule : ∀ {ta tb : TE}, PE X a ta → PE X b tb → PE X e (tOp r ta tb)) (hk : Bop Γ r kf) (ha : SE Γ X a wa) (hb : SE Γ X b wb) : SE Γ X e (w2 kf wa wb) :=
  .mk fun σ F H A ρ Q E QV W hh tk el hw hq pins s I => by
  refine (rule pe_x pe_x).run pins s σ H QV I ?_
  refine ha.use hh tk el hw fun sx ρ1 hw1 v1 F1 H1 A1 B1 o1 => ?_
  refine hb.use o1.oh tk (el.ext o1.ext1) hw1 fun sy ρ2 hw2 v2 F2 H2 A2 B2 o2 => ?_
  obtain ⟨r1, n1, f1, x1⟩ := o1.stay o2.ext1
  cases ex : rd sx ρ2 with
  | none => simp only [ex] at hw2
  | some dx =>
    cases ey : rd sy ρ2 with
    | none => simp only [ex, ey] at hw2
    | some dy =>
      simp only [ex, ey] at hw2
      refine hk σ F2 H2 A2 ρ2 v1 v2 dx dy _ QV o2.oh (rd_ok o2.oh r1 ex) (rd_ok o2.oh o2.ors ey) hw2 fun z hz v F3 H3 A3 B3 o3 => ?_
      exact hq z ρ2 hz v F3 H3 A3 B3 ⟨(o1.ext1.trans o2.ext1).trans o3.oe, o3.oh, o3.ors, o3.ond, o3.ofb⟩
theorem se_bin {a b : Expr} {op : Operator} {r : R2} {kf : D → D → (SV → Prop) → Prop} {wa wb : WE} {pos : Pos} (ho : OpR X (binaryOp op) r) (hk : Bop Γ r kf) (ha : SE Γ X a wa) (hb : SE Γ X b wb) : SE Γ X (.BinOp a op b pos) (w2 kf wa wb) :=
  se_2 (fun pa pb => pe_op ho pa pb) hk ha hb
theorem se_cmp {a b : Expr} {op : CmpOp} {r : R2} {kf : D → D → (SV → Prop) → Prop} {wa wb : WE} {pos : Pos} (ho : OpR X (compareOp op) r) (hk : Bop Γ r kf) (hm : behindInMarks op b = false) (ha : SE Γ X a wa) (hb : SE Γ X b wb) : SE Γ X (.Compare a [op] [b] pos) (w2 kf wa wb) :=
  se_2 (fun pa pb => pe_cmpR ho pa pb hm) hk ha hb
/-- a value as a test -/
def wTst (w : WE) : WT := fun ρ Q E => w ρ (fun x ρ1 => match x with
  | .d (.bl b) => Q b ρ1
  | _ => False) E
theorem st_rule {e : Expr} {w : WE} (rule : ∀ {t : TE}, PE X e t → PT X e (tB t)) (h : SE Γ X e w) : ST Γ X e (wTst w) := .mk fun σ F H A ρ Q E QV W hh tk el hw hq pins s I => by
  refine (rule pe_x).run pins s σ H QV I ?_
  refine h.use hh tk el hw fun sx ρ1 hw1 v1 F1 H1 A1 B1 o1 => ?_
  cases sx with
  | d x =>
    cases x with
    | bl b =>
      have r := o1.ors
      simp only [rs, RS, R] at r
      exact ⟨b, r.1, hq b ρ1 hw1 F1 H1 A1 o1.ext1 o1.oh⟩
    | _ => exact hw1.elim
  | _ => exact hw1.elim
theorem st_val {e : Expr} {w : WE} (h : SE Γ X e w) (he : ∀ whole, isTrue e X.env whole = (do let v ← whole; standAt e.pos; holding [v] (truthy v)) := by intro _; rfl) : ST Γ X e (wTst w) := st_rule (fun p => pt_val p he) h
end
end Dv

/-! Dv3: the operations on data. -/
namespace Dv
open PySem PySem.Spec PyProof.Rows L2
section
variable {Γ : Wd} {X : Cx} {N : List Str} {sc : Scope} {fp : Str → Bool} {k : Nat}

def Or2 (r r' : R2) : R2 := fun x y H Q => r x y H Q ∨ r' x y H Q
theorem opR_or {f : Value → Value → Sem Value} {r r' : R2} (h : OpR X f r) (h' : OpR X f r') : OpR X f (Or2 r r') := by
  intro pins s σ H x y v u Q I rx ry q
  rcases q with q | q
  · exact h pins s σ H x y v u Q I rx ry q
  · exact h' pins s σ H x y v u Q I rx ry q
theorem line_eq : sizeLine = 16777216 := sizeLine_eq

/-! ### ints -/
def kI (C : Int → Int → Prop) (g : Int → Int → D) : D → D → (SV → Prop) → Prop := fun x y K => match x, y with
  | .int i, .int j => C i j ∧ K (.d (g i j))
  | _, _ => False
def kI0 (g : Int → Int → D) : D → D → (SV → Prop) → Prop := fun x y K => match x, y with
  | .int i, .int j => K (.d (g i j))
  | _, _ => False
/-- scalars that look alike -/
inductive Sc : V → D → Prop
  | non : Sc .non .non
  | bl (b) : Sc (.bl b) (.bl b)
  | int (i) : Sc (.int i) (.int i)
  | str (s) : Sc (.str s) (.str s)
theorem Sc.rep {F : Hp} {v : V} {d : D} (h : Sc v d) : rep Γ F v d := by cases h <;> simp [Dv.rep, R]
theorem rv_int {F H : Hp} {v : V} {i : Int} (h : RV Γ F H v (.int i)) : v = .int i := by simpa [RV, rep, R] using h
theorem rv_str {F H : Hp} {v : V} {i : Str} (h : RV Γ F H v (.str i)) : v = .str i := by simpa [RV, rep, R] using h
theorem rv_bl {F H : Hp} {v : V} {i : Bool} (h : RV Γ F H v (.bl i)) : v = .bl i := by simpa [RV, rep, R] using h
theorem rv_non {F H : Hp} {v : V} (h : RV Γ F H v .non) : v = .non := by simpa [RV, rep, R] using h
theorem rv_lst {F H : Hp} {v : V} {ds : List D} (h : RV Γ F H v (.lst ds)) : ∃ a vs, v = .ref a ∧ H a = some (.lst vs) ∧ repL Γ F vs ds := h
theorem rv_tup {F H : Hp} {v : V} {ds : List D} (s : Same F H) (h : RV Γ F H v (.tup ds)) : ∃ a vs, v = .ref a ∧ H a = some (.tup vs) ∧ repL Γ F vs ds ∧ F a = some (.tup vs) := by
  have h' : rep Γ F v (.tup ds) := h
  unfold rep R at h'
  obtain ⟨a, vs, h1, h2, h3⟩ := h'
  exact ⟨a, vs, h1, s a _ h2, h3, h2⟩
theorem rv_scr {F H : Hp} {v : V} {ns : List Int} (s : Same F H) (h : RV Γ F H v (.scr ns)) : ∃ a, v = .ref a ∧ SqL Γ.K H a (ns.map V.int) := by
  have h' : rep Γ F v (.scr ns) := h
  unfold rep R at h'
  obtain ⟨a, h1, h2⟩ := h'
  exact ⟨a, h1, s.seq h2⟩
theorem out_sc {σ : Sg} {F H : Hp} {A : List Addr} {ρ : Rho} {v : V} {d : D} (hh : hold Γ σ F H ρ A) (s : Sc v d) : Out Γ σ F H A ρ (.d d) v F H A [] := .now hh (rs_d s.rep)
theorem bop_I {C : Int → Int → Prop} {gv : Int → Int → V} {g : Int → Int → D} (hg : ∀ i j, Sc (gv i j) (g i j)) : Bop Γ (rI C gv) (kI C g) := fun σ F H A ρ v1 v2 d1 d2 Q QV hh r1 r2 hk hq => by
  unfold kI at hk
  split at hk
  · exact ⟨_, _, rv_int r1, rv_int r2, hk.1, hq _ hk.2 _ _ _ _ _ (out_sc hh (hg _ _))⟩
  · exact hk.elim
theorem bop_I0 {gv : Int → Int → V} {g : Int → Int → D} (hg : ∀ i j, Sc (gv i j) (g i j)) : Bop Γ (rI0 gv) (kI0 g) := fun σ F H A ρ v1 v2 d1 d2 Q QV hh r1 r2 hk hq => by
  unfold kI0 at hk
  split at hk
  · exact ⟨_, _, rv_int r1, rv_int r2, hq _ hk _ _ _ _ _ (out_sc hh (hg _ _))⟩
  · exact hk.elim
section
variable {a b : Expr} {wa wb : WE} {pos : Pos}
def kSub : D → D → (SV → Prop) → Prop := kI0 fun i j => .int (i - j)
theorem se_sub (ha : SE Γ X a wa) (hb : SE Γ X b wb) : SE Γ X (.BinOp a .Sub b pos) (w2 kSub wa wb) := se_bin op_sub (bop_I0 fun _ _ => .int _) ha hb
/-- a divisor that is positive, of at most 9000 bits -/
def kFdiv : D → D → (SV → Prop) → Prop := kI CDivW fun i j => .int (i / j)
theorem se_fdiv (ha : SE Γ X a wa) (hb : SE Γ X b wb) : SE Γ X (.BinOp a .FloorDiv b pos) (w2 kFdiv wa wb) := se_bin op_fdivW (bop_I fun _ _ => .int _) ha hb
def kMod : D → D → (SV → Prop) → Prop := kI (fun _ j => 0 < j) fun i j => .int (i % j)
theorem se_mod (ha : SE Γ X a wa) (hb : SE Γ X b wb) : SE Γ X (.BinOp a .Mod b pos) (w2 kMod wa wb) := se_bin op_mod (bop_I fun _ _ => .int _) ha hb
/-- a power: the base of at most 2000 bits, the exponent at most 3000 -/
def CPw (i j : Int) : Prop := 0 ≤ j ∧ j ≤ 3000 ∧ i.natAbs < 2 ^ 2000
theorem op_powW : OpR X (binaryOp .Pow) (rI CPw fun i j => .int (i ^ j.toNat)) := opI fun i j _ _ _ _ _ hc q => by
  obtain ⟨h0, h1, h2⟩ := hc
  refine pow_int h0 ?_ q
  have b : Builtin.Int.intBits i ≤ 2001 := by
    unfold Builtin.Int.intBits
    have := PySem.Flt.log2_lt_of (by decide : 0 < 2000) h2
    split <;> omega
  have hb : ((Builtin.Int.intBits i : Int)) ≤ 2001 := by exact_mod_cast b
  have e : ((Builtin.Int.intBits i : Int)) * j ≤ 2001 * 3000 := Int.mul_le_mul hb h1 h0 (by decide)
  exact Int.le_trans e (by decide)
def kPow : D → D → (SV → Prop) → Prop := kI CPw fun i j => .int (i ^ j.toNat)
theorem se_pow (ha : SE Γ X a wa) (hb : SE Γ X b wb) : SE Γ X (.BinOp a .Pow b pos) (w2 kPow wa wb) := se_bin op_powW (bop_I fun _ _ => .int _) ha hb

/-! ### + of ints, lists, tuples, texts; * of ints, of a list and an int -/
def kAdd : D → D → (SV → Prop) → Prop := fun x y K => match x, y with
  | .int i, .int j => K (.d (.int (i + j)))
  | .lst a, .lst b => a.length + b.length ≤ 16777216 ∧ K (.lst (a ++ b))
  | .tup a, .tup b => a.length + b.length ≤ 16777216 ∧ K (.d (.tup (a ++ b)))
  | .str a, .str b => a.length + b.length ≤ 16777216 ∧ K (.d (.str (a ++ b)))
  | _, _ => False
def rAddA (X : Cx) : R2 := Or2 (rI0 fun i j => .int (i + j)) (Or2 rCat (Or2 (rCatA X.K) (fun x y H Q => ∃ i j, x = .str i ∧ y = .str j ∧ i.length + j.length ≤ sizeLine ∧ Q (.str (i ++ j)) H)))
theorem op_addA : OpR X (binaryOp .Add) (rAddA X) := opR_or op_add (opR_or op_cat (opR_or op_catA op_add_str))
theorem bop_add : Bop Γ (rAddA X) kAdd := fun σ F H A ρ v1 v2 d1 d2 Q QV hh r1 r2 hk hq => by
  unfold kAdd at hk
  split at hk
  · exact .inl ⟨_, _, rv_int r1, rv_int r2, hq _ hk _ _ _ _ _ (out_sc hh (.int _))⟩
  · obtain ⟨hl, hk⟩ := hk
    obtain ⟨a, vs, rfl, ha, ra⟩ := rv_lst r1
    obtain ⟨b, ws, rfl, hb, rb⟩ := rv_lst r2
    refine .inr (.inl ⟨a, b, vs, ws, rfl, rfl, ha, hb, ?_, fun p hp => hq _ hk _ _ _ _ _ (.newL hh hp (ra.append rb))⟩)
    rw [ra.length, rb.length, line_eq]; exact hl
  · obtain ⟨hl, hk⟩ := hk
    obtain ⟨a, vs, rfl, ha, ra, fa⟩ := rv_tup hh.sub r1
    obtain ⟨b, ws, rfl, hb, rb, fb⟩ := rv_tup hh.sub r2
    have la := ra.length
    have lb := rb.length
    refine .inr (.inr (.inl ⟨a, b, vs, ws, rfl, rfl, .of ha, .of hb, ?_, fun e => ?_, fun n e => ?_, fun _ _ p hp => hq _ hk _ _ _ _ _ (.newT hh hp (ra.append rb))⟩))
    · rw [ra.length, rb.length, line_eq]; exact hl
    · subst e
      rename_i xs ys
      have e2 : xs = [] := by cases xs with | nil => rfl | cons _ _ => simp at la
      subst e2
      exact hq _ hk _ _ _ _ _ (.now hh (rs_d (by unfold rep R; exact ⟨b, ws, rfl, fb, rb⟩)))
    · subst e
      rename_i xs ys
      have e2 : ys = [] := by cases ys with | nil => rfl | cons _ _ => simp at lb
      subst e2
      rw [List.append_nil] at hk
      exact hq _ hk _ _ _ _ _ (.now hh (rs_d (by unfold rep R; exact ⟨a, vs, rfl, fa, ra⟩)))
  · obtain ⟨hl, hk⟩ := hk
    exact .inr (.inr (.inr ⟨_, _, rv_str r1, rv_str r2, by rw [line_eq]; exact hl, hq _ hk _ _ _ _ _ (out_sc hh (.str _))⟩))
  · exact hk.elim
def CMl (i j : Int) : Prop := CMul i j ∨ CMulW i j
def kMul : D → D → (SV → Prop) → Prop := fun x y K => match x, y with
  | .int i, .int j => CMl i j ∧ K (.d (.int (i * j)))
  | .lst a, .int j => (0 ≤ j ∧ j < 2 ^ 20 ∧ a.length * j.toNat ≤ 16777216) ∧ K (.lst (List.replicate j.toNat a).flatten)
  | _, _ => False
def rMulA : R2 := Or2 (rI CMul fun i j => .int (i * j)) (Or2 (rI CMulW fun i j => .int (i * j)) rRep)
theorem op_mulA : OpR X (binaryOp .Mult) rMulA := opR_or op_mul (opR_or op_mulW op_rep)
theorem RL.rep {K : PySem.W.Frag} {cl : Nat → Cl} {F : Hp} {vs : List V} {ds : List D} (h : RL K cl F vs ds) : ∀ n : Nat, RL K cl F (List.replicate n vs).flatten (List.replicate n ds).flatten
  | 0 => RL.nil
  | n + 1 => by
    rw [List.replicate_succ, List.replicate_succ, List.flatten_cons, List.flatten_cons]
    exact h.append (RL.rep h n)
theorem bop_mul : Bop Γ rMulA kMul := fun σ F H A ρ v1 v2 d1 d2 Q QV hh r1 r2 hk hq => by
  unfold kMul at hk
  split at hk
  · rcases hk.1 with c | c
    · exact .inl ⟨_, _, rv_int r1, rv_int r2, c, hq _ hk.2 _ _ _ _ _ (out_sc hh (.int _))⟩
    · exact .inr (.inl ⟨_, _, rv_int r1, rv_int r2, c, hq _ hk.2 _ _ _ _ _ (out_sc hh (.int _))⟩)
  · obtain ⟨⟨h0, h1, h2⟩, hk⟩ := hk
    obtain ⟨a, vs, rfl, ha, ra⟩ := rv_lst r1
    rename_i xs j
    refine .inr (.inr ⟨a, j, vs, rfl, rv_int r2, ha, by omega, by omega, ?_, fun p hp => hq _ hk _ _ _ _ _ (.newL hh hp (RL.rep ra _))⟩)
    rw [ra.length, line_eq]; exact h2
  · exact hk.elim
end

section
variable {a b : Expr} {wa wb : WE} {pos : Pos}
theorem se_add (ha : SE Γ X a wa) (hb : SE Γ X b wb) : SE Γ X (.BinOp a .Add b pos) (w2 kAdd wa wb) := se_bin op_addA bop_add ha hb
theorem se_mul (ha : SE Γ X a wa) (hb : SE Γ X b wb) : SE Γ X (.BinOp a .Mult b pos) (w2 kMul wa wb) := se_bin op_mulA bop_mul ha hb
def kLt : D → D → (SV → Prop) → Prop := kI0 fun i j => .bl (decide (i < j))
def kLe : D → D → (SV → Prop) → Prop := kI0 fun i j => .bl (decide (i ≤ j))
def kGt : D → D → (SV → Prop) → Prop := kI0 fun i j => .bl (decide (j < i))
def kGe : D → D → (SV → Prop) → Prop := kI0 fun i j => .bl (decide (j ≤ i))
theorem se_lt (ha : SE Γ X a wa) (hb : SE Γ X b wb) : SE Γ X (.Compare a [.Lt] [b] pos) (w2 kLt wa wb) := se_cmp op_lt (bop_I0 fun _ _ => .bl _) (nomark _) ha hb
theorem se_le (ha : SE Γ X a wa) (hb : SE Γ X b wb) : SE Γ X (.Compare a [.LtE] [b] pos) (w2 kLe wa wb) := se_cmp op_le (bop_I0 fun _ _ => .bl _) (nomark _) ha hb
theorem se_gt (ha : SE Γ X a wa) (hb : SE Γ X b wb) : SE Γ X (.Compare a [.Gt] [b] pos) (w2 kGt wa wb) := se_cmp op_gt (bop_I0 fun _ _ => .bl _) (nomark _) ha hb
theorem se_ge (ha : SE Γ X a wa) (hb : SE Γ X b wb) : SE Γ X (.Compare a [.GtE] [b] pos) (w2 kGe wa wb) := se_cmp op_ge (bop_I0 fun _ _ => .bl _) (nomark _) ha hb
end

/-! ### data as the library has them -/
mutual
def py : D → PyData
  | .non => .none
  | .bl b => .bool b
  | .int i => .int i
  | .str s => .str s
  | .lst ds => .list (pyL ds)
  | .tup ds => .tuple (pyL ds)
  | .obj _ _ => .none
  | .scr _ => .none
def pyL : List D → List PyData
  | [] => []
  | d :: ds => py d :: pyL ds
end
mutual
def plain : D → Bool
  | .lst ds => plainL ds
  | .tup ds => plainL ds
  | .obj _ _ => false
  | .scr _ => false
  | _ => true
def plainL : List D → Bool
  | [] => true
  | d :: ds => plain d && plainL ds
end
mutual
theorem dp_of {F H : Hp} (s : Same F H) : ∀ {d : D} {v : V}, rep Γ F v d → plain d = true → Dp Γ.K H v (py d)
  | .non, v, h, _ => by unfold rep R at h; subst h; unfold py; exact .non
  | .bl b, v, h, _ => by unfold rep R at h; subst h; unfold py; exact .bl b
  | .int i, v, h, _ => by unfold rep R at h; subst h; unfold py; exact .int i
  | .str x, v, h, _ => by unfold rep R at h; subst h; unfold py; exact .str x
  | .lst ds, v, h, p => by
    unfold rep R at h
    unfold plain at p
    obtain ⟨a, vs, rfl, h2, h3⟩ := h
    unfold py
    exact .lst (.of (s a _ h2)) (dp_ofL s h3 p)
  | .tup ds, v, h, p => by
    unfold rep R at h
    unfold plain at p
    obtain ⟨a, vs, rfl, h2, h3⟩ := h
    unfold py
    exact .tup (.of (s a _ h2)) (dp_ofL s h3 p)
  | .obj _ _, v, h, p => by unfold plain at p; cases p
  | .scr _, v, h, p => by unfold plain at p; cases p
theorem dp_ofL {F H : Hp} (s : Same F H) : ∀ {ds : List D} {vs : List V}, repL Γ F vs ds → plainL ds = true → DpAll Γ.K H vs (pyL ds)
  | [], vs, h, _ => by unfold repL RL at h; subst h; unfold pyL; exact .nil
  | d :: ds, vs, h, p => by
    unfold repL RL at h
    unfold plainL at p
    rw [Bool.and_eq_true] at p
    obtain ⟨v, r, rfl, h2, h3⟩ := h
    unfold pyL
    exact .cons (dp_of s h2 p.1) (dp_ofL s h3 p.2)
end
theorem dp_rv {F H : Hp} (s : Same F H) {d : D} {v : V} (h : RV Γ F H v d) (p : plain d = true) : Dp Γ.K H v (py d) := by
  cases d with
  | lst ds =>
    obtain ⟨a, vs, rfl, h2, h3⟩ := h
    unfold plain at p
    unfold py
    exact .lst (.of h2) (dp_ofL s h3 p)
  | _ => exact dp_of s h p
/-- may be compared -/
def Shp (d : D) : Prop := plain d = true ∧ SeqAt.shaped (py d) = true
def deq (x y : D) : Bool := PyData.eqv (py x) (py y)
def kEqG (neg : Bool) : D → D → (SV → Prop) → Prop := fun x y K => match x, y with
  | .int i, .int j => K (.d (.bl (if neg then !decide (i = j) else decide (i = j))))
  | .str i, .str j => K (.d (.bl (if neg then !decide (i = j) else decide (i = j))))
  | .bl i, .bl j => K (.d (.bl (if neg then !decide (i = j) else decide (i = j))))
  | .non, .non => K (.d (.bl !neg))
  | .non, .int _ => K (.d (.bl neg))
  | .int _, .non => K (.d (.bl neg))
  | .non, .str _ => K (.d (.bl neg))
  | .str _, .non => K (.d (.bl neg))
  | .lst a, .lst b => (Shp (.lst a) ∧ Shp (.lst b)) ∧ K (.d (.bl (if neg then !deq (.lst a) (.lst b) else deq (.lst a) (.lst b))))
  | .tup a, .tup b => (Shp (.tup a) ∧ Shp (.tup b)) ∧ K (.d (.bl (if neg then !deq (.tup a) (.tup b) else deq (.tup a) (.tup b))))
  | .tup a, .non => Shp (.tup a) ∧ K (.d (.bl neg))
  | .non, .tup a => Shp (.tup a) ∧ K (.d (.bl neg))
  | _, _ => False
def kEq := kEqG false
def kNe := kEqG true
def rEqA (X : Cx) : R2 := Or2 rEq (rEqD X.K)
def rNeA (X : Cx) : R2 := Or2 rNe (rNeD X.K)
theorem bop_eq (C : Ctx Γ X N sc fp k) : Bop Γ (rEqA X) kEq := fun σ F H A ρ v1 v2 d1 d2 Q QV hh r1 r2 hk hq => by
  unfold kEq kEqG at hk
  split at hk
  · rw [rv_int r1, rv_int r2]; exact .inl ⟨rfl, hq _ hk _ _ _ _ _ (out_sc hh (by simp only [Bool.false_eq_true, if_false, V.int.injEq]; exact .bl _))⟩
  · rw [rv_str r1, rv_str r2]; exact .inl ⟨rfl, hq _ hk _ _ _ _ _ (out_sc hh (by simp only [Bool.false_eq_true, if_false, V.str.injEq]; exact .bl _))⟩
  · rw [rv_bl r1, rv_bl r2]; exact .inl ⟨rfl, hq _ hk _ _ _ _ _ (out_sc hh (by simp only [Bool.false_eq_true, if_false, V.bl.injEq]; exact .bl _))⟩
  · rw [rv_non r1, rv_non r2]; exact .inl ⟨rfl, hq _ hk _ _ _ _ _ (out_sc hh (.bl _))⟩
  · rw [rv_non r1, rv_int r2]; exact .inl ⟨rfl, hq _ hk _ _ _ _ _ (out_sc hh (.bl _))⟩
  · rw [rv_int r1, rv_non r2]; exact .inl ⟨rfl, hq _ hk _ _ _ _ _ (out_sc hh (.bl _))⟩
  · rw [rv_non r1, rv_str r2]; exact .inl ⟨rfl, hq _ hk _ _ _ _ _ (out_sc hh (.bl _))⟩
  · rw [rv_str r1, rv_non r2]; exact .inl ⟨rfl, hq _ hk _ _ _ _ _ (out_sc hh (.bl _))⟩
  · obtain ⟨⟨h1, h2⟩, hk⟩ := hk
    exact .inr ⟨_, _, by rw [C.K]; exact dp_rv hh.sub r1 h1.1, by rw [C.K]; exact dp_rv hh.sub r2 h2.1, h1.2, h2.2, hq _ hk _ _ _ _ _ (out_sc hh (.bl _))⟩
  · obtain ⟨⟨h1, h2⟩, hk⟩ := hk
    exact .inr ⟨_, _, by rw [C.K]; exact dp_rv hh.sub r1 h1.1, by rw [C.K]; exact dp_rv hh.sub r2 h2.1, h1.2, h2.2, hq _ hk _ _ _ _ _ (out_sc hh (.bl _))⟩
  · obtain ⟨h1, hk⟩ := hk
    exact .inr ⟨_, _, by rw [C.K]; exact dp_rv hh.sub r1 h1.1, by rw [C.K]; exact dp_rv hh.sub r2 rfl, h1.2, rfl, hq _ hk _ _ _ _ _ (out_sc hh (by simp only [py, PyData.eqv]; exact .bl _))⟩
  · obtain ⟨h1, hk⟩ := hk
    exact .inr ⟨_, _, by rw [C.K]; exact dp_rv hh.sub r1 rfl, by rw [C.K]; exact dp_rv hh.sub r2 h1.1, rfl, h1.2, hq _ hk _ _ _ _ _ (out_sc hh (by simp only [py, PyData.eqv]; exact .bl _))⟩
  · exact hk.elim
theorem bop_ne (C : Ctx Γ X N sc fp k) : Bop Γ (rNeA X) kNe := fun σ F H A ρ v1 v2 d1 d2 Q QV hh r1 r2 hk hq => by
  unfold kNe kEqG at hk
  split at hk
  · rw [rv_int r1, rv_int r2]; exact .inl ⟨rfl, hq _ hk _ _ _ _ _ (out_sc hh (by simp only [if_true, V.int.injEq]; exact .bl _))⟩
  · rw [rv_str r1, rv_str r2]; exact .inl ⟨rfl, hq _ hk _ _ _ _ _ (out_sc hh (by simp only [if_true, V.str.injEq]; exact .bl _))⟩
  · rw [rv_bl r1, rv_bl r2]; exact .inl ⟨rfl, hq _ hk _ _ _ _ _ (out_sc hh (by simp only [if_true, V.bl.injEq]; exact .bl _))⟩
  · rw [rv_non r1, rv_non r2]; exact .inl ⟨rfl, hq _ hk _ _ _ _ _ (out_sc hh (.bl _))⟩
  · rw [rv_non r1, rv_int r2]; exact .inl ⟨rfl, hq _ hk _ _ _ _ _ (out_sc hh (.bl _))⟩
  · rw [rv_int r1, rv_non r2]; exact .inl ⟨rfl, hq _ hk _ _ _ _ _ (out_sc hh (.bl _))⟩
  · rw [rv_non r1, rv_str r2]; exact .inl ⟨rfl, hq _ hk _ _ _ _ _ (out_sc hh (.bl _))⟩
  · rw [rv_str r1, rv_non r2]; exact .inl ⟨rfl, hq _ hk _ _ _ _ _ (out_sc hh (.bl _))⟩
  · obtain ⟨⟨h1, h2⟩, hk⟩ := hk
    exact .inr ⟨_, _, by rw [C.K]; exact dp_rv hh.sub r1 h1.1, by rw [C.K]; exact dp_rv hh.sub r2 h2.1, h1.2, h2.2, hq _ hk _ _ _ _ _ (out_sc hh (.bl _))⟩
  · obtain ⟨⟨h1, h2⟩, hk⟩ := hk
    exact .inr ⟨_, _, by rw [C.K]; exact dp_rv hh.sub r1 h1.1, by rw [C.K]; exact dp_rv hh.sub r2 h2.1, h1.2, h2.2, hq _ hk _ _ _ _ _ (out_sc hh (.bl _))⟩
  · obtain ⟨h1, hk⟩ := hk
    exact .inr ⟨_, _, by rw [C.K]; exact dp_rv hh.sub r1 h1.1, by rw [C.K]; exact dp_rv hh.sub r2 rfl, h1.2, rfl, hq _ hk _ _ _ _ _ (out_sc hh (by simp only [py, PyData.eqv]; exact .bl _))⟩
  · obtain ⟨h1, hk⟩ := hk
    exact .inr ⟨_, _, by rw [C.K]; exact dp_rv hh.sub r1 rfl, by rw [C.K]; exact dp_rv hh.sub r2 h1.1, rfl, h1.2, hq _ hk _ _ _ _ _ (out_sc hh (by simp only [py, PyData.eqv]; exact .bl _))⟩
  · exact hk.elim
section
variable {a b : Expr} {wa wb : WE} {pos : Pos}
theorem se_eq (C : Ctx Γ X N sc fp k) (ha : SE Γ X a wa) (hb : SE Γ X b wb) : SE Γ X (.Compare a [.Eq] [b] pos) (w2 kEq wa wb) := se_cmp (opR_or op_eq (op_eqD C.room.units)) (bop_eq C) (nomark _) ha hb
theorem se_ne (C : Ctx Γ X N sc fp k) (ha : SE Γ X a wa) (hb : SE Γ X b wb) : SE Γ X (.Compare a [.NotEq] [b] pos) (w2 kNe wa wb) := se_cmp (opR_or op_ne (op_neD C.room.units)) (bop_ne C) (nomark _) ha hb
end
/-! ### is None -/
def isNon : D → Bool
  | .non => true
  | _ => false
theorem rep_non {F H : Hp} {v : V} {d : D} (h : RV Γ F H v d) : decide (v = .non) = isNon d := by
  cases d with
  | lst ds => obtain ⟨a, vs, rfl, _, _⟩ := h; rfl
  | non => rw [rv_non h]; rfl
  | bl _ => rw [rv_bl h]; rfl
  | int _ => rw [rv_int h]; rfl
  | str _ => rw [rv_str h]; rfl
  | tup _ => have h' : rep Γ F v _ := h; unfold rep R at h'; obtain ⟨a, vs, rfl, _⟩ := h'; rfl
  | obj _ _ => have h' : rep Γ F v _ := h; unfold rep R at h'; obtain ⟨a, dx, vs, rfl, _⟩ := h'; rfl
  | scr _ => have h' : rep Γ F v _ := h; unfold rep R at h'; obtain ⟨a, rfl, _⟩ := h'; rfl
def kIs (neg : Bool) : D → D → (SV → Prop) → Prop := fun x y K => match y with
  | .non => K (.d (.bl (if neg then !isNon x else isNon x)))
  | _ => False
theorem bop_is : Bop Γ (fun x y H Q => y = .non ∧ Q (.bl (decide (x = .non))) H) (kIs false) := fun σ F H A ρ v1 v2 d1 d2 Q QV hh r1 r2 hk hq => by
  unfold kIs at hk
  split at hk
  · exact ⟨rv_non r2, hq _ hk _ _ _ _ _ (out_sc hh (by rw [rep_non r1]; exact .bl _))⟩
  · exact hk.elim
theorem bop_isnot : Bop Γ (fun x y H Q => y = .non ∧ Q (.bl (!decide (x = .non))) H) (kIs true) := fun σ F H A ρ v1 v2 d1 d2 Q QV hh r1 r2 hk hq => by
  unfold kIs at hk
  split at hk
  · exact ⟨rv_non r2, hq _ hk _ _ _ _ _ (out_sc hh (by rw [rep_non r1]; exact .bl _))⟩
  · exact hk.elim
section
variable {a b : Expr} {wa wb : WE} {pos : Pos}
theorem se_is (ha : SE Γ X a wa) (hb : SE Γ X b wb) : SE Γ X (.Compare a [.Is] [b] pos) (w2 (kIs false) wa wb) := se_cmp op_isN bop_is (nomark _) ha hb
theorem se_isnot (ha : SE Γ X a wa) (hb : SE Γ X b wb) : SE Γ X (.Compare a [.IsNot] [b] pos) (w2 (kIs true) wa wb) := se_cmp op_notN bop_isnot (nomark _) ha hb
end
/-! ### in, not in -/
def flatD : D → Bool
  | .non => true
  | .bl _ => true
  | .int _ => true
  | .str _ => true
  | _ => false
theorem flat_v {F : Hp} {v : V} {d : D} (h : rep Γ F v d) (f : flatD d = true) : flatV v = true ∧ Sc v d := by
  cases d with
  | non => rw [rv_non (Γ := Γ) (F := F) (H := F) h]; exact ⟨rfl, .non⟩
  | bl _ => rw [rv_bl (Γ := Γ) (F := F) (H := F) h]; exact ⟨rfl, .bl _⟩
  | int _ => rw [rv_int (Γ := Γ) (F := F) (H := F) h]; exact ⟨rfl, .int _⟩
  | str _ => rw [rv_str (Γ := Γ) (F := F) (H := F) h]; exact ⟨rfl, .str _⟩
  | _ => cases f
theorem eqV_sc {v w : V} {x y : D} (h : Sc v x) (h' : Sc w y) : eqV v w = deq x y := by
  cases h <;> cases h' <;> simp [eqV, deq, py, PyData.eqv]
def inD (x : D) (ds : List D) : Bool := ds.any fun y => deq y x
theorem inV_sc {F : Hp} {v : V} {x : D} (h : Sc v x) : ∀ {vs : List V} {ds : List D}, repL Γ F vs ds → ds.all flatD = true → vs.all flatV = true ∧ inV v vs = inD x ds
  | _, [], r, _ => by unfold repL RL at r; subst r; exact ⟨rfl, rfl⟩
  | _, d :: ds, r, f => by
    unfold repL RL at r
    obtain ⟨w, vs, rfl, h2, h3⟩ := r
    rw [List.all_cons, Bool.and_eq_true] at f
    obtain ⟨e1, e2⟩ := inV_sc h h3 f.2
    obtain ⟨g1, g2⟩ := flat_v h2 f.1
    refine ⟨by rw [List.all_cons, g1, e1]; rfl, ?_⟩
    unfold inV inD at e2 ⊢
    rw [List.any_cons, List.any_cons, e2, eqV_sc g2 h]
def kInG (neg : Bool) : D → D → (SV → Prop) → Prop := fun x y K => match y with
  | .lst ds => (flatD x = true ∧ ds.all flatD = true) ∧ K (.d (.bl (if neg then !inD x ds else inD x ds)))
  | .tup ds => (flatD x = true ∧ ds.all flatD = true) ∧ K (.d (.bl (if neg then !inD x ds else inD x ds)))
  | _ => False
theorem bop_in (C : Ctx Γ X N sc fp k) (neg : Bool) : Bop Γ (rIn X.K neg) (kInG neg) := fun σ F H A ρ v1 v2 d1 d2 Q QV hh r1 r2 hk hq => by
  unfold kInG at hk
  have rr : ∀ {d : D}, flatD d = true → RV Γ F H v1 d → rep Γ F v1 d := fun {d} f r => by
    cases d <;> first | exact r | cases f
  split at hk
  · obtain ⟨⟨f1, f2⟩, hk⟩ := hk
    obtain ⟨a, vs, rfl, ha, ra⟩ := rv_lst r2
    obtain ⟨g1, g2⟩ := flat_v (rr f1 r1) f1
    obtain ⟨e1, e2⟩ := inV_sc g2 ra f2
    exact ⟨a, vs, rfl, .inl (.of ha), g1, e1, hq _ hk _ _ _ _ _ (out_sc hh (by rw [e2]; exact .bl _))⟩
  · obtain ⟨⟨f1, f2⟩, hk⟩ := hk
    obtain ⟨a, vs, rfl, ha, ra, _⟩ := rv_tup hh.sub r2
    obtain ⟨g1, g2⟩ := flat_v (rr f1 r1) f1
    obtain ⟨e1, e2⟩ := inV_sc g2 ra f2
    exact ⟨a, vs, rfl, .inr (.of ha), g1, e1, hq _ hk _ _ _ _ _ (out_sc hh (by rw [e2]; exact .bl _))⟩
  · exact hk.elim
section
variable {a b : Expr} {wa wb : WE} {pos : Pos}
theorem se_in (C : Ctx Γ X N sc fp k) (hm : behindInMarks .In b = false) (ha : SE Γ X a wa) (hb : SE Γ X b wb) : SE Γ X (.Compare a [.In] [b] pos) (w2 (kInG false) wa wb) := se_cmp op_in_seq (bop_in C false) hm ha hb
theorem se_notin (C : Ctx Γ X N sc fp k) (hm : behindInMarks .NotIn b = false) (ha : SE Γ X a wa) (hb : SE Γ X b wb) : SE Γ X (.Compare a [.NotIn] [b] pos) (w2 (kInG true) wa wb) := se_cmp op_notIn_seq (bop_in C true) hm ha hb
end
/-! ### a[i] -/
def kIdx : D → D → (SV → Prop) → Prop := fun x y K => match x, y with
  | .lst ds, .int i => ∃ d, atI ds i = some d ∧ K (.d d)
  | .tup ds, .int i => ∃ d, atI ds i = some d ∧ K (.d d)
  | .scr ns, .int i => ∃ n, atI ns i = some n ∧ K (.d (.int n))
  | .str z, .int i => z.length ≤ 16777216 ∧ ∃ c, atI z.cps.toList i = some c ∧ K (.d (.str ⟨#[c]⟩))
  | _, _ => False
theorem atI_rel {F : Hp} {vs : List V} {ds : List D} {i : Int} {d : D} (r : repL Γ F vs ds) (e : atI ds i = some d) : ∃ v, atI vs i = some v ∧ rep Γ F v d := by
  unfold atI at e ⊢
  rw [RL.length r]
  cases q : ixN ds.length i with
  | none => rw [q] at e; cases e
  | some j =>
    rw [q] at e
    exact RL.get r e
theorem bop_idx (C : Ctx Γ X N sc fp k) : Bop Γ (rIx X.K) kIdx := fun σ F H A ρ v1 v2 d1 d2 Q QV hh r1 r2 hk hq => by
  unfold kIdx at hk
  split at hk
  · obtain ⟨d, e, hk⟩ := hk
    obtain ⟨a, vs, rfl, ha, ra⟩ := rv_lst r1
    obtain ⟨v, h1, h2⟩ := atI_rel ra e
    exact .inl ⟨a, vs, _, v, rfl, rv_int r2, .of ha, h1, hq _ hk _ _ _ _ _ (.now hh (rs_d h2))⟩
  · obtain ⟨d, e, hk⟩ := hk
    obtain ⟨a, vs, rfl, ha, ra, _⟩ := rv_tup hh.sub r1
    obtain ⟨v, h1, h2⟩ := atI_rel ra e
    exact .inr (.inl ⟨a, vs, _, v, rfl, rv_int r2, .of ha, h1, hq _ hk _ _ _ _ _ (.now hh (rs_d h2))⟩)
  · obtain ⟨n, e, hk⟩ := hk
    obtain ⟨a, rfl, ha⟩ := rv_scr hh.sub r1
    refine .inl ⟨a, _, _, .int n, rfl, rv_int r2, by rw [C.K]; exact ha, ?_, hq _ hk _ _ _ _ _ (out_sc hh (.int _))⟩
    unfold atI at e ⊢
    rw [List.length_map]
    rename_i ns i
    cases q : ixN ns.length i with
    | none => rw [q] at e; cases e
    | some j =>
      rw [q] at e
      show (ns.map V.int)[j]? = _
      rw [List.getElem?_map, show ns[j]? = some n from e]
      rfl
  · obtain ⟨hl, c, e, hk⟩ := hk
    exact .inr (.inr ⟨_, _, c, rv_str r1, rv_int r2, by rw [line_eq]; exact hl, e, hq _ hk _ _ _ _ _ (out_sc hh (.str _))⟩)
  · exact hk.elim
theorem se_idx (C : Ctx Γ X N sc fp k) {a b : Expr} {wa wb : WE} {pos : Pos} (hs : PlainIx b) (ha : SE Γ X a wa) (hb : SE Γ X b wb) : SE Γ X (.Subscript a b pos) (w2 kIdx wa wb) :=
  se_2 (fun pa pb => pe_ix (IxR.or ix_list (IxR.or ix_tup ix_str)) pa pb hs) (bop_idx C) ha hb
end
end Dv

/-! Dv4: argument lists, displays, built-ins, and, or, not, if, slices. -/
namespace Dv
open PySem PySem.Spec PyProof.Rows L2
section
variable {Γ : Wd} {X : Cx} {N : List Str} {sc : Scope} {fp : Str → Bool} {k : Nat}

/-! ### what is kept: it stands from now on -/
def keep (sv : SV) (ρ : Rho) (K : D → Rho → Prop) : Prop := match sv with
  | .d x => K x ρ
  | .lst ds => K (.lst ds) ρ
  | .sl i => match ρ[i]? with
    | some (some (.d x)) => K x ρ
    | some (some (.lst ds)) => K (.lst ds) (ρ.set i (some (.d (.lst ds))))
    | _ => False
  | _ => False
theorem keep_ok {σ : Sg} {F H : Hp} {A B : List Addr} {ρ : Rho} {v : V} {sv : SV} {Kp : D → Rho → Prop} (hh : hold Γ σ F H ρ A) (r : rs Γ σ F H v sv B) (nd : (B ++ A).Nodup) (fb : ∀ b ∈ B, F b = none) (hk : keep sv ρ Kp) :
    ∃ d ρ' F' A', Kp d ρ' ∧ Ext F H (B ++ A) F' H A' ∧ hold Γ σ F' H ρ' A' ∧ rep Γ F' v d ∧ ∀ a o, F' a = some o → F a = some o ∨ a ∈ B ++ A := by
  cases sv with
  | d x =>
    unfold rs RS at r
    obtain ⟨r, rfl⟩ := r
    exact ⟨x, ρ, F, A, hk, Ext.refl, hh, r, fun a o e => .inl e⟩
  | lst ds =>
    unfold rs RS at r
    obtain ⟨a, vs, rfl, ha, ra, rfl⟩ := r
    have nF := fb a (by simp)
    have nA : a ∉ A := by simp at nd; exact nd.1
    have sF : Same F (upd F a (.lst vs)) := fun c u e => by rw [upd_ne (ne_of_none e nF)]; exact e
    have w : ∀ c o, upd F a (.lst vs) c = some o → F c = some o ∨ c ∈ [a] ++ A := fun c o e => by
      by_cases h : c = a
      · subst h; exact .inr (by simp)
      · rw [upd_ne h] at e; exact .inl e
    refine ⟨.lst ds, ρ, upd F a (.lst vs), A, hk, ⟨sF, fun _ _ e _ => e, fun c u e => ?_, fun c m => .inl (by simp [m])⟩, hold_frz (A := A) hh.sl hh.sub hh.nd hh.av ha nF nA, ?_, w⟩
    · rcases w c u e with q | q
      · exact .inl q
      · exact .inr (.inr q)
    · unfold rep R
      exact ⟨a, vs, rfl, upd_same, ra.mono sF⟩
  | sl i =>
    obtain ⟨r, rfl⟩ := r
    obtain ⟨A1, s, q⟩ := hh.sl
    unfold keep at hk
    cases e : ρ[i]? with
    | none => simp [e] at hk
    | some o =>
      cases o with
      | none => simp [e] at hk
      | some sv =>
        obtain ⟨v', B', A0, h1, h2, h3, h4⟩ := s.at e
        rw [r] at h1; cases h1
        cases sv with
        | d x =>
          simp only [e] at hk
          unfold RS at h2
          exact ⟨x, ρ, F, A, hk, Ext.refl, hh, h2.1, fun a o e => .inl e⟩
        | lst ds =>
          simp only [e] at hk
          unfold RS at h2
          obtain ⟨a, vs, rfl, ha, ra, rfl⟩ := h2
          have pA : A.Perm (a :: A0) := q.symm.trans h3
          have nd' : (a :: A0).Nodup := pA.nodup_iff.mp hh.nd
          have ma : a ∈ A := pA.mem_iff.mpr (by simp)
          have nF := hh.av a ma
          have nA : a ∉ A0 := (List.nodup_cons.mp nd').1
          have sF : Same F (upd F a (.lst vs)) := fun c u e => by rw [upd_ne (ne_of_none e nF)]; exact e
          have w : ∀ c o, upd F a (.lst vs) c = some o → F c = some o ∨ c ∈ [] ++ A := fun c o e => by
            by_cases h : c = a
            · subst h; exact .inr ma
            · rw [upd_ne h] at e; exact .inl e
          have ra' : rep Γ (upd F a (.lst vs)) (.ref a) (.lst ds) := by
            unfold rep R
            exact ⟨a, vs, rfl, upd_same, ra.mono sF⟩
          have s' := s.mono sF fun _ _ _ e => e
          obtain ⟨_, _, _, e1, e2, e3, h4'⟩ := s'.at e
          rw [r] at e1; cases e1
          unfold RS at e2
          obtain ⟨a', vs', z, _, _, rfl⟩ := e2
          cases z
          obtain ⟨A', h5, h6⟩ := h4' (.ref a) (.d (.lst ds)) [] (by unfold RS; exact ⟨ra', rfl⟩)
          have eσ : σ.set i (some (.ref a)) = σ := by
            apply List.ext_getElem?
            intro j
            by_cases hj : i = j
            · subst hj
              rw [List.getElem?_set_self (List.getElem?_eq_some_iff.mp r).1, r]
            · rw [List.getElem?_set_ne hj]
          rw [eσ] at h5
          have pp : A'.Perm A0 := by
            have z1 : A1.Perm (a :: _) := e3
            have z2 := h3.symm.trans z1
            exact h6.trans (List.Perm.cons_inv z2).symm
          refine ⟨.lst ds, _, upd F a (.lst vs), A0, hk, ⟨sF, fun _ _ e _ => e, fun c u e => ?_, fun c m => .inl (by simp; exact pA.mem_iff.mpr (List.mem_cons_of_mem _ m))⟩, ⟨⟨A', h5, pp⟩, ?_, (List.nodup_cons.mp nd').2, fun c m => ?_⟩, ra', w⟩
          · rcases w c u e with q | q
            · exact .inl q
            · exact .inr (.inr q)
          · intro c u e
            by_cases h : c = a
            · subst h; rw [upd_same] at e; cases e; exact ha
            · rw [upd_ne h] at e; exact hh.sub c u e
          · rw [upd_ne (fun z => nA (by rw [← z]; exact m))]
            exact hh.av c (pA.mem_iff.mpr (List.mem_cons_of_mem _ m))
        | _ => simp [e] at hk
  | _ => exact hk.elim
def rsL (Γ : Wd) (σ : Sg) (F H : Hp) : List V → List SV → List Addr → Prop
  | vs, [], B => vs = [] ∧ B = []
  | vs, x :: xs, B => ∃ v r B1 B2, vs = v :: r ∧ rs Γ σ F H v x B1 ∧ rsL Γ σ F H r xs B2 ∧ B = B1 ++ B2
theorem rsL_mono {σ : Sg} {F F' H H' : Hp} (e : Same F F') : ∀ {xs : List SV} {vs : List V} {B : List Addr}, (∀ a ∈ B, ∀ o, H a = some o → H' a = some o) → rsL Γ σ F H vs xs B → rsL Γ σ F' H' vs xs B
  | [], _, _, _, h => h
  | x :: xs, _, _, k, h => by
    obtain ⟨v, r, B1, B2, h1, h2, h3, rfl⟩ := h
    exact ⟨v, r, B1, B2, h1, rs_mono e (fun b m => k b (List.mem_append_left _ m)) h2, rsL_mono e (fun b m => k b (List.mem_append_right _ m)) h3, rfl⟩
def keepL : List SV → Rho → (List D → Rho → Prop) → Prop
  | [], ρ, K => K [] ρ
  | sv :: svs, ρ, K => keep sv ρ fun d ρ1 => keepL svs ρ1 fun ds ρ2 => K (d :: ds) ρ2
theorem keepL_ok {σ : Sg} {H : Hp} : ∀ {svs : List SV} {vs : List V} {F : Hp} {A B : List Addr} {ρ : Rho} {Kp : List D → Rho → Prop}, hold Γ σ F H ρ A → rsL Γ σ F H vs svs B → (B ++ A).Nodup → (∀ b ∈ B, F b = none) → keepL svs ρ Kp →
    ∃ ds ρ' F' A', Kp ds ρ' ∧ Ext F H (B ++ A) F' H A' ∧ hold Γ σ F' H ρ' A' ∧ repL Γ F' vs ds ∧ ∀ a o, F' a = some o → F a = some o ∨ a ∈ B ++ A
  | [], vs, F, A, B, ρ, Kp, hh, r, nd, fb, hk => by
    unfold rsL at r
    obtain ⟨rfl, rfl⟩ := r
    exact ⟨[], ρ, F, A, hk, Ext.refl, hh, RL.nil, fun a o e => .inl e⟩
  | sv :: svs, vs, F, A, B, ρ, Kp, hh, r, nd, fb, hk => by
    unfold rsL at r
    obtain ⟨v, r', B1, B2, rfl, h2, h3, rfl⟩ := r
    unfold keepL at hk
    have nd1 : (B1 ++ A).Nodup := by
      rw [List.append_assoc] at nd
      refine nd.sublist (List.Sublist.append_left (List.sublist_append_right _ _) _)
    obtain ⟨d, ρ1, F1, A1, hk, x1, hh1, rd1, w1⟩ := keep_ok hh h2 nd1 (fun b m => fb b (List.mem_append_left _ m)) hk
    have disB : ∀ b ∈ B2, b ∉ B1 ++ A := fun b m n => by
      rw [List.append_assoc] at nd
      rcases List.mem_append.mp n with n | n
      · exact (List.nodup_append.mp nd).2.2 b n b (List.mem_append_left _ m) rfl
      · exact (List.nodup_append.mp (List.nodup_append.mp nd).2.1).2.2 b m b n rfl
    have fb2 : ∀ b ∈ B2, F1 b = none := fun b m => by
      cases e : F1 b with
      | none => rfl
      | some o =>
        rcases w1 b o e with q | q
        · rw [fb b (List.mem_append_right _ m)] at q; cases q
        · exact absurd q (disB b m)
    have sub1 : ∀ b ∈ A1, b ∈ B1 ++ A := fun b m => by
      rcases x1.na b m with q | q
      · exact q
      · obtain ⟨o, e, _⟩ := hh1.own b m
        rw [q] at e; cases e
    have nd2 : (B2 ++ A1).Nodup := by
      rw [List.nodup_append]
      refine ⟨?_, hh1.nd, fun a m b n z => disB a m (sub1 a (z ▸ n))⟩
      have q := nd
      rw [List.append_assoc] at q
      exact (List.nodup_append.mp (List.nodup_append.mp q).2.1).1
    obtain ⟨ds, ρ2, F2, A2, hk2, x2, hh2, rd2, w2⟩ := keepL_ok hh1 (rsL_mono x1.sf (fun _ _ _ e => e) h3) nd2 fb2 hk
    refine ⟨d :: ds, ρ2, F2, A2, hk2, ?_, hh2, RL.cons (R.mono x2.sf rd1) rd2, fun a o e => ?_⟩
    · have y1 : Ext F H (B2 ++ (B1 ++ A)) F1 H (B2 ++ A1) := x1.frame
      have y := y1.trans x2
      refine ⟨y.sf, fun _ _ e _ => e, fun a u e => ?_, fun a m => ?_⟩
      · rcases y.nf a u e with q | q | q
        · exact .inl q
        · exact .inr (.inl q)
        · refine .inr (.inr ?_)
          simp only [List.mem_append] at q ⊢
          rcases q with q | q | q
          · exact .inl (.inr q)
          · exact .inl (.inl q)
          · exact .inr q
      · rcases y.na a m with q | q
        · refine .inl ?_
          simp only [List.mem_append] at q ⊢
          rcases q with q | q | q
          · exact .inl (.inr q)
          · exact .inl (.inl q)
          · exact .inr q
        · exact .inr q
    · rcases w2 a o e with q | q
      · rcases w1 a o q with q | q
        · exact .inl q
        · refine .inr ?_
          simp only [List.mem_append] at q ⊢
          rcases q with q | q
          · exact .inl (.inl q)
          · exact .inr q
      · refine .inr ?_
        rcases List.mem_append.mp q with q | q
        · simp [q]
        · have := sub1 a q
          simp only [List.mem_append] at this ⊢
          rcases this with q | q
          · exact .inl (.inl q)
          · exact .inr q

/-! ### argument lists -/
def nStar : Expr → Bool
  | .Starred _ _ => false
  | _ => true
theorem star_of {e : Expr} {es : List Expr} {env : Env} (h : nStar e = true) : starEach (e :: es) env = (false, eval e env) :: starEach es env := by
  cases e <;> first | rfl | cases h
structure OutL (Γ : Wd) (σ : Sg) (F H : Hp) (A : List Addr) (ρ' : Rho) (svs : List SV) (vs : List V) (F' H' : Hp) (A' B : List Addr) : Prop where
  oe : Ext F H A F' H' (B ++ A')
  oh : hold Γ σ F' H' ρ' A'
  ors : rsL Γ σ F' H' vs svs B
  ond : (B ++ A').Nodup
  ofb : ∀ b ∈ B, F' b = none
structure SA (Γ : Wd) (X : Cx) (es : List Expr) (w : WA) : Prop where
  run : ∀ (σ : Sg) (F H : Hp) (A : List Addr) (ρ : Rho) (Q : List SV → Rho → Prop) (E : EK) (QV : List V → Hp → Prop) (W : WX), hold Γ σ F H ρ A → Takes X W → EL Γ σ F H A E W → w ρ Q E →
    (∀ svs ρ', Q svs ρ' → ∀ vs F' H' A' B, OutL Γ σ F H A ρ' svs vs F' H' A' B → QV vs H') → wpXA X es σ H QV
def wNil : WA := fun ρ Q _ => Q [] ρ
def wCons (w : WE) (wr : WA) : WA := fun ρ Q E => w ρ (fun x ρ1 => wr ρ1 (fun xs ρ2 => Q (x :: xs) ρ2) E) E
theorem sa_nil : SA Γ X [] wNil := .mk fun σ F H A ρ Q E QV W hh tk el hw hq pos pins s I =>
  pa_nil.run pos pins s σ H QV I (hq [] ρ hw [] F H A [] ⟨Ext.refl, hh, by unfold rsL; exact ⟨rfl, rfl⟩, hh.nd, fun _ m => nomatch m⟩)
theorem sa_cons {e : Expr} {es : List Expr} {w : WE} {wr : WA} (h : SE Γ X e w) (hr : SA Γ X es wr) (hs : starEach (e :: es) X.env = (false, eval e X.env) :: starEach es X.env := by exact star_of rfl) : SA Γ X (e :: es) (wCons w wr) :=
  .mk fun σ F H A ρ Q E QV W hh tk el hw hq pos pins s I => by
  refine (pa_cons pe_x pa_x hs).run pos pins s σ H QV I ?_
  refine h.use hh tk el hw fun sx ρ1 hw1 v1 F1 H1 A1 B1 o1 => ?_
  refine hr.run σ F1 H1 A1 ρ1 _ E _ W o1.oh tk (el.ext o1.ext1) hw1 fun sxs ρ2 hw2 vs F2 H2 A2 B2 o2 => ?_
  have x2 : Ext F1 H1 A1 F2 H2 A2 := o2.oe.sub fun a m => List.mem_append_right _ m
  obtain ⟨r1, n1, f1, _⟩ := o1.stay x2
  obtain ⟨_, n1', _, x1'⟩ := o1.stay o2.oe
  refine hq _ _ hw2 (v1 :: vs) F2 H2 A2 (B1 ++ B2) ⟨by rw [List.append_assoc]; exact x1', o2.oh, by unfold rsL; exact ⟨v1, vs, B1, B2, rfl, r1, o2.ors, rfl⟩, ?_, fun b m => ?_⟩
  · rw [List.append_assoc, List.nodup_append]
    refine ⟨(List.nodup_append.mp o1.ond).1, o2.ond, fun a m b n z => n1' a m (by rw [z]; exact n)⟩
  · rcases List.mem_append.mp m with m | m
    · exact f1 b m
    · exact o2.ofb b m

/-! ### tuples and lists, written -/
def wTup (w : WA) : WE := fun ρ Q E => w ρ (fun svs ρ1 => keepL svs ρ1 fun ds ρ2 => ds.length ≤ 16777216 ∧ Q (.d (.tup ds)) ρ2) E
def wLst (w : WA) : WE := fun ρ Q E => w ρ (fun svs ρ1 => keepL svs ρ1 fun ds ρ2 => ds.length ≤ 16777216 ∧ Q (.lst ds) ρ2) E
theorem se_tup {es : List Expr} {w : WA} {x1} {pos : Pos} (h : SA Γ X es w) : SE Γ X (.Tuple es x1 pos) (wTup w) := .mk fun σ F H A ρ Q E QV W hh tk el hw hq pins s I => by
  refine (pe_tup pa_x).run pins s σ H QV I ?_
  refine h.run σ F H A ρ _ E _ W hh tk el hw fun svs ρ1 hw1 vs F1 H1 A1 B1 o1 => ?_
  obtain ⟨ds, ρ2, F2, A2, ⟨hl, hk⟩, x2, hh2, r2, _⟩ := keepL_ok o1.oh o1.ors o1.ond o1.ofb hw1
  refine ⟨by rw [r2.length, line_eq]; exact hl, fun p hp => ?_⟩
  obtain o := Out.newT hh2 hp r2
  exact hq _ _ hk _ _ _ _ _ ⟨(o1.oe.trans x2).trans o.oe, o.oh, o.ors, o.ond, o.ofb⟩
theorem se_lst {es : List Expr} {w : WA} {pos : Pos} (h : SA Γ X es w) : SE Γ X (.List es pos) (wLst w) := .mk fun σ F H A ρ Q E QV W hh tk el hw hq pins s I => by
  refine (pe_lst pa_x).run pins s σ H QV I ?_
  refine h.run σ F H A ρ _ E _ W hh tk el hw fun svs ρ1 hw1 vs F1 H1 A1 B1 o1 => ?_
  obtain ⟨ds, ρ2, F2, A2, ⟨hl, hk⟩, x2, hh2, r2, _⟩ := keepL_ok o1.oh o1.ors o1.ond o1.ofb hw1
  refine ⟨by rw [r2.length, line_eq]; exact hl, fun p hp => ?_⟩
  obtain o := Out.newL hh2 hp r2
  exact hq _ _ hk _ _ _ _ _ ⟨(o1.oe.trans x2).trans o.oe, o.oh, o.ors, o.ond, o.ofb⟩

/-! ### built-ins by their arguments, read -/
def rdL : List SV → Rho → Option (List D)
  | [], _ => some []
  | x :: xs, ρ => match rd x ρ, rdL xs ρ with
    | some d, some ds => some (d :: ds)
    | _, _ => none
def wB (kf : List D → (SV → Prop) → Prop) (w : WA) : WE := fun ρ Q E => w ρ (fun svs ρ1 => match rdL svs ρ1 with
  | some ds => kf ds fun z => Q z ρ1
  | none => False) E
inductive RVL (Γ : Wd) (F H : Hp) : List V → List D → Prop
  | nil : RVL Γ F H [] []
  | cons {v d vs ds} : RV Γ F H v d → RVL Γ F H vs ds → RVL Γ F H (v :: vs) (d :: ds)
theorem rdL_ok {σ : Sg} {F H : Hp} {A : List Addr} {ρ : Rho} (hh : hold Γ σ F H ρ A) : ∀ {svs : List SV} {vs : List V} {B : List Addr} {ds : List D}, rsL Γ σ F H vs svs B → rdL svs ρ = some ds → RVL Γ F H vs ds
  | [], vs, B, ds, r, e => by
    unfold rsL at r
    obtain ⟨rfl, _⟩ := r
    cases e
    exact .nil
  | x :: xs, vs, B, ds, r, e => by
    unfold rsL at r
    obtain ⟨v, r', B1, B2, rfl, h2, h3, _⟩ := r
    unfold rdL at e
    split at e
    · rename_i d ds' e1 e2
      cases e
      exact .cons (rd_ok hh h2 e1) (rdL_ok hh h3 e2)
    · cases e
def Bopn (Γ : Wd) (r : List V → Hp → VK → Prop) (kf : List D → (SV → Prop) → Prop) : Prop :=
  ∀ (σ : Sg) (F H : Hp) (A : List Addr) (ρ : Rho) (vs : List V) (ds : List D) (Q : SV → Prop) (QV : VK), hold Γ σ F H ρ A → RVL Γ F H vs ds → kf ds Q →
    (∀ z, Q z → ∀ v F' H' A' B, Out Γ σ F H A ρ z v F' H' A' B → QV v H') → r vs H QV
theorem se_bn {e : Expr} {es : List Expr} {r : List V → Hp → VK → Prop} {kf : List D → (SV → Prop) → Prop} {w : WA} (rule : ∀ {ta : TA}, PA X es ta → PE X e (tCB r ta)) (hk : Bopn Γ r kf) (h : SA Γ X es w) : SE Γ X e (wB kf w) :=
  .mk fun σ F H A ρ Q E QV W hh tk el hw hq pins s I => by
  refine (rule pa_x).run pins s σ H QV I ?_
  refine h.run σ F H A ρ _ E _ W hh tk el hw fun svs ρ1 hw1 vs F1 H1 A1 B1 o1 => ?_
  cases e1 : rdL svs ρ1 with
  | none => simp only [e1] at hw1
  | some ds =>
    simp only [e1] at hw1
    refine hk σ F1 H1 A1 ρ1 vs ds _ QV o1.oh (rdL_ok o1.oh o1.ors e1) hw1 fun z hz v F3 H3 A3 B3 o3 => ?_
    have x1 : Ext F H A F1 H1 A1 := o1.oe.sub fun a m => List.mem_append_right _ m
    exact hq z ρ1 hz v F3 H3 A3 B3 ⟨x1.trans o3.oe, o3.oh, o3.ors, o3.ond, o3.ofb⟩
section
variable {x : Str} {p pos : Pos} {e : Expr} {es : List Expr} {w : WA} {id T : String} {r : List V → Hp → VK → Prop} {kf : List D → (SV → Prop) → Prop}
theorem gl_of (C : Ctx Γ X N sc fp k) {x : Str} (hg : sc.names.lookup x = some .globalImplicit) : Gl X x := by
  show X.env.scope.names.lookup x = _
  rw [C.hs]; exact hg
theorem se_callB (C : Ctx Γ X N sc fp k) (hc : CallR X (.builtin id) r) (hk : Bopn Γ r kf) (hm : Γ.mg x = none) (hv : bootBuiltins x = some (.builtin id)) (ha : SA Γ X (e :: es) w) (hg : sc.names.lookup x = some .globalImplicit := by rfl) (hn : x ≠ "__name__" := by decide) (hdb : (x == ("__debug__" : Str)) = false := by decide)
    (he : starEach (e :: es) X.env = (false, eval e X.env) :: starEach es X.env := by exact star_of rfl) (hpl : (backTo pos (starEach es X.env)).any (·.1) = false := by rfl) : SE Γ X (.Call (.Name x p) (e :: es) [] pos) (wB kf w) :=
  se_bn (fun pa => pe_callB hc (gl_of C hg) (by rw [C.mg]; exact hm) hv pa hn hdb he hpl) hk ha
theorem se_callTy (C : Ctx Γ X N sc fp k) (hc : CallR X (.type T) r) (hk : Bopn Γ r kf) (hm : Γ.mg x = none) (hv : bootBuiltins x = some (.type T)) (ha : SA Γ X (e :: es) w) (hg : sc.names.lookup x = some .globalImplicit := by rfl) (hn : x ≠ "__name__" := by decide) (hdb : (x == ("__debug__" : Str)) = false := by decide)
    (he : starEach (e :: es) X.env = (false, eval e X.env) :: starEach es X.env := by exact star_of rfl) (hpl : (backTo pos (starEach es X.env)).any (·.1) = false := by rfl) : SE Γ X (.Call (.Name x p) (e :: es) [] pos) (wB kf w) :=
  se_bn (fun pa => pe_callTy hc (gl_of C hg) (by rw [C.mg]; exact hm) hv pa hn hdb he hpl) hk ha
end
end
end Dv

/-! Dv5: the built-ins. -/
namespace Dv
open PySem PySem.Spec PyProof.Rows L2
section
variable {Γ : Wd} {X : Cx} {N : List Str} {sc : Scope} {fp : Str → Bool} {k : Nat}
theorem rvl1 {F H : Hp} {vs : List V} {d : D} (h : RVL Γ F H vs [d]) : ∃ v, vs = [v] ∧ RV Γ F H v d := by
  cases h with
  | cons h t => cases t; exact ⟨_, rfl, h⟩
theorem rvl2 {F H : Hp} {vs : List V} {d e : D} (h : RVL Γ F H vs [d, e]) : ∃ v w, vs = [v, w] ∧ RV Γ F H v d ∧ RV Γ F H w e := by
  cases h with
  | cons h t => obtain ⟨w, rfl, q⟩ := rvl1 t; exact ⟨_, _, rfl, h, q⟩
def CrOr (r r' : List V → Hp → VK → Prop) : List V → Hp → VK → Prop := fun xs H Q => r xs H Q ∨ r' xs H Q
theorem callR_or {f : Value} {r r' : List V → Hp → VK → Prop} (h : CallR X f r) (h' : CallR X f r') : CallR X f (CrOr r r') := by
  intro pins s σ H xs us Q I rr q
  rcases q with q | q
  · exact h pins s σ H xs us Q I rr q
  · exact h' pins s σ H xs us Q I rr q
section
variable {p pos : Pos} {e e2 : Expr} {w : WA}

/-! #### len -/
def kLen : List D → (SV → Prop) → Prop := fun ds K => match ds with
  | [.lst xs] => K (.d (.int xs.length))
  | [.tup xs] => K (.d (.int xs.length))
  | [.scr xs] => K (.d (.int xs.length))
  | [.str z] => z.length ≤ 16777216 ∧ K (.d (.int z.length))
  | _ => False
theorem bop_len (C : Ctx Γ X N sc fp k) : Bopn Γ (CrOr (fun xs H Q => ∃ p ys, xs = [.ref p] ∧ (SqL X.K H p ys ∨ SqT X.K H p ys) ∧ Q (.int ys.length) H) (fun xs H Q => ∃ z, xs = [.str z] ∧ z.length ≤ sizeLine ∧ Q (.int z.length) H)) kLen := fun σ F H A ρ vs ds Q QV hh rr hk hq => by
  unfold kLen at hk
  split at hk
  · obtain ⟨v, rfl, r⟩ := rvl1 rr
    obtain ⟨a, ws, rfl, ha, ra⟩ := rv_lst r
    exact .inl ⟨a, ws, rfl, .inl (.of ha), hq _ hk _ _ _ _ _ (out_sc hh (by rw [ra.length]; exact .int _))⟩
  · obtain ⟨v, rfl, r⟩ := rvl1 rr
    obtain ⟨a, ws, rfl, ha, ra, _⟩ := rv_tup hh.sub r
    exact .inl ⟨a, ws, rfl, .inr (.of ha), hq _ hk _ _ _ _ _ (out_sc hh (by rw [ra.length]; exact .int _))⟩
  · obtain ⟨v, rfl, r⟩ := rvl1 rr
    obtain ⟨a, rfl, ha⟩ := rv_scr hh.sub r
    exact .inl ⟨a, _, rfl, .inl (by rw [C.K]; exact ha), hq _ hk _ _ _ _ _ (out_sc hh (by rw [List.length_map]; exact .int _))⟩
  · obtain ⟨v, rfl, r⟩ := rvl1 rr
    exact .inr ⟨_, by rw [rv_str r], by rw [line_eq]; exact hk.1, hq _ hk.2 _ _ _ _ _ (out_sc hh (.int _))⟩
  · exact hk.elim
theorem se_len (C : Ctx Γ X N sc fp k) (ha : SA Γ X [e] w) (hg : sc.names.lookup ("len" : Str) = some .globalImplicit := by rfl) (he : starEach [e] X.env = (false, eval e X.env) :: starEach [] X.env := by exact star_of rfl) (hpl : (backTo pos (starEach [] X.env)).any (·.1) = false := by rfl) : SE Γ X (.Call (.Name "len" p) [e] [] pos) (wB kLen w) :=
  se_callB C (callR_or call_len_seq call_len_str) (bop_len C) (C.bn _ (by decide +kernel)) PySem.boot_len ha hg (by decide) (by decide) he hpl
/-! #### abs, int, str of an int -/
def kAbs : List D → (SV → Prop) → Prop := fun ds K => match ds with
  | [.int i] => K (.d (.int (if i < 0 then -i else i)))
  | _ => False
theorem bop_abs : Bopn Γ (fun xs H Q => ∃ i, xs = [.int i] ∧ Q (.int (if i < 0 then -i else i)) H) kAbs := fun σ F H A ρ vs ds Q QV hh rr hk hq => by
  unfold kAbs at hk
  split at hk
  · obtain ⟨v, rfl, r⟩ := rvl1 rr
    exact ⟨_, by rw [rv_int r], hq _ hk _ _ _ _ _ (out_sc hh (.int _))⟩
  · exact hk.elim
theorem se_abs (C : Ctx Γ X N sc fp k) (ha : SA Γ X [e] w) (hg : sc.names.lookup ("abs" : Str) = some .globalImplicit := by rfl) (he : starEach [e] X.env = (false, eval e X.env) :: starEach [] X.env := by exact star_of rfl) (hpl : (backTo pos (starEach [] X.env)).any (·.1) = false := by rfl) : SE Γ X (.Call (.Name "abs" p) [e] [] pos) (wB kAbs w) :=
  se_callB C call_abs bop_abs (C.bn _ (by decide +kernel)) (by decide +kernel) ha hg (by decide) (by decide) he hpl
def kInt : List D → (SV → Prop) → Prop := fun ds K => match ds with
  | [.int i] => K (.d (.int i))
  | [.bl b] => K (.d (.int (if b = true then 1 else 0)))
  | _ => False
theorem bop_int : Bopn Γ (fun xs H Q => (∃ i, xs = [.int i] ∧ Q (.int i) H) ∨ ∃ k, xs = [.bl k] ∧ Q (.int (if k then 1 else 0)) H) kInt := fun σ F H A ρ vs ds Q QV hh rr hk hq => by
  unfold kInt at hk
  split at hk
  · obtain ⟨v, rfl, r⟩ := rvl1 rr
    exact .inl ⟨_, by rw [rv_int r], hq _ hk _ _ _ _ _ (out_sc hh (.int _))⟩
  · obtain ⟨v, rfl, r⟩ := rvl1 rr
    exact .inr ⟨_, by rw [rv_bl r], hq _ hk _ _ _ _ _ (out_sc hh (.int _))⟩
  · exact hk.elim
theorem se_intc (C : Ctx Γ X N sc fp k) (ha : SA Γ X [e] w) (hg : sc.names.lookup ("int" : Str) = some .globalImplicit := by rfl) (he : starEach [e] X.env = (false, eval e X.env) :: starEach [] X.env := by exact star_of rfl) (hpl : (backTo pos (starEach [] X.env)).any (·.1) = false := by rfl) : SE Γ X (.Call (.Name "int" p) [e] [] pos) (wB kInt w) :=
  se_callTy C call_int1 bop_int (C.bn _ (by decide +kernel)) (by decide +kernel) ha hg (by decide) (by decide) he hpl
def kStr : List D → (SV → Prop) → Prop := fun ds K => match ds with
  | [.int i] => i.natAbs.log2 < 1920 ∧ K (.d (.str (toString i)))
  | _ => False
theorem bop_str : Bopn Γ (fun xs H Q => ∃ i, xs = [.int i] ∧ i.natAbs.log2 < 1920 ∧ Q (.str (toString i)) H) kStr := fun σ F H A ρ vs ds Q QV hh rr hk hq => by
  unfold kStr at hk
  split at hk
  · obtain ⟨v, rfl, r⟩ := rvl1 rr
    exact ⟨_, by rw [rv_int r], hk.1, hq _ hk.2 _ _ _ _ _ (out_sc hh (.str _))⟩
  · exact hk.elim
theorem se_strc (C : Ctx Γ X N sc fp k) (ha : SA Γ X [e] w) (hg : sc.names.lookup ("str" : Str) = some .globalImplicit := by rfl) (he : starEach [e] X.env = (false, eval e X.env) :: starEach [] X.env := by exact star_of rfl) (hpl : (backTo pos (starEach [] X.env)).any (·.1) = false := by rfl) : SE Γ X (.Call (.Name "str" p) [e] [] pos) (wB kStr w) :=
  se_callTy C call_str_int bop_str (C.bn _ (by decide +kernel)) (by decide +kernel) ha hg (by decide) (by decide) he hpl
/-! #### max(i, j), max(list) -/
def kMax : List D → (SV → Prop) → Prop := fun ds K => match ds with
  | [.int i, .int j] => K (.d (.int (if j > i then j else i)))
  | [.lst xs] => ∃ ns : List Int, xs = ns.map D.int ∧ 0 < ns.length ∧ ∀ m, m ∈ ns → (∀ y ∈ ns, y ≤ m) → K (.d (.int m))
  | _ => False
def kMin : List D → (SV → Prop) → Prop := fun ds K => match ds with
  | [.int i, .int j] => K (.d (.int (if j < i then j else i)))
  | [.lst xs] => ∃ ns : List Int, xs = ns.map D.int ∧ 0 < ns.length ∧ ∀ m, m ∈ ns → (∀ y ∈ ns, m ≤ y) → K (.d (.int m))
  | _ => False
theorem ints_at {F H : Hp} {v : V} {ns : List Int} (h : RV Γ F H v (.lst (ns.map D.int))) : ∃ a, v = .ref a ∧ SqL Γ.K H a (ns.map V.int) := by
  obtain ⟨a, ws, rfl, ha, ra⟩ := rv_lst h
  rw [RL.ints ra] at ha
  exact ⟨a, rfl, .of ha⟩
theorem bop_max (C : Ctx Γ X N sc fp k) : Bopn Γ (CrOr (fun xs H Q => ∃ i j, xs = [.int i, .int j] ∧ Q (.int (if j > i then j else i)) H) (rMax X.K)) kMax := fun σ F H A ρ vs ds Q QV hh rr hk hq => by
  unfold kMax at hk
  split at hk
  · obtain ⟨v, u, rfl, r, r'⟩ := rvl2 rr
    exact .inl ⟨_, _, by rw [rv_int r, rv_int r'], hq _ hk _ _ _ _ _ (out_sc hh (.int _))⟩
  · obtain ⟨v, rfl, r⟩ := rvl1 rr
    obtain ⟨ns, rfl, h0, hk⟩ := hk
    obtain ⟨a, rfl, ha⟩ := ints_at r
    exact .inr ⟨a, ns, rfl, by rw [C.K]; exact ha, h0, fun m h1 h2 => hq _ (hk m h1 h2) _ _ _ _ _ (out_sc hh (.int _))⟩
  · exact hk.elim
theorem bop_min (C : Ctx Γ X N sc fp k) : Bopn Γ (CrOr (fun xs H Q => ∃ i j, xs = [.int i, .int j] ∧ Q (.int (if j < i then j else i)) H) (rMin X.K)) kMin := fun σ F H A ρ vs ds Q QV hh rr hk hq => by
  unfold kMin at hk
  split at hk
  · obtain ⟨v, u, rfl, r, r'⟩ := rvl2 rr
    exact .inl ⟨_, _, by rw [rv_int r, rv_int r'], hq _ hk _ _ _ _ _ (out_sc hh (.int _))⟩
  · obtain ⟨v, rfl, r⟩ := rvl1 rr
    obtain ⟨ns, rfl, h0, hk⟩ := hk
    obtain ⟨a, rfl, ha⟩ := ints_at r
    exact .inr ⟨a, ns, rfl, by rw [C.K]; exact ha, h0, fun m h1 h2 => hq _ (hk m h1 h2) _ _ _ _ _ (out_sc hh (.int _))⟩
  · exact hk.elim
theorem se_max (C : Ctx Γ X N sc fp k) {es : List Expr} (ha : SA Γ X (e :: es) w) (hg : sc.names.lookup ("max" : Str) = some .globalImplicit := by rfl) (he : starEach (e :: es) X.env = (false, eval e X.env) :: starEach es X.env := by exact star_of rfl) (hpl : (backTo pos (starEach es X.env)).any (·.1) = false := by rfl) : SE Γ X (.Call (.Name "max" p) (e :: es) [] pos) (wB kMax w) :=
  se_callB C (callR_or (call_max2 C.calm) (cr_max C.calm)) (bop_max C) (C.bn _ (by decide +kernel)) (by decide +kernel) ha hg (by decide) (by decide) he hpl
theorem se_min (C : Ctx Γ X N sc fp k) {es : List Expr} (ha : SA Γ X (e :: es) w) (hg : sc.names.lookup ("min" : Str) = some .globalImplicit := by rfl) (he : starEach (e :: es) X.env = (false, eval e X.env) :: starEach es X.env := by exact star_of rfl) (hpl : (backTo pos (starEach es X.env)).any (·.1) = false := by rfl) : SE Γ X (.Call (.Name "min" p) (e :: es) [] pos) (wB kMin w) :=
  se_callB C (callR_or (call_min2 C.calm) (cr_min C.calm)) (bop_min C) (C.bn _ (by decide +kernel)) (by decide +kernel) ha hg (by decide) (by decide) he hpl
/-! #### sum, all -/
def kSum : List D → (SV → Prop) → Prop := fun ds K => match ds with
  | [.lst xs] => ∃ ns : List Int, xs = ns.map D.int ∧ K (.d (.int ns.sum))
  | _ => False
theorem bop_sum (C : Ctx Γ X N sc fp k) : Bopn Γ (rSum X.K) kSum := fun σ F H A ρ vs ds Q QV hh rr hk hq => by
  unfold kSum at hk
  split at hk
  · obtain ⟨v, rfl, r⟩ := rvl1 rr
    obtain ⟨ns, rfl, hk⟩ := hk
    obtain ⟨a, rfl, ha⟩ := ints_at r
    exact ⟨a, ns, rfl, by rw [C.K]; exact ha, hq _ hk _ _ _ _ _ (out_sc hh (.int _))⟩
  · exact hk.elim
theorem se_sum (C : Ctx Γ X N sc fp k) (ha : SA Γ X [e] w) (hg : sc.names.lookup ("sum" : Str) = some .globalImplicit := by rfl) (he : starEach [e] X.env = (false, eval e X.env) :: starEach [] X.env := by exact star_of rfl) (hpl : (backTo pos (starEach [] X.env)).any (·.1) = false := by rfl) : SE Γ X (.Call (.Name "sum" p) [e] [] pos) (wB kSum w) :=
  se_callB C (cr_sum C.calm) (bop_sum C) (C.bn _ (by decide +kernel)) (by decide +kernel) ha hg (by decide) (by decide) he hpl
theorem RL.bls {K : PySem.W.Frag} {cl : Nat → Cl} {F : Hp} : ∀ {vs : List V} {bs : List Bool}, RL K cl F vs (bs.map D.bl) → vs = bs.map V.bl
  | _, [], h => by simpa [RL] using h
  | _, n :: ns, h => by
    simp only [List.map_cons, RL, R] at h
    obtain ⟨v, r, rfl, rfl, h3⟩ := h
    rw [RL.bls h3]; rfl
def kAll : List D → (SV → Prop) → Prop := fun ds K => match ds with
  | [.lst xs] => ∃ bs : List Bool, xs = bs.map D.bl ∧ K (.d (.bl (bs.all id)))
  | _ => False
theorem bop_all (C : Ctx Γ X N sc fp k) : Bopn Γ (rAll X.K) kAll := fun σ F H A ρ vs ds Q QV hh rr hk hq => by
  unfold kAll at hk
  split at hk
  · obtain ⟨v, rfl, r⟩ := rvl1 rr
    obtain ⟨ns, rfl, hk⟩ := hk
    obtain ⟨a, ws, rfl, ha, ra⟩ := rv_lst r
    rw [RL.bls ra] at ha
    exact ⟨a, ns, rfl, .of ha, hq _ hk _ _ _ _ _ (out_sc hh (.bl _))⟩
  · exact hk.elim
theorem se_all (C : Ctx Γ X N sc fp k) (ha : SA Γ X [e] w) (hg : sc.names.lookup ("all" : Str) = some .globalImplicit := by rfl) (he : starEach [e] X.env = (false, eval e X.env) :: starEach [] X.env := by exact star_of rfl) (hpl : (backTo pos (starEach [] X.env)).any (·.1) = false := by rfl) : SE Γ X (.Call (.Name "all" p) [e] [] pos) (wB kAll w) :=
  se_callB C (cr_all C.calm) (bop_all C) (C.bn _ (by decide +kernel)) (by decide +kernel) ha hg (by decide) (by decide) he hpl
/-! #### list(x), tuple(x), sorted(ints) -/
def kList : List D → (SV → Prop) → Prop := fun ds K => match ds with
  | [.lst xs] => K (.lst xs)
  | [.tup xs] => K (.lst xs)
  | [.scr ns] => K (.lst (ns.map D.int))
  | _ => False
theorem bop_list (C : Ctx Γ X N sc fp k) : Bopn Γ (fun xs H Q => ∃ p ys, xs = [.ref p] ∧ (SqL X.K H p ys ∨ SqT X.K H p ys) ∧ ∀ l, H l = none → Q (.ref l) (upd H l (.lst ys))) kList := fun σ F H A ρ vs ds Q QV hh rr hk hq => by
  unfold kList at hk
  split at hk
  · obtain ⟨v, rfl, r⟩ := rvl1 rr
    obtain ⟨a, ws, rfl, ha, ra⟩ := rv_lst r
    exact ⟨a, ws, rfl, .inl (.of ha), fun l hl => hq _ hk _ _ _ _ _ (.newL hh hl ra)⟩
  · obtain ⟨v, rfl, r⟩ := rvl1 rr
    obtain ⟨a, ws, rfl, ha, ra, _⟩ := rv_tup hh.sub r
    exact ⟨a, ws, rfl, .inr (.of ha), fun l hl => hq _ hk _ _ _ _ _ (.newL hh hl ra)⟩
  · obtain ⟨v, rfl, r⟩ := rvl1 rr
    obtain ⟨a, rfl, ha⟩ := rv_scr hh.sub r
    exact ⟨a, _, rfl, .inl (by rw [C.K]; exact ha), fun l hl => hq _ hk _ _ _ _ _ (.newL hh hl RL.of_ints)⟩
  · exact hk.elim
theorem se_listc (C : Ctx Γ X N sc fp k) (ha : SA Γ X [e] w) (hg : sc.names.lookup ("list" : Str) = some .globalImplicit := by rfl) (he : starEach [e] X.env = (false, eval e X.env) :: starEach [] X.env := by exact star_of rfl) (hpl : (backTo pos (starEach [] X.env)).any (·.1) = false := by rfl) : SE Γ X (.Call (.Name "list" p) [e] [] pos) (wB kList w) :=
  se_callTy C call_list_of (bop_list C) (C.bn _ (by decide +kernel)) (by decide +kernel) ha hg (by decide) (by decide) he hpl
def kTuple : List D → (SV → Prop) → Prop := fun ds K => match ds with
  | [.lst xs] => K (.d (.tup xs))
  | [.tup xs] => K (.d (.tup xs))
  | _ => False
theorem bop_tuple (C : Ctx Γ X N sc fp k) : Bopn Γ (fun xs H Q => ∃ p ys, xs = [.ref p] ∧ ((SqL X.K H p ys ∧ ∀ l, H l = none → Q (.ref l) (upd H l (.tup ys))) ∨ (SqT X.K H p ys ∧ Q (.ref p) H))) kTuple := fun σ F H A ρ vs ds Q QV hh rr hk hq => by
  unfold kTuple at hk
  split at hk
  · obtain ⟨v, rfl, r⟩ := rvl1 rr
    obtain ⟨a, ws, rfl, ha, ra⟩ := rv_lst r
    exact ⟨a, ws, rfl, .inl ⟨.of ha, fun l hl => hq _ hk _ _ _ _ _ (.newT hh hl ra)⟩⟩
  · obtain ⟨v, rfl, r⟩ := rvl1 rr
    obtain ⟨a, ws, rfl, ha, ra, fa⟩ := rv_tup hh.sub r
    exact ⟨a, ws, rfl, .inr ⟨.of ha, hq _ hk _ _ _ _ _ (.now hh (rs_d (by unfold rep R; exact ⟨a, ws, rfl, fa, ra⟩)))⟩⟩
  · exact hk.elim
theorem se_tuplec (C : Ctx Γ X N sc fp k) (ha : SA Γ X [e] w) (hg : sc.names.lookup ("tuple" : Str) = some .globalImplicit := by rfl) (he : starEach [e] X.env = (false, eval e X.env) :: starEach [] X.env := by exact star_of rfl) (hpl : (backTo pos (starEach [] X.env)).any (·.1) = false := by rfl) : SE Γ X (.Call (.Name "tuple" p) [e] [] pos) (wB kTuple w) :=
  se_callTy C call_tuple_of (bop_tuple C) (C.bn _ (by decide +kernel)) (by decide +kernel) ha hg (by decide) (by decide) he hpl
def kSorted : List D → (SV → Prop) → Prop := fun ds K => match ds with
  | [.lst xs] => ∃ ns : List Int, xs = ns.map D.int ∧ ∀ ns' : List Int, ns'.Perm ns → ns'.Pairwise (· ≤ ·) → K (.lst (ns'.map D.int))
  | _ => False
theorem bop_sorted (C : Ctx Γ X N sc fp k) : Bopn Γ (rSortedI X.K) kSorted := fun σ F H A ρ vs ds Q QV hh rr hk hq => by
  unfold kSorted at hk
  split at hk
  · obtain ⟨v, rfl, r⟩ := rvl1 rr
    obtain ⟨ns, rfl, hk⟩ := hk
    obtain ⟨a, rfl, ha⟩ := ints_at r
    exact ⟨a, ns, rfl, by rw [C.K]; exact ha, fun ns' p h1 h2 hp => hq _ (hk ns' h1 h2) _ _ _ _ _ (.newL hh hp RL.of_ints)⟩
  · exact hk.elim
theorem se_sorted (C : Ctx Γ X N sc fp k) (ha : SA Γ X [e] w) (hg : sc.names.lookup ("sorted" : Str) = some .globalImplicit := by rfl) (he : starEach [e] X.env = (false, eval e X.env) :: starEach [] X.env := by exact star_of rfl) (hpl : (backTo pos (starEach [] X.env)).any (·.1) = false := by rfl) : SE Γ X (.Call (.Name "sorted" p) [e] [] pos) (wB kSorted w) :=
  se_callB C cr_sortedI (bop_sorted C) (C.bn _ (by decide +kernel)) (by decide +kernel) ha hg (by decide) (by decide) he hpl
/-! #### repr of data -/
def Rpr (x : D) : Prop := plain x = true ∧ (py x).showable = true ∧ (py x).depth ≤ 50 ∧ (py x).shown.length ≤ 16777216
def shw (x : D) : Str := (py x).shown
mutual
theorem noDict : ∀ x : D, (py x).hasDict = false
  | .non => rfl
  | .bl _ => rfl
  | .int _ => rfl
  | .str _ => rfl
  | .lst ds => by unfold py PyData.hasDict; exact noDictL ds
  | .tup ds => by unfold py PyData.hasDict; exact noDictL ds
  | .obj _ _ => rfl
  | .scr _ => rfl
theorem noDictL : ∀ xs : List D, PyData.hasDictAll (pyL xs) = false
  | [] => rfl
  | x :: xs => by unfold pyL PyData.hasDictAll; rw [noDict x, noDictL xs]; rfl
end
theorem call_repr (hg : X.A.guards = some []) (hu : X.A.units + 64 < cLine) : CallR X (.builtin "repr") (fun xs H Q => ∃ v d, xs = [v] ∧ Dp X.K H v d ∧ d.showable = true ∧ d.hasDict = false ∧ d.depth ≤ 50 ∧ d.shown.length ≤ sizeLine ∧ Q (.str d.shown) H) := by
  intro pins s σ H xs us Q I r h
  obtain ⟨v, d, rfl, hd, hs, hn, hdp, hl, q⟩ := h
  obtain ⟨u, rfl, ru⟩ := vals1 r
  obtain ⟨as, rd⟩ := Dp.reads I d v u hd ru
  cases hd with
  | non => cases ru; exact PySem.P.repr_of_none ⟨.str _, H, I.tok _, ⟨_, rfl⟩, by simpa [PyData.shown] using q⟩
  | bl b => cases ru; exact PySem.P.repr_of_bool ⟨.str _, H, I.tok _, ⟨_, rfl⟩, by simpa [PyData.shown] using q⟩
  | int i =>
    obtain ⟨t, rfl⟩ := ru
    exact PySem.P.repr_of_int (by simpa [PyData.showable] using hs) ⟨.str _, H, I.tok _, ⟨_, rfl⟩, by simpa [PyData.shown] using q⟩
  | str x =>
    obtain ⟨t, rfl⟩ := ru
    exact PySem.P.repr_of_str ⟨.str _, H, I.tok _, ⟨_, rfl⟩, by simpa [PyData.shown] using q⟩ (by simpa [PyData.shown] using hl)
  | lst h1 h2 =>
    cases ru
    exact repr_of_reads' rd hs (PyData.noDict_hsm hn) hg (by omega) (fun _ _ e => e) (fun h' u tk hk => ⟨.str _, H, I.kept hk, ⟨_, rfl⟩, q⟩) hl
  | tup h1 h2 =>
    cases ru
    exact repr_of_reads' rd hs (PyData.noDict_hsm hn) hg (by omega) (fun _ _ e => e) (fun h' u tk hk => ⟨.str _, H, I.kept hk, ⟨_, rfl⟩, q⟩) hl
def kRepr : List D → (SV → Prop) → Prop := fun ds K => match ds with
  | [x] => Rpr x ∧ K (.d (.str (shw x)))
  | _ => False
theorem bop_repr (C : Ctx Γ X N sc fp k) : Bopn Γ (fun xs H Q => ∃ v d, xs = [v] ∧ Dp X.K H v d ∧ d.showable = true ∧ d.hasDict = false ∧ d.depth ≤ 50 ∧ d.shown.length ≤ sizeLine ∧ Q (.str d.shown) H) kRepr := fun σ F H A ρ vs ds Q QV hh rr hk hq => by
  unfold kRepr at hk
  split at hk
  · obtain ⟨v, rfl, r⟩ := rvl1 rr
    obtain ⟨⟨h1, h2, h3, h4⟩, hk⟩ := hk
    exact ⟨v, _, rfl, by rw [C.K]; exact dp_rv hh.sub r h1, h2, noDict _, h3, by rw [line_eq]; exact h4, hq _ hk _ _ _ _ _ (out_sc hh (.str _))⟩
  · exact hk.elim
theorem se_repr (C : Ctx Γ X N sc fp k) (ha : SA Γ X [e] w) (hg : sc.names.lookup ("repr" : Str) = some .globalImplicit := by rfl) (he : starEach [e] X.env = (false, eval e X.env) :: starEach [] X.env := by exact star_of rfl) (hpl : (backTo pos (starEach [] X.env)).any (·.1) = false := by rfl) : SE Γ X (.Call (.Name "repr" p) [e] [] pos) (wB kRepr w) :=
  se_callB C (call_repr C.gd C.room.units) (bop_repr C) (C.bn _ (by decide +kernel)) (by decide +kernel) ha hg (by decide) (by decide) he hpl
end
end
end Dv

/-! Dv6: and, or, not, if else, chains, slices, attributes. -/
namespace Dv
open PySem PySem.Spec PyProof.Rows L2
section
variable {Γ : Wd} {X : Cx} {N : List Str} {sc : Scope} {fp : Str → Bool} {k : Nat}
/-! ### tests -/
def wpXW (X : Cx) (e : Expr) : TT := fun σ H Q => ∀ whole pins s, Inv X pins σ H s → wpAny (model X.prog X.w) X.A (isTrue e X.env whole) (TP X pins σ Q) X.xe s
theorem pw_x {e : Expr} : PW X e (wpXW X e) := ⟨fun wh pins s _ _ _ I h => h wh pins s I⟩
structure SW (Γ : Wd) (X : Cx) (e : Expr) (w : WT) : Prop where
  run : ∀ (σ : Sg) (F H : Hp) (A : List Addr) (ρ : Rho) (Q : Bool → Rho → Prop) (E : EK) (QV : Bool → Hp → Prop) (W : WX), hold Γ σ F H ρ A → Takes X W → EL Γ σ F H A E W → w ρ Q E →
    (∀ b ρ', Q b ρ' → ∀ F' H' A', Ext F H A F' H' A' → hold Γ σ F' H' ρ' A' → QV b H') → wpXW X e σ H QV
theorem SW.st {e : Expr} {w : WT} (h : SW Γ X e w) : ST Γ X e w := .mk fun σ F H A ρ Q E QV W hh tk el hw hq pins s I => h.run σ F H A ρ Q E QV W hh tk el hw hq _ pins s I
def wAndT (t u : WT) : WT := fun ρ Q E => t ρ (fun b ρ1 => Br b (u ρ1 Q E) (Q false ρ1)) E
def wOrT (t u : WT) : WT := fun ρ Q E => t ρ (fun b ρ1 => Br b (Q true ρ1) (u ρ1 Q E)) E
def wNotT (t : WT) : WT := fun ρ Q E => t ρ (fun b ρ1 => Q (!b) ρ1) E
section
variable {a b c : Expr} {es : List Expr} {pos : Pos} {t u : WT} {wa wb wc : WE}
theorem sw_and1 (h : ST Γ X a t) : SW Γ X (.BoolOp .And [a] pos) t := .mk fun σ F H A ρ Q E QV W hh tk el hw hq wh pins s I => (pw_and1 pt_x).run wh pins s σ H QV I (h.use hh tk el hw hq)
theorem sw_or1 (h : ST Γ X a t) : SW Γ X (.BoolOp .Or [a] pos) t := .mk fun σ F H A ρ Q E QV W hh tk el hw hq wh pins s I => (pw_or1 pt_x).run wh pins s σ H QV I (h.use hh tk el hw hq)
theorem sw_and (h : ST Γ X a t) (h2 : SW Γ X (.BoolOp .And (b :: es) pos) u) : SW Γ X (.BoolOp .And (a :: b :: es) pos) (wAndT t u) := .mk fun σ F H A ρ Q E QV W hh tk el hw hq wh pins s I =>
  (pw_and pt_x pw_x).run wh pins s σ H QV I (h.use hh tk el hw fun k ρ1 hk F1 H1 A1 x1 h1 => by
    cases k with
    | true => exact h2.run σ F1 H1 A1 ρ1 Q E QV W h1 tk (el.ext x1) (hk.t rfl) fun k' ρ2 hk' F2 H2 A2 x2 hh2 => hq k' ρ2 hk' F2 H2 A2 (x1.trans x2) hh2
    | false => exact hq false ρ1 (hk.f rfl) F1 H1 A1 x1 h1)
theorem sw_or (h : ST Γ X a t) (h2 : SW Γ X (.BoolOp .Or (b :: es) pos) u) : SW Γ X (.BoolOp .Or (a :: b :: es) pos) (wOrT t u) := .mk fun σ F H A ρ Q E QV W hh tk el hw hq wh pins s I =>
  (pw_or pt_x pw_x).run wh pins s σ H QV I (h.use hh tk el hw fun k ρ1 hk F1 H1 A1 x1 h1 => by
    cases k with
    | false => exact h2.run σ F1 H1 A1 ρ1 Q E QV W h1 tk (el.ext x1) (hk.f rfl) fun k' ρ2 hk' F2 H2 A2 x2 hh2 => hq k' ρ2 hk' F2 H2 A2 (x1.trans x2) hh2
    | true => exact hq true ρ1 (hk.t rfl) F1 H1 A1 x1 h1)
theorem st_not (h : ST Γ X a t) : ST Γ X (.UnaryOp .Not a pos) (wNotT t) := .mk fun σ F H A ρ Q E QV W hh tk el hw hq pins s I =>
  (pt_not pt_x).run pins s σ H QV I (h.use hh tk el hw fun k ρ1 hk F1 H1 A1 x1 h1 => hq _ ρ1 hk F1 H1 A1 x1 h1)
/-- comparisons as tests -/
theorem st_2 {e a b : Expr} {r : R2} {kf : D → D → (SV → Prop) → Prop} (rule : ∀ {ta tb : TE}, PE X a ta → PE X b tb → PT X e (tTest (tOp r ta tb))) (hk : Bop Γ r kf) (ha : SE Γ X a wa) (hb : SE Γ X b wb) : ST Γ X e (wTst (w2 kf wa wb)) :=
  .mk fun σ F H A ρ Q E QV W hh tk el hw hq pins s I => by
  refine (rule pe_x pe_x).run pins s σ H QV I ?_
  refine ha.use hh tk el hw fun sx ρ1 hw1 v1 F1 H1 A1 B1 o1 => ?_
  refine hb.use o1.oh tk (el.ext o1.ext1) hw1 fun sy ρ2 hw2 v2 F2 H2 A2 B2 o2 => ?_
  obtain ⟨r1, n1, f1, x1⟩ := o1.stay o2.ext1
  cases ex : rd sx ρ2 with
  | none => simp only [ex] at hw2
  | some dx =>
    cases ey : rd sy ρ2 with
    | none => simp only [ex, ey] at hw2
    | some dy =>
      simp only [ex, ey] at hw2
      refine hk σ F2 H2 A2 ρ2 v1 v2 dx dy _ _ o2.oh (rd_ok o2.oh r1 ex) (rd_ok o2.oh o2.ors ey) hw2 fun z hz v F3 H3 A3 B3 o3 => ?_
      cases z with
      | d x =>
        cases x with
        | bl b =>
          have r3 := o3.ors
          unfold rs RS R at r3
          exact ⟨b, r3.1, hq b ρ2 hz F3 H3 A3 ((o1.ext1.trans o2.ext1).trans o3.ext1) o3.oh⟩
        | _ => exact hz.elim
      | _ => exact hz.elim
theorem st_cmp {op : CmpOp} {r : R2} {kf : D → D → (SV → Prop) → Prop} (ho : OpR X (compareOp op) r) (hk : Bop Γ r kf) (hm : behindInMarks op b = false) (ha : SE Γ X a wa) (hb : SE Γ X b wb) : ST Γ X (.Compare a [op] [b] pos) (wTst (w2 kf wa wb)) :=
  st_2 (fun pa pb => pt_cmpR ho pa pb hm) hk ha hb
theorem st_lt (ha : SE Γ X a wa) (hb : SE Γ X b wb) : ST Γ X (.Compare a [.Lt] [b] pos) (wTst (w2 kLt wa wb)) := st_cmp op_lt (bop_I0 fun _ _ => .bl _) (nomark _) ha hb
theorem st_le (ha : SE Γ X a wa) (hb : SE Γ X b wb) : ST Γ X (.Compare a [.LtE] [b] pos) (wTst (w2 kLe wa wb)) := st_cmp op_le (bop_I0 fun _ _ => .bl _) (nomark _) ha hb
theorem st_gt (ha : SE Γ X a wa) (hb : SE Γ X b wb) : ST Γ X (.Compare a [.Gt] [b] pos) (wTst (w2 kGt wa wb)) := st_cmp op_gt (bop_I0 fun _ _ => .bl _) (nomark _) ha hb
theorem st_ge (ha : SE Γ X a wa) (hb : SE Γ X b wb) : ST Γ X (.Compare a [.GtE] [b] pos) (wTst (w2 kGe wa wb)) := st_cmp op_ge (bop_I0 fun _ _ => .bl _) (nomark _) ha hb
theorem st_eq (C : Ctx Γ X N sc fp k) (ha : SE Γ X a wa) (hb : SE Γ X b wb) : ST Γ X (.Compare a [.Eq] [b] pos) (wTst (w2 kEq wa wb)) := st_cmp (opR_or op_eq (op_eqD C.room.units)) (bop_eq C) (nomark _) ha hb
theorem st_ne (C : Ctx Γ X N sc fp k) (ha : SE Γ X a wa) (hb : SE Γ X b wb) : ST Γ X (.Compare a [.NotEq] [b] pos) (wTst (w2 kNe wa wb)) := st_cmp (opR_or op_ne (op_neD C.room.units)) (bop_ne C) (nomark _) ha hb
theorem st_is (ha : SE Γ X a wa) (hb : SE Γ X b wb) : ST Γ X (.Compare a [.Is] [b] pos) (wTst (w2 (kIs false) wa wb)) := st_cmp op_isN bop_is (nomark _) ha hb
theorem st_isnot (ha : SE Γ X a wa) (hb : SE Γ X b wb) : ST Γ X (.Compare a [.IsNot] [b] pos) (wTst (w2 (kIs true) wa wb)) := st_cmp op_notN bop_isnot (nomark _) ha hb
theorem st_in (C : Ctx Γ X N sc fp k) (hm : behindInMarks .In b = false) (ha : SE Γ X a wa) (hb : SE Γ X b wb) : ST Γ X (.Compare a [.In] [b] pos) (wTst (w2 (kInG false) wa wb)) := st_cmp op_in_seq (bop_in C false) hm ha hb
theorem st_notin (C : Ctx Γ X N sc fp k) (hm : behindInMarks .NotIn b = false) (ha : SE Γ X a wa) (hb : SE Γ X b wb) : ST Γ X (.Compare a [.NotIn] [b] pos) (wTst (w2 (kInG true) wa wb)) := st_cmp op_notIn_seq (bop_in C true) hm ha hb
/-! ### a if t else b; and, or, not as values -/
def wIfE (t : WT) (wa wb : WE) : WE := fun ρ Q E => t ρ (fun k ρ1 => Br k (wa ρ1 Q E) (wb ρ1 Q E)) E
theorem Out.pre {σ : Sg} {F H F1 H1 F' H' : Hp} {A A1 A' B : List Addr} {ρ' : Rho} {sv : SV} {v : V} (x : Ext F H A F1 H1 A1) (o : Out Γ σ F1 H1 A1 ρ' sv v F' H' A' B) : Out Γ σ F H A ρ' sv v F' H' A' B := ⟨x.trans o.oe, o.oh, o.ors, o.ond, o.ofb⟩
theorem se_if (ht : ST Γ X c t) (ha : SE Γ X a wa) (hb : SE Γ X b wb) : SE Γ X (.IfExp c a b pos) (wIfE t wa wb) := .mk fun σ F H A ρ Q E QV W hh tk el hw hq pins s I =>
  (pe_ifExp pt_x pe_x pe_x).run pins s σ H QV I (ht.use hh tk el hw fun k ρ1 hk F1 H1 A1 x1 h1 => by
    cases k with
    | true => rw [if_pos rfl]; exact ha.use h1 tk (el.ext x1) (hk.t rfl) fun sv ρ2 q v F' H' A' B o => hq sv ρ2 q v F' H' A' B (o.pre x1)
    | false => rw [if_neg Bool.false_ne_true]; exact hb.use h1 tk (el.ext x1) (hk.f rfl) fun sv ρ2 q v F' H' A' B o => hq sv ρ2 q v F' H' A' B (o.pre x1))
def wBlE (w : WE) (kf : Bool → Rho → Prop) : Rho → EK → Prop := fun ρ E => w ρ (fun x ρ1 => match x with
  | .d (.bl b) => kf b ρ1
  | _ => False) E
def wAndE (wa wb : WE) : WE := fun ρ Q E => wBlE wa (fun b ρ1 => Br b (wb ρ1 Q E) (Q (.d (.bl false)) ρ1)) ρ E
def wOrE (wa wb : WE) : WE := fun ρ Q E => wBlE wa (fun b ρ1 => Br b (Q (.d (.bl true)) ρ1) (wb ρ1 Q E)) ρ E
def wNotE (wa : WE) : WE := fun ρ Q E => wBlE wa (fun b ρ1 => Q (.d (.bl (!b))) ρ1) ρ E
theorem se_one {op} (h : SE Γ X a wa) : SE Γ X (.BoolOp op [a] pos) wa := .mk fun σ F H A ρ Q E QV W hh tk el hw hq pins s I => (pe_one pe_x).run pins s σ H QV I (h.use hh tk el hw hq)
theorem blE_use {F H : Hp} {σ : Sg} {A : List Addr} {ρ : Rho} {E : EK} {QV : VK} {W : WX} {kf : Bool → Rho → Prop} (h : SE Γ X a wa) (hh : hold Γ σ F H ρ A) (tk : Takes X W) (el : EL Γ σ F H A E W) (hw : wBlE wa kf ρ E)
    (hq : ∀ b ρ1, kf b ρ1 → ∀ F1 H1 A1, Ext F H A F1 H1 A1 → hold Γ σ F1 H1 ρ1 A1 → QV (.bl b) H1) : wpX X a σ H QV :=
  h.use hh tk el hw fun sx ρ1 hw1 v F1 H1 A1 B1 o1 => by
    cases sx with
    | d x =>
      cases x with
      | bl b =>
        have r3 := o1.ors
        unfold rs RS R at r3
        rw [r3.1]
        exact hq b ρ1 hw1 F1 H1 A1 o1.ext1 o1.oh
      | _ => exact hw1.elim
    | _ => exact hw1.elim
theorem se_and (h : SE Γ X a wa) (h2 : SE Γ X (.BoolOp .And (b :: es) pos) wb) : SE Γ X (.BoolOp .And (a :: b :: es) pos) (wAndE wa wb) := .mk fun σ F H A ρ Q E QV W hh tk el hw hq pins s I =>
  (pe_and pe_x pe_x).run pins s σ H QV I (blE_use h hh tk el hw fun k ρ1 hk F1 H1 A1 x1 h1 => ⟨k, rfl, by
    cases k with
    | true => rw [if_pos rfl]; exact h2.use h1 tk (el.ext x1) (hk.t rfl) fun sv ρ2 q v F' H' A' B o => hq sv ρ2 q v F' H' A' B (o.pre x1)
    | false => rw [if_neg Bool.false_ne_true]; exact hq _ ρ1 (hk.f rfl) _ _ _ _ _ ((out_sc h1 (.bl false)).pre x1)⟩)
theorem se_or (h : SE Γ X a wa) (h2 : SE Γ X (.BoolOp .Or (b :: es) pos) wb) : SE Γ X (.BoolOp .Or (a :: b :: es) pos) (wOrE wa wb) := .mk fun σ F H A ρ Q E QV W hh tk el hw hq pins s I =>
  (pe_or pe_x pe_x).run pins s σ H QV I (blE_use h hh tk el hw fun k ρ1 hk F1 H1 A1 x1 h1 => ⟨k, rfl, by
    cases k with
    | false => rw [if_neg Bool.false_ne_true]; exact h2.use h1 tk (el.ext x1) (hk.f rfl) fun sv ρ2 q v F' H' A' B o => hq sv ρ2 q v F' H' A' B (o.pre x1)
    | true => rw [if_pos rfl]; exact hq _ ρ1 (hk.t rfl) _ _ _ _ _ ((out_sc h1 (.bl true)).pre x1)⟩)
theorem se_not (h : SE Γ X a wa) : SE Γ X (.UnaryOp .Not a pos) (wNotE wa) := .mk fun σ F H A ρ Q E QV W hh tk el hw hq pins s I =>
  (pe_not pe_x).run pins s σ H QV I (blE_use h hh tk el hw fun k ρ1 hk F1 H1 A1 x1 h1 => ⟨k, rfl, hq _ ρ1 hk _ _ _ _ _ ((out_sc h1 (.bl _)).pre x1)⟩)
/-! ### -a -/
def wNeg (wa : WE) : WE := fun ρ Q E => wa ρ (fun x ρ1 => match x with
  | .d (.int i) => Q (.d (.int (-i))) ρ1
  | _ => False) E
theorem se_neg (h : SE Γ X a wa) : SE Γ X (.UnaryOp .USub a pos) (wNeg wa) := .mk fun σ F H A ρ Q E QV W hh tk el hw hq pins s I =>
  (pe_un un_neg pe_x).run pins s σ H QV I (h.use hh tk el hw fun sx ρ1 hw1 v F1 H1 A1 B1 o1 => by
    cases sx with
    | d x =>
      cases x with
      | int b =>
        have r3 := o1.ors
        unfold rs RS R at r3
        exact ⟨b, r3.1, hq _ ρ1 hw1 _ _ _ _ _ ((out_sc o1.oh (.int _)).pre o1.ext1)⟩
      | _ => exact hw1.elim
    | _ => exact hw1.elim)
/-! ### a op b op c, ints -/
def wChain (g g' : Int → Int → Bool) (wa wb wc : WE) : WE := fun ρ Q E => wa ρ (fun x ρ1 => wb ρ1 (fun y ρ2 => match x, y with
  | .d (.int i), .d (.int j) => Br (g i j) (wc ρ2 (fun z ρ3 => match z with
    | .d (.int n) => Q (.d (.bl (g' j n))) ρ3
    | _ => False) E) (Q (.d (.bl false)) ρ2)
  | _, _ => False) E) E
theorem int_of {σ : Sg} {F H F' H' : Hp} {A A' B : List Addr} {ρ' : Rho} {v : V} {i : Int} (o : Out Γ σ F H A ρ' (.d (.int i)) v F' H' A' B) : v = .int i := by
  have r3 := o.ors
  unfold rs RS R at r3
  exact r3.1
theorem chain_ok {op op' : CmpOp} {g g' : Int → Int → Bool} (ha : SE Γ X a wa) (hb : SE Γ X b wb) (hc : SE Γ X c wc) {σ : Sg} {F H : Hp} {A : List Addr} {ρ : Rho} {Q : WK} {E : EK} {QV : VK} {W : WX} (hh : hold Γ σ F H ρ A) (tk : Takes X W) (el : EL Γ σ F H A E W) (hw : wChain g g' wa wb wc ρ Q E)
    (hq : ∀ sv ρ', Q sv ρ' → ∀ v F' H' A' B, Out Γ σ F H A ρ' sv v F' H' A' B → QV v H') : tChain (rI0 fun i j => .bl (g i j)) (rI0 fun i j => .bl (g' i j)) (wpX X a) (wpX X b) (wpX X c) σ H QV := by
  refine ha.use hh tk el hw fun sx ρ1 hw1 v1 F1 H1 A1 B1 o1 => ?_
  refine hb.use o1.oh tk (el.ext o1.ext1) hw1 fun sy ρ2 hw2 v2 F2 H2 A2 B2 o2 => ?_
  split at hw2
  · refine ⟨_, _, int_of o1, int_of o2, _, rfl, ?_⟩
    have x2 := o1.ext1.trans o2.ext1
    rename_i i j
    cases e : g i j with
    | true =>
      rw [if_pos rfl]
      refine hc.use o2.oh tk (el.ext x2) (hw2.t e) fun sz ρ3 hw3 v3 F3 H3 A3 B3 o3 => ?_
      split at hw3
      · exact ⟨_, _, int_of o2, int_of o3, hq _ ρ3 hw3 _ _ _ _ _ ((out_sc o3.oh (.bl _)).pre (x2.trans o3.ext1))⟩
      · exact hw3.elim
    | false =>
      rw [if_neg Bool.false_ne_true]
      exact hq _ ρ2 (hw2.f e) _ _ _ _ _ ((out_sc o2.oh (.bl _)).pre x2)
  · exact hw2.elim
theorem se_chain {op op' : CmpOp} {g g' : Int → Int → Bool} (ho : OpR X (compareOp op) (rI0 fun i j => .bl (g i j))) (ho' : OpR X (compareOp op') (rI0 fun i j => .bl (g' i j))) (ha : SE Γ X a wa) (hb : SE Γ X b wb) (hc : SE Γ X c wc)
    (hm : lastMarks [op, op'] [b, c] = false := by with_unfolding_all rfl) : SE Γ X (.Compare a [op, op'] [b, c] pos) (wChain g g' wa wb wc) := .mk fun σ F H A ρ Q E QV W hh tk el hw hq pins s I =>
  (pe_chain ho ho' pe_x pe_x pe_x hm).run pins s σ H QV I (chain_ok (op := op) (op' := op') ha hb hc hh tk el hw hq)
theorem st_chain {op op' : CmpOp} {g g' : Int → Int → Bool} (ho : OpR X (compareOp op) (rI0 fun i j => .bl (g i j))) (ho' : OpR X (compareOp op') (rI0 fun i j => .bl (g' i j))) (ha : SE Γ X a wa) (hb : SE Γ X b wb) (hc : SE Γ X c wc)
    (hm : lastMarks [op, op'] [b, c] = false := by with_unfolding_all rfl) : ST Γ X (.Compare a [op, op'] [b, c] pos) (wTst (wChain g g' wa wb wc)) := .mk fun σ F H A ρ Q E QV W hh tk el hw hq pins s I =>
  (pt_chain ho ho' pe_x pe_x pe_x hm).run pins s σ H QV I (chain_ok (op := op) (op' := op') (QV := fun z H3 => ∃ k, z = .bl k ∧ QV k H3) ha hb hc hh tk el hw fun sv ρ' q v F' H' A' B o => by
    cases sv with
    | d x =>
      cases x with
      | bl b =>
        have r3 := o.ors
        unfold rs RS R at r3
        exact ⟨b, r3.1, hq b ρ' q F' H' A' o.ext1 o.oh⟩
      | _ => exact q.elim
    | _ => exact q.elim)
end
def gLt (i j : Int) : Bool := decide (i < j)
def gLe (i j : Int) : Bool := decide (i ≤ j)
theorem op_ltB : OpR X (compareOp .Lt) (rI0 fun i j => .bl (gLt i j)) := op_lt
theorem op_leB : OpR X (compareOp .LtE) (rI0 fun i j => .bl (gLe i j)) := op_le
/-! ### slices -/
def cutL {α : Type} (xs : List α) (lo hi : Option Int) : List α := (xs.drop (HT.sIx xs.length 0 lo)).take (HT.sIx xs.length xs.length hi - HT.sIx xs.length 0 lo)
abbrev WO := Rho → (Option Int → Rho → Prop) → EK → Prop
def wpXO (X : Cx) (e : Option Expr) : TO := fun σ H Q => ∀ pins s, Inv X pins σ H s → wpAny (model X.prog X.w) X.A (evalPart e X.env) (fun u s' => ∃ o H', Inv X pins σ H' s' ∧ IsPart u o ∧ Q o H') X.xe s
theorem po_x {e : Option Expr} : PO X e (wpXO X e) := ⟨fun pins s _ _ _ I h => h pins s I⟩
structure SO (Γ : Wd) (X : Cx) (e : Option Expr) (w : WO) : Prop where
  run : ∀ (σ : Sg) (F H : Hp) (A : List Addr) (ρ : Rho) (Q : Option Int → Rho → Prop) (E : EK) (QV : Option Int → Hp → Prop) (W : WX), hold Γ σ F H ρ A → Takes X W → EL Γ σ F H A E W → w ρ Q E →
    (∀ o ρ', Q o ρ' → ∀ F' H' A', Ext F H A F' H' A' → hold Γ σ F' H' ρ' A' → QV o H') → wpXO X e σ H QV
def wNoP : WO := fun ρ Q _ => Q none ρ
def wP (w : WE) : WO := fun ρ Q E => w ρ (fun x ρ1 => match x with
  | .d (.int i) => Q (some i) ρ1
  | _ => False) E
theorem so_none : SO Γ X none wNoP := .mk fun σ F H A ρ Q E QV W hh tk el hw hq pins s I => po_none.run pins s σ H QV I (hq none ρ hw F H A Ext.refl hh)
theorem so_some {e : Expr} {w : WE} (h : SE Γ X e w) : SO Γ X (some e) (wP w) := .mk fun σ F H A ρ Q E QV W hh tk el hw hq pins s I =>
  (po_some pe_x).run pins s σ H QV I (h.use hh tk el hw fun sx ρ1 hw1 v F1 H1 A1 B1 o1 => by
    cases sx with
    | d x =>
      cases x with
      | int b => exact ⟨b, int_of o1, hq _ ρ1 hw1 F1 H1 A1 o1.ext1 o1.oh⟩
      | _ => exact hw1.elim
    | _ => exact hw1.elim)
def wSl (w : WE) (wl wh : WO) : WE := fun ρ Q E => w ρ (fun x ρ1 => wl ρ1 (fun lo ρ2 => wh ρ2 (fun hi ρ3 => match rd x ρ3 with
  | some (.lst ds) => Q (.lst (cutL ds lo hi)) ρ3
  | some (.tup ds) => Q (.d (.tup (cutL ds lo hi))) ρ3
  | some (.str z) => z.length ≤ 16777216 ∧ Q (.d (.str (cutS z lo hi))) ρ3
  | _ => False) E) E) E
theorem cut_rel {F : Hp} {vs : List V} {ds : List D} (r : repL Γ F vs ds) (lo hi : Option Int) : repL Γ F (cutV vs lo hi) (cutL ds lo hi) := by
  unfold cutV cutL
  rw [RL.length r]
  exact (r.drop _).take _
theorem se_slice {e : Expr} {lo hi : Option Expr} {w : WE} {wl wh : WO} {p2 pos : Pos} (C : Ctx Γ X N sc fp k) (h : SE Γ X e w) (hl : SO Γ X lo wl) (hu : SO Γ X hi wh) : SE Γ X (.Subscript e (.Slice lo hi none p2) pos) (wSl w wl wh) := .mk fun σ F H A ρ Q E QV W hh tk el hw hq pins s I => by
  refine (pe_slice (SlR.or sl_list (SlR.or sl_tupA sl_str)) pe_x po_x po_x).run pins s σ H QV I ?_
  refine h.use hh tk el hw fun sx ρ1 hw1 v F1 H1 A1 B1 o1 => ?_
  refine hl.run σ F1 H1 A1 ρ1 _ E _ W o1.oh tk (el.ext o1.ext1) hw1 fun l ρ2 hw2 F2 H2 A2 x2 h2 => ?_
  have x12 := o1.ext1.trans x2
  refine hu.run σ F2 H2 A2 ρ2 _ E _ W h2 tk (el.ext x12) hw2 fun u ρ3 hw3 F3 H3 A3 x3 h3 => ?_
  have x13 := x12.trans x3
  obtain ⟨r1, n1, f1, _⟩ := o1.stay (x2.trans x3)
  cases e1 : rd sx ρ3 with
  | none => simp only [e1] at hw3
  | some d =>
    have rv := rd_ok h3 r1 e1
    cases d with
    | lst ds =>
      simp only [e1] at hw3
      obtain ⟨a, vs, rfl, ha, ra⟩ := rv_lst rv
      exact .inl ⟨a, vs, rfl, .of ha, fun p hp => hq _ ρ3 hw3 _ _ _ _ _ ((Out.newL h3 hp (cut_rel ra l u)).pre x13)⟩
    | tup ds =>
      simp only [e1] at hw3
      obtain ⟨a, vs, rfl, ha, ra, fa⟩ := rv_tup h3.sub rv
      refine .inr (.inl ⟨a, vs, rfl, .of ha, fun z => ?_, fun _ p hp => hq _ ρ3 hw3 _ _ _ _ _ ((Out.newT h3 hp (cut_rel ra l u)).pre x13)⟩)
      have e2 : cutL ds l u = ds := by
        unfold cutL
        rw [RL.length ra] at z
        rw [z.1, z.2]
        simp
      rw [e2] at hw3
      exact hq _ ρ3 hw3 _ _ _ _ _ ((Out.now h3 (rs_d (by unfold rep R; exact ⟨a, vs, rfl, fa, ra⟩))).pre x13)
    | str z =>
      simp only [e1] at hw3
      exact .inr (.inr ⟨z, rv_str rv, by rw [line_eq]; exact hw3.1, hq _ ρ3 hw3.2 _ _ _ _ _ ((out_sc h3 (.str _)).pre x13)⟩)
    | _ => simp only [e1] at hw3
/-- a[::-1] -/
def wRev (w : WE) : WE := fun ρ Q E => w ρ (fun x ρ1 => match rd x ρ1 with
  | some (.lst ds) => Q (.lst ds.reverse) ρ1
  | _ => False) E
theorem se_rev {e : Expr} {w : WE} {kk : Nat} {p1 p2 p3 pos : Pos} (h : SE Γ X e w) : SE Γ X (.Subscript e (.Slice none none (some (.UnaryOp .USub (.Constant (.int 1) kk p1) p2)) p3) pos) (wRev w) := .mk fun σ F H A ρ Q E QV W hh tk el hw hq pins s I => by
  refine (pe_revL pe_x).run pins s σ H QV I ?_
  refine h.use hh tk el hw fun sx ρ1 hw1 v F1 H1 A1 B1 o1 => ?_
  cases e1 : rd sx ρ1 with
  | none => simp only [e1] at hw1
  | some d =>
    have rv := rd_ok o1.oh o1.ors e1
    cases d with
    | lst ds =>
      simp only [e1] at hw1
      obtain ⟨a, vs, rfl, ha, ra⟩ := rv_lst rv
      exact ⟨a, vs, rfl, .of ha, fun p hp => hq _ ρ1 hw1 _ _ _ _ _ ((Out.newL o1.oh hp ra.reverse).pre o1.ext1)⟩
    | _ => simp only [e1] at hw1
/-! ### attributes -/
structure ClOk (Γ : Wd) (n : Nat) : Prop where
  cl : Cls Γ.K (Γ.cl n).adr
  nd : (Γ.cl n).fld.Nodup
  no : ∀ f ∈ (Γ.cl n).fld, NoAttr Γ.K (Γ.cl n).adr f
  few : (Γ.cl n).fld.length ≤ 100
theorem zip_get {α : Type} : ∀ {ks : List Str} {vs : List α} {j : Nat} {f : Str} {v : α}, ks.Nodup → ks[j]? = some f → vs[j]? = some v → (ks.zip vs).lookup f = some v
  | [], _, _, _, _, _, h, _ => by simp at h
  | _ :: _, [], _, _, _, _, _, h => by simp at h
  | k :: ks, w :: vs, 0, f, v, nd, h1, h2 => by
    simp at h1 h2
    subst h1 h2
    simp [List.lookup]
  | k :: ks, w :: vs, j + 1, f, v, nd, h1, h2 => by
    have h1' : ks[j]? = some f := by simpa using h1
    have ne : (f == k) = false := by
      rw [beq_eq_false_iff_ne]
      intro e
      subst e
      exact (List.nodup_cons.mp nd).1 (List.mem_of_getElem? h1')
    rw [List.zip_cons_cons, List.lookup_cons, ne]
    exact zip_get (List.nodup_cons.mp nd).2 h1' (by simpa using h2)
/-- the field j of an object of class n -/
def wFld (n j : Nat) (w : WE) : WE := fun ρ Q E => w ρ (fun x ρ1 => match x with
  | .d (.obj n' ds) => n' = n ∧ match ds[j]? with
    | some d => Q (.d d) ρ1
    | none => False
  | .sl i => match ρ1[i]? with
    | some (some (.ins n' fs)) => n' = n ∧ match fs[j]? with
      | some (.d d) => Q (.d d) ρ1
      | _ => False
    | _ => False
  | _ => False) E
theorem RSL.get {F H : Hp} : ∀ {vs : List V} {fs : List SV} {B : List Addr} {j : Nat} {x : SV}, RSL Γ.K Γ.cl F H vs fs B → fs[j]? = some x → ∃ v B', vs[j]? = some v ∧ RS Γ.K Γ.cl F H v x B'
  | _, [], _, _, _, _, e => by simp at e
  | vs, y :: ys, B, 0, x, r, e => by
    unfold RSL at r
    obtain ⟨v, r', B1, B2, rfl, h2, h3, _⟩ := r
    simp at e; subst e
    exact ⟨v, B1, rfl, h2⟩
  | vs, y :: ys, B, j + 1, x, r, e => by
    unfold RSL at r
    obtain ⟨v, r', B1, B2, rfl, h2, h3, _⟩ := r
    obtain ⟨w, B', h4, h5⟩ := RSL.get (j := j) h3 (by simpa using e)
    exact ⟨w, B', by simpa using h4, h5⟩
theorem se_fld (C : Ctx Γ X N sc fp k) {n j : Nat} {f : Str} {e : Expr} {w : WE} {pos : Pos} (K : ClOk Γ n) (hf : (Γ.cl n).fld[j]? = some f) (h : SE Γ X e w) (hb : attributeBase e f X.env (eval e X.env) = eval e X.env := by rfl) : SE Γ X (.Attribute e f pos) (wFld n j w) := .mk fun σ F H A ρ Q E QV W hh tk el hw hq pins s I => by
  refine (pe_fld pe_x hb).run pins s σ H QV I ?_
  refine h.use hh tk el hw fun sx ρ1 hw1 v F1 H1 A1 B1 o1 => ?_
  have na : NoAttr X.K (Γ.cl n).adr f := by rw [C.K]; exact K.no f (List.mem_of_getElem? hf)
  have cc : Cls X.K (Γ.cl n).adr := by rw [C.K]; exact K.cl
  split at hw1
  · rename_i n' ds
    obtain ⟨rfl, hw1⟩ := hw1
    have r3 := o1.ors
    unfold rs RS R at r3
    obtain ⟨⟨a, dx, vs, rfl, fa, hl, ra⟩, _⟩ := r3
    cases e1 : ds[j]? with
    | none => simp only [e1] at hw1
    | some d =>
      simp only [e1] at hw1
      obtain ⟨u, h1, h2⟩ := RL.get ra e1
      exact ⟨a, _, dx, _, u, rfl, o1.oh.sub a _ fa, cc, na, zip_get K.nd hf h1, hq _ ρ1 hw1 _ _ _ _ _ ((Out.now o1.oh (rs_d h2)).pre o1.ext1)⟩
  · rename_i i
    have r3 := o1.ors
    obtain ⟨r3, _⟩ := r3
    obtain ⟨A2, sl, q⟩ := o1.oh.sl
    split at hw1
    · rename_i n' fs e1
      obtain ⟨rfl, hw1⟩ := hw1
      obtain ⟨v', B', A0, h1, h2, _⟩ := sl.at e1
      rw [r3] at h1; cases h1
      unfold RS at h2
      obtain ⟨a, dx, vs, B2, rfl, ha, hl, ra, _⟩ := h2
      split at hw1
      · rename_i d e2
        obtain ⟨u, B3, h4, h5⟩ := RSL.get ra e2
        unfold RS at h5
        have hj : j < fs.length := (List.getElem?_eq_some_iff.mp e2).1
        refine ⟨a, _, dx, _, u, rfl, ha, cc, na, zip_get (K.nd.sublist (List.take_sublist _ _)) ?_ h4, hq _ ρ1 hw1 _ _ _ _ _ ((Out.now o1.oh (rs_d h5.1)).pre o1.ext1)⟩
        rw [List.getElem?_take_of_lt hj]; exact hf
      · exact hw1.elim
    · exact hw1.elim
  · exact hw1.elim
end
end Dv

/-! Dv7: statements, targets, loops, comprehensions. -/
namespace Dv
open PySem PySem.Spec PyProof.Rows L2
section
variable {Γ : Wd} {X : Cx} {N : List Str} {sc : Scope} {fp : Str → Bool} {k : Nat} {lk : List Nat}
def wpXS (X : Cx) (st : Stmt) : TS := fun D σ H => ∀ pins s, Inv X pins σ H s → wpAny (model X.prog X.w) X.A (exec st X.env) (SP X pins D) X.xe s
def wpXSs (X : Cx) (st : List Stmt) : TS := fun D σ H => ∀ pins s, Inv X pins σ H s → wpAny (model X.prog X.w) X.A (execs st X.env) (SP X pins D) X.xe s
theorem ps_x {st : Stmt} : PS X st (wpXS X st) := ⟨fun pins s _ _ _ I h => h pins s I⟩
theorem pss_x {st : List Stmt} : PSs X st (wpXSs X st) := ⟨fun pins s _ _ _ I h => h pins s I⟩
/-- slots that are never stored -/
def Kp (lk : List Nat) (σ σ' : Sg) : Prop := ∀ i ∈ lk, σ'[i]? = σ[i]?
theorem Kp.refl {lk : List Nat} {σ : Sg} : Kp lk σ σ := fun _ _ => rfl
theorem Kp.trans {lk : List Nat} {σ σ1 σ2 : Sg} (a : Kp lk σ σ1) (b : Kp lk σ1 σ2) : Kp lk σ σ2 := fun i m => (b i m).trans (a i m)
theorem Kp.set {lk : List Nat} {σ : Sg} {i : Nat} {x : Option V} (h : lk.contains i = false) : Kp lk σ (σ.set i x) := fun j m => by
  rw [List.getElem?_set_ne]
  intro e
  subst e
  rw [List.contains_iff_mem.mpr m] at h
  cases h
structure EndsOk (Γ : Wd) (lk : List Nat) (σ : Sg) (F H : Hp) (A : List Addr) (D : Nd) (DV : Ends) : Prop where
  nx : ∀ ρ', D.nx ρ' → ∀ σ' F' H' A', Kp lk σ σ' → Ext F H A F' H' A' → hold Γ σ' F' H' ρ' A' → DV.nx σ' H'
  bk : ∀ ρ', D.bk ρ' → ∀ σ' F' H' A', Kp lk σ σ' → Ext F H A F' H' A' → hold Γ σ' F' H' ρ' A' → DV.bk σ' H'
  ct : ∀ ρ', D.ct ρ' → ∀ σ' F' H' A', Kp lk σ σ' → Ext F H A F' H' A' → hold Γ σ' F' H' ρ' A' → DV.ct σ' H'
  rt : ∀ sv ρ', D.rt sv ρ' → ∀ σ' v F' H' A' B, Kp lk σ σ' → Out Γ σ' F H A ρ' sv v F' H' A' B → DV.rt v H'
theorem EndsOk.ext {lk : List Nat} {σ σ1 : Sg} {F H F' H' : Hp} {A A' : List Addr} {D : Nd} {DV : Ends} (h : EndsOk Γ lk σ F H A D DV) (x : Ext F H A F' H' A') (q : Kp lk σ σ1) : EndsOk Γ lk σ1 F' H' A' D DV :=
  ⟨fun ρ d σ F2 H2 A2 r y z => h.nx ρ d σ F2 H2 A2 (q.trans r) (x.trans y) z, fun ρ d σ F2 H2 A2 r y z => h.bk ρ d σ F2 H2 A2 (q.trans r) (x.trans y) z, fun ρ d σ F2 H2 A2 r y z => h.ct ρ d σ F2 H2 A2 (q.trans r) (x.trans y) z, fun sv ρ d σ v F2 H2 A2 B r o => h.rt sv ρ d σ v F2 H2 A2 B (q.trans r) (o.pre x)⟩
/-- .. wherever the slots stand that are never stored -/
def ELs (Γ : Wd) (lk : List Nat) (σ : Sg) (F H : Hp) (A : List Addr) (E : EK) (W : WX) : Prop := ∀ σ', Kp lk σ σ' → EL Γ σ' F H A E W
theorem ELs.ext {lk : List Nat} {σ σ1 : Sg} {F H F' H' : Hp} {A A' : List Addr} {E : EK} {W : WX} (h : ELs Γ lk σ F H A E W) (x : Ext F H A F' H' A') (q : Kp lk σ σ1) : ELs Γ lk σ1 F' H' A' E W := fun σ' r => (h σ' (q.trans r)).ext x
theorem ELs.now {lk : List Nat} {σ : Sg} {F H : Hp} {A : List Addr} {E : EK} {W : WX} (h : ELs Γ lk σ F H A E W) : EL Γ σ F H A E W := h σ .refl
structure SS (Γ : Wd) (lk : List Nat) (X : Cx) (st : Stmt) (w : WS) : Prop where
  run : ∀ (σ : Sg) (F H : Hp) (A : List Addr) (ρ : Rho) (D : Nd) (E : EK) (DV : Ends) (W : WX), hold Γ σ F H ρ A → Takes X W → ELs Γ lk σ F H A E W → EndsOk Γ lk σ F H A D DV → w ρ D E → wpXS X st DV σ H
structure SSs (Γ : Wd) (lk : List Nat) (X : Cx) (st : List Stmt) (w : WS) : Prop where
  run : ∀ (σ : Sg) (F H : Hp) (A : List Addr) (ρ : Rho) (D : Nd) (E : EK) (DV : Ends) (W : WX), hold Γ σ F H ρ A → Takes X W → ELs Γ lk σ F H A E W → EndsOk Γ lk σ F H A D DV → w ρ D E → wpXSs X st DV σ H
def wNext : WS := fun ρ D _ => D.nx ρ
def wSeq (w u : WS) : WS := fun ρ D E => w ρ { D with nx := fun ρ1 => u ρ1 D E } E
theorem sss_nil : SSs Γ lk X [] wNext := .mk fun σ F H A ρ D E DV W hh tk el eo hw pins s I => pss_nil.run pins s σ H DV I (eo.nx ρ hw σ F H A .refl Ext.refl hh)
theorem sss_one {st : Stmt} {w : WS} (h : SS Γ lk X st w) : SSs Γ lk X [st] w := .mk fun σ F H A ρ D E DV W hh tk el eo hw pins s I => (pss_one ps_x).run pins s σ H DV I (h.run σ F H A ρ D E DV W hh tk el eo hw)
theorem sss_cons {st : Stmt} {r : List Stmt} {w u : WS} (h : SS Γ lk X st w) (h2 : SSs Γ lk X r u) : SSs Γ lk X (st :: r) (wSeq w u) := .mk fun σ F H A ρ D E DV W hh tk el eo hw pins s I =>
  (pss_cons ps_x pss_x).run pins s σ H DV I (h.run σ F H A ρ { D with nx := fun ρ1 => u ρ1 D E } E _ W hh tk el ⟨fun ρ1 q σ1 F1 H1 A1 k1 x1 h1 => h2.run σ1 F1 H1 A1 ρ1 D E DV W h1 tk (el.ext x1 k1) (eo.ext x1 k1) q, eo.bk, eo.ct, eo.rt⟩ hw)
section
variable {e c : Expr} {w : WE} {t : WT} {ws wu : WS} {a b : List Stmt} {pos : Pos}
theorem ss_pass : SS Γ lk X (.Pass pos) wNext := .mk fun σ F H A ρ D E DV W hh tk el eo hw pins s I => ps_pass.run pins s σ H DV I (eo.nx ρ hw σ F H A .refl Ext.refl hh)
def wBreak : WS := fun ρ D _ => D.bk ρ
def wCont : WS := fun ρ D _ => D.ct ρ
theorem ss_break : SS Γ lk X (.Break pos) wBreak := .mk fun σ F H A ρ D E DV W hh tk el eo hw pins s I => ps_break.run pins s σ H DV I (eo.bk ρ hw σ F H A .refl Ext.refl hh)
theorem ss_cont : SS Γ lk X (.Continue pos) wCont := .mk fun σ F H A ρ D E DV W hh tk el eo hw pins s I => ps_continue.run pins s σ H DV I (eo.ct ρ hw σ F H A .refl Ext.refl hh)
theorem ss_doc {x : Str} {j p p'} : SS Γ lk X (.Expr (.Constant (.str x) j p) p') wNext := .mk fun σ F H A ρ D E DV W hh tk el eo hw pins s I => ps_doc.run pins s σ H DV I (eo.nx ρ hw σ F H A .refl Ext.refl hh)
def wExp (w : WE) : WS := fun ρ D E => w ρ (fun _ ρ1 => D.nx ρ1) E
theorem ss_exp (h : SE Γ X e w) (hs : swapsWith e none pos.line X.env = pure false := by rfl) : SS Γ lk X (.Expr e pos) (wExp w) := .mk fun σ F H A ρ D E DV W hh tk el eo hw pins s I =>
  (ps_expr pe_x hs).run pins s σ H DV I (h.use hh tk el.now hw fun sv ρ1 q v F1 H1 A1 B1 o => eo.nx ρ1 q σ F1 H1 A1 .refl o.ext1 o.oh)
/-- return e: a list that the name owns goes out as it is, with what it owns -/
def retK (sv : SV) (ρ : Rho) (K : SV → Rho → Prop) : Prop := match sv with
  | .sl i => match ρ[i]? with
    | some (some (.d x)) => K (.d x) ρ
    | some (some sv) => K sv (ρ.set i none)
    | _ => False
  | sv => K sv ρ
def wRet (w : WE) : WS := fun ρ D E => w ρ (fun sv ρ1 => retK sv ρ1 D.rt) E
/-- .. data: it stands from then on -/
def wRetF (w : WE) : WS := fun ρ D E => w ρ (fun sv ρ1 => keep sv ρ1 fun x ρ2 => D.rt (.d x) ρ2) E
theorem ss_retF (h : SE Γ X e w) : SS Γ lk X (.Return (some e) pos) (wRetF w) := .mk fun σ F H A ρ D E DV W hh tk el eo hw pins s I =>
  (ps_ret pe_x).run pins s σ H DV I (h.use hh tk el.now hw fun sv ρ1 q v F1 H1 A1 B1 o => by
    obtain ⟨d, ρ2, F2, A2, hk, x2, h2, r2, _⟩ := keep_ok o.oh o.ors o.ond o.ofb q
    exact eo.rt _ ρ2 hk σ v F2 H1 A2 [] .refl ⟨o.oe.trans x2, h2, rs_d r2, h2.nd, fun _ m => nomatch m⟩)
theorem Sl.del {F H : Hp} {σ : Sg} {ρ : Rho} {A : List Addr} (h : Sl Γ.K Γ.cl F H σ ρ A) {i : Nat} {sv : SV} (e : ρ[i]? = some (some sv)) :
    ∃ v B A0, σ[i]? = some (some v) ∧ RS Γ.K Γ.cl F H v sv B ∧ A.Perm (B ++ A0) ∧ Sl Γ.K Γ.cl F H σ (ρ.set i none) A0 := by
  induction h generalizing i with
  | nil => simp at e
  | @skip x σ ρ A h ih =>
    cases i with
    | zero => simp at e
    | succ i =>
      obtain ⟨v, B, A0, h1, h2, h3, h4⟩ := ih (i := i) (by simpa using e)
      exact ⟨v, B, A0, by simpa using h1, h2, h3, .skip h4⟩
  | @one v0 sv0 B0 σ ρ A r h ih =>
    cases i with
    | zero =>
      simp at e; subst e
      exact ⟨v0, B0, A, rfl, r, .refl _, .skip h⟩
    | succ i =>
      obtain ⟨v, B, A0, h1, h2, h3, h4⟩ := ih (i := i) (by simpa using e)
      refine ⟨v, B, B0 ++ A0, by simpa using h1, h2, ?_, .one r h4⟩
      refine (List.Perm.append_left B0 h3).trans ?_
      rw [← List.append_assoc, ← List.append_assoc]
      exact List.Perm.append_right _ List.perm_append_comm
theorem ss_ret (h : SE Γ X e w) : SS Γ lk X (.Return (some e) pos) (wRet w) := .mk fun σ F H A ρ D E DV W hh tk el eo hw pins s I =>
  (ps_ret pe_x).run pins s σ H DV I (h.use hh tk el.now hw fun sv ρ1 q v F1 H1 A1 B1 o => by
    cases sv with
    | sl i =>
      obtain ⟨r, rfl⟩ := o.ors
      obtain ⟨A2, sl, p⟩ := o.oh.sl
      unfold retK at q
      cases e1 : ρ1[i]? with
      | none => simp [e1] at q
      | some z =>
        cases z with
        | none => simp [e1] at q
        | some sv =>
          obtain ⟨v', B', A0, h1, h2, h3, h4⟩ := Sl.del sl e1
          rw [r] at h1; cases h1
          have pA : A1.Perm (B' ++ A0) := p.symm.trans h3
          have ndA : (B' ++ A0).Nodup := pA.nodup_iff.mp o.oh.nd
          have own : ∀ sv', sv' = sv → D.rt sv (ρ1.set i none) → DV.rt v H1 := fun _ _ q => eo.rt _ _ q σ v F1 H1 A0 B' .refl ⟨o.oe.sub fun a m => by
              rw [List.nil_append]; exact pA.mem_iff.mpr m, ⟨⟨A0, h4, .refl _⟩, o.oh.sub, (List.nodup_append.mp ndA).2.1, fun a m => o.oh.av a (pA.mem_iff.mpr (List.mem_append_right _ m))⟩, rs_of h2, ndA, fun b m => o.oh.av b (pA.mem_iff.mpr (List.mem_append_left _ m))⟩
          cases sv with
          | d x =>
            simp only [e1] at q
            unfold RS at h2
            exact eo.rt _ _ q σ v F1 H1 A1 [] .refl ⟨o.oe, o.oh, rs_d h2.1, o.oh.nd, fun _ m => nomatch m⟩
          | _ => simp only [e1] at q; exact own _ rfl q
    | _ => exact eo.rt _ _ q σ v F1 H1 A1 B1 .refl o)
def wRetN : WS := fun ρ D _ => D.rt (.d .non) ρ
theorem ss_retN : SS Γ lk X (.Return none pos) wRetN := .mk fun σ F H A ρ D E DV W hh tk el eo hw pins s I => ps_retN.run pins s σ H DV I (eo.rt _ _ hw σ _ F H A [] .refl (out_sc hh .non))
def wIf (t : WT) (ws wu : WS) : WS := fun ρ D E => t ρ (fun b ρ1 => Br b (ws ρ1 D E) (wu ρ1 D E)) E
theorem ss_if (ht : ST Γ X c t) (ha : SSs Γ lk X a ws) (hb : SSs Γ lk X b wu) : SS Γ lk X (.If c a b pos) (wIf t ws wu) := .mk fun σ F H A ρ D E DV W hh tk el eo hw pins s I =>
  (ps_if pt_x pss_x pss_x).run pins s σ H DV I (ht.use hh tk el.now hw fun k ρ1 hk F1 H1 A1 x1 h1 => by
    cases k with
    | true => rw [if_pos rfl]; exact ha.run σ F1 H1 A1 ρ1 D E DV W h1 tk (el.ext x1 .refl) (eo.ext x1 .refl) (hk.t rfl)
    | false => rw [if_neg Bool.false_ne_true]; exact hb.run σ F1 H1 A1 ρ1 D E DV W h1 tk (el.ext x1 .refl) (eo.ext x1 .refl) (hk.f rfl))
end

/-! ### a value comes into a slot -/
theorem hold_put {σ : Sg} {F H : Hp} {A B : List Addr} {ρ : Rho} {v : V} {sv : SV} {i : Nat} (hh : hold Γ σ F H ρ A) (r : RS Γ.K Γ.cl F H v sv B) (nd : (B ++ A).Nodup) (fb : ∀ b ∈ B, F b = none) (hi : i < σ.length) :
    ∃ A', hold Γ (σ.set i (some v)) F H (ρ.set i (some sv)) A' ∧ ∀ a ∈ A', a ∈ B ++ A := by
  obtain ⟨A1, s, p⟩ := hh.sl
  obtain ⟨A2, A0, h1, h2, h3⟩ := s.put hi r
  have sub : ∀ a ∈ B ++ A0, a ∈ B ++ A := fun a m => (List.mem_append.mp m).elim (fun q => List.mem_append_left _ q) fun q => List.mem_append_right _ (p.mem_iff.mp (h3.subset q))
  have nd0 : (B ++ A0).Nodup := by
    rw [List.nodup_append] at nd ⊢
    refine ⟨nd.1, (p.nodup_iff.mpr hh.nd).sublist h3, fun a m b n => nd.2.2 a m b (p.mem_iff.mp (h3.subset n))⟩
  exact ⟨B ++ A0, ⟨⟨A2, h1, h2⟩, hh.sub, nd0, fun a m => (List.mem_append.mp (sub a m)).elim (fb a) (hh.av a)⟩, sub⟩
def put (i : Nat) (sv : SV) (ρ : Rho) (K : Rho → Prop) : Prop := match sv with
  | .lst ds => K (ρ.set i (some (.lst ds)))
  | .ins n fs => K (ρ.set i (some (.ins n fs)))
  | sv => keep sv ρ fun x ρ1 => K (ρ1.set i (some (.d x)))
theorem put_ok {σ : Sg} {F H F1 H1 : Hp} {A A1 B1 : List Addr} {ρ1 : Rho} {v : V} {sv : SV} {i : Nat} {Kp : Rho → Prop} (o : Out Γ σ F H A ρ1 sv v F1 H1 A1 B1) (hi : i < σ.length) (hk : put i sv ρ1 Kp) :
    ∃ ρ2 F2 A2, Kp ρ2 ∧ Ext F H A F2 H1 A2 ∧ hold Γ (σ.set i (some v)) F2 H1 ρ2 A2 := by
  have viaD : ∀ sv, rs Γ σ F1 H1 v sv B1 → keep sv ρ1 (fun x ρ2 => Kp (ρ2.set i (some (.d x)))) → ∃ ρ2 F2 A2, Kp ρ2 ∧ Ext F H A F2 H1 A2 ∧ hold Γ (σ.set i (some v)) F2 H1 ρ2 A2 := fun sv r hk => by
    obtain ⟨d, ρ2, F2, A2, hk, x2, h2, r2, _⟩ := keep_ok o.oh r o.ond o.ofb hk
    obtain ⟨A3, h3, sub⟩ := hold_put (B := []) h2 (sv := .d d) (by unfold RS; exact ⟨r2, rfl⟩) h2.nd (fun _ m => nomatch m) hi
    exact ⟨_, F2, A3, hk, (o.oe.trans x2).sub sub, h3⟩
  have viaO : ∀ sv, RS Γ.K Γ.cl F1 H1 v sv B1 → Kp (ρ1.set i (some sv)) → ∃ ρ2 F2 A2, Kp ρ2 ∧ Ext F H A F2 H1 A2 ∧ hold Γ (σ.set i (some v)) F2 H1 ρ2 A2 := fun sv r hk => by
    obtain ⟨A3, h3, sub⟩ := hold_put o.oh r o.ond o.ofb hi
    exact ⟨_, F1, A3, hk, o.oe.sub sub, h3⟩
  cases sv with
  | lst ds => exact viaO _ o.ors hk
  | ins n fs => exact viaO _ o.ors hk
  | d x => exact viaD _ o.ors hk
  | exc _ _ => exact viaD _ o.ors hk
  | sl _ => exact viaD _ o.ors hk
  | fl _ _ => exact viaD _ o.ors hk
/-- a name that may be stored -/
def StN (N : List Str) (sc : Scope) (fp : Str → Bool) (lk : List Nat) (i : Nat) (x : Str) : Prop := (N[i]? = some x ∧ lk.contains i = false) ∧ (sc.names.lookup x = some .local ∨ (sc.names.lookup x = some .cell ∧ fp x = true))
theorem StN.loc (C : Ctx Γ X N sc fp k) {i : Nat} {x : Str} (h : StN N sc fp lk i x) : X.N[i]? = some x ∧ Loc X.env.scope x ∧ (X.fn x = true ∨ X.env.scope.names.lookup x = some .local) := by
  rw [C.hN, C.hs, C.fn]
  rcases h.2 with q | ⟨q, r⟩
  · exact ⟨h.1.1, .inl q, .inr q⟩
  · exact ⟨h.1.1, .inr q, .inl r⟩
def wAsg (i : Nat) (w : WE) : WS := fun ρ D E => w ρ (fun sv ρ1 => put i sv ρ1 D.nx) E
theorem len_of (C : Ctx Γ X N sc fp k) {pins : List (Addr × Obj)} {σ : Sg} {H : Hp} {s : Shared} (I : Inv X pins σ H s) {i : Nat} {x : Str} (h : N[i]? = some x) : i < σ.length := by
  rw [I.len, C.hN]
  exact (List.getElem?_eq_some_iff.mp h).1
theorem ss_asg (C : Ctx Γ X N sc fp k) (i : Nat) {x : Str} {e : Expr} {w : WE} {p pos : Pos} (h : SE Γ X e w) (hn : StN N sc fp lk i x := by first | exact ⟨⟨rfl, rfl⟩, Or.inl rfl⟩ | exact ⟨⟨rfl, rfl⟩, Or.inr ⟨rfl, rfl⟩⟩) (hs : swapsWith e (some (.Name x p)) pos.line X.env = pure false := by rfl) : SS Γ lk X (.Assign [.Name x p] e pos) (wAsg i w) :=
  .mk fun σ F H A ρ D E DV W hh tk el eo hw pins s I => by
  obtain ⟨h1, h2, h3⟩ := hn.loc C
  refine (ps_set (i := i) (by rw [C.hN]; exact C.nd) h1 h2 pe_x hs h3).run pins s σ H DV I ?_
  refine h.use hh tk el.now hw fun sv ρ1 q v F1 H1 A1 B1 o => ?_
  obtain ⟨ρ2, F2, A2, hk, x2, h4⟩ := put_ok o (len_of C I hn.1.1) q
  exact eo.nx ρ2 hk _ F2 H1 A2 (.set hn.1.2) x2 h4
/-- x op= e, ints -/
def wAug (i : Nat) (g : Int → Int → Int) (w : WE) : WS := fun ρ D E => w ρ (fun sv ρ1 => match sv, ρ1[i]? with
  | .d (.int y), some (some (.d (.int x))) => D.nx (ρ1.set i (some (.d (.int (g x y)))))
  | _, _ => False) E
def wAugA (i : Nat) (g : Int → Int → Int) (w : WE) : WS := fun ρ D E => (ρ[i]?.join).isSome = true ∧ wAug i g w ρ D E
theorem ss_aug (C : Ctx Γ X N sc fp k) (i : Nat) {x : Str} {e : Expr} {w : WE} {op : Operator} {g : Int → Int → Int} {p pos : Pos} (ho : PIp X op (ipI g)) (h : SE Γ X e w) (hn : StN N sc fp lk i x := by first | exact ⟨⟨rfl, rfl⟩, Or.inl rfl⟩ | exact ⟨⟨rfl, rfl⟩, Or.inr ⟨rfl, rfl⟩⟩) : SS Γ lk X (.AugAssign (.Name x p) op e pos) (wAugA i g w) :=
  .mk fun σ F H A ρ D E DV W hh tk el eo hw pins s I => by
  obtain ⟨h1, h2, h3⟩ := hn.loc C
  obtain ⟨hv, hw⟩ := hw
  refine (ps_aug (i := i) (by rw [C.hN]; exact C.nd) h1 h2 pe_x ho h3).run pins s σ H DV I ?_
  cases e0 : ρ[i]? with
  | none => simp [e0] at hv
  | some z =>
    cases z with
    | none => simp [e0] at hv
    | some sv0 =>
      obtain ⟨A0, sl0, _⟩ := hh.sl
      obtain ⟨v0, _, _, s1, _⟩ := sl0.at e0
      refine ⟨v0, s1, ?_⟩
      refine h.use hh tk el.now hw fun sv ρ1 q v F1 H1 A1 B1 o => ?_
      split at q
      · rename_i y x' e1
        obtain ⟨A2, sl, _⟩ := o.oh.sl
        obtain ⟨v1, B2, A3, s2, s3, _⟩ := sl.at e1
        rw [s1] at s2; cases s2
        unfold RS R at s3
        obtain ⟨A3, h4, sub⟩ := hold_put (B := []) o.oh (v := .int (g x' y)) (sv := .d (.int (g x' y))) (by unfold RS R; exact ⟨rfl, rfl⟩) o.oh.nd (fun _ m => nomatch m) (len_of C I hn.1.1)
        exact ⟨x', y, s3.1, int_of o, eo.nx _ q _ F1 H1 A3 (.set hn.1.2) (o.ext1.sub sub) h4⟩
      · exact q.elim
end
end Dv

/-! Dv8: targets, stores into lists, loops, comprehensions. -/
namespace Dv
open PySem PySem.Spec PyProof.Rows L2
section
variable {Γ : Wd} {X : Cx} {N : List Str} {sc : Scope} {fp : Str → Bool} {k : Nat} {lk : List Nat}
theorem Sl.wr {F H : Hp} {σ : Sg} {ρ : Rho} {A : List Addr} (h : Sl Γ.K Γ.cl F H σ ρ A) (nd : A.Nodup) {i : Nat} {ds : List D} (e : ρ[i]? = some (some (.lst ds))) :
    ∃ a vs, σ[i]? = some (some (.ref a)) ∧ H a = some (.lst vs) ∧ repL Γ F vs ds ∧ a ∈ A ∧ ∀ vs' ds', repL Γ F vs' ds' → Sl Γ.K Γ.cl F (upd H a (.lst vs')) σ (ρ.set i (some (.lst ds'))) A := by
  induction h generalizing i with
  | nil => simp at e
  | @skip x σ ρ A h ih =>
    cases i with
    | zero => simp at e
    | succ i =>
      obtain ⟨a, vs, h1, h2, h3, h4, h5⟩ := ih nd (i := i) (by simpa using e)
      exact ⟨a, vs, by simpa using h1, h2, h3, h4, fun vs' ds' r => .skip (h5 vs' ds' r)⟩
  | @one v0 sv0 B0 σ ρ A r h ih =>
    have nd2 := List.nodup_append.mp nd
    cases i with
    | zero =>
      simp at e; subst e
      unfold RS at r
      obtain ⟨a, vs, rfl, h2, h3, rfl⟩ := r
      refine ⟨a, vs, rfl, h2, h3, by simp, fun vs' ds' r => .one (B := [a]) (by unfold RS; exact ⟨a, vs', rfl, upd_same, r, rfl⟩) (h.mono (Same.refl F) fun b m o q => ?_)⟩
      rw [upd_ne (fun z => nd2.2.2 a (by simp) b m z.symm)]
      exact q
    | succ i =>
      obtain ⟨a, vs, h1, h2, h3, h4, h5⟩ := ih nd2.2.1 (i := i) (by simpa using e)
      refine ⟨a, vs, by simpa using h1, h2, h3, List.mem_append_right _ h4, fun vs' ds' q => .one (RS.mono (Same.refl F) (fun b m o q => ?_) r) (h5 vs' ds' q)⟩
      rw [upd_ne (fun z => nd2.2.2 b m a h4 z)]
      exact q
theorem hold_wr {σ : Sg} {F H : Hp} {A : List Addr} {ρ : Rho} {i : Nat} {ds : List D} (hh : hold Γ σ F H ρ A) (e : ρ[i]? = some (some (.lst ds))) :
    ∃ a vs, σ[i]? = some (some (.ref a)) ∧ H a = some (.lst vs) ∧ repL Γ F vs ds ∧ ∀ vs' ds', repL Γ F vs' ds' → hold Γ σ F (upd H a (.lst vs')) (ρ.set i (some (.lst ds'))) A ∧ Ext F H A F (upd H a (.lst vs')) A := by
  obtain ⟨A1, s, p⟩ := hh.sl
  obtain ⟨a, vs, h1, h2, h3, h4, h5⟩ := Sl.wr s (p.nodup_iff.mpr hh.nd) e
  have ma : a ∈ A := p.mem_iff.mp h4
  refine ⟨a, vs, h1, h2, h3, fun vs' ds' r => ⟨⟨⟨A1, h5 vs' ds' r, p⟩, fun b o q => ?_, hh.nd, hh.av⟩, ⟨Same.refl F, fun b o q n => ?_, fun b o q => .inl q, fun b m => .inl m⟩⟩⟩
  · rw [upd_ne (fun z => by subst z; rw [hh.av b ma] at q; cases q)]
    exact hh.sub b o q
  · rw [upd_ne (fun z => n (by rw [z]; exact ma))]
    exact q
/-! ### xs.append(e), xs[i] = e -/
def slotL (i : Nat) (ρ : Rho) (K : List D → Prop) : Prop := match ρ[i]? with
  | some (some (.lst ds)) => K ds
  | _ => False
theorem slotL_ok {i : Nat} {ρ : Rho} {Kp : List D → Prop} (h : slotL i ρ Kp) : ∃ ds, ρ[i]? = some (some (.lst ds)) ∧ Kp ds := by
  unfold slotL at h
  split at h
  · exact ⟨_, by assumption, h⟩
  · exact h.elim
def wApp (i : Nat) (w : WE) : WS := fun ρ D E => slotL i ρ fun _ => w ρ (fun sv ρ1 => keep sv ρ1 fun x ρ2 => slotL i ρ2 fun ds => ds.length < 16777216 ∧ D.nx (ρ2.set i (some (.lst (ds ++ [x]))))) E
theorem ss_app (C : Ctx Γ X N sc fp k) (i : Nat) {x : Str} {e : Expr} {w : WE} {p p2 p3 pos : Pos} (h : SE Γ X e w) (hN : N[i]? = some x := by rfl) (hv : Vis sc x := by first | exact Or.inl rfl | exact Or.inr (Or.inl rfl) | exact Or.inr (Or.inr rfl)) (hd : (x == ("__debug__" : Str)) = false := by decide) (hcd : (x == ("__classdict__" : Str)) = false := by decide)
    (hst : starEach [e] X.env = (false, eval e X.env) :: starEach [] X.env := by exact star_of rfl)
    (hfew : ((backTo p3 (starEach [e] X.env)).all (!·.1) && (backToKw p3 (keywordEach [] X.env)).all (·.1.isSome) && decide ([e].length + ([] : List Keyword).length + (if ([] : List Keyword).isEmpty then 0 else 1) < 30)) = true := by rfl) (hline : (p2.endLine == p3.line) = true := by rfl) :
    SS Γ lk X (.Expr (.Call (.Attribute (.Name x p) "append" p2) [e] [] p3) pos) (wApp i w) := .mk fun σ F H A ρ D E DV W hh tk el eo hw pins s I => by
  have pe : PE X (.Name x p) (tVar i) := pe_var (by rw [C.hN]; exact hN) (by rw [C.hs]; exact hv) hd hcd
  refine (ps_expr (pe_bm PySem.F.plainAttrs_list PySem.F.slot_list_append PySem.F.type_list_append mt_append pe (pa_cons pe_x pa_nil hst) (hfew := hfew) (hline := hline) (hs := hst))).run pins s σ H DV I ?_
  obtain ⟨ds0, e0, hw⟩ := slotL_ok hw
  obtain ⟨a, vs0, s1, s2, _, _⟩ := hold_wr hh e0
  refine ⟨.ref a, s1, Or.inl ⟨rfl, _, Or.inl (Or.inl s2)⟩, ?_⟩
  refine h.use hh tk el.now hw fun sv ρ1 q v F1 H1 A1 B1 o => ?_
  obtain ⟨d, ρ2, F2, A2, hk, x2, h2, r2, _⟩ := keep_ok o.oh o.ors o.ond o.ofb q
  obtain ⟨ds, e1, hl, hk⟩ := slotL_ok hk
  obtain ⟨a', vs, t1, t2, t3, t4⟩ := hold_wr h2 e1
  rw [s1] at t1; cases t1
  obtain ⟨h5, x5⟩ := t4 (vs ++ [v]) (ds ++ [d]) (t3.append (RL.cons r2 RL.nil))
  exact ⟨a, vs, v, rfl, rfl, t2, by rw [t3.length, line_eq]; exact hl, eo.nx _ hk σ F2 _ A2 .refl ((o.oe.trans x2).trans x5) h5⟩
def wSetI (i : Nat) (we wi : WE) : WS := fun ρ D E => we ρ (fun sv ρ1 => slotL i ρ1 fun _ => wi ρ1 (fun j ρ2 => match j with
  | .d (.int j) => keep sv ρ2 fun x ρ3 => slotL i ρ3 fun ds => ∃ m, ixN ds.length j = some m ∧ D.nx (ρ3.set i (some (.lst (ds.set m x))))
  | _ => False) E) E
theorem ss_seti (C : Ctx Γ X N sc fp k) (i : Nat) {x : Str} {e ix : Expr} {we wi : WE} {p p2 pos : Pos} (h : SE Γ X e we) (hi : SE Γ X ix wi) (hN : N[i]? = some x := by rfl) (hv : Vis sc x := by first | exact Or.inl rfl | exact Or.inr (Or.inl rfl) | exact Or.inr (Or.inr rfl)) (hd : (x == ("__debug__" : Str)) = false := by decide) (hcd : (x == ("__classdict__" : Str)) = false := by decide)
    (hassign : ∀ v, assign (.Subscript (.Name x p) ix p2) X.env v = (do
      let ov ← holding [v] (eval (.Name x p) X.env)
      let iv ← holding [v, ov] (eval ix X.env)
      standAt p2
      holding [v, ov, iv] (setItem ov iv v)
      release [v, ov, iv] []) := by intro _; rfl)
    (hs : swapsWithSole [.Subscript (.Name x p) ix p2] e pos.line X.env = pure false := by rfl) (hw : swappedStores [.Subscript (.Name x p) ix p2] e X.env = pure none := by rfl)
    (h1 : (assignEach [.Subscript (.Name x p) ix p2] X.env).map (·.2) = [assign (.Subscript (.Name x p) ix p2) X.env] := by rfl) :
    SS Γ lk X (.Assign [.Subscript (.Name x p) ix p2] e pos) (wSetI i we wi) := .mk fun σ F H A ρ D E DV W hh tk el eo hw' pins s I => by
  have pe : PE X (.Name x p) (tVar i) := pe_var (by rw [C.hN]; exact hN) (by rw [C.hs]; exact hv) hd hcd
  refine (ps_asg pe_x (pg_sub pe pe_x set_list hassign) hs hw h1).run pins s σ H DV I ?_
  refine h.use hh tk el.now hw' fun sv ρ1 q v F1 H1 A1 B1 o => ?_
  obtain ⟨ds0, e0, q⟩ := slotL_ok q
  obtain ⟨a, vs0, ea, s2, _, _⟩ := hold_wr o.oh e0
  refine ⟨.ref a, ea, ?_⟩
  refine hi.use o.oh tk (el.now.ext o.ext1) q fun j ρ2 q2 iv F2 H2 A2 B2 o2 => ?_
  split at q2
  · rename_i j
    obtain ⟨r1, n1, f1, x1⟩ := o.stay o2.ext1
    have ndd : (B1 ++ A2).Nodup := List.nodup_append.mpr ⟨(List.nodup_append.mp o.ond).1, o2.oh.nd, fun a m b n z => n1 a m (by rw [z]; exact n)⟩
    obtain ⟨d, ρ3, F3, A3, hk, x3, h3, r3, _⟩ := keep_ok o2.oh r1 ndd f1 q2
    obtain ⟨ds, e1, m, em, hk⟩ := slotL_ok hk
    obtain ⟨a', vs, t1, t2, t3, t4⟩ := hold_wr h3 e1
    rw [ea] at t1; cases t1
    obtain ⟨h5, x5⟩ := t4 (vs.set m v) (ds.set m d) (RL.set m t3 r3)
    exact ⟨a, vs, j, m, rfl, int_of o2, t2, by rw [t3.length]; exact em, eo.nx _ hk σ F3 _ A3 .refl ((x1.trans x3).trans x5) h5⟩
  · exact q2.elim

/-! ### targets: data come into names -/
abbrev WG := D → Rho → (Rho → Prop) → Prop
def wpXG (X : Cx) (tg : Expr) : TG := fun v σ H Q => ∀ pins s u, Inv X pins σ H s → RelV v u → wpAny (model X.prog X.w) X.A (assign tg X.env u) (fun _ s' => ∃ σ' H', Inv X pins σ' H' s' ∧ Q σ' H') X.xe s
def wpXGs (X : Cx) (ts : List Expr) : TGs := fun vs σ H Q => ∀ pins s us, Inv X pins σ H s → Vals vs us → wpAny (model X.prog X.w) X.A (assignInOrder ((assignEach ts X.env).map (·.2)) us) (fun _ s' => ∃ σ' H', Inv X pins σ' H' s' ∧ Q σ' H') X.xe s
theorem pg_x {tg : Expr} : PG X tg (wpXG X tg) := ⟨fun pins s _ _ _ u _ I r h => h pins s u I r⟩
theorem pgs_x {ts : List Expr} : PGs X ts (wpXGs X ts) := ⟨fun pins s _ _ _ us _ I r h => h pins s us I r⟩
/-- σ' is σ but at the slots is -/
def Wp (is : List Nat) (σ σ' : Sg) : Prop := ∀ js : List Nat, (∀ i ∈ is, i ∈ js) → wipe σ' js = wipe σ js
theorem Wp.refl {is : List Nat} {σ : Sg} : Wp is σ σ := fun _ _ => rfl
theorem wipe_set {σ : Sg} {i : Nat} {x : Option V} : ∀ {js : List Nat}, i ∈ js → wipe (σ.set i x) js = wipe σ js
  | [], h => nomatch h
  | j :: js, h => by
    unfold wipe
    by_cases e : i ∈ js
    · rw [wipe_set e]
    · have e' : i = j := by rcases List.mem_cons.mp h with h | h; exact h; exact absurd h e
      subst e'
      have key : ∀ {ls : List Nat}, i ∉ ls → wipe (σ.set i x) ls = (wipe σ ls).set i x := fun {ls} n => by
        induction ls with
        | nil => rfl
        | cons l ls ih =>
          unfold wipe
          rw [ih (fun m => n (List.mem_cons_of_mem _ m)), List.set_comm _ _ (fun z => n (by rw [z]; exact List.mem_cons_self))]
      rw [key e, List.set_set]
theorem Wp.set {σ : Sg} {i : Nat} {x : Option V} : Wp [i] σ (σ.set i x) := fun js h => wipe_set (h i (by simp))
theorem Wp.trans {is js : List Nat} {σ σ1 σ2 : Sg} (a : Wp is σ σ1) (b : Wp js σ1 σ2) : Wp (is ++ js) σ σ2 := fun ls h => (b ls fun i m => h i (List.mem_append_right _ m)).trans (a ls fun i m => h i (List.mem_append_left _ m))
/-- is: the slots that are stored -/
structure SG (Γ : Wd) (X : Cx) (tg : Expr) (g : WG) (is : List Nat) : Prop where
  run : ∀ (σ : Sg) (F H : Hp) (A : List Addr) (ρ : Rho) (v : V) (d : D) (K : Rho → Prop) (QV : L2.St → Hp → Prop), hold Γ σ F H ρ A → rep Γ F v d → g d ρ K →
    (∀ ρ', K ρ' → ∀ σ' F' H' A', Wp is σ σ' → Ext F H A F' H' A' → hold Γ σ' F' H' ρ' A' → QV σ' H') → wpXG X tg v σ H QV
structure SGs (Γ : Wd) (X : Cx) (ts : List Expr) (g : List D → Rho → (Rho → Prop) → Prop) (is : List Nat) : Prop where
  run : ∀ (σ : Sg) (F H : Hp) (A : List Addr) (ρ : Rho) (vs : List V) (ds : List D) (K : Rho → Prop) (QV : L2.St → Hp → Prop), hold Γ σ F H ρ A → repL Γ F vs ds → g ds ρ K →
    (∀ ρ', K ρ' → ∀ σ' F' H' A', Wp is σ σ' → Ext F H A F' H' A' → hold Γ σ' F' H' ρ' A' → QV σ' H') → wpXGs X ts vs σ H QV
def gNm (i : Nat) : WG := fun d ρ K => K (ρ.set i (some (.d d)))
theorem sg_name (C : Ctx Γ X N sc fp k) (i : Nat) {x : Str} {pos : Pos} (hn : StN N sc fp [] i x := by first | exact ⟨⟨rfl, rfl⟩, Or.inl rfl⟩ | exact ⟨⟨rfl, rfl⟩, Or.inr ⟨rfl, rfl⟩⟩) : SG Γ X (.Name x pos) (gNm i) [i] := .mk fun σ F H A ρ v d K QV hh r hw hq pins s u I ru => by
  obtain ⟨h1, h2, h3⟩ := hn.loc C
  refine (pg_name (i := i) (by rw [C.hN]; exact C.nd) h1 h2 h3).run pins s σ H v u QV I ru ?_
  obtain ⟨A3, h4, sub⟩ := hold_put (B := []) hh (sv := .d d) (by unfold RS; exact ⟨r, rfl⟩) hh.nd (fun _ m => nomatch m) (len_of C I hn.1.1)
  exact hq _ hw _ F H A3 .set (Ext.refl.sub sub) h4
def gsNil : List D → Rho → (Rho → Prop) → Prop := fun ds ρ K => match ds with
  | [] => K ρ
  | _ => False
def gsCons (g : WG) (gs : List D → Rho → (Rho → Prop) → Prop) : List D → Rho → (Rho → Prop) → Prop := fun ds ρ K => match ds with
  | d :: ds => g d ρ fun ρ1 => gs ds ρ1 K
  | [] => False
theorem sgs_nil : SGs Γ X [] gsNil [] := .mk fun σ F H A ρ vs ds K QV hh r hw hq pins s us I ru => by
  refine pgs_nil.run pins s σ H vs us QV I ru ?_
  unfold gsNil at hw
  split at hw
  · unfold repL RL at r
    exact ⟨r, hq _ hw _ F H A .refl Ext.refl hh⟩
  · exact hw.elim
theorem sgs_cons {e : Expr} {es : List Expr} {g : WG} {gs : List D → Rho → (Rho → Prop) → Prop} {is js : List Nat} (h : SG Γ X e g is) (h2 : SGs Γ X es gs js) (hs : (assignEach (e :: es) X.env).map (·.2) = assign e X.env :: (assignEach es X.env).map (·.2) := by rfl) : SGs Γ X (e :: es) (gsCons g gs) (is ++ js) :=
  .mk fun σ F H A ρ vs ds K QV hh r hw hq pins s us I ru => by
  refine (pgs_cons pg_x pgs_x hs).run pins s σ H vs us QV I ru ?_
  unfold gsCons at hw
  split at hw
  · rename_i d ds
    unfold repL RL at r
    obtain ⟨v, r', rfl, r1, r2⟩ := r
    refine ⟨v, r', rfl, h.run σ F H A ρ v d _ _ hh r1 hw fun ρ1 hk σ1 F1 H1 A1 w1 x1 h1 => ?_⟩
    exact h2.run σ1 F1 H1 A1 ρ1 r' ds K QV h1 (RL.mono x1.sf r2) hk fun ρ2 hk2 σ2 F2 H2 A2 w2 x2 hh2 => hq ρ2 hk2 σ2 F2 H2 A2 (w1.trans w2) (x1.trans x2) hh2
  · exact hw.elim
def gTp (n : Nat) (gs : List D → Rho → (Rho → Prop) → Prop) : WG := fun d ρ K => match d with
  | .tup ds => ds.length = n ∧ gs ds ρ K
  | .lst ds => ds.length = n ∧ gs ds ρ K
  | _ => False
theorem pg_or {tg : Expr} {t t' : TG} (h : PG X tg t) (h' : PG X tg t') : PG X tg (fun v σ H Q => t v σ H Q ∨ t' v σ H Q) := ⟨fun pins s σ H v u Q I r q => q.elim (h.run pins s σ H v u Q I r) (h'.run pins s σ H v u Q I r)⟩
theorem sg_tup (C : Ctx Γ X N sc fp k) {es : List Expr} {kk n : Nat} {pos : Pos} {gs : List D → Rho → (Rho → Prop) → Prop} {is : List Nat} (h : SGs Γ X es gs is) (hn : (assignEach es X.env).length = n := by rfl) (hst : (assignEach es X.env).findIdx? (·.1) = none := by rfl) : SG Γ X (.Tuple es kk pos) (gTp n gs) is :=
  .mk fun σ F H A ρ v d K QV hh r hw hq pins s u I ru => by
  refine (pg_or (pg_tup C.calm pgs_x hn hst) (pg_lst C.calm pgs_x hn hst)).run pins s σ H v u QV I ru ?_
  unfold gTp at hw
  split at hw
  · obtain ⟨hl, hw⟩ := hw
    unfold rep R at r
    obtain ⟨a, vs, rfl, fa, ra⟩ := r
    exact .inl ⟨a, vs, rfl, .of (hh.sub a _ fa), by rw [ra.length]; exact hl, h.run σ F H A ρ vs _ K QV hh ra hw hq⟩
  · obtain ⟨hl, hw⟩ := hw
    unfold rep R at r
    obtain ⟨a, vs, rfl, fa, ra⟩ := r
    exact .inr ⟨a, vs, rfl, .of (hh.sub a _ fa), by rw [ra.length]; exact hl, h.run σ F H A ρ vs _ K QV hh ra hw hq⟩
  · exact hw.elim
/-- none of the stored slots is locked -/
def Fre (lk is : List Nat) : Prop := (is.all fun i => !lk.contains i) = true
theorem Wp.kp {lk is : List Nat} {σ σ' : Sg} (w : Wp is σ σ') (f : Fre lk is) : Kp lk σ σ' := fun i m => by
  have n : i ∉ is := fun q => by
    have := List.all_eq_true.mp f i q
    rw [List.contains_iff_mem.mpr m] at this
    cases this
  have e := w is fun _ q => q
  rw [← wipe_out (σ := σ') n, e, wipe_out n]
/-- a, b = e -/
def wUnp (w : WE) (g : WG) : WS := fun ρ D E => w ρ (fun sv ρ1 => keep sv ρ1 fun x ρ2 => g x ρ2 D.nx) E
theorem ss_unp {es : List Expr} {kk : Nat} {tp pos : Pos} {e : Expr} {w : WE} {g : WG} {is : List Nat} (h : SE Γ X e w) (hg : SG Γ X (.Tuple es kk tp) g is) (fr : Fre lk is := by rfl) (hs : swapsWithSole [.Tuple es kk tp] e pos.line X.env = pure false := by rfl) (hw : swappedStores [.Tuple es kk tp] e X.env = pure none := by rfl)
    (h1 : (assignEach [.Tuple es kk tp] X.env).map (·.2) = [assign (.Tuple es kk tp) X.env] := by rfl) : SS Γ lk X (.Assign [.Tuple es kk tp] e pos) (wUnp w g) := .mk fun σ F H A ρ D E DV W hh tk el eo hw' pins s I => by
  refine (ps_asg pe_x pg_x hs hw h1).run pins s σ H DV I ?_
  refine h.use hh tk el.now hw' fun sv ρ1 q v F1 H1 A1 B1 o => ?_
  obtain ⟨d, ρ2, F2, A2, hk, x2, h2, r2, _⟩ := keep_ok o.oh o.ors o.ond o.ofb q
  have x := o.oe.trans x2
  exact hg.run σ F2 H1 A2 ρ2 v d _ _ h2 r2 hk fun ρ3 hk3 σ3 F3 H3 A3 w3 x3 h3 => eo.nx ρ3 hk3 σ3 F3 H3 A3 (w3.kp fr) (x.trans x3) h3
/-- a, b = x, y; plain locals -/
def wPar (i j : Nat) (wa wb : WE) : WS := fun ρ D E => wa ρ (fun x ρ1 => wb ρ1 (fun y ρ2 => put i x ρ2 fun ρ3 => put j y ρ3 D.nx) E) E
theorem rs_set {σ : Sg} {F H : Hp} {v w : V} {x : SV} {B : List Addr} {i : Nat} (h : rs Γ σ F H v x B) (hx : ∀ j, x ≠ .sl j) : rs Γ (σ.set i (some w)) F H v x B := by
  cases x with
  | sl j => exact absurd rfl (hx j)
  | _ => exact h
/-! ### what a loop walks: items that stand for data -/
structure Walks (Γ : Wd) (F0 : Hp) (J : It) (ds : List D) : Prop where
  go : ∀ (i : Nat) (F H : Hp), Same F0 F → Same F H → i < ds.length → J.go i H
  yld : ∀ (i : Nat) (F H : Hp) (A : List Addr) (σ : Sg) (ρ : Rho) (x : V) (H' : Hp), Same F0 F → hold Γ σ F H ρ A → i < ds.length → J.yld i H x H' → ∃ d F', ds[i]? = some d ∧ Ext F H A F' H' A ∧ hold Γ σ F' H' ρ A ∧ rep Γ F' x d
  stop : ∀ (i : Nat) (F H : Hp), Same F0 F → Same F H → ds.length ≤ i → J.stop i H
abbrev WI := Rho → (List D → Rho → Prop) → EK → Prop
def wpXI (X : Cx) (tg iter : Expr) : TI := fun σ H R => ∀ pins s, Inv X pins σ H s → wpAny (model X.prog X.w) X.A (eval iter X.env) (fun v s1 => wpAny (model X.prog X.w) X.A (pyIter v) (PIE X pins σ tg R) X.xe s1) X.xe s
theorem pi_x {tg iter : Expr} : PI X tg iter (wpXI X tg iter) := ⟨fun pins s _ _ _ I h => h pins s I⟩
structure SI (Γ : Wd) (X : Cx) (tg iter : Expr) (w : WI) : Prop where
  run : ∀ (σ : Sg) (F H : Hp) (A : List Addr) (ρ : Rho) (Q : List D → Rho → Prop) (E : EK) (R : It → Hp → Prop) (W : WX), hold Γ σ F H ρ A → Takes X W → EL Γ σ F H A E W → w ρ Q E →
    (∀ ds ρ', Q ds ρ' → ∀ J F' H' A', Ext F H A F' H' A' → hold Γ σ F' H' ρ' A' → Walks Γ F' J ds → R J H') → wpXI X tg iter σ H R
theorem walks_list {K : PySem.W.Frag} {F : Hp} {a : Addr} {vs : List V} {ds : List D} (fa : F a = some (.lst vs)) (r : repL Γ F vs ds) : Walks Γ F (Itl K a) ds where
  go := fun i F' H s1 s2 hi => ⟨vs, vs[i]'(by rw [RL.length r]; exact hi), .of (s2 a _ (s1 a _ fa)), by simp⟩
  yld := fun i F' H A σ ρ x H' s1 hh hi y => by
    obtain ⟨e, y⟩ := y
    subst e
    obtain ⟨d, h1, h2⟩ := RL.get' (RL.mono s1 r) (y vs (.of (hh.sub a _ (s1 a _ fa))))
    exact ⟨d, F', h1, Ext.refl, hh, h2⟩
  stop := fun i F' H s1 s2 hi => ⟨vs, .of (s2 a _ (s1 a _ fa)), by rw [RL.length r]; exact hi⟩
theorem walks_tup {K : PySem.W.Frag} {F : Hp} {a : Addr} {vs : List V} {ds : List D} (fa : F a = some (.tup vs)) (r : repL Γ F vs ds) : Walks Γ F (Itt K a) ds where
  go := fun i F' H s1 s2 hi => ⟨vs, vs[i]'(by rw [RL.length r]; exact hi), .of (s2 a _ (s1 a _ fa)), by simp⟩
  yld := fun i F' H A σ ρ x H' s1 hh hi y => by
    obtain ⟨e, y⟩ := y
    subst e
    obtain ⟨d, h1, h2⟩ := RL.get' (RL.mono s1 r) (y vs (.of (hh.sub a _ (s1 a _ fa))))
    exact ⟨d, F', h1, Ext.refl, hh, h2⟩
  stop := fun i F' H s1 s2 hi => ⟨vs, .of (s2 a _ (s1 a _ fa)), by rw [RL.length r]; exact hi⟩
def rngD (lo : Int) (n : Nat) : List D := (List.range n).map fun (i : Nat) => D.int (lo + (i : Int))
theorem walks_range {F : Hp} {lo : Int} {n : Nat} : Walks Γ F (Itr lo n) (rngD lo n) where
  go := fun i F' H s1 s2 hi => (by simpa [rngD] using hi : i < n)
  yld := fun i F' H A σ ρ x H' s1 hh hi y => by
    obtain ⟨e, y⟩ := y
    subst e y
    have hi' : i < n := by simpa [rngD] using hi
    refine ⟨.int (lo + i), F', ?_, Ext.refl, hh, by unfold rep R; rfl⟩
    simp [rngD, hi']
  stop := fun i F' H s1 s2 hi => (by simpa [rngD] using hi : n ≤ i)
/-- a list or a tuple of data, walked: it stands from then on -/
def wIt (w : WE) : WI := fun ρ Q E => w ρ (fun sv ρ1 => keep sv ρ1 fun x ρ2 => match x with
  | .lst ds => Q ds ρ2
  | .tup ds => Q ds ρ2
  | _ => False) E
section
variable {tg : Expr} {pins : List (Addr × Obj)} {σ : Sg} {H : Hp} {s : Shared} {a : Addr} {xs : List V} {R : It → Hp → Prop}
theorem iter_new {J : It} {tn : Nat → Heap → Prop} {o : Obj} (I : Inv X pins σ H s) (T : Turn X.prog X.w X.K tg J [s.heap.objs.size] s.heap.objs.size tn) (st : tn 0 (s.heap.push o)) (q : R J H) : PIE X pins σ tg R (.ref s.heap.objs.size) { s with heap := s.heap.push o } :=
  ⟨_, _, tn, J, H, rfl, I.kept (t' := s.toks) (fun _ _ z => Heap.get?_push_of_some _ z), T, st, fun b m => by
    rw [List.mem_singleton] at m
    rw [m]
    exact I.fpOk (Nat.le_refl _) (I.hok.fresh (Nat.le_refl _)), q⟩
theorem iter_lst (I : Inv X pins σ H s) (h : SqL X.K H a xs) (q : R (Itl X.K a) H) : wpAny (model X.prog X.w) X.A (pyIter (.ref a)) (PIE X pins σ tg R) X.xe s := by
  obtain ⟨us, _, pl, _⟩ := I.list h
  exact wpAny_pyIter_list pl.isList (iter_new I (turn_list a _) ⟨_, Heap.get?_push_size _ rfl, rfl, rfl⟩ q)
theorem iter_tpl (I : Inv X pins σ H s) (h : SqT X.K H a xs) (q : R (Itt X.K a) H) : wpAny (model X.prog X.w) X.A (pyIter (.ref a)) (PIE X pins σ tg R) X.xe s := by
  obtain ⟨us, _, pl, _⟩ := I.tuple h
  exact wpAny_pyIter_tuple (items := us.toArray) pl (iter_new I (turn_tuple a _) ⟨_, Heap.get?_push_size _ rfl, rfl, rfl⟩ q)
end
theorem si_seq {tg e : Expr} {w : WE} (h : SE Γ X e w) : SI Γ X tg e (wIt w) := .mk fun σ F H A ρ Q E R W hh tk el hw hq pins s I => by
  refine thn (h.use (QV := fun v H1 => ∃ a xs, v = .ref a ∧ ((SqL X.K H1 a xs ∧ R (Itl X.K a) H1) ∨ (SqT X.K H1 a xs ∧ R (Itt X.K a) H1))) hh tk el hw (fun sv ρ1 q v F1 H1 A1 B1 o => ?_) pins s I) fun v s1 ⟨x, H1, I1, r1, a, xs, e1, q1⟩ => ?_
  · obtain ⟨d, ρ2, F2, A2, hk, x2, h2, r2, _⟩ := keep_ok o.oh o.ors o.ond o.ofb q
    split at hk
    · unfold rep Dv.R at r2
      obtain ⟨a, vs, rfl, fa, ra⟩ := r2
      exact ⟨a, vs, rfl, .inl ⟨.of (h2.sub a _ fa), hq _ ρ2 hk _ F2 H1 A2 (o.oe.trans x2) h2 (walks_list fa ra)⟩⟩
    · unfold rep Dv.R at r2
      obtain ⟨a, vs, rfl, fa, ra⟩ := r2
      exact ⟨a, vs, rfl, .inr ⟨.of (h2.sub a _ fa), hq _ ρ2 hk _ F2 H1 A2 (o.oe.trans x2) h2 (walks_tup fa ra)⟩⟩
    · exact hk.elim
  · subst e1
    cases r1
    rcases q1 with ⟨q1, q2⟩ | ⟨q1, q2⟩
    · exact iter_lst I1 q1 q2
    · exact iter_tpl I1 q1 q2
/-- range(n), range(a, b) -/
def wRng1 (w : WA) : WI := fun ρ Q E => w ρ (fun svs ρ1 => match svs with
  | [.d (.int n)] => n < 2 ^ 62 ∧ -(2 ^ 62) ≤ n ∧ Q (rngD 0 n.toNat) ρ1
  | _ => False) E
def wRng2 (w : WA) : WI := fun ρ Q E => w ρ (fun svs ρ1 => match svs with
  | [.d (.int a), .d (.int b)] => (a < 2 ^ 62 ∧ -(2 ^ 62) ≤ a ∧ b < 2 ^ 62 ∧ -(2 ^ 62) ≤ b) ∧ Q (rngD a (b - a).toNat) ρ1
  | _ => False) E
theorem int1 {σ : Sg} {F H F' H' : Hp} {A A' B : List Addr} {ρ' : Rho} {vs : List V} {i : Int} (o : OutL Γ σ F H A ρ' [.d (.int i)] vs F' H' A' B) : vs = [.int i] ∧ B = [] := by
  have r := o.ors
  obtain ⟨v, r', B1, B2, rfl, h1, ⟨rfl, rfl⟩, rfl⟩ := r
  unfold rs RS R at h1
  obtain ⟨rfl, rfl⟩ := h1
  exact ⟨rfl, rfl⟩
theorem int2 {σ : Sg} {F H F' H' : Hp} {A A' B : List Addr} {ρ' : Rho} {vs : List V} {i j : Int} (o : OutL Γ σ F H A ρ' [.d (.int i), .d (.int j)] vs F' H' A' B) : vs = [.int i, .int j] ∧ B = [] := by
  have r := o.ors
  obtain ⟨v, r', B1, B2, rfl, h1, ⟨v2, r2, B3, B4, rfl, h2, ⟨rfl, rfl⟩, rfl⟩, rfl⟩ := r
  unfold rs RS R at h1 h2
  obtain ⟨rfl, rfl⟩ := h1
  obtain ⟨rfl, rfl⟩ := h2
  exact ⟨rfl, rfl⟩
theorem si_range1 (C : Ctx Γ X N sc fp k) {tg e : Expr} {w : WA} {p pos : Pos} (h : SA Γ X [e] w) (hg : sc.names.lookup ("range" : Str) = some .globalImplicit := by rfl) (hs : starEach [e] X.env = [(false, eval e X.env)] := by rfl) : SI Γ X tg (.Call (.Name "range" p) [e] [] pos) (wRng1 w) :=
  .mk fun σ F H A ρ Q E R W hh tk el hw hq pins s I => by
  refine (pi_range1 (gl_of C hg) (by rw [C.mg]; exact C.bn _ (by decide +kernel)) pa_x hs).run pins s σ H R I ?_
  refine h.run σ F H A ρ _ E _ W hh tk el hw fun svs ρ1 hw1 vs F1 H1 A1 B1 o1 => ?_
  split at hw1
  · obtain ⟨l1, l2, hw1⟩ := hw1
    obtain ⟨rfl, rfl⟩ := int1 o1
    exact ⟨_, rfl, l2, l1, hq _ ρ1 hw1 _ F1 H1 A1 o1.oe o1.oh walks_range⟩
  · exact hw1.elim
theorem si_range2 (C : Ctx Γ X N sc fp k) {tg e e2 : Expr} {w : WA} {p pos : Pos} (h : SA Γ X [e, e2] w) (hg : sc.names.lookup ("range" : Str) = some .globalImplicit := by rfl) (hs : starEach [e, e2] X.env = [(false, eval e X.env), (false, eval e2 X.env)] := by rfl) (hs2 : starEach [e2] X.env = [(false, eval e2 X.env)] := by rfl) : SI Γ X tg (.Call (.Name "range" p) [e, e2] [] pos) (wRng2 w) :=
  .mk fun σ F H A ρ Q E R W hh tk el hw hq pins s I => by
  refine (pi_range2 (gl_of C hg) (by rw [C.mg]; exact C.bn _ (by decide +kernel)) pa_x hs hs2).run pins s σ H R I ?_
  refine h.run σ F H A ρ _ E _ W hh tk el hw fun svs ρ1 hw1 vs F1 H1 A1 B1 o1 => ?_
  split at hw1
  · obtain ⟨⟨l1, l2, l3, l4⟩, hw1⟩ := hw1
    obtain ⟨rfl, rfl⟩ := int2 o1
    exact ⟨_, _, rfl, ⟨l2, l1, l4, l3⟩, hq _ ρ1 hw1 _ F1 H1 A1 o1.oe o1.oh walks_range⟩
  · exact hw1.elim
/-! ### for -/
/-- forgetting is allowed between turns -/
def Nxt (ρ : Rho) (P : Rho → Prop) : Prop := ∃ ρ', Fgt ρ ρ' ∧ P ρ'
theorem Nxt.same {ρ : Rho} {P : Rho → Prop} (h : P ρ) : Nxt ρ P := ⟨ρ, Fgt.refl ρ, h⟩
def forL (g : WG) (wb : WS) : List D → Rho → Nd → EK → Prop
  | [], ρ, D, _ => D.nx ρ
  | d :: ds, ρ, D, E => g d ρ fun ρ1 => wb ρ1 { nx := fun ρ2 => Nxt ρ2 fun ρ3 => forL g wb ds ρ3 D E, ct := fun ρ2 => Nxt ρ2 fun ρ3 => forL g wb ds ρ3 D E, bk := D.nx, rt := D.rt } E
def wFor (wi : WI) (g : WG) (wb : WS) : WS := fun ρ D E => wi ρ (fun ds ρ1 => forL g wb ds ρ1 D E) E
/-- what X lets out of a loop's turn -/
def Own (X : Cx) : Prop := PassesOwn (model X.prog X.w) X.A X.env X.xe
theorem ss_for (C : Ctx Γ X N sc fp k) (P : Own X) {tg iter : Expr} {body : List Stmt} {pos : Pos} {wi : WI} {g : WG} {is : List Nat} {wb : WS} (hi : SI Γ X tg iter wi) (hg : SG Γ X tg g is) (hb : SSs Γ lk X body wb) (fr : Fre lk is := by rfl) (hs : ∀ x, foldedSetIterable iter X.env x = pure x := by intro _; rfl) : SS Γ lk X (.For tg iter body [] pos) (wFor wi g wb) :=
  .mk fun σ F H A ρ D E DV W hh tk el eo hw pins s I => by
  refine (ps_for P C.calm pi_x pg_x pss_x hs).run pins s σ H DV I ?_
  refine hi.run σ F H A ρ _ E _ W hh tk el.now hw fun ds ρ1 hw1 J F1 H1 A1 x1 h1 wk => ?_
  have el1 := el.ext x1 (.refl)
  have eo1 := eo.ext x1 (.refl)
  refine ⟨fun i m σ' H' => m = ds.length - i ∧ i ≤ ds.length ∧ ∃ F' ρ' A', Kp lk σ σ' ∧ Ext F1 H1 A1 F' H' A' ∧ hold Γ σ' F' H' ρ' A' ∧ forL g wb (ds.drop i) ρ' D E, ⟨ds.length, by simp, Nat.zero_le _, F1, ρ1, A1, .refl, Ext.refl, h1, by simpa using hw1⟩, ?_⟩
  rintro i m σ' H' ⟨rfl, hi, F', ρ', A', k2, x2, h2, hw2⟩
  by_cases hlt : i < ds.length
  · refine .inr ⟨wk.go i F' H' x2.sf h2.sub hlt, fun σ3 H3 => ∃ F3 ρ3 A3, Kp lk σ σ3 ∧ Ext F1 H1 A1 F3 H3 A3 ∧ hold Γ σ3 F3 H3 ρ3 A3 ∧ forL g wb (ds.drop (i + 1)) ρ3 D E, fun σ3 H3 z => ⟨ds.length - (i + 1), by omega, rfl, hlt, z⟩, fun x H3 y => ?_⟩
    obtain ⟨d, F3, e1, x3, h3, r3⟩ := wk.yld i F' H' A' σ' ρ' x H3 x2.sf h2 hlt y
    have e2 : ds.drop i = d :: ds.drop (i + 1) := by
      obtain ⟨hj, e⟩ := List.getElem?_eq_some_iff.mp e1
      rw [List.drop_eq_getElem_cons hj, e]
    rw [e2] at hw2
    unfold forL at hw2
    have x23 := x2.trans x3
    refine hg.run σ' F3 H3 A' ρ' x d _ _ h3 r3 hw2 fun ρ4 hk σ4 F4 H4 A4 w4 x4 h4 => ?_
    have x24 := x23.trans x4
    have k4 := k2.trans (w4.kp fr)
    have step : ∀ ρ5, (Nxt ρ5 fun ρ6 => forL g wb (ds.drop (i + 1)) ρ6 D E) → ∀ σ5 F5 H5 A5, Kp lk σ4 σ5 → Ext F4 H4 A4 F5 H5 A5 → hold Γ σ5 F5 H5 ρ5 A5 → ∃ F6 ρ6 A6, Kp lk σ σ5 ∧ Ext F1 H1 A1 F6 H5 A6 ∧ hold Γ σ5 F6 H5 ρ6 A6 ∧ forL g wb (ds.drop (i + 1)) ρ6 D E := fun ρ5 ⟨ρ6, fg, q⟩ σ5 F5 H5 A5 k5 x5 h5 => by
      obtain ⟨A6, h6, sub⟩ := Hold.fgt h5 fg
      exact ⟨F5, ρ6, A6, k4.trans k5, (x24.trans x5).sub sub, h6, q⟩
    refine hb.run σ4 F4 H4 A4 ρ4 { nx := fun ρ2 => Nxt ρ2 fun ρ3 => forL g wb (ds.drop (i + 1)) ρ3 D E, ct := fun ρ2 => Nxt ρ2 fun ρ3 => forL g wb (ds.drop (i + 1)) ρ3 D E, bk := D.nx, rt := D.rt } E _ W h4 tk (el1.ext x24 k4) ⟨step, fun ρ5 q σ5 F5 H5 A5 k5 x5 h5 => eo1.nx ρ5 q σ5 F5 H5 A5 (k4.trans k5) (x24.trans x5) h5, step, fun sv ρ5 q σ5 v F5 H5 A5 B5 k5 o => eo1.rt sv ρ5 q σ5 v F5 H5 A5 B5 (k4.trans k5) (o.pre x24)⟩ hk
  · have e : i = ds.length := by omega
    subst e
    rw [List.drop_length] at hw2
    exact .inl ⟨wk.stop _ F' H' x2.sf h2.sub (Nat.le_refl _), eo1.nx ρ' hw2 σ' F' H' A' k2 x2 h2⟩
/-! ### while -/
/-- I: what holds ahead of each test, with a measure -/
def wWh (t : WT) (wb : WS) : WS := fun ρ D E => ∃ I : Nat → Rho → Prop, (∃ m, I m ρ) ∧ ∀ m ρ, I m ρ → t ρ (fun b ρ1 => Br b (wb ρ1 { nx := fun ρ2 => Nxt ρ2 fun ρ3 => ∃ m', m' < m ∧ I m' ρ3, ct := fun ρ2 => Nxt ρ2 fun ρ3 => ∃ m', m' < m ∧ I m' ρ3, bk := D.nx, rt := D.rt } E) (D.nx ρ1)) E
theorem ss_while (P : Own X) {c : Expr} {body : List Stmt} {pos : Pos} {t : WT} {wb : WS} (ht : ST Γ X c t) (hb : SSs Γ lk X body wb) : SS Γ lk X (.While c body [] pos) (wWh t wb) := .mk fun σ F H A ρ D E DV W hh tk el eo hw pins s I => by
  obtain ⟨Iv, ⟨m0, i0⟩, turn⟩ := hw
  refine (ps_while P pt_x pss_x).run pins s σ H DV I ⟨fun m σ' H' => ∃ F' ρ' A', Kp lk σ σ' ∧ Ext F H A F' H' A' ∧ hold Γ σ' F' H' ρ' A' ∧ Iv m ρ', ⟨m0, F, ρ, A, .refl, Ext.refl, hh, i0⟩, ?_⟩
  rintro m σ' H' ⟨F', ρ', A', k1, x1, h1, i1⟩
  refine ht.use h1 tk (el.ext x1 k1).now (turn m ρ' i1) fun b ρ2 hk F2 H2 A2 x2 h2 => ?_
  have x12 := x1.trans x2
  cases b with
  | false => rw [if_neg Bool.false_ne_true]; exact eo.nx ρ2 (hk.f rfl) σ' F2 H2 A2 k1 x12 h2
  | true =>
    rw [if_pos rfl]
    refine ⟨fun σ3 H3 => ∃ m', m' < m ∧ ∃ F3 ρ3 A3, Kp lk σ σ3 ∧ Ext F H A F3 H3 A3 ∧ hold Γ σ3 F3 H3 ρ3 A3 ∧ Iv m' ρ3, fun σ3 H3 z => z, ?_⟩
    have step : ∀ ρ5, (Nxt ρ5 fun ρ6 => ∃ m', m' < m ∧ Iv m' ρ6) → ∀ σ5 F5 H5 A5, Kp lk σ' σ5 → Ext F2 H2 A2 F5 H5 A5 → hold Γ σ5 F5 H5 ρ5 A5 → ∃ m', m' < m ∧ ∃ F6 ρ6 A6, Kp lk σ σ5 ∧ Ext F H A F6 H5 A6 ∧ hold Γ σ5 F6 H5 ρ6 A6 ∧ Iv m' ρ6 := fun ρ5 ⟨ρ6, fg, m', hm, q⟩ σ5 F5 H5 A5 k5 x5 h5 => by
      obtain ⟨A6, h6, sub⟩ := Hold.fgt h5 fg
      exact ⟨m', hm, F5, ρ6, A6, k1.trans k5, (x12.trans x5).sub sub, h6, q⟩
    exact hb.run σ' F2 H2 A2 ρ2 { nx := fun ρ2 => Nxt ρ2 fun ρ3 => ∃ m', m' < m ∧ Iv m' ρ3, ct := fun ρ2 => Nxt ρ2 fun ρ3 => ∃ m', m' < m ∧ Iv m' ρ3, bk := D.nx, rt := D.rt } E _ W h2 tk (el.ext x12 k1) ⟨step, fun ρ5 q σ5 F5 H5 A5 k5 x5 h5 => eo.nx ρ5 q σ5 F5 H5 A5 (k1.trans k5) (x12.trans x5) h5, step, fun sv ρ5 q σ5 v F5 H5 A5 B5 k5 o => eo.rt sv ρ5 q σ5 v F5 H5 A5 B5 (k1.trans k5) (o.pre x12)⟩ (hk.t rfl)

/-! ### [e for t in it if c] -/
def wipeR (ρ : Rho) : List Nat → Rho
  | [] => ρ
  | v :: vs => (wipeR ρ vs).set v none
theorem Sl.noneAt {F H : Hp} {σ : Sg} {ρ : Rho} {A : List Addr} (h : Sl Γ.K Γ.cl F H σ ρ A) (i : Nat) : ∃ A0, Sl Γ.K Γ.cl F H (σ.set i none) (ρ.set i none) A0 ∧ A0.Sublist A := by
  induction h generalizing i with
  | nil => exact ⟨[], .nil, .refl _⟩
  | @skip x σ ρ A h ih =>
    cases i with
    | zero => exact ⟨A, .skip h, .refl _⟩
    | succ i => obtain ⟨A0, h1, h2⟩ := ih i; exact ⟨A0, .skip h1, h2⟩
  | @one v0 sv0 B0 σ ρ A r h ih =>
    cases i with
    | zero => exact ⟨A, .skip h, List.sublist_append_right _ _⟩
    | succ i => obtain ⟨A0, h1, h2⟩ := ih i; exact ⟨_, .one r h1, List.Sublist.append_left h2 _⟩
theorem hold_sub {F H : Hp} {σ σ' : Sg} {ρ ρ' : Rho} {A : List Addr} (hh : hold Γ σ F H ρ A) (f : ∀ {A}, Sl Γ.K Γ.cl F H σ ρ A → ∃ A0, Sl Γ.K Γ.cl F H σ' ρ' A0 ∧ A0.Sublist A) : ∃ A', hold Γ σ' F H ρ' A' ∧ ∀ a ∈ A', a ∈ A := by
  obtain ⟨A1, s, p⟩ := hh.sl
  obtain ⟨A0, h1, h2⟩ := f s
  have hm : ∀ a ∈ A0, a ∈ A := fun a m => p.mem_iff.mp (h2.subset m)
  exact ⟨A0, ⟨⟨A0, h1, .refl _⟩, hh.sub, (p.nodup_iff.mpr hh.nd).sublist h2, fun a m => hh.av a (hm a m)⟩, hm⟩
theorem hold_wipe {F H : Hp} {σ : Sg} {ρ : Rho} {A : List Addr} (hh : hold Γ σ F H ρ A) : ∀ vs : List Nat, ∃ A', hold Γ (wipe σ vs) F H (wipeR ρ vs) A' ∧ ∀ a ∈ A', a ∈ A
  | [] => ⟨A, hh, fun _ m => m⟩
  | v :: vs => by
    obtain ⟨A1, h1, s1⟩ := hold_wipe hh vs
    obtain ⟨A2, h2, s2⟩ := hold_sub h1 fun s => s.noneAt v
    exact ⟨A2, h2, fun a m => s1 a (s2 a m)⟩
theorem Sl.back {F H : Hp} {σ : Sg} {ρ : Rho} {A : List Addr} (h : Sl Γ.K Γ.cl F H σ ρ A) : ∀ {σ' : Sg}, σ'.length = σ.length → (∀ (i : Nat) v, σ[i]? = some (some v) → σ'[i]? = some (some v)) → Sl Γ.K Γ.cl F H σ' ρ A := by
  induction h with
  | nil => intro σ' hl _; cases σ' with | nil => exact .nil | cons _ _ => simp at hl
  | skip h ih =>
    intro σ' hl w
    cases σ' with
    | nil => simp at hl
    | cons y σ' => exact .skip (ih (by simpa using hl) fun i v e => by simpa using w (i + 1) v (by simpa using e))
  | one r h ih =>
    intro σ' hl w
    cases σ' with
    | nil => simp at hl
    | cons y σ' =>
      have e0 := w 0 _ rfl
      simp at e0
      subst e0
      exact .one r (ih (by simpa using hl) fun i v e => by simpa using w (i + 1) v (by simpa using e))
theorem hold_back {F H : Hp} {σ : Sg} {ρ : Rho} {A : List Addr} {vs : List Nat} (hh : hold Γ (wipe σ vs) F H ρ A) : hold Γ σ F H ρ A := by
  obtain ⟨A1, s, p⟩ := hh.sl
  exact ⟨⟨A1, s.back (wipe_length σ vs).symm fun i v e => (wipe_some e).1, p⟩, hh.sub, hh.nd, hh.av⟩
/-- an untracked-by-us list grows -/
theorem hold_out {F H : Hp} {σ : Sg} {ρ : Rho} {A : List Addr} {p : Addr} {o : HO} (hh : hold Γ σ F H ρ A) (nF : F p = none) (nA : p ∉ A) : hold Γ σ F (upd H p o) ρ A := by
  obtain ⟨A1, s, q⟩ := hh.sl
  refine ⟨⟨A1, s.mono (Same.refl F) fun b m u e => ?_, q⟩, fun b u e => ?_, hh.nd, hh.av⟩
  · rw [upd_ne (fun z => nA (by rw [← z]; exact q.mem_iff.mp m))]
    exact e
  · rw [upd_ne (fun z => by rw [z, nF] at e; cases e)]
    exact hh.sub b u e
def wpXTs (X : Cx) (ifs : List Expr) : TT := fun σ H Q => ∀ pins s, Inv X pins σ H s →
  wpAny (model X.prog X.w) X.A (forIn ifs true fun c r => if r = true then do let ok ← isTrue c X.env (eval c X.env); pure (ForInStep.yield ok) else pure (ForInStep.yield r)) (TP X pins σ Q) X.xe s
theorem pts_x {ifs : List Expr} : PTs X ifs (wpXTs X ifs) := ⟨fun pins s _ _ _ I h => h pins s I⟩
structure STs (Γ : Wd) (X : Cx) (ifs : List Expr) (w : WT) : Prop where
  run : ∀ (σ : Sg) (F H : Hp) (A : List Addr) (ρ : Rho) (Q : Bool → Rho → Prop) (E : EK) (QV : Bool → Hp → Prop) (W : WX), hold Γ σ F H ρ A → Takes X W → EL Γ σ F H A E W → w ρ Q E →
    (∀ b ρ', Q b ρ' → ∀ F' H' A', Ext F H A F' H' A' → hold Γ σ F' H' ρ' A' → QV b H') → wpXTs X ifs σ H QV
def wYes : WT := fun ρ Q _ => Q true ρ
theorem sts_nil : STs Γ X [] wYes := .mk fun σ F H A ρ Q E QV W hh tk el hw hq pins s I => pts_nil.run pins s σ H QV I (hq true ρ hw F H A Ext.refl hh)
theorem sts_one {c : Expr} {w : WT} (h : ST Γ X c w) : STs Γ X [c] w := .mk fun σ F H A ρ Q E QV W hh tk el hw hq pins s I => (pts_one pt_x).run pins s σ H QV I (h.use hh tk el hw hq)
def compL (g : WG) (wt : WT) (we : WE) (own : List Nat) : List D → List D → Rho → (List D → Rho → Prop) → Prop
  | [], acc, ρ, K => K acc ρ
  | d :: ds, acc, ρ, K => g d ρ fun ρ1 => wt ρ1 (fun b ρ2 => Br b
      (we ρ2 (fun y ρ3 => keep y ρ3 fun x ρ4 => acc.length < 16777216 ∧ compL g wt we own ds (acc ++ [x]) (wipeR ρ4 own) K) noE)
      (compL g wt we own ds acc (wipeR ρ2 own) K)) noE
def wLc (wi : WI) (g : WG) (wt : WT) (we : WE) (own : List Nat) : WE := fun ρ Q E => wi ρ (fun ds ρ1 => compL g wt we own ds [] (wipeR ρ1 own) fun acc ρ2 => Q (.lst acc) ρ2) E
/-- the contexts of a comprehension's block -/
def Blk (Γ : Wd) (N : List Str) (sc scope : Scope) (k : Nat) (X : Cx) : Prop := Ctx Γ X N (relS scope sc) (fun x => scope.names.lookup x == some .cell) k ∧ Takes X fun _ _ _ _ => False
theorem blk_ctx (C : Ctx Γ X N sc fp k) {scope : Scope} (s : Shared) (H : Hp) (cl : List (Str × Addr)) (a : Addr) (fp' : List Addr) : Blk Γ N sc scope k (X.blk s H scope (compEnvC scope cl a X.env) fp') :=
  ⟨⟨C.p, C.w, C.K, C.mg, C.base, C.hN, C.nd, by show relS scope X.env.scope = _; rw [C.hs], C.calm, C.room, C.gd, rfl, C.bn⟩, fun _ _ ⟨_, _, _, _, _, _, _, _, _, _, _, _, _, _, _, _, z⟩ => z.elim⟩
abbrev bG (Γ : Wd) (N : List Str) (sc scope : Scope) (k : Nat) (tg : Expr) : TG := fun v σ H Q => ∀ X', Blk Γ N sc scope k X' → wpXG X' tg v σ H Q
abbrev bT (Γ : Wd) (N : List Str) (sc scope : Scope) (k : Nat) (ifs : List Expr) : TT := fun σ H Q => ∀ X', Blk Γ N sc scope k X' → wpXTs X' ifs σ H Q
abbrev bE (Γ : Wd) (N : List Str) (sc scope : Scope) (k : Nat) (elt : Expr) : TE := fun σ H Q => ∀ X', Blk Γ N sc scope k X' → wpX X' elt σ H Q
theorem lc_ok (C : Ctx Γ X N sc fp k) {tg iter elt : Expr} {ifs : List Expr} {scope : Scope} {own is : List Nat} {wi : WI} {g : WG} {wt : WT} {we : WE} (hi : SI Γ X tg iter wi) (hsub : ∀ i ∈ is, i ∈ own)
    (hg : ∀ X', Blk Γ N sc scope k X' → SG Γ X' tg g is) (ht : ∀ X', Blk Γ N sc scope k X' → STs Γ X' ifs wt) (he : ∀ X', Blk Γ N sc scope k X' → SE Γ X' elt we)
    {σ : Sg} {F H : Hp} {A : List Addr} {ρ : Rho} {Q : WK} {E : EK} {QV : VK} {W : WX} (hh : hold Γ σ F H ρ A) (tk : Takes X W) (el : EL Γ σ F H A E W) (hw : wLc wi g wt we own ρ Q E)
    (hq : ∀ sv ρ', Q sv ρ' → ∀ v F' H' A' B, Out Γ σ F H A ρ' sv v F' H' A' B → QV v H') :
    tLc (wpXI X tg iter) (bG Γ N sc scope k tg) (bT Γ N sc scope k ifs) (bE Γ N sc scope k elt) own σ H QV := by
  refine hi.run σ F H A ρ _ E _ W hh tk el hw fun ds ρ1 hw1 J F1 H1 A1 x1 h1 wk => ?_
  intro dst hD
  obtain ⟨hn1, hn2, nF, nA⟩ := hold_new (o := .lst []) h1 hD
  obtain ⟨A2, h2, s2⟩ := hold_wipe hn1 own
  refine ⟨fun i m H' => m = ds.length - i ∧ i ≤ ds.length ∧ ∃ F' ρ' A' vs acc, Ext F1 H1 A1 F' H' ([dst] ++ A') ∧ hold Γ (wipe σ own) F' H' ρ' A' ∧ H' dst = some (.lst vs) ∧ F' dst = none ∧ dst ∉ A' ∧ repL Γ F' vs acc ∧ compL g wt we own (ds.drop i) acc ρ' (fun acc ρ2 => Q (.lst acc) ρ2),
    ⟨ds.length, by simp, Nat.zero_le _, F1, _, A2, [], [], hn2.sub (fun a m => by simp only [List.cons_append, List.nil_append, List.mem_cons] at m ⊢; exact m.imp id (s2 a)), h2, upd_same, nF, fun m => nA (s2 dst m), RL.nil, by simpa using hw1⟩, ?_⟩
  rintro i m H' ⟨rfl, hi', F', ρ', A', vs, acc, x3, h3, hD3, nF3, nA3, r3, hw3⟩
  by_cases hlt : i < ds.length
  · refine .inr ⟨wk.go i F' H' x3.sf h3.sub hlt, fun H'' => ∃ F' ρ' A' vs acc, Ext F1 H1 A1 F' H'' ([dst] ++ A') ∧ hold Γ (wipe σ own) F' H'' ρ' A' ∧ H'' dst = some (.lst vs) ∧ F' dst = none ∧ dst ∉ A' ∧ repL Γ F' vs acc ∧ compL g wt we own (ds.drop (i + 1)) acc ρ' (fun acc ρ2 => Q (.lst acc) ρ2),
      fun H'' z => ⟨ds.length - (i + 1), by omega, rfl, hlt, z⟩, fun x H4 y => ?_⟩
    obtain ⟨d, F4, e1, x4, h4, r4⟩ := wk.yld i F' H' A' _ ρ' x H4 x3.sf h3 hlt y
    have e2 : ds.drop i = d :: ds.drop (i + 1) := by
      obtain ⟨hj, e⟩ := List.getElem?_eq_some_iff.mp e1
      rw [List.drop_eq_getElem_cons hj, e]
    rw [e2] at hw3
    unfold compL at hw3
    have keepD : ∀ {F5 H5 : Hp} {A5 : List Addr}, Ext F' H' A' F5 H5 A5 → H5 dst = some (.lst vs) ∧ F5 dst = none ∧ dst ∉ A5 := fun {F5 H5 A5} z => by
      refine ⟨z.fr dst _ hD3 nA3, ?_, fun m => ?_⟩
      · cases e : F5 dst with
        | none => rfl
        | some u =>
          rcases z.nf dst u e with q | q | q
          · rw [nF3] at q; cases q
          · rw [hD3] at q; cases q
          · exact absurd q nA3
      · rcases z.na dst m with q | q
        · exact nA3 q
        · rw [hD3] at q; cases q
    intro X' hX'
    have elF : ∀ {σ5 : Sg} {F5 H5 : Hp} {A5 : List Addr}, EL Γ σ5 F5 H5 A5 noE (fun _ _ _ _ => False) := fun {σ5 F5 H5 A5} _ _ _ z => z.elim
    refine (hg X' hX').run _ F4 H4 A' ρ' x d _ _ h4 r4 hw3 fun ρ5 hk5 σ5 F5 H5 A5 w5 x5 h5 => ?_
    have ew : wipe σ5 own = wipe σ own := (w5 own hsub).trans (by
      have idem : ∀ (σ : Sg) (vs : List Nat), wipe (wipe σ vs) vs = wipe σ vs := fun σ vs => by
        apply List.ext_getElem?
        intro j
        by_cases hj : j ∈ vs
        · have key : ∀ (σ : Sg) (ls : List Nat), j ∈ ls → (wipe σ ls)[j]? = (if j < σ.length then some none else none) := fun σ ls hm => by
            induction ls with
            | nil => cases hm
            | cons l ls ih =>
              unfold wipe
              by_cases el : l = j
              · subst el
                by_cases hlt : l < σ.length
                · rw [List.getElem?_set_self (by rw [wipe_length]; exact hlt), if_pos hlt]
                · rw [if_neg hlt, List.getElem?_eq_none]
                  rw [List.length_set, wipe_length]; omega
              · rw [List.getElem?_set_ne el]
                exact ih (by rcases List.mem_cons.mp hm with z | z; exact absurd z.symm el; exact z)
          rw [key _ _ hj, key _ _ hj, wipe_length]
        · rw [wipe_out hj]
      exact idem σ own)
    refine ⟨ew, fun X' hX' => ?_⟩
    have x45 := x4.trans x5
    refine (ht X' hX').run σ5 F5 H5 A5 ρ5 _ noE _ _ h5 hX'.2 elF hk5 fun b ρ6 hk6 F6 H6 A6 x6 h6 => ?_
    have x46 := x45.trans x6
    have x36 := x3.trans (x46.frame (B := [dst]))
    -- the turn's end
    have fin : ∀ {F7 H7 : Hp} {A7 : List Addr} {ρ7 : Rho} {vs' : List V} {acc' : List D}, Ext F1 H1 A1 F7 H7 ([dst] ++ A7) → hold Γ σ5 F7 H7 ρ7 A7 → H7 dst = some (.lst vs') → F7 dst = none → dst ∉ A7 → repL Γ F7 vs' acc' → compL g wt we own (ds.drop (i + 1)) acc' (wipeR ρ7 own) (fun acc ρ2 => Q (.lst acc) ρ2) →
        ∃ F' ρ' A' vs acc, Ext F1 H1 A1 F' H7 ([dst] ++ A') ∧ hold Γ (wipe σ own) F' H7 ρ' A' ∧ H7 dst = some (.lst vs) ∧ F' dst = none ∧ dst ∉ A' ∧ repL Γ F' vs acc ∧ compL g wt we own (ds.drop (i + 1)) acc ρ' (fun acc ρ2 => Q (.lst acc) ρ2) := fun {F7 H7 A7 ρ7 vs' acc'} y1 y2 y3 y4 y5 y6 y7 => by
      obtain ⟨A8, h8, s8⟩ := hold_wipe y2 own
      rw [ew] at h8
      exact ⟨F7, _, A8, vs', acc', y1.sub (fun a m => by simp only [List.cons_append, List.nil_append, List.mem_cons] at m ⊢; exact m.imp id (s8 a)), h8, y3, y4, fun m => y5 (s8 dst m), y6, y7⟩
    cases b with
    | false =>
      rw [if_neg Bool.false_ne_true]
      obtain ⟨z1, z2, z3⟩ := keepD x46
      exact fin x36 h6 z1 z2 z3 (RL.mono x46.sf r3) (hk6.f rfl)
    | true =>
      rw [if_pos rfl]
      intro X' hX'
      refine (he X' hX').use h6 hX'.2 elF (hk6.t rfl) fun sy ρ7 q7 v F7 H7 A7 B7 o => ?_
      obtain ⟨dd, ρ8, F8, A8, ⟨hl8, hk8⟩, x8, h8, r8, _⟩ := keep_ok o.oh o.ors o.ond o.ofb q7
      have x48 := x46.trans (o.oe.trans x8)
      obtain ⟨z1, z2, z3⟩ := keepD x48
      have r3' := RL.mono x48.sf r3
      refine ⟨vs, z1, by rw [RL.length r3', line_eq]; exact hl8, ?_⟩
      refine fin (F7 := F8) (vs' := vs ++ [v]) (acc' := acc ++ [dd]) ?_ (hold_out h8 z2 z3) upd_same z2 z3 (r3'.append (RL.cons r8 RL.nil)) hk8
      refine (x3.trans (x48.frame (B := [dst]))).trans ⟨Same.refl _, fun a u e n => ?_, fun a u e => .inl e, fun a m => .inl m⟩
      rw [upd_ne (fun z => n (by simp [z]))]
      exact e
  · have e : i = ds.length := by omega
    subst e
    rw [List.drop_length] at hw3
    refine .inl ⟨wk.stop _ F' H' x3.sf h3.sub (Nat.le_refl _), hq _ ρ' hw3 _ F' H' A' [dst] ⟨x1.trans x3, hold_back h3, ?_, ?_, fun b m => ?_⟩⟩
    · unfold rs RS
      exact ⟨dst, vs, rfl, hD3, r3, rfl⟩
    · simp only [List.cons_append, List.nil_append, List.nodup_cons]
      exact ⟨nA3, h3.nd⟩
    · rw [List.mem_singleton] at m
      rw [m]
      exact nF3
/-- [e for t in it if c], as a value -/
theorem se_lc (C : Ctx Γ X N sc fp k) {tg iter elt : Expr} {ifs : List Expr} {scope : Scope} {own : List (Str × Nat)} {is : List Nat} {pos : Pos} {wi : WI} {g : WG} {wt : WT} {we : WE} (ok : blkC N sc scope own = true) (hsub : is.all (fun i => (own.map (·.2)).contains i) = true) (hi : SI Γ X tg iter wi)
    (hg : ∀ X', Blk Γ N sc scope k X' → SG Γ X' tg g is) (ht : ∀ X', Blk Γ N sc scope k X' → STs Γ X' ifs wt) (he : ∀ X', Blk Γ N sc scope k X' → SE Γ X' elt we) (hs : ∀ x, foldedSetIterable iter X.env x = pure x := by intro _; rfl) :
    SE Γ X (.ListComp elt [⟨tg, iter, ifs, 0⟩] scope pos) (wLc wi g wt we (own.map (·.2))) := .mk fun σ F H A ρ Q E QV W hh tk el hw hq pins s I =>
  (pe_lc (own := own) C.calm (by rw [C.hN]; exact C.nd) pi_x (by rw [C.hN, C.hs]; exact blkOk_by ok) (fun s H c cl f => ⟨fun pins s' σ H v u Q I r h => h _ (blk_ctx C s _ cl c f) pins s' u I r⟩) (fun s H c cl f => ⟨fun pins s' σ H Q I h => h _ (blk_ctx C s _ cl c f) pins s' I⟩) (fun s H c cl f => ⟨fun pins s' σ H Q I h => h _ (blk_ctx C s _ cl c f) pins s' I⟩) hs).run pins s σ H QV I
    (lc_ok C hi (fun i m => by simpa using List.all_eq_true.mp hsub i m) hg ht he hh tk el hw hq)
/-- name = [..] on one line -/
theorem ss_asgLc (C : Ctx Γ X N sc fp k) (j : Nat) (fr : lk.contains j = false := by rfl) {y : Str} {py : Pos} {tg iter elt : Expr} {ifs : List Expr} {scope : Scope} {own : List (Str × Nat)} {is : List Nat} {pos spos : Pos} {wi : WI} {g : WG} {wt : WT} {we : WE} (hy : N[j]? = some y) (hyl : sc.names.lookup y = some .local) (hl : (py.line == pos.line) = true)
    (hany : (scope.names.any fun (n, k) => n == y && (k == .local || k == .cell)) = false) (ok : blkC N sc scope own = true) (hsub : is.all (fun i => (own.map (·.2)).contains i) = true) (hi : SI Γ X tg iter wi)
    (hg : ∀ X', Blk Γ N sc scope k X' → SG Γ X' tg g is) (ht : ∀ X', Blk Γ N sc scope k X' → STs Γ X' ifs wt) (he : ∀ X', Blk Γ N sc scope k X' → SE Γ X' elt we) (hkind : sc.kind = .function := by rfl) (hs : ∀ x, foldedSetIterable iter X.env x = pure x := by intro _; rfl) :
    SS Γ lk X (.Assign [.Name y py] (.ListComp elt [⟨tg, iter, ifs, 0⟩] scope pos) spos) (wAsg j (wLc wi g wt we (own.map (·.2)))) := .mk fun σ F H A ρ D' E DV W hh tk el eo hw pins s I => by
  refine (ps_setLc (i := j) (own := own) (g := bG Γ N sc scope k tg) (tt := bT Γ N sc scope k ifs) (te := bE Γ N sc scope k elt) C.calm (by rw [C.hN]; exact C.nd) (by rw [C.hN]; exact hy) (by rw [C.hs]; exact hyl) (sw_true (by rw [C.hs]; exact hkind) (by rw [C.hs]; exact hyl) hl hany) pi_x (by rw [C.hN, C.hs]; exact blkOk_by ok) (fun s H c cl f => ⟨fun pins s' σ H v u Q I r h => h _ (blk_ctx C s _ cl c f) pins s' u I r⟩) (fun s H c cl f => ⟨fun pins s' σ H Q I h => h _ (blk_ctx C s _ cl c f) pins s' I⟩) (fun s H c cl f => ⟨fun pins s' σ H Q I h => h _ (blk_ctx C s _ cl c f) pins s' I⟩) hs).run pins s σ H DV I ?_
  refine lc_ok C hi (fun i m => by simpa using List.all_eq_true.mp hsub i m) hg ht he hh tk el.now hw fun sv ρ1 q v F1 H1 A1 B1 o => ?_
  obtain ⟨ρ2, F2, A2, hk, x2, h4⟩ := put_ok o (len_of C I hy) q
  exact eo.nx ρ2 hk _ F2 H1 A2 (.set fr) x2 h4
end
end Dv

/-! Dv9: what a def is worth (contracts), defs by their bodies, calls. -/
namespace Dv
open PySem PySem.Spec PyProof.Rows L2
abbrev Con := List SV → (SV → List SV → Prop) → (Nat → D → List SV → Prop) → Prop
/-- io: which arguments a def may change (lists and instances that the caller owns); the others are data -/
inductive ArgOk : List Bool → List SV → Prop
  | nil : ArgOk [] []
  | io {b sv} : ArgOk b sv → ∀ {x}, ArgOk (true :: b) (x :: sv)
  | dat {b sv} : ArgOk b sv → ∀ {x}, ArgOk (false :: b) (.d x :: sv)
def endA : List Bool → List SV → Rho → Option (List SV)
  | [], [], _ => some []
  | true :: io, _ :: svs, some x :: ρ => match endA io svs ρ with
    | some r => some (x :: r)
    | none => none
  | false :: io, x :: svs, _ :: ρ => match endA io svs ρ with
    | some r => some (x :: r)
    | none => none
  | _, _, _ => none
def lkOf : List Bool → Nat → List Nat
  | [], _ => []
  | true :: io, n => n :: lkOf io (n + 1)
  | false :: io, n => lkOf io (n + 1)
section
variable (Γ : Wd)
/-- a def's promise, of its contract -/
def spC (io : List Bool) (con : Con) : Sp := fun vs H Q E => ∃ (F : Hp) (A : List Addr) (svs : List SV) (Qc : SV → List SV → Prop) (Ec : Nat → D → List SV → Prop),
  ArgOk io svs ∧ hold Γ (vs.map some) F H (svs.map some) A ∧ con svs Qc Ec ∧
  (∀ sv svs', Qc sv svs' → ∀ v F' H' A' B, Out Γ (vs.map some) F H A (svs'.map some) sv v F' H' A' B → Q v H') ∧
  (∀ k x svs', Ec k x svs' → ∀ F' H' A' dx v, Ext F H A F' H' A' → hold Γ (vs.map some) F' H' (svs'.map some) A' → H' dx = some (.xd [(("value" : Str), v)]) → rep Γ F' v x → E (.ref (Γ.exc k)) (some dx) H')
/-- as HandS has it, where no repr is under way -/
structure FnG (k : Nat) (f : Addr) (fd : FuncData) (ps : List Str) (sp : Sp) : Prop where
  len : ∀ vs H Q E, sp vs H Q E → vs.length = ps.length
  run : ∀ (A : Around) (outer : List Env) (s : Shared) (H : Hp) (args : Args) (us : List Value) (vs : List V) (Q : VK) (E : XK), Room k A → A.guards = some [] → Env0 Γ.P Γ.w Γ.K Γ.mg Γ.base A outer s H → BindsTo s fd args (ps.zip us) → Vals vs us → sp vs H Q E →
    codeAny (model Γ.P Γ.w) A (.call (.ref f) args) (CR (CX Γ.P Γ.w) outer Γ.P Γ.w H s Q E) s
end
section
variable {Γ : Wd}
theorem FnG.mono {j k : Nat} {f : Addr} {fd : FuncData} {ps : List Str} {sp : Sp} (F : FnG Γ j f fd ps sp) (h : j ≤ k) : FnG Γ k f fd ps sp :=
  ⟨F.len, fun A outer s H args us vs Q E hr hg => F.run A outer s H args us vs Q E (hr.mono h) hg⟩
theorem ArgOk.length : ∀ {io : List Bool} {svs : List SV}, ArgOk io svs → svs.length = io.length
  | _, _, .nil => rfl
  | _, _, .io h => by simp [h.length]
  | _, _, .dat h => by simp [h.length]
/-- a def's own context -/
structure DefCx (X : Cx) : Prop where
  st : X.stack = X.env :: X.outer
  fr : X.env.frame = some X.env.locals
/-- THE RULE, the call's side: a def by its body -/
theorem fnG_run {k : Nat} {f : Addr} {x qual : Str} {st : Stmt} {fd : FuncData} {N ps : List Str} {sp : Sp} (F : Fun Γ.K x qual st f fd) (S : FnScope N ps (defScope st)) (len : ∀ vs H Q E, sp vs H Q E → vs.length = ps.length)
    (body : ∀ (cdv : Value) (A : Around) (outer : List Env) (s : Shared) (H : Hp) (vs : List V) (Q : VK) (E : XK), Room k (A.deeper (envOfC qual (defScope st) s.heap.objs.size f cdv)) → (A.deeper (envOfC qual (defScope st) s.heap.objs.size f cdv)).guards = some [] → sp vs H Q E →
      wpXSs (cxOf (CX Γ.P Γ.w) Γ.P Γ.w Γ.K Γ.mg Γ.base N qual (defScope st) f cdv A outer s H E) (defBody st) { nx := fun _ H' => Q .non H', rt := Q } (L2.start N vs) H) : FnG Γ (k + 1) f fd ps sp := by
  obtain ⟨oc, od, kV, doc, pm, an, cdv, ct, osl, rfl, lk, hcd⟩ := F.ex
  refine ⟨len, fun A outer s H args us vs Q E room guards e0 binds rel want => ?_⟩
  have hl := len _ _ _ _ want
  have kin : Γ.K.In s.heap := e0.mod.kin.keeps fun b o z => (e0.bs b o z).1
  have nolim : s.heap.NoLimit := e0.mod.nolimit.keeps fun b o z => (e0.bs b o z).1
  have kinds : ∀ y ∈ ps.zip us, (defScope st).names.lookup y.1 = some .local ∨ ((defScope st).names.lookup y.1 = some .cell ∧ ((cellsFrom (s.heap.objs.size + 1) (defScope st).names []).lookup y.1).isSome = true) := by
    rintro ⟨n, v⟩ hy
    rcases S.par n (List.of_mem_zip hy).1 with q | q
    · exact Or.inl q
    · exact Or.inr ⟨q, PySem.W.cellsFrom_some _ _ _ (Or.inl q)⟩
  refine codeAny_call_function room.depth (kin _ _ lk) rfl S.co S.gen rfl (PySem.W.codeRec_of kin hcd) (binds _ _ _ _ (wpAny_newFunctionEnv_cells S.kind kinds fun env he s1 xx => ?_))
  subst he
  refine ⟨nolim.keeps xx.toInCall.keep, codeAny_func ?_⟩
  have I0 := inv_start (CX := CX Γ.P Γ.w) (P := Γ.P) (w := Γ.w) (E := E) S room.hd e0 hl rel xx
  refine wpAny_mono (body cdv A outer s H vs Q E (room.deeper _) (by show A.guards = _; exact guards) want [] s1 I0) (fun fl s' ends => ?_) fun _ _ z => z
  have done : ∀ {σ' : Sg} {H' : Hp} {v : V} {u : Value}, Inv (cxOf (CX Γ.P Γ.w) Γ.P Γ.w Γ.K Γ.mg Γ.base N qual (defScope st) f cdv A outer s H E) [] σ' H' s' → RelV v u → Q v H' → CE outer Γ.P Γ.w H s Q u s' := by
    intro σ' H' v u J rv q
    exact ⟨v, H', J.os, J.bare, J.base, J.hok, rv, q⟩
  cases fl with
  | next => obtain ⟨σ', H', J, q⟩ := ends; exact done (v := V.non) (u := Value.none) J rfl q
  | ret u => obtain ⟨v, σ', H', J, rv, q⟩ := ends; exact done J rv q
  | brk => obtain ⟨_, _, _, q⟩ := ends; exact q.elim
  | cont => obtain ⟨_, _, _, q⟩ := ends; exact q.elim
/-- the arguments at the end -/
theorem args_end {F' H' : Hp} : ∀ {io : List Bool} {svs svs' : List SV} {vs : List V} {σ' : Sg} {ρ' : Rho} {A' : List Addr}, Sl Γ.K Γ.cl F' H' σ' ρ' A' → ArgOk io svs → vs.length = io.length →
    (∀ (i : Nat) (v : V), io[i]? = some true → vs[i]? = some v → σ'[i]? = some (some v)) → (∀ (i : Nat) (v : V) (x : D), vs[i]? = some v → svs[i]? = some (SV.d x) → rep Γ F' v x) → endA io svs ρ' = some svs' →
    ∃ A'', Sl Γ.K Γ.cl F' H' (vs.map some) (svs'.map some) A'' ∧ A''.Sublist A'
  | [], svs, svs', vs, σ', ρ', A', s, ok, hl, h1, h2, e => by
    cases ok
    cases vs with
    | nil => simp [endA] at e; subst e; exact ⟨[], .nil, List.nil_sublist _⟩
    | cons _ _ => simp at hl
  | true :: io, svs, svs', vs, σ', ρ', A', s, ok, hl, h1, h2, e => by
    cases ok with
    | io ok =>
      cases vs with
      | nil => simp at hl
      | cons v vs =>
        cases s with
        | nil => simp [endA] at e
        | skip s => simp [endA] at e
        | @one v' sv B σ ρ A r s =>
          unfold endA at e
          split at e
          · rename_i r' e1
            cases e
            have q := h1 0 v rfl rfl
            simp at q; subst q
            obtain ⟨A2, s2, sb⟩ := args_end s ok (by simpa using hl) (fun i v a b => by simpa using h1 (i + 1) v (by simpa using a) (by simpa using b)) (fun i v x a b => h2 (i + 1) v x (by simpa using a) (by simpa using b)) e1
            exact ⟨B ++ A2, .one r s2, List.Sublist.append_left sb _⟩
          · cases e
  | false :: io, svs, svs', vs, σ', ρ', A', s, ok, hl, h1, h2, e => by
    cases ok with
    | @dat _ sv ok x =>
      cases vs with
      | nil => simp at hl
      | cons v vs =>
        have go : ∀ {σ : Sg} {ρ : Rho} {A : List Addr} {r' : List SV}, Sl Γ.K Γ.cl F' H' σ ρ A → endA io sv ρ = some r' → (∀ (i : Nat) (v : V), io[i]? = some true → vs[i]? = some v → σ[i]? = some (some v)) → ∃ A'', Sl Γ.K Γ.cl F' H' ((v :: vs).map some) (((SV.d x) :: r').map some) A'' ∧ A''.Sublist A := fun {σ ρ A r'} s e1 h1' => by
          obtain ⟨A2, s2, sb⟩ := args_end s ok (by simpa using hl) h1' (fun i v x a b => h2 (i + 1) v x (by simpa using a) (by simpa using b)) e1
          exact ⟨[] ++ A2, .one (by unfold RS; exact ⟨h2 0 v x rfl rfl, rfl⟩) s2, by simpa using sb⟩
        cases s with
        | nil => simp [endA] at e
        | skip s =>
          unfold endA at e
          split at e
          · rename_i r' e1
            cases e
            exact go s e1 fun i v a b => by simpa using h1 (i + 1) v (by simpa using a) (by simpa using b)
          · cases e
        | one r s =>
          unfold endA at e
          split at e
          · rename_i r' e1
            cases e
            obtain ⟨A2, s2, sb⟩ := go s e1 fun i v a b => by simpa using h1 (i + 1) v (by simpa using a) (by simpa using b)
            exact ⟨A2, s2, sb.trans (List.sublist_append_right _ _)⟩
          · cases e
theorem lk_mem : ∀ {io : List Bool} {n i : Nat}, io[i]? = some true → n + i ∈ lkOf io n
  | [], n, i, h => by simp at h
  | b :: io, n, 0, h => by
    simp at h; subst h
    unfold lkOf
    simp
  | true :: io, n, i + 1, h => by
    unfold lkOf
    refine List.mem_cons_of_mem _ ?_
    have := lk_mem (io := io) (n := n + 1) (i := i) (by simpa using h)
    rw [show n + (i + 1) = n + 1 + i by omega]
    exact this
  | false :: io, n, i + 1, h => by
    unfold lkOf
    have := lk_mem (io := io) (n := n + 1) (i := i) (by simpa using h)
    rw [show n + (i + 1) = n + 1 + i by omega]
    exact this
def startR (N : List Str) (svs : List SV) : Rho := svs.map some ++ List.replicate (N.length - svs.length) none
def endsOf (io : List Bool) (svs : List SV) (Q : SV → List SV → Prop) : Nd where
  nx := fun ρ => match endA io svs ρ with
    | some svs' => Q (.d .non) svs'
    | none => False
  rt := fun sv ρ => match sv with
    | .sl _ => False
    | sv => match endA io svs ρ with
      | some svs' => Q sv svs'
      | none => False
  bk := fun _ => False
  ct := fun _ => False
def errsOf (io : List Bool) (svs : List SV) (E : Nat → D → List SV → Prop) : EK := fun k x ρ => match endA io svs ρ with
  | some svs' => E k x svs'
  | none => False
theorem Sl.start {F H : Hp} : ∀ {vs : List V} {svs : List SV} {A : List Addr} (n : Nat), Sl Γ.K Γ.cl F H (vs.map some) (svs.map some) A → Sl Γ.K Γ.cl F H (vs.map some ++ List.replicate n none) (svs.map some ++ List.replicate n none) A := fun {vs svs A} n s => by
  have key : ∀ {σ : Sg} {ρ : Rho} {A : List Addr}, Sl Γ.K Γ.cl F H σ ρ A → Sl Γ.K Γ.cl F H (σ ++ List.replicate n none) (ρ ++ List.replicate n none) A := fun {σ ρ A} s => by
    induction s with
    | nil =>
      rw [List.nil_append, List.nil_append]
      induction n with
      | zero => exact .nil
      | succ n ih => rw [List.replicate_succ, List.replicate_succ]; exact .skip ih
    | skip _ ih => exact .skip ih
    | one r _ ih => exact .one r ih
  exact key s
/-- THE RULE: a def keeps its contract -/
theorem fnG_of {k : Nat} {f : Addr} {x qual : Str} {st : Stmt} {fd : FuncData} {N ps : List Str} {io : List Bool} {con : Con} {w : WS} (F : Fun Γ.K x qual st f fd) (S : FnScope N ps (defScope st)) (bn : ∀ x ∈ bnames, Γ.mg x = none) (hio : io.length = ps.length)
    (tr : ∀ X, Ctx Γ X N (defScope st) (fun _ => true) k → Own X → DefCx X → SSs Γ (lkOf io 0) X (defBody st) w)
    (law : ∀ svs Q E, ArgOk io svs → con svs Q E → w (startR N svs) (endsOf io svs Q) (errsOf io svs E)) : FnG Γ (k + 1) f fd ps (spC Γ io con) := by
  have hlen : ∀ vs H Q E, spC Γ io con vs H Q E → vs.length = ps.length := by
    rintro vs H Q E ⟨F, A, svs, Qc, Ec, ok, hh, _⟩
    have := hh.len
    simp only [List.length_map] at this
    rw [this, ok.length, hio]
  refine fnG_run F S hlen fun cdv A outer s H vs Q E room guards want pins s1 I => ?_
  have hvl := hlen vs H Q E want
  obtain ⟨F0, A0, svs, Qc, Ec, ok, hh, hcon, hq, he⟩ := want
  have hvs : vs.length = io.length := by rw [hvl, hio]
  have hsv : svs.length = vs.length := by rw [ok.length, hvs]
  generalize hX : cxOf (CX Γ.P Γ.w) Γ.P Γ.w Γ.K Γ.mg Γ.base N qual (defScope st) f cdv A outer s H E = X at I ⊢
  have C : Ctx Γ X N (defScope st) (fun _ => true) k := by
    subst hX
    exact ⟨rfl, rfl, rfl, rfl, rfl, rfl, S.nd, rfl, rfl, room, guards, rfl, bn⟩
  have P : Own X := by
    subst hX
    exact passes_of rfl
  have dc : DefCx X := by
    subst hX
    exact ⟨rfl, rfl⟩
  have tk : Takes X fun cls d _ H => E cls d H := by
    subst hX
    exact takes_of rfl rfl rfl rfl
  have hold0 : hold Γ (L2.start N vs) F0 H (startR N svs) A0 := by
    obtain ⟨A1, sl, p⟩ := hh.sl
    refine ⟨⟨A1, ?_, p⟩, hh.sub, hh.nd, hh.av⟩
    unfold L2.start startR
    rw [hsv]
    exact Sl.start _ sl
  -- data arguments stand
  have dat : ∀ (i : Nat) (v : V) (x : D), vs[i]? = some v → svs[i]? = some (SV.d x) → rep Γ F0 v x := fun i v x a b => by
    obtain ⟨A1, sl, _⟩ := hh.sl
    obtain ⟨v', B, _, h1, h2, _⟩ := sl.at (i := i) (sv := .d x) (by rw [List.getElem?_map, b]; rfl)
    rw [List.getElem?_map, a] at h1
    cases h1
    unfold RS at h2
    exact h2.1
  have fin : ∀ {σ' : Sg} {F' H' : Hp} {ρ' : Rho} {A' : List Addr} {svs' : List SV}, Kp (lkOf io 0) (L2.start N vs) σ' → Same F0 F' → hold Γ σ' F' H' ρ' A' → endA io svs ρ' = some svs' → ∃ A'', hold Γ (vs.map some) F' H' (svs'.map some) A'' ∧ ∀ a ∈ A'', a ∈ A' := fun {σ' F' H' ρ' A' svs'} kp sf h' e => by
    refine hold_sub h' fun s => args_end s ok hvs (fun i v a b => ?_) (fun i v x a b => R.mono sf (dat i v x a b)) e
    have hi : i < vs.length := (List.getElem?_eq_some_iff.mp b).1
    rw [kp i (by simpa using lk_mem (n := 0) a)]
    unfold L2.start
    rw [List.getElem?_append_left (by simpa using hi), List.getElem?_map, b]
    rfl
  refine (tr X C P dc).run (L2.start N vs) F0 H A0 (startR N svs) (endsOf io svs Qc) (errsOf io svs Ec) _ _ hold0 tk ?_ ⟨?_, fun _ z => z.elim, fun _ z => z.elim, ?_⟩ (law svs Qc Ec ok hcon) pins s1 I
  · intro σ1 kp n x ρ' z F' H' A' dx v xx h' hd hr
    unfold errsOf at z
    cases e : endA io svs ρ' with
    | none => simp only [e] at z
    | some svs' =>
      simp only [e] at z
      obtain ⟨A2, h2, s2⟩ := fin kp xx.sf h' e
      exact he n x svs' z F' H' A2 dx v (xx.sub s2) h2 hd hr
  · intro ρ' z σ' F' H' A' kp x h'
    unfold endsOf at z
    cases e : endA io svs ρ' with
    | none => simp only [e] at z
    | some svs' =>
      simp only [e] at z
      obtain ⟨A2, h2, s2⟩ := fin kp x.sf h' e
      exact hq _ svs' z .non F' H' A2 [] ((Out.now h2 (rs_d (by unfold rep R; rfl))).pre (x.sub s2))
  · intro sv ρ' z σ' v F' H' A' B kp o
    have z' : (∀ i, sv ≠ .sl i) ∧ (match endA io svs ρ' with
      | some svs' => Qc sv svs'
      | none => False) := by
      unfold endsOf at z
      cases sv with
      | sl i => exact z.elim
      | _ => exact ⟨(fun i q => by cases q), z⟩
    obtain ⟨nsl, z⟩ := z'
    cases e : endA io svs ρ' with
    | none => simp only [e] at z
    | some svs' =>
      simp only [e] at z
      obtain ⟨A2, h2, s2⟩ := fin kp o.oe.sf o.oh e
      have sB : ∀ a ∈ B ++ A2, a ∈ B ++ A' := fun a m => (List.mem_append.mp m).elim (fun q => List.mem_append_left _ q) fun q => List.mem_append_right _ (s2 a q)
      refine hq sv svs' z v F' H' A2 B ⟨o.oe.sub sB, h2, ?_, ?_, o.ofb⟩
      · have r := o.ors
        cases sv with
        | sl i => exact absurd rfl (nsl i)
        | _ => exact r
      · rw [List.nodup_append]
        have nd := List.nodup_append.mp o.ond
        exact ⟨nd.1, h2.nd, fun a m b n => nd.2.2 a m b (s2 b n)⟩

/-! ### arguments go in, and come back -/
def passA : List Bool → List SV → Rho → (List SV → Rho → Prop) → Prop
  | [], [], ρ, K => K [] ρ
  | true :: io, .sl i :: svs, ρ, K => match ρ[i]? with
    | some (some c) => passA io svs (ρ.set i none) fun as ρ1 => K (c :: as) ρ1
    | _ => False
  | true :: io, sv :: svs, ρ, K => passA io svs ρ fun as ρ1 => K (sv :: as) ρ1
  | false :: io, sv :: svs, ρ, K => keep sv ρ fun x ρ1 => passA io svs ρ1 fun as ρ2 => K (.d x :: as) ρ2
  | _, _, _, _ => False
def backA : List Bool → List SV → List SV → Rho → (Rho → Prop) → Prop
  | [], [], [], ρ, K => K ρ
  | true :: io, .sl i :: svs, c :: as, ρ, K => backA io svs as (ρ.set i (some c)) K
  | _ :: io, _ :: svs, _ :: as, ρ, K => backA io svs as ρ K
  | _, _, _, _, _ => False
theorem nodup3 {α : Type} {B A C : List α} (h : ((B ++ C) ++ A).Nodup) : (B ++ A).Nodup ∧ (C ++ A).Nodup ∧ (∀ b ∈ C, b ∉ B ++ A) := by
  rw [List.append_assoc] at h
  have h1 := List.nodup_append.mp h
  have h2 := List.nodup_append.mp h1.2.1
  refine ⟨List.nodup_append.mpr ⟨h1.1, h2.2.1, fun a m b n => h1.2.2 a m b (List.mem_append_right _ n)⟩, h1.2.1, fun b m n => ?_⟩
  rcases List.mem_append.mp n with n | n
  · exact h1.2.2 b n b (List.mem_append_left _ m) rfl
  · exact h2.2.2 b m b n rfl
theorem passA_ok {σ : Sg} {H : Hp} : ∀ {io : List Bool} {svs : List SV} {vs : List V} {F : Hp} {A B : List Addr} {ρ : Rho} {Kp : List SV → Rho → Prop}, hold Γ σ F H ρ A → rsL Γ σ F H vs svs B → (B ++ A).Nodup → (∀ b ∈ B, F b = none) → passA io svs ρ Kp →
    ∃ as ρ' F' A' C, Kp as ρ' ∧ Ext F H (B ++ A) F' H (C ++ A') ∧ hold Γ σ F' H ρ' A' ∧ Sl Γ.K Γ.cl F' H (vs.map some) (as.map some) C ∧ (C ++ A').Nodup ∧ (∀ c ∈ C, F' c = none) ∧ ArgOk io as ∧ vs.length = io.length ∧ ∀ a o, F' a = some o → F a = some o ∨ a ∈ B ++ A
  | [], [], vs, F, A, B, ρ, Kp, hh, r, nd, fb, hk => by
    obtain ⟨rfl, rfl⟩ := r
    exact ⟨[], ρ, F, A, [], hk, Ext.refl, hh, .nil, hh.nd, (fun _ m => nomatch m), .nil, rfl, fun a o e => .inl e⟩
  | [], sv :: svs, _, _, _, _, _, _, _, _, _, _, hk => by unfold passA at hk; exact hk.elim
  | true :: io, [], _, _, _, _, _, _, _, _, _, _, hk => by unfold passA at hk; exact hk.elim
  | false :: io, [], _, _, _, _, _, _, _, _, _, _, hk => by unfold passA at hk; exact hk.elim
  | false :: io, sv :: svs, vs, F, A, B, ρ, Kp, hh, r, nd, fb, hk => by
    obtain ⟨v, r', B1, B2, rfl, h2, h3, rfl⟩ := r
    have hk : keep sv ρ fun x ρ1 => passA io svs ρ1 fun as ρ2 => Kp (.d x :: as) ρ2 := by
      cases sv <;> (unfold passA at hk; exact hk)
    obtain ⟨nd1, nd2, dis⟩ := nodup3 nd
    obtain ⟨d, ρ1, F1, A1, hk, x1, hh1, rd1, w1⟩ := keep_ok hh h2 nd1 (fun b m => fb b (List.mem_append_left _ m)) hk
    have fb2 : ∀ b ∈ B2, F1 b = none := fun b m => by
      cases e : F1 b with
      | none => rfl
      | some o =>
        rcases w1 b o e with q | q
        · rw [fb b (List.mem_append_right _ m)] at q; cases q
        · exact absurd q (dis b m)
    have sub1 : ∀ b ∈ A1, b ∈ B1 ++ A := fun b m => by
      rcases x1.na b m with q | q
      · exact q
      · obtain ⟨o, e, _⟩ := hh1.own b m
        rw [q] at e; cases e
    have nd3 : (B2 ++ A1).Nodup := List.nodup_append.mpr ⟨(List.nodup_append.mp nd2).1, hh1.nd, fun a m b n z => dis a m (sub1 a (by rw [z]; exact n))⟩
    obtain ⟨as, ρ2, F2, A2, C, hk2, x2, hh2, s2, nd4, fc, ok, hl, w2⟩ := passA_ok hh1 (rsL_mono x1.sf (fun _ _ _ e => e) h3) nd3 fb2 hk
    refine ⟨.d d :: as, ρ2, F2, A2, [] ++ C, hk2, ?_, hh2, .one (B := []) (by unfold RS; exact ⟨R.mono x2.sf rd1, rfl⟩) s2, by simpa using nd4, by simpa using fc, .dat ok, by simp [hl], fun a o e => ?_⟩
    · have y := (x1.frame (B := B2)).trans x2
      rw [List.nil_append]
      refine ⟨y.sf, fun _ _ e _ => e, fun a u e => ?_, fun a m => ?_⟩
      · rcases y.nf a u e with q | q | q
        · exact .inl q
        · exact .inr (.inl q)
        · refine .inr (.inr ?_)
          simp only [List.mem_append] at q ⊢
          rcases q with q | q | q
          · exact .inl (.inr q)
          · exact .inl (.inl q)
          · exact .inr q
      · rcases y.na a m with q | q
        · refine .inl ?_
          simp only [List.mem_append] at q ⊢
          rcases q with q | q | q
          · exact .inl (.inr q)
          · exact .inl (.inl q)
          · exact .inr q
        · exact .inr q
    · rcases w2 a o e with q | q
      · rcases w1 a o q with q | q
        · exact .inl q
        · refine .inr ?_
          simp only [List.mem_append] at q ⊢
          rcases q with q | q
          · exact .inl (.inl q)
          · exact .inr q
      · refine .inr ?_
        rcases List.mem_append.mp q with q | q
        · simp [q]
        · have := sub1 a q
          simp only [List.mem_append] at this ⊢
          rcases this with q | q
          · exact .inl (.inl q)
          · exact .inr q
  | true :: io, sv :: svs, vs, F, A, B, ρ, Kp, hh, r, nd, fb, hk => by
    obtain ⟨v, r', B1, B2, rfl, h2, h3, rfl⟩ := r
    obtain ⟨nd1, nd2, dis⟩ := nodup3 nd
    -- a value goes in with what it owns (B0), the slots own A0
    have go : ∀ {ρ0 : Rho} {B0 A0 : List Addr} {c : SV}, hold Γ σ F H ρ0 A0 → RS Γ.K Γ.cl F H v c B0 → (B0 ++ A0).Nodup → (∀ b ∈ B0, F b = none) → (∀ a, a ∈ B0 ++ A0 ↔ a ∈ B1 ++ A) → passA io svs ρ0 (fun as ρ1 => Kp (c :: as) ρ1) →
        ∃ as ρ' F' A' C, Kp as ρ' ∧ Ext F H ((B1 ++ B2) ++ A) F' H (C ++ A') ∧ hold Γ σ F' H ρ' A' ∧ Sl Γ.K Γ.cl F' H ((v :: r').map some) (as.map some) C ∧ (C ++ A').Nodup ∧ (∀ c ∈ C, F' c = none) ∧ ArgOk (true :: io) as ∧ (v :: r').length = (true :: io).length ∧ ∀ a o, F' a = some o → F a = some o ∨ a ∈ (B1 ++ B2) ++ A := by
      intro ρ0 B0 A0 c h0 rc n0 f0 same hk
      have dis0 : ∀ b ∈ B2, b ∉ B0 ++ A0 := fun b m n => dis b m ((same b).mp n)
      have n20 : (B2 ++ A0).Nodup := List.nodup_append.mpr ⟨(List.nodup_append.mp nd2).1, h0.nd, fun a m b n z => dis0 a m (List.mem_append_right _ (by rw [z]; exact n))⟩
      obtain ⟨as, ρ2, F2, A2, C, hk2, x2, hh2, s2, nd4, fc, ok, hl, w2⟩ := passA_ok h0 h3 n20 (fun b m => fb b (List.mem_append_right _ m)) hk
      have f2 : ∀ b ∈ B0, F2 b = none := fun b m => by
        cases e : F2 b with
        | none => rfl
        | some o =>
          rcases w2 b o e with q | q
          · rw [f0 b m] at q; cases q
          · rcases List.mem_append.mp q with q | q
            · exact absurd (List.mem_append_left _ m) (dis0 b q)
            · exact absurd rfl ((List.nodup_append.mp n0).2.2 b m b q)
      have notC : ∀ b ∈ B0, b ∉ C ++ A2 := fun b m n => by
        rcases x2.na b n with q | q
        · rcases List.mem_append.mp q with q | q
          · exact dis0 b q (List.mem_append_left _ m)
          · exact (List.nodup_append.mp n0).2.2 b m b q rfl
        · obtain ⟨o, e, _⟩ := RS.own rc b m
          rw [q] at e; cases e
      have mem : ∀ a, a ∈ B0 ++ (B2 ++ A0) → a ∈ (B1 ++ B2) ++ A := fun a m => by
        simp only [List.mem_append] at m ⊢
        have s := same a
        simp only [List.mem_append] at s
        rcases m with m | m | m
        · rcases s.mp (.inl m) with q | q
          · exact .inl (.inl q)
          · exact .inr q
        · exact .inl (.inr m)
        · rcases s.mp (.inr m) with q | q
          · exact .inl (.inl q)
          · exact .inr q
      refine ⟨c :: as, ρ2, F2, A2, B0 ++ C, hk2, ⟨x2.sf, fun _ _ e _ => e, fun a u e => ?_, fun a m => ?_⟩, hh2, .one (RS.mono x2.sf (fun _ _ _ e => e) rc) s2, ?_, fun b m => ?_, .io ok, by simp [hl], fun a o e => ?_⟩
      · rcases w2 a u e with q | q
        · exact .inl q
        · exact .inr (.inr (mem a (List.mem_append_right _ q)))
      · rw [List.append_assoc] at m
        rcases List.mem_append.mp m with q | q
        · exact .inl (mem a (List.mem_append_left _ q))
        · rcases x2.na a q with z | z
          · exact .inl (mem a (List.mem_append_right _ z))
          · exact .inr z
      · rw [List.append_assoc]
        exact List.nodup_append.mpr ⟨(List.nodup_append.mp n0).1, nd4, fun a m b n z => notC a m (by rw [z]; exact n)⟩
      · rcases List.mem_append.mp m with q | q
        · exact f2 b q
        · exact fc b q
      · rcases w2 a o e with q | q
        · exact .inl q
        · exact .inr (mem a (List.mem_append_right _ q))
    cases sv with
    | sl i =>
      obtain ⟨ri, rfl⟩ := h2
      unfold passA at hk
      obtain ⟨A1, sl, p⟩ := hh.sl
      cases e : ρ[i]? with
      | none => simp [e] at hk
      | some z =>
        cases z with
        | none => simp [e] at hk
        | some c =>
          simp only [e] at hk
          obtain ⟨v', B', A0, q1, q2, q3, q4⟩ := Sl.del sl e
          rw [ri] at q1; cases q1
          have pA : A.Perm (B' ++ A0) := p.symm.trans q3
          have nA : (B' ++ A0).Nodup := pA.nodup_iff.mp hh.nd
          exact go ⟨⟨A0, q4, .refl _⟩, hh.sub, (List.nodup_append.mp nA).2.1, fun a m => hh.av a (pA.mem_iff.mpr (List.mem_append_right _ m))⟩ q2 nA (fun b m => hh.av b (pA.mem_iff.mpr (List.mem_append_left _ m))) (fun a => by rw [List.nil_append]; exact pA.mem_iff.symm) hk
    | d x => exact go hh h2 nd1 (fun b m => fb b (List.mem_append_left _ m)) (fun a => Iff.rfl) hk
    | lst x => exact go hh h2 nd1 (fun b m => fb b (List.mem_append_left _ m)) (fun a => Iff.rfl) hk
    | ins _ _ => exact go hh h2 nd1 (fun b m => fb b (List.mem_append_left _ m)) (fun a => Iff.rfl) hk
    | exc _ _ => exact go hh h2 nd1 (fun b m => fb b (List.mem_append_left _ m)) (fun a => Iff.rfl) hk
    | fl _ _ => exact go hh h2 nd1 (fun b m => fb b (List.mem_append_left _ m)) (fun a => Iff.rfl) hk
theorem set_self {σ : Sg} {i : Nat} {v : V} (h : σ[i]? = some (some v)) : σ.set i (some v) = σ := by
  apply List.ext_getElem?
  intro j
  by_cases hj : i = j
  · subst hj
    rw [List.getElem?_set_self (List.getElem?_eq_some_iff.mp h).1, h]
  · rw [List.getElem?_set_ne hj]
theorem backA_ok {σ : Sg} {F H : Hp} : ∀ {io : List Bool} {svs as : List SV} {vs : List V} {A C : List Addr} {ρ : Rho} {Kp : Rho → Prop}, hold Γ σ F H ρ A → Sl Γ.K Γ.cl F H (vs.map some) (as.map some) C → (C ++ A).Nodup → (∀ c ∈ C, F c = none) →
    (∀ (j i : Nat) (v : V), svs[j]? = some (SV.sl i) → vs[j]? = some v → σ[i]? = some (some v)) → backA io svs as ρ Kp → ∃ ρ' A', Kp ρ' ∧ hold Γ σ F H ρ' A' ∧ ∀ a ∈ A', a ∈ C ++ A
  | [], [], [], vs, A, C, ρ, Kp, hh, s, nd, fc, sl, hk => ⟨ρ, A, hk, hh, fun a m => List.mem_append_right _ m⟩
  | b :: io, sv :: svs, c :: as, vs, A, C, ρ, Kp, hh, s, nd, fc, sl, hk => by
    cases vs with
    | nil => cases s
    | cons v vs =>
      have s' : Sl Γ.K Γ.cl F H (some v :: vs.map some) (some c :: as.map some) C := s
      cases s' with
      | @one _ _ B0 _ _ C0 r st =>
        obtain ⟨nd1, nd2, dis⟩ := nodup3 nd
        have drop : backA io svs as ρ Kp → ∃ ρ' A', Kp ρ' ∧ hold Γ σ F H ρ' A' ∧ ∀ a ∈ A', a ∈ (B0 ++ C0) ++ A := fun hk => by
          obtain ⟨ρ', A', h1, h2, h3⟩ := backA_ok hh st nd2 (fun c m => fc c (List.mem_append_right _ m)) (fun j i v a b => sl (j + 1) i v (by simpa using a) (by simpa using b)) hk
          exact ⟨ρ', A', h1, h2, fun a m => by have := h3 a m; simp only [List.mem_append] at this ⊢; exact this.elim (fun q => .inl (.inr q)) .inr⟩
        cases b with
        | false =>
          have hk : backA io svs as ρ Kp := by cases sv <;> (unfold backA at hk; exact hk)
          exact drop hk
        | true =>
          cases sv with
          | sl i =>
            unfold backA at hk
            have e := sl 0 i v rfl rfl
            obtain ⟨A1, h1, s1⟩ := hold_put (i := i) hh r nd1 (fun b m => fc b (List.mem_append_left _ m)) (List.getElem?_eq_some_iff.mp e).1
            rw [set_self e] at h1
            have nd3 : (C0 ++ A1).Nodup := List.nodup_append.mpr ⟨(List.nodup_append.mp nd2).1, h1.nd, fun a m b n z => dis a m (s1 a (by rw [z]; exact n))⟩
            obtain ⟨ρ', A', h4, h5, h6⟩ := backA_ok h1 st nd3 (fun c m => fc c (List.mem_append_right _ m)) (fun j i v a b => sl (j + 1) i v (by simpa using a) (by simpa using b)) hk
            refine ⟨ρ', A', h4, h5, fun a m => ?_⟩
            rcases List.mem_append.mp (h6 a m) with q | q
            · simp [q]
            · have := s1 a q
              simp only [List.mem_append] at this ⊢
              exact this.elim (fun z => .inl (.inl z)) .inr
          | _ => unfold backA at hk; exact drop hk
  | [], [], _ :: _, _, _, _, _, _, _, _, _, _, _, hk => by simp only [backA] at hk
  | [], _ :: _, _, _, _, _, _, _, _, _, _, _, _, hk => by simp only [backA] at hk
  | _ :: _, [], _, _, _, _, _, _, _, _, _, _, _, hk => by simp only [backA] at hk
  | true :: _, .sl _ :: _, [], _, _, _, _, _, _, _, _, _, _, hk => by simp only [backA] at hk
  | b :: _, sv :: _, [], _, _, _, _, _, _, _, _, _, _, hk => by cases b <;> cases sv <;> (simp only [backA] at hk)
def wCallK (io : List Bool) (con : Con) (svs : List SV) (ρ : Rho) (Q : WK) (E : EK) : Prop :=
  passA io svs ρ fun as ρ1 => con as (fun r as' => match r with
    | .sl _ => False
    | r => backA io svs as' ρ1 fun ρ2 => Q r ρ2) (fun n x as' => backA io svs as' ρ1 fun ρ2 => E n x ρ2)
def wCall (io : List Bool) (con : Con) (wa : WA) : WE := fun ρ Q E => wa ρ (fun svs ρ1 => wCallK io con svs ρ1 Q E) E

section
variable {X : Cx} {N : List Str} {sc : Scope} {fp : Str → Bool} {k : Nat}
theorem rsL_sl {σ : Sg} {F H : Hp} : ∀ {svs : List SV} {vs : List V} {B : List Addr}, rsL Γ σ F H vs svs B → ∀ (j i : Nat) (v : V), svs[j]? = some (SV.sl i) → vs[j]? = some v → σ[i]? = some (some v)
  | [], _, _, _, j, i, v, a, _ => by simp at a
  | x :: xs, vs, B, h, j, i, v, a, b => by
    obtain ⟨u, r, B1, B2, rfl, h2, h3, _⟩ := h
    cases j with
    | zero =>
      simp at a b
      subst a b
      exact h2.1
    | succ j => exact rsL_sl h3 j i v (by simpa using a) (by simpa using b)
/-- from the caller's side to the callee's promise -/
theorem call_core {io : List Bool} {con : Con} {σ : Sg} {F H F1 H1 : Hp} {A A1 B1 : List Addr} {ρ1 : Rho} {svs : List SV} {vs : List V} {Q : WK} {E : EK} {QV : VK} {W : WX} (o : OutL Γ σ F H A ρ1 svs vs F1 H1 A1 B1) (el : EL Γ σ F H A E W) (hw : wCallK io con svs ρ1 Q E)
    (hq : ∀ sv ρ', Q sv ρ' → ∀ v F' H' A' B, Out Γ σ F H A ρ' sv v F' H' A' B → QV v H') : spC Γ io con vs H1 QV (fun cls d H' => W cls d σ H') := by
  obtain ⟨as, ρ2, F2, A2, C, hcon, x2, h2, s2, nd2, fc, ok, hl, _⟩ := passA_ok o.oh o.ors o.ond o.ofb hw
  have x12 := o.oe.trans x2
  -- what the caller keeps, behind the callee
  have after : ∀ {as' : List SV} {F3 H3 : Hp} {A3 : List Addr} {ρ3 : Rho → Prop}, Ext F2 H1 C F3 H3 A3 → hold Γ (vs.map some) F3 H3 (as'.map some) A3 → backA io svs as' ρ2 ρ3 → ∃ ρ4 A4, ρ3 ρ4 ∧ hold Γ σ F3 H3 ρ4 A4 ∧ (∀ a ∈ A4, a ∈ A3 ++ A2) ∧ hold Γ σ F3 H3 ρ2 A2 ∧ (∀ a ∈ A2, a ∉ A3) := by
    intro as' F3 H3 A3 ρ3 x3 h3 hb
    have nC : ∀ a ∈ A2, a ∉ C := fun a m n => (List.nodup_append.mp nd2).2.2 a n a m rfl
    have tr : ∀ a ∈ A2, ∃ u, H1 a = some u := fun a m => let ⟨u, e, _⟩ := h2.own a m; ⟨u, e⟩
    have nA3 : ∀ a ∈ A2, a ∉ A3 := fun a m n => by
      rcases x3.na a n with q | q
      · exact nC a m q
      · obtain ⟨u, e⟩ := tr a m
        rw [e] at q; cases q
    have h2' : hold Γ σ F3 H3 ρ2 A2 := by
      obtain ⟨Aq, s, p⟩ := h2.sl
      refine ⟨⟨Aq, s.mono x3.sf fun a m u e => x3.fr a u e (nC a (p.mem_iff.mp m)), p⟩, h3.sub, h2.nd, fun a m => ?_⟩
      cases e : F3 a with
      | none => rfl
      | some u =>
        rcases x3.nf a u e with q | q | q
        · rw [h2.av a m] at q; cases q
        · obtain ⟨u', e'⟩ := tr a m
          rw [e'] at q; cases q
        · exact absurd q (nC a m)
    obtain ⟨A4, s4, p4⟩ := h3.sl
    have nd4 : (A4 ++ A2).Nodup := List.nodup_append.mpr ⟨p4.nodup_iff.mpr h3.nd, h2.nd, fun a m b n z => nA3 b n (by rw [← z]; exact p4.mem_iff.mp m)⟩
    obtain ⟨ρ4, A5, q1, q2, q3⟩ := backA_ok h2' s4 nd4 (fun c m => h3.av c (p4.mem_iff.mp m)) (rsL_sl o.ors) hb
    exact ⟨ρ4, A5, q1, q2, fun a m => (List.mem_append.mp (q3 a m)).elim (fun q => List.mem_append_left _ (p4.mem_iff.mp q)) fun q => List.mem_append_right _ q, h2', nA3⟩
  have frm : ∀ {F3 H3 : Hp} {A3 : List Addr}, Ext F2 H1 C F3 H3 A3 → Ext F H A F3 H3 (A3 ++ A2) := fun {F3 H3 A3} x3 => by
    refine x12.trans ⟨x3.sf, fun a u e n => x3.fr a u e fun m => n (List.mem_append_left _ m), fun a u e => ?_, fun a m => ?_⟩
    · rcases x3.nf a u e with q | q | q
      · exact .inl q
      · exact .inr (.inl q)
      · exact .inr (.inr (List.mem_append_left _ q))
    · rcases List.mem_append.mp m with q | q
      · rcases x3.na a q with z | z
        · exact .inl (List.mem_append_left _ z)
        · exact .inr z
      · exact .inl (List.mem_append_right _ q)
  refine ⟨F2, C, as, _, _, ok, ⟨⟨C, s2, .refl _⟩, h2.sub, (List.nodup_append.mp nd2).1, fc⟩, hcon, fun r as' hr v F3 H3 A3 B3 o3 => ?_, fun n x as' hr F3 H3 A3 dx v x3 h3 hd hv => ?_⟩
  · have nsl : (∀ i, r ≠ .sl i) ∧ backA io svs as' ρ2 fun ρ3 => Q r ρ3 := by
      cases r with
      | sl i => exact hr.elim
      | _ => exact ⟨(fun i q => by cases q), hr⟩
    obtain ⟨nsl, hb⟩ := nsl
    obtain ⟨ρ4, A4, q1, q2, q3, h2', nA3⟩ := after (A3 := A3) (o3.oe.sub fun a m => List.mem_append_right _ m) o3.oh hb
    have nB : ∀ b ∈ B3, b ∉ A3 ++ A2 := fun b m n => by
      rcases List.mem_append.mp n with n | n
      · exact (List.nodup_append.mp o3.ond).2.2 b m b n rfl
      · rcases o3.oe.na b (List.mem_append_left _ m) with q | q
        · exact (List.nodup_append.mp nd2).2.2 b q b n rfl
        · obtain ⟨u, e, _⟩ := h2.own b n
          rw [q] at e; cases e
    refine hq r ρ4 q1 v F3 H3 A4 B3 ⟨?_, q2, ?_, List.nodup_append.mpr ⟨(List.nodup_append.mp o3.ond).1, q2.nd, fun a m b n z => nB a m (q3 a (by rw [z]; exact n))⟩, o3.ofb⟩
    · refine (frm o3.oe).sub fun a m => ?_
      rcases List.mem_append.mp m with q | q
      · simp [q]
      · have := q3 a q
        simp only [List.mem_append] at this ⊢
        exact this.elim (fun z => .inl (.inr z)) .inr
    · have r3 := o3.ors
      cases r with
      | sl i => exact absurd rfl (nsl i)
      | _ => exact r3
  · obtain ⟨ρ4, A4, q1, q2, q3, _, _⟩ := after x3 h3 hr
    exact el n x ρ4 q1 F3 H3 A4 dx v ((frm x3).sub q3) q2 hd hv
/-- the callee runs -/
theorem run_fnG (C : Ctx Γ X N sc fp k) {f : Addr} {fd : FuncData} {ps : List Str} {sp : Sp} {ds : List Value} {dvs : List V} {W : WX} {pins : List (Addr × Obj)} {σ : Sg} {H : Hp} {s : Shared} {Q : VK} {us : List Value} {vs : List V} (F : FnG Γ k f fd ps sp) (hb : Binds Γ.K fd ps ds) (hd : Vals dvs ds) (tk : Takes X W)
    (I : Inv X pins σ H s) (r : Vals vs us) (h : sp (vs ++ dvs) H Q (fun cls d H' => W cls d σ H')) : wpAny (model X.prog X.w) X.A (call (.ref f) us) (EP X pins σ Q) X.xe s := by
  have ar : Vals (vs ++ dvs) (us ++ ds) := r.append hd
  have al : (us ++ ds).length = ps.length := by rw [← ar.length]; exact F.len _ _ _ _ h
  have e0 := I.env0
  have kin := I.kIn
  rw [C.p, C.w, C.K, C.mg, C.base] at e0
  rw [C.K] at kin
  have R := F.run X.A X.stack s H ⟨us, []⟩ (us ++ ds) (vs ++ dvs) Q _ C.room C.gd e0 (hb s us kin al) ar h
  rw [← C.p, ← C.w] at R
  refine wpAny_call (codeAny_mono R fun res s' back => ?_)
  cases res with
  | error e => exact tk e s' (XE.of_call I (fun _ _ _ z => z) back)
  | ok fl =>
    cases fl with
    | ret u => exact I.after back
    | next => exact back.elim
    | brk => exact back.elim
    | cont => exact back.elim
/-- a def of the module, known by its name -/
structure FnE (Γ : Wd) (k : Nat) (x : Str) (io : List Bool) (con : Con) : Prop where
  ex : ∃ (f : Addr) (fd : FuncData) (ps : List Str), Γ.mg x = some (.ref f) ∧ PySem.W.keepIn Γ.K (.ref f) = true ∧ Binds Γ.K fd ps [] ∧ FnG Γ k f fd ps (spC Γ io con)
theorem FnE.mono {j k : Nat} {x : Str} {io : List Bool} {con : Con} (F : FnE Γ j x io con) (h : j ≤ k) : FnE Γ k x io con := let ⟨f, fd, ps, a, b, c, d⟩ := F.ex; ⟨f, fd, ps, a, b, c, d.mono h⟩
theorem se_call (C : Ctx Γ X N sc fp k) {x : Str} {io : List Bool} {con : Con} {e : Expr} {es : List Expr} {wa : WA} {p pos : Pos} (F : FnE Γ k x io con) (ha : SA Γ X (e :: es) wa) (hg : sc.names.lookup x = some .globalImplicit := by rfl) (hdb : (x == ("__debug__" : Str)) = false := by decide)
    (he : starEach (e :: es) X.env = (false, eval e X.env) :: starEach es X.env := by exact star_of rfl) (hpl : (backTo pos (starEach es X.env)).any (·.1) = false := by rfl) : SE Γ X (.Call (.Name x p) (e :: es) [] pos) (wCall io con wa) := .mk fun σ F0 H A ρ Q E QV W hh tk el hw hq pins s I => by
  obtain ⟨f, fd, ps, hm, hk, hb, FF⟩ := F.ex
  refine wpAny_Call_Name_kw (ld_glob I (gl_of C hg) (by rw [C.mg]; exact hm) ?_ hdb)
  refine PySem.W.callWith_K (h₀ := X.base) I.ok.mod.kin (by rw [C.K]; exact hk) (thn (ha.run σ F0 H A ρ _ E (fun vs H1 => spC Γ io con vs H1 QV (fun cls d H' => W cls d σ H')) W hh tk el hw (fun svs ρ1 hw1 vs F1 H1 A1 B1 o1 => call_core o1 el hw1 hq) pos pins s I) fun us s1 ⟨vs, H1, I1, r, q⟩ => ⟨I1.kIn, ?_⟩) he hpl
  exact run_fnG C FF hb .nil tk I1 r (by rw [List.append_nil]; exact q)
theorem se_call0 (C : Ctx Γ X N sc fp k) {x : Str} {con : Con} {p pos : Pos} (F : FnE Γ k x [] con) (hg : sc.names.lookup x = some .globalImplicit := by rfl) (hdb : (x == ("__debug__" : Str)) = false := by decide) : SE Γ X (.Call (.Name x p) [] [] pos) (wCall [] con wNil) := .mk fun σ F0 H A ρ Q E QV W hh tk el hw hq pins s I => by
  obtain ⟨f, fd, ps, hm, hk, hb, FF⟩ := F.ex
  refine wpAny_Call_Name_kw (ld_glob I (gl_of C hg) (by rw [C.mg]; exact hm) ?_ hdb)
  have o : OutL Γ σ F0 H A ρ [] [] F0 H A [] := ⟨Ext.refl, hh, ⟨rfl, rfl⟩, hh.nd, fun _ m => nomatch m⟩
  exact PySem.W.callWith_K0 I.kIn (by rw [C.K]; exact hk) (run_fnG (us := []) (vs := []) C FF hb .nil tk I .nil (call_core o el hw hq))
end
end
end Dv

/-! Dv10: own classes: made, fields stored, methods, properties, operators. -/
namespace Dv
open PySem PySem.Spec PyProof.Rows L2
section
variable {Γ : Wd} {X : Cx} {N : List Str} {sc : Scope} {fp : Str → Bool} {k : Nat}
theorem gd_in1 {A : Around} (h : A.guards = some []) : A.in1.guards = some [] := by first | exact h | simpa [Around.in1, Around.under, Code.guards] using h
theorem gd_make {A : Around} {C : Addr} {us : List Value} {kw : List (Str × Value)} (h : A.guards = some []) : (A.under (.builtin "type.__call__" ⟨.ref C :: us, kw⟩)).guards = some [] := by
  first | exact h | simp [Around.under, pushGuards, Code.guards, Code.isGuard, h]
/-- the callee runs, in some place below -/
theorem run_fnA (C : Ctx Γ X N sc fp k) {A : Around} {j : Nat} {f : Addr} {fd : FuncData} {ps : List Str} {sp : Sp} {W : WX} {pins : List (Addr × Obj)} {σ : Sg} {H : Hp} {s : Shared} {Q : VK} {us : List Value} {vs : List V} (F : FnG Γ j f fd ps sp) (hb : Binds Γ.K fd ps []) (tk : Takes X W)
    (hr : Room j A) (hg : A.guards = some []) (hf : A.frames = X.A.frames) (I : Inv X pins σ H s) (r : Vals vs us) (h : sp vs H Q (fun cls d H' => W cls d σ H')) : wpAny (model X.prog X.w) A (call (.ref f) us) (EP X pins σ Q) X.xe s := by
  have al : (us ++ []).length = ps.length := by rw [List.append_nil, ← r.length]; exact F.len _ _ _ _ h
  have e0 : Env0 X.prog X.w X.K X.mg X.base A X.stack s H := by
    have e := I.env0
    exact ⟨by rw [hf]; exact e.frames, e.mod, e.bs, e.bsz, e.funs, e.frf, e.hok, e.bare⟩
  have kin := I.kIn
  rw [C.p, C.w, C.K, C.mg, C.base] at e0
  rw [C.K] at kin
  have R := F.run A X.stack s H ⟨us, []⟩ us vs Q _ hr hg e0 (by simpa using hb s us kin al) r h
  rw [← C.p, ← C.w] at R
  refine wpAny_call (codeAny_mono R fun res s' back => ?_)
  cases res with
  | error e => exact tk e s' (XE.of_call I (fun _ _ _ z => z) back)
  | ok fl =>
    cases fl with
    | ret u => exact I.after back
    | next => exact back.elim
    | brk => exact back.elim
    | cont => exact back.elim

/-! ### an instance of class n is there -/
def isIns (n : Nat) (sx : SV) (ρ : Rho) : Prop := match sx with
  | .d (.obj n' _) => n' = n
  | .ins n' _ => n' = n
  | .sl i => match ρ[i]? with
    | some (some (.ins n' _)) => n' = n
    | some (some (.d (.obj n' _))) => n' = n
    | _ => False
  | _ => False
theorem lookup_zip_none {α : Type} {m : Str} : ∀ {ks : List Str} {vs : List α}, m ∉ ks → (ks.zip vs).lookup m = none
  | [], _, _ => by simp
  | _ :: _, [], _ => by simp
  | k :: ks, v :: vs, h => by
    have h1 : (m == k) = false := by simp at h ⊢; exact h.1
    simp only [List.zip_cons_cons, List.lookup, h1]
    exact lookup_zip_none fun z => h (List.mem_cons_of_mem _ z)
theorem ins_of {σ : Sg} {F H : Hp} {A B : List Addr} {ρ : Rho} {v : V} {sx : SV} {n : Nat} (hh : hold Γ σ F H ρ A) (r : rs Γ σ F H v sx B) (e : isIns n sx ρ) : ∃ a dx fs, v = .ref a ∧ H a = some (.ins (Γ.cl n).adr dx fs) ∧ ∀ m, m ∉ (Γ.cl n).fld → fs.lookup m = none := by
  have one : ∀ {sx : SV} {B : List Addr}, RS Γ.K Γ.cl F H v sx B → (match sx with | .d (.obj n' _) => n' = n | .ins n' _ => n' = n | _ => False) → ∃ a dx fs, v = .ref a ∧ H a = some (.ins (Γ.cl n).adr dx fs) ∧ ∀ m, m ∉ (Γ.cl n).fld → fs.lookup m = none := fun {sx B} r e => by
    cases sx with
    | d x =>
      cases x with
      | obj n' ds =>
        have e : n' = n := e
        subst e
        unfold RS R at r
        obtain ⟨⟨a, dx, vs, h1, h2, _⟩, _⟩ := r
        exact ⟨a, dx, _, h1, hh.sub a _ h2, fun m h => lookup_zip_none h⟩
      | _ => exact e.elim
    | ins n' fs =>
      have e : n' = n := e
      subst e
      unfold RS at r
      obtain ⟨a, dx, vs, B', h1, h2, _⟩ := r
      exact ⟨a, dx, _, h1, h2, fun m h => lookup_zip_none fun z => h (List.mem_of_mem_take z)⟩
    | _ => exact e.elim
  cases sx with
  | sl i =>
    obtain ⟨r, _⟩ := r
    obtain ⟨A1, s, _⟩ := hh.sl
    unfold isIns at e
    cases q : ρ[i]? with
    | none => simp [q] at e
    | some o =>
      cases o with
      | none => simp [q] at e
      | some sv =>
        obtain ⟨v', B', _, h1, h2, _⟩ := s.at q
        rw [r] at h1; cases h1
        refine one h2 ?_
        cases sv with
        | d x => cases x <;> simp_all
        | _ => simp_all
  | d x => exact one r (by cases x <;> exact e)
  | ins n' fs => exact one r (by unfold isIns at e; exact e)
  | _ => exact e.elim

/-! ### a value, then values: how they stand together -/
theorem out_cons {σ : Sg} {F H F1 H1 F2 H2 : Hp} {A A1 A2 B1 B2 : List Addr} {ρ1 ρ2 : Rho} {sx : SV} {v1 : V} {sxs : List SV} {vs : List V} (o1 : Out Γ σ F H A ρ1 sx v1 F1 H1 A1 B1) (o2 : OutL Γ σ F1 H1 A1 ρ2 sxs vs F2 H2 A2 B2) : OutL Γ σ F H A ρ2 (sx :: sxs) (v1 :: vs) F2 H2 A2 (B1 ++ B2) := by
  have x2 : Ext F1 H1 A1 F2 H2 A2 := o2.oe.sub fun a m => List.mem_append_right _ m
  obtain ⟨r1, n1, f1, _⟩ := o1.stay x2
  obtain ⟨_, n1', _, x1'⟩ := o1.stay o2.oe
  refine ⟨by rw [List.append_assoc]; exact x1', o2.oh, by unfold rsL; exact ⟨v1, vs, B1, B2, rfl, r1, o2.ors, rfl⟩, ?_, fun b m => ?_⟩
  · rw [List.append_assoc, List.nodup_append]
    refine ⟨(List.nodup_append.mp o1.ond).1, o2.ond, fun a m b n z => n1' a m (by rw [z]; exact n)⟩
  · rcases List.mem_append.mp m with m | m
    · exact f1 b m
    · exact o2.ofb b m
theorem out_one {σ : Sg} {F H F1 H1 : Hp} {A A1 B1 : List Addr} {ρ1 : Rho} {sx : SV} {v1 : V} (o1 : Out Γ σ F H A ρ1 sx v1 F1 H1 A1 B1) : OutL Γ σ F H A ρ1 [sx] [v1] F1 H1 A1 B1 :=
  ⟨o1.oe, o1.oh, by unfold rsL rsL; exact ⟨v1, [], B1, [], rfl, o1.ors, ⟨rfl, rfl⟩, by simp⟩, o1.ond, o1.ofb⟩
theorem out_two {σ : Sg} {F H F1 H1 F2 H2 : Hp} {A A1 A2 B1 B2 : List Addr} {ρ1 ρ2 : Rho} {sx sy : SV} {v1 v2 : V} (o1 : Out Γ σ F H A ρ1 sx v1 F1 H1 A1 B1) (o2 : Out Γ σ F1 H1 A1 ρ2 sy v2 F2 H2 A2 B2) : OutL Γ σ F H A ρ2 [sx, sy] [v1, v2] F2 H2 A2 (B1 ++ B2) := out_cons o1 (out_one o2)
/-- a value that is an instance: behind further work -/
theorem ins_later {σ : Sg} {F H F1 H1 F2 H2 : Hp} {A A1 A2 B1 B2 : List Addr} {ρ1 ρ2 : Rho} {sx : SV} {v1 : V} {sxs : List SV} {vs : List V} {n : Nat} (o1 : Out Γ σ F H A ρ1 sx v1 F1 H1 A1 B1) (o2 : OutL Γ σ F1 H1 A1 ρ2 sxs vs F2 H2 A2 B2) (e : isIns n sx ρ2) :
    ∃ a dx fs, v1 = .ref a ∧ H2 a = some (.ins (Γ.cl n).adr dx fs) ∧ ∀ m, m ∉ (Γ.cl n).fld → fs.lookup m = none := by
  have x2 : Ext F1 H1 A1 F2 H2 A2 := o2.oe.sub fun a m => List.mem_append_right _ m
  exact ins_of o2.oh (o1.stay x2).1 e

/-! ### methods -/
/-- method m of class n -/
structure MtE (Γ : Wd) (k n : Nat) (m : Str) (io : List Bool) (con : Con) : Prop where
  no : m ∉ (Γ.cl n).fld
  ex : ∃ (f : Addr) (fd : FuncData) (ps : List Str), Meth Γ.K (Γ.cl n).adr m f ∧ Binds Γ.K fd ps [] ∧ FnG Γ k f fd ps (spC Γ io con)
def wMeth (n : Nat) (io : List Bool) (con : Con) (wo : WE) (wa : WA) : WE := fun ρ Q E => wo ρ (fun sx ρ1 => isIns n sx ρ1 ∧ wa ρ1 (fun svs ρ2 => wCallK io con (sx :: svs) ρ2 Q E) E) E
theorem se_meth (C : Ctx Γ X N sc fp k) {n : Nat} {m : Str} {io : List Bool} {con : Con} {o e : Expr} {es : List Expr} {wo : WE} {wa : WA} {apos pos : Pos} {pl : Sem Bool} (K : ClOk Γ n) (F : MtE Γ k n m io con) (ho : SE Γ X o wo) (ha : SA Γ X (e :: es) wa)
    (he : starEach (e :: es) X.env = (false, eval e X.env) :: starEach es X.env := by exact star_of rfl) (hpl : (backTo pos (starEach es X.env)).any (·.1) = false := by rfl)
    (ht : eval (.Call (.Attribute o m apos) (e :: es) [] pos) X.env = (do
      let ov ← eval o X.env
      standAt apos.atName
      let (f, first) ← holding [ov] (getMethod ov m pl)
      callWith pos f first (backTo pos (starEach (e :: es) X.env)) (backToKw pos (keywordEach [] X.env))) := by rfl) : SE Γ X (.Call (.Attribute o m apos) (e :: es) [] pos) (wMeth n io con wo wa) := .mk fun σ F0 H A ρ Q E QV W hh tk el hw hq pins s I => by
  obtain ⟨f, fd, ps, hm, hb, FF⟩ := F.ex
  refine PySem.W.methodCall_KW (pl := pl) (thn (ho.use hh tk el hw (QV := fun x H1 => ∃ a dx fs, x = .ref a ∧ H1 a = some (.ins (Γ.cl n).adr dx fs) ∧ fs.lookup m = none ∧ wpXA X (e :: es) σ H1 fun vs H2 => spC Γ io con (x :: vs) H2 QV fun cls d H' => W cls d σ H') (fun sx ρ1 hw1 v1 F1 H1 A1 B1 o1 => ?_) pins s I) fun u s1 ⟨x, H1, I1, rx, a, dx, fs, ex, ea, l, q⟩ => ?_) ht
  · obtain ⟨hi, hw1⟩ := hw1
    obtain ⟨a, dx, fs, e1, e2, e3⟩ := ins_of o1.oh o1.ors hi
    refine ⟨a, dx, fs, e1, e2, e3 m F.no, ?_⟩
    exact ha.run σ F1 H1 A1 ρ1 _ E _ W o1.oh tk (el.ext o1.ext1) hw1 fun svs ρ2 hw2 vs F2 H2 A2 B2 o2 => call_core (out_cons o1 o2) el hw2 hq
  · subst ex
    obtain rfl : u = Value.ref a := rx
    refine getmeth_ok I1 ea (by rw [C.K]; exact K.cl) (by rw [C.K]; exact hm) l ?_
    refine PySem.W.callWith_K (first := [.ref a]) (h₀ := X.base) I1.ok.mod.kin (by rw [C.K]; exact hm.kp) (thn (q pos pins s1 I1) fun us s2 ⟨vs, H2, I2, r2, q2⟩ => ⟨I2.kIn, ?_⟩) he hpl
    exact run_fnG (vs := .ref a :: vs) (us := .ref a :: us) C FF hb .nil tk I2 (.cons rfl r2) (by rw [List.append_nil]; exact q2)
theorem se_meth0 (C : Ctx Γ X N sc fp k) {n : Nat} {m : Str} {io : List Bool} {con : Con} {o : Expr} {wo : WE} {apos pos : Pos} {pl : Sem Bool} (K : ClOk Γ n) (F : MtE Γ k n m io con) (ho : SE Γ X o wo)
    (ht : eval (.Call (.Attribute o m apos) [] [] pos) X.env = (do
      let ov ← eval o X.env
      standAt apos.atName
      let (f, first) ← holding [ov] (getMethod ov m pl)
      callWith pos f first (backTo pos (starEach [] X.env)) (backToKw pos (keywordEach [] X.env))) := by rfl) : SE Γ X (.Call (.Attribute o m apos) [] [] pos) (wMeth n io con wo wNil) := .mk fun σ F0 H A ρ Q E QV W hh tk el hw hq pins s I => by
  obtain ⟨f, fd, ps, hm, hb, FF⟩ := F.ex
  refine PySem.W.methodCall_KW (pl := pl) (thn (ho.use hh tk el hw (QV := fun x H1 => ∃ a dx fs, x = .ref a ∧ H1 a = some (.ins (Γ.cl n).adr dx fs) ∧ fs.lookup m = none ∧ spC Γ io con [x] H1 QV fun cls d H' => W cls d σ H') (fun sx ρ1 hw1 v1 F1 H1 A1 B1 o1 => ?_) pins s I) fun u s1 ⟨x, H1, I1, rx, a, dx, fs, ex, ea, l, q⟩ => ?_) ht
  · obtain ⟨hi, hw1⟩ := hw1
    obtain ⟨a, dx, fs, e1, e2, e3⟩ := ins_of o1.oh o1.ors hi
    exact ⟨a, dx, fs, e1, e2, e3 m F.no, call_core (out_one o1) el hw1 hq⟩
  · subst ex
    obtain rfl : u = Value.ref a := rx
    refine getmeth_ok I1 ea (by rw [C.K]; exact K.cl) (by rw [C.K]; exact hm) l ?_
    exact PySem.W.callWith_K0 (first := [.ref a]) I1.kIn (by rw [C.K]; exact hm.kp) (run_fnG (us := [.ref a]) (vs := [.ref a]) C FF hb .nil tk I1 (.cons rfl .nil) (by rw [List.append_nil]; exact q))

/-! ### properties -/
structure PrE (Γ : Wd) (k n : Nat) (m : Str) (io : List Bool) (con : Con) : Prop where
  ex : ∃ (p f : Addr) (fd : FuncData) (ps : List Str), PropOf Γ.K (Γ.cl n).adr m p f ∧ Binds Γ.K fd ps [] ∧ FnG Γ k f fd ps (spC Γ io con)
def wProp (n : Nat) (io : List Bool) (con : Con) (wo : WE) : WE := fun ρ Q E => wo ρ (fun sx ρ1 => isIns n sx ρ1 ∧ wCallK io con [sx] ρ1 Q noE) E
theorem se_prop (C : Ctx Γ X N sc fp (k + 1)) {n : Nat} {m : Str} {io : List Bool} {con : Con} {o : Expr} {wo : WE} {pos : Pos} (K : ClOk Γ n) (F : PrE Γ k n m io con) (ho : SE Γ X o wo) (hb : attributeBase o m X.env (eval o X.env) = eval o X.env := by rfl) : SE Γ X (.Attribute o m pos) (wProp n io con wo) := .mk fun σ F0 H A ρ Q E QV W hh tk el hw hq pins s I => by
  obtain ⟨p, f, fd, ps, hp, hbd, FF⟩ := F.ex
  refine attr_of hb (thn (ho.use hh tk el hw (QV := fun x H1 => ∃ a dx fs, x = .ref a ∧ H1 a = some (.ins (Γ.cl n).adr dx fs) ∧ spC Γ io con [x] H1 QV fun _ _ _ => False) (fun sx ρ1 hw1 v1 F1 H1 A1 B1 o1 => ?_) pins s I) fun u s1 ⟨x, H1, I1, rx, a, dx, fs, ex, ea, q⟩ => ?_)
  · obtain ⟨hi, hw1⟩ := hw1
    obtain ⟨a, dx, fs, e1, e2, _⟩ := ins_of o1.oh o1.ors hi
    exact ⟨a, dx, fs, e1, e2, call_core (W := fun _ _ _ _ => False) (out_one o1) (fun _ _ _ z => z.elim) hw1 hq⟩
  · subst ex
    obtain rfl : u = Value.ref a := rx
    obtain ⟨mA, O, _, _, _, _⟩ := ins_get I1.hok ea
    obtain ⟨od, J, _⟩ := O.look
    rw [← C.K] at hp
    have cc : Cls X.K (Γ.cl n).adr := by rw [C.K]; exact K.cl
    obtain ⟨rest, hrec⟩ := hp.rec_
    have I2 := I1.tok (s1.toks + 1)
    have hc : (PySem.W.clsIn X.K (Γ.cl n).adr).isSome = true := by
      obtain ⟨cd, hc, _⟩ := PySem.W.any_some cc.hd
      rw [hc]
      rfl
    refine PySem.W.get_bind I1.kIn J (PySem.W.plainGet_of (cc.get m)).1 (PySem.W.findObj_data hc hp.at_ hp.get hp.tak) (PySem.W.plainGet_of (cc.get m)).2 (wpAny_call (PySem.W.prop_get (s := { s1 with toks := s1.toks + 1 }) I1.kIn hrec ?_))
    have e0 : Env0 X.prog X.w X.K X.mg X.base X.A.in1 X.stack { s1 with toks := s1.toks + 1 } H1 := by
      have e := I2.env0
      exact ⟨by show X.A.frames = _; exact e.frames, e.mod, e.bs, e.bsz, e.funs, e.frf, e.hok, e.bare⟩
    have kin := I2.kIn
    rw [C.p, C.w, C.K, C.mg, C.base] at e0
    rw [C.K] at kin
    have al : ([Value.ref a] ++ []).length = ps.length := by
      have := FF.len _ _ _ _ q
      simpa using this
    have R := FF.run X.A.in1 X.stack { s1 with toks := s1.toks + 1 } H1 ⟨[.ref a], []⟩ [.ref a] [.ref a] QV _ C.room.in1 (gd_in1 C.gd) e0 (by simpa using hbd _ [.ref a] kin al) (.cons rfl .nil) q
    rw [← C.p, ← C.w] at R
    refine codeAny_mono R fun r s' back => ?_
    cases r with
    | error er =>
      obtain ⟨_, _, _, _, _, _, _, _, _, _, _, _, z⟩ := back
      exact z.elim
    | ok fl =>
      cases fl with
      | ret u =>
        obtain ⟨v, H', I3, rv, q3⟩ := I2.after back
        show wpAny _ _ (handedOut u) _ _ _
        rw [PySem.W.handedOut_of (handed_of rv)]
        exact wpAny_pure ⟨v, H', I3, rv, q3⟩
      | next => exact False.elim back
      | brk => exact False.elim back
      | cont => exact False.elim back
end
end Dv

/-! Dv11: operators of own classes; instances made; fields stored. -/
namespace Dv
open PySem PySem.Spec PyProof.Rows L2
section
variable {Γ : Wd} {X : Cx} {N : List Str} {sc : Scope} {fp : Str → Bool} {k : Nat} {lk : List Nat}
/-- a method that the machine asks by itself -/
structure OpE (Γ : Wd) (k n : Nat) (m : Str) (io : List Bool) (con : Con) : Prop where
  ex : ∃ (f : Addr) (fd : FuncData) (ps : List Str), PySem.W.findIn Γ.K (.ref (Γ.cl n).adr) m = some (some (.ref f)) ∧ PySem.W.isFn Γ.K (.ref f) = true ∧ PySem.W.fnIn Γ.K f = true ∧ Binds Γ.K fd ps [] ∧ FnG Γ k f fd ps (spC Γ io con)
/-- two values, then the machine's call; err: what becomes of errors -/
def wOp2 (n : Nat) (io : List Bool) (con : Con) (wa wb : WE) : WE := fun ρ Q E => wa ρ (fun sx ρ1 => wb ρ1 (fun sy ρ2 => isIns n sx ρ2 ∧ wCallK io con [sx, sy] ρ2 Q E) E) E
/-- c[i] -/
theorem se_item (C : Ctx Γ X N sc fp (k + 1)) {n : Nat} {io : List Bool} {con : Con} {a b : Expr} {wa wb : WE} {pos : Pos} (F : OpE Γ k n "__getitem__" io con) (ha : SE Γ X a wa) (hb : SE Γ X b wb)
    (hsl : ∀ o i, subscripted b true o i = runValue (.builtin "lifetime.subscript" ⟨[o, i], []⟩) := by intro _ _; with_unfolding_all rfl) : SE Γ X (.Subscript a b pos) (wOp2 n io con wa wb) := .mk fun σ F0 H A ρ Q E QV W hh tk el hw hq pins s I => by
  obtain ⟨f, fd, ps, h1, h2, h3, hbd, FF⟩ := F.ex
  refine Subscript_ (thn (ha.use hh tk el hw (QV := fun x H1 => wpX X b σ H1 fun y H2 => ∃ a dx fs, x = .ref a ∧ H2 a = some (.ins (Γ.cl n).adr dx fs) ∧ spC Γ io con [x, y] H2 QV fun cls d H' => W cls d σ H') (fun sx ρ1 hw1 v1 F1 H1 A1 B1 o1 => ?_) pins s I) fun u s1 ⟨x, H1, I1, rx, q⟩ => thn (q pins s1 I1) fun iv s2 ⟨y, H2, I2, ry, a, dx, fs, ex, ea, q2⟩ => ?_)
  · refine hb.use o1.oh tk (el.ext o1.ext1) hw1 fun sy ρ2 hw2 v2 F2 H2 A2 B2 o2 => ?_
    obtain ⟨hi, hw2⟩ := hw2
    obtain ⟨a, dx, fs, e1, e2, _⟩ := ins_later o1 (out_one o2) hi
    exact ⟨a, dx, fs, e1, e2, call_core (out_two o1 o2) el hw2 hq⟩
  · subst ex
    obtain rfl : u = Value.ref a := rx
    obtain ⟨mA, O, _⟩ := ins_get I2.hok ea
    obtain ⟨od, J, _⟩ := O.look
    obtain ⟨m, FR⟩ := I2.fr
    exact PySem.W.sub_K FR I2.ok.mod.kin J (by rw [C.K]; exact h1) (by rw [C.K]; exact h3) (by rw [C.K]; exact h2) (run_fnA C FF hbd tk C.room.in1 (gd_in1 C.gd) rfl I2 (vs := [.ref a, y]) (us := [.ref a, iv]) (.cons rfl (.cons ry .nil)) q2) (hsl _ _)
def boolK (con : Con) (g : Bool → Bool) : Con := fun as Q E => con as (fun r as' => match r with
  | .d (.bl b) => Q (.d (.bl (g b))) as'
  | _ => False) E
/-- x in c, x not in c -/
def wInO (n : Nat) (io : List Bool) (con : Con) (neg : Bool) (wa wb : WE) : WE := fun ρ Q E => wa ρ (fun sx ρ1 => wb ρ1 (fun sy ρ2 => isIns n sy ρ2 ∧ wCallK io con [sy, sx] ρ2 (fun r ρ3 => match r with
  | .d (.bl b) => Q (.d (.bl (neg != b))) ρ3
  | _ => False) E) E) E
theorem out_swap {σ : Sg} {F H F2 H2 : Hp} {A A2 B : List Addr} {ρ2 : Rho} {sx sy : SV} {v1 v2 : V} (o : OutL Γ σ F H A ρ2 [sx, sy] [v1, v2] F2 H2 A2 B) : ∃ B', OutL Γ σ F H A ρ2 [sy, sx] [v2, v1] F2 H2 A2 B' := by
  obtain ⟨w, r, B1, B2, e, r1, ⟨w', r', B3, B4, e', r2, ⟨e2, e3⟩, e4⟩, e5⟩ := o.ors
  cases e
  cases e'
  subst e4 e3 e5
  clear e2
  have hp : ((B3 ++ (B1 ++ [])) ++ A2).Perm ((B1 ++ (B3 ++ [])) ++ A2) := by
    refine List.Perm.append_right _ ?_
    simp only [List.append_nil]
    exact List.perm_append_comm
  refine ⟨B3 ++ (B1 ++ []), ⟨o.oe.sub fun a m => hp.mem_iff.mp m, o.oh, ⟨v2, [v1], B3, B1 ++ [], rfl, r2, ⟨v1, [], B1, [], rfl, r1, ⟨rfl, rfl⟩, rfl⟩, rfl⟩, hp.nodup_iff.mpr o.ond, fun b m => o.ofb b ?_⟩⟩
  simp only [List.append_nil, List.mem_append] at m ⊢
  exact m.symm
theorem inO_core (C : Ctx Γ X N sc fp k) {n : Nat} {io : List Bool} {con : Con} (F : OpE Γ k n "__contains__" io con) {pins : List (Addr × Obj)} {s : Shared} {σ : Sg} {H : Hp} {x : V} {v : Value} {QB : Bool → Hp → Prop} {W : WX} {a dx : Addr} {fs : List (Str × V)} {Qv : Value → Shared → Prop} (g : Bool → Bool) (tk : Takes X W) (I : Inv X pins σ H s) (rx : RelV x v)
    (ea : H a = some (.ins (Γ.cl n).adr dx fs)) (q : spC Γ io con [.ref a, x] H (fun r H3 => ∃ b, r = .bl b ∧ QB b H3) fun cls d H' => W cls d σ H') (hQ : ∀ b s' H', Inv X pins σ H' s' → QB b H' → Qv (.bool (g b)) s') (neg : Bool) (hg : ∀ b, g b = (neg != b)) :
    wpAny (model X.prog X.w) X.A (compareOp (if neg then .NotIn else .In) v (.ref a)) Qv X.xe s := by
  obtain ⟨f, fd, ps, h1, h2, h3, hbd, FF⟩ := F.ex
  obtain ⟨mA, O, _⟩ := ins_get I.hok ea
  obtain ⟨od, J, _⟩ := O.look
  obtain ⟨m, FR⟩ := I.fr
  have run := run_fnA C FF hbd tk C.room C.gd rfl I (vs := [.ref a, x]) (us := [.ref a, v]) (.cons rfl (.cons rx .nil)) q
  have back : ∀ (r : Value) (s' : Shared), EP X pins σ (fun r H3 => ∃ b, r = .bl b ∧ QB b H3) r s' → ∃ b, r = .bool b ∧ Qv (.bool (g b)) s' := fun r s' h => by
    obtain ⟨v', H', I', rv, b, rfl, qb⟩ := h
    cases rv
    exact ⟨b, rfl, hQ b s' H' I' qb⟩
  cases neg with
  | false =>
    refine PySem.W.in_K FR I.ok.mod.kin J (by rw [C.K]; exact h1) (by rw [C.K]; exact h2) (wpAny_mono run (fun r s' h => ?_) fun _ _ z => z)
    obtain ⟨b, rfl, qv⟩ := back r s' h
    exact wpAny_truthy_bool (by rw [hg] at qv; simpa using qv)
  | true =>
    refine PySem.W.notIn_K FR I.ok.mod.kin J (by rw [C.K]; exact h1) (by rw [C.K]; exact h2) (wpAny_mono run (fun r s' h => ?_) fun _ _ z => z)
    obtain ⟨b, rfl, qv⟩ := back r s' h
    exact wpAny_truthy_bool (by rw [hg] at qv; simpa using qv)
theorem se_inO (C : Ctx Γ X N sc fp k) {n : Nat} {io : List Bool} {con : Con} {a b : Expr} {wa wb : WE} {pos : Pos} (F : OpE Γ k n "__contains__" io con) (neg : Bool) (ha : SE Γ X a wa) (hb : SE Γ X b wb) (hm : behindInMarks (if neg then .NotIn else .In) b = false := by with_unfolding_all rfl) :
    SE Γ X (.Compare a [if neg then .NotIn else .In] [b] pos) (wInO n io con neg wa wb) := .mk fun σ F0 H A ρ Q E QV W hh tk el hw hq pins s I => by
  refine wpAny_Compare1 (binT pe_x pe_x I (R := fun x y H2 => ∃ a dx fs, y = .ref a ∧ H2 a = some (.ins (Γ.cl n).adr dx fs) ∧ spC Γ io con [y, x] H2 (fun r H3 => ∃ b, r = .bl b ∧ QV (.bl (neg != b)) H3) fun cls d H' => W cls d σ H') ?_ fun v u s2 x y H2 I2 rx ry q => ?_) hm
  · refine ha.use hh tk el hw fun sx ρ1 hw1 v1 F1 H1 A1 B1 o1 => ?_
    refine hb.use o1.oh tk (el.ext o1.ext1) hw1 fun sy ρ2 hw2 v2 F2 H2 A2 B2 o2 => ?_
    obtain ⟨hi, hw2⟩ := hw2
    obtain ⟨a, dx, fs, e1, e2, _⟩ := ins_of o2.oh o2.ors hi
    refine ⟨a, dx, fs, e1, e2, ?_⟩
    obtain ⟨B', oo⟩ := out_swap (out_two o1 o2)
    refine call_core oo el hw2 fun r ρ3 hr v3 F3 H3 A3 B3 o3 => ?_
    cases r with
    | d z =>
      cases z with
      | bl b =>
        have r3 := o3.ors
        simp only [rs, RS, R] at r3
        exact ⟨b, r3.1, hq _ ρ3 hr _ F3 H3 A3 [] ((Out.now o3.oh (rs_d (by simp [rep, R]))).pre o3.ext1)⟩
      | _ => exact hr.elim
    | _ => exact hr.elim
  · obtain ⟨a, dx, fs, rfl, ea, q⟩ := q
    cases ry
    exact inO_core C F (fun b => neg != b) tk I2 rx ea q (fun b s' H' I' z => ⟨.bl (neg != b), H', I', rfl, z⟩) neg fun _ => rfl
theorem st_inO (C : Ctx Γ X N sc fp k) {n : Nat} {io : List Bool} {con : Con} {a b : Expr} {wa wb : WE} {pos : Pos} (F : OpE Γ k n "__contains__" io con) (neg : Bool) (ha : SE Γ X a wa) (hb : SE Γ X b wb) (hm : behindInMarks (if neg then .NotIn else .In) b = false := by with_unfolding_all rfl) :
    ST Γ X (.Compare a [if neg then .NotIn else .In] [b] pos) (wTst (wInO n io con neg wa wb)) := .mk fun σ F0 H A ρ Q E QV W hh tk el hw hq pins s I => by
  refine wpAny_isTrue_Compare1 (binT pe_x pe_x I (R := fun x y H2 => ∃ a dx fs, y = .ref a ∧ H2 a = some (.ins (Γ.cl n).adr dx fs) ∧ spC Γ io con [y, x] H2 (fun r H3 => ∃ b, r = .bl b ∧ QV (neg != b) H3) fun cls d H' => W cls d σ H') ?_ fun v u s2 x y H2 I2 rx ry q => ?_) hm
  · unfold wTst wInO at hw
    refine ha.use hh tk el hw fun sx ρ1 hw1 v1 F1 H1 A1 B1 o1 => ?_
    refine hb.use o1.oh tk (el.ext o1.ext1) hw1 fun sy ρ2 hw2 v2 F2 H2 A2 B2 o2 => ?_
    obtain ⟨hi, hw2⟩ := hw2
    obtain ⟨a, dx, fs, e1, e2, _⟩ := ins_of o2.oh o2.ors hi
    refine ⟨a, dx, fs, e1, e2, ?_⟩
    obtain ⟨B', oo⟩ := out_swap (out_two o1 o2)
    refine call_core oo el hw2 fun r ρ3 hr v3 F3 H3 A3 B3 o3 => ?_
    cases r with
    | d z =>
      cases z with
      | bl b =>
        have r3 := o3.ors
        simp only [rs, RS, R] at r3
        exact ⟨b, r3.1, hq _ ρ3 hr F3 H3 A3 o3.ext1 o3.oh⟩
      | _ => exact hr.elim
    | _ => exact hr.elim
  · obtain ⟨a, dx, fs, rfl, ea, q⟩ := q
    cases ry
    exact inO_core C F (fun b => neg != b) tk I2 rx ea q (fun b s' H' I' z => wpAny_truthy_bool ⟨H', I', z⟩) neg fun _ => rfl
theorem cmpBack {pins : List (Addr × Obj)} {σ : Sg} {Q : VK} {u : Value} {s : Shared} (h : EP X pins σ Q u s) : PySem.W.CmpBack (EP X pins σ Q) u s := by
  have h' := h
  obtain ⟨v, H', I, r, q⟩ := h
  cases u <;> first | exact h' | (cases v <;> first | (obtain ⟨_, z⟩ := r; cases z; done) | (cases r; done))
/-- x op y, both of own classes -/
theorem se_binO (C : Ctx Γ X N sc fp k) {n : Nat} {op : Operator} {io : List Bool} {con : Con} {a b : Expr} {wa wb : WE} {pos : Pos} (F : OpE Γ k n (PySem.dunder op.info.2) io con) (hc : PySem.W.selfFirst Γ.K (Γ.cl n).adr = true) (ha : SE Γ X a wa) (hb : SE Γ X b wb) :
    SE Γ X (.BinOp a op b pos) (wOp2 n io con wa fun ρ Q E => wb ρ (fun sy ρ2 => isIns n sy ρ2 ∧ Q sy ρ2) E) := .mk fun σ F0 H A ρ Q E QV W hh tk el hw hq pins s I => by
  obtain ⟨f, fd, ps, h1, h2, h3, hbd, FF⟩ := F.ex
  refine wpAny_BinOp (binT pe_x pe_x I (R := fun x y H2 => ∃ a dx fs b dy gs, x = .ref a ∧ H2 a = some (.ins (Γ.cl n).adr dx fs) ∧ y = .ref b ∧ H2 b = some (.ins (Γ.cl n).adr dy gs) ∧ spC Γ io con [x, y] H2 QV fun cls d H' => W cls d σ H') ?_ fun v u s2 x y H2 I2 rx ry q => ?_)
  · refine ha.use hh tk el hw fun sx ρ1 hw1 v1 F1 H1 A1 B1 o1 => ?_
    refine hb.use o1.oh tk (el.ext o1.ext1) hw1 fun sy ρ2 hw2 v2 F2 H2 A2 B2 o2 => ?_
    obtain ⟨hj, hi, hw2⟩ := hw2
    obtain ⟨a, dx, fs, e1, e2, _⟩ := ins_later o1 (out_one o2) hi
    obtain ⟨b, dy, gs, e3, e4, _⟩ := ins_of o2.oh o2.ors hj
    exact ⟨a, dx, fs, b, dy, gs, e1, e2, e3, e4, call_core (out_two o1 o2) el hw2 hq⟩
  · obtain ⟨a, dx, fs, b, dy, gs, rfl, ea, rfl, eb, q⟩ := q
    cases rx
    cases ry
    obtain ⟨mA, O, _⟩ := ins_get I2.hok ea
    obtain ⟨od, J, _⟩ := O.look
    obtain ⟨mB, O', _⟩ := ins_get I2.hok eb
    obtain ⟨od', J', _⟩ := O'.look
    obtain ⟨m, FR⟩ := I2.fr
    exact PySem.W.binop_K FR I2.ok.mod.kin J J'.type (by rw [C.K]; exact hc) (by rw [C.K]; exact h1) (by rw [C.K]; exact h2) (wpAny_mono (run_fnA C FF hbd tk C.room C.gd rfl I2 (vs := [.ref a, .ref b]) (us := [.ref a, .ref b]) (.cons rfl (.cons rfl .nil)) q) (fun r s' h => cmpBack h) fun _ _ z => z)
/-! ### instances made -/
theorem frm_ok {F H F1 H1 F2 F3 H3 : Hp} {A A2 C A3 B1 A1 : List Addr} (x1 : Ext F H A F1 H1 (B1 ++ A1)) (x2 : Ext F1 H1 (B1 ++ A1) F2 H1 (C ++ A2)) (x3 : Ext F2 H1 C F3 H3 A3) : Ext F H A F3 H3 (A3 ++ A2) := by
  refine (x1.trans x2).trans ⟨x3.sf, fun a u e n => x3.fr a u e fun m => n (List.mem_append_left _ m), fun a u e => ?_, fun a m => ?_⟩
  · rcases x3.nf a u e with q | q | q
    · exact .inl q
    · exact .inr (.inl q)
    · exact .inr (.inr (List.mem_append_left _ q))
  · rcases List.mem_append.mp m with q | q
    · rcases x3.na a q with z | z
      · exact .inl (List.mem_append_left _ z)
      · exact .inr z
    · exact .inl (List.mem_append_right _ q)
theorem after_ok {io : List Bool} {svs as' : List SV} {vs : List V} {σ : Sg} {F2 H1 F3 H3 : Hp} {A2 C A3 : List Addr} {ρ2 : Rho} {ρ3 : Rho → Prop} (h2 : hold Γ σ F2 H1 ρ2 A2) (nd2 : (C ++ A2).Nodup) (sl : ∀ (j i : Nat) (v : V), svs[j]? = some (SV.sl i) → vs[j]? = some v → σ[i]? = some (some v))
    (x3 : Ext F2 H1 C F3 H3 A3) (h3 : hold Γ (vs.map some) F3 H3 (as'.map some) A3) (hb : backA io svs as' ρ2 ρ3) : ∃ ρ4 A4, ρ3 ρ4 ∧ hold Γ σ F3 H3 ρ4 A4 ∧ (∀ a ∈ A4, a ∈ A3 ++ A2) := by
  have nC : ∀ a ∈ A2, a ∉ C := fun a m n => (List.nodup_append.mp nd2).2.2 a n a m rfl
  have tr : ∀ a ∈ A2, ∃ u, H1 a = some u := fun a m => let ⟨u, e, _⟩ := h2.own a m; ⟨u, e⟩
  have nA3 : ∀ a ∈ A2, a ∉ A3 := fun a m n => by
    rcases x3.na a n with q | q
    · exact nC a m q
    · obtain ⟨u, e⟩ := tr a m
      rw [e] at q; cases q
  have h2' : hold Γ σ F3 H3 ρ2 A2 := by
    obtain ⟨Aq, s, p⟩ := h2.sl
    refine ⟨⟨Aq, s.mono x3.sf fun a m u e => x3.fr a u e (nC a (p.mem_iff.mp m)), p⟩, h3.sub, h2.nd, fun a m => ?_⟩
    cases e : F3 a with
    | none => rfl
    | some u =>
      rcases x3.nf a u e with q | q | q
      · rw [h2.av a m] at q; cases q
      · obtain ⟨u', e'⟩ := tr a m
        rw [e'] at q; cases q
      · exact absurd q (nC a m)
  obtain ⟨A4, s4, p4⟩ := h3.sl
  have nd4 : (A4 ++ A2).Nodup := List.nodup_append.mpr ⟨p4.nodup_iff.mpr h3.nd, h2.nd, fun a m b n z => nA3 b n (by rw [← z]; exact p4.mem_iff.mp m)⟩
  obtain ⟨ρ4, A5, q1, q2, q3⟩ := backA_ok h2' s4 nd4 (fun c m => h3.av c (p4.mem_iff.mp m)) sl hb
  exact ⟨ρ4, A5, q1, q2, fun a m => (List.mem_append.mp (q3 a m)).elim (fun q => List.mem_append_left _ (p4.mem_iff.mp q)) fun q => List.mem_append_right _ q⟩
theorem RSL.dats {F H : Hp} : ∀ {ds : List D} {vs : List V} {B : List Addr}, RSL Γ.K Γ.cl F H vs (ds.map SV.d) B → repL Γ F vs ds ∧ B = []
  | [], _, _, h => by
    simp only [List.map_nil, RSL] at h
    exact ⟨by unfold repL RL; exact h.1, h.2⟩
  | d :: ds, _, _, h => by
    simp only [List.map_cons, RSL, RS] at h
    obtain ⟨v, r, B1, B2, rfl, ⟨h1, rfl⟩, h2, rfl⟩ := h
    obtain ⟨h3, rfl⟩ := RSL.dats h2
    exact ⟨RL.cons h1 h3, rfl⟩
theorem zip_take {α : Type} : ∀ {n : Nat} {ks : List Str} {vs : List α}, vs.length ≤ n → (ks.take n).zip vs = ks.zip vs
  | _, [], _, _ => by simp
  | _, _ :: _, [], _ => by simp
  | 0, _ :: _, _ :: _, h => by simp at h
  | n + 1, k :: ks, v :: vs, h => by
    rw [List.take_succ_cons, List.zip_cons_cons, List.zip_cons_cons, zip_take (by simpa using h)]
/-- C(..): an instance that is not changed any more -/
def wMake (n : Nat) (io : List Bool) (con : Con) (wa : WA) : WE := fun ρ Q E => wa ρ (fun svs ρ1 => passA io svs ρ1 fun as ρ2 => con (.ins n [] :: as) (fun r as' => r = .d .non ∧ ∃ fs as'', as' = .ins n (fs.map SV.d) :: as'' ∧ backA io svs as'' ρ2 fun ρ3 => Q (.d (.obj n fs)) ρ3)
  (fun e x as' => ∃ c as'', as' = c :: as'' ∧ backA io svs as'' ρ2 fun ρ3 => E e x ρ3)) E
theorem make_core {n : Nat} {io : List Bool} {con : Con} {σ : Sg} {F H F1 H1 : Hp} {A A1 B1 : List Addr} {ρ1 : Rho} {svs : List SV} {vs : List V} {Q : WK} {E : EK} {QV : VK} {W : WX} (o : OutL Γ σ F H A ρ1 svs vs F1 H1 A1 B1) (el : EL Γ σ F H A E W)
    (hw : wMake n io con (fun ρ Q _ => Q svs ρ) ρ1 Q E) (hq : ∀ sv ρ', Q sv ρ' → ∀ v F' H' A' B, Out Γ σ F H A ρ' sv v F' H' A' B → QV v H')
    {x dx : Addr} (hx : H1 x = none) (hd : H1 dx = none) (ne : dx ≠ x) : spC Γ (true :: io) con (.ref x :: vs) (upd (upd H1 dx (.own x)) x (.ins (Γ.cl n).adr dx [])) (fun v H2 => v = .non ∧ QV (.ref x) H2) (fun cls d H' => W cls d σ H') := by
  unfold wMake at hw
  obtain ⟨as, ρ2, F2, A2, C, hcon, x2, h2, s2, nd2, fc, ok, hl, _⟩ := passA_ok o.oh o.ors o.ond o.ofb hw
  have fx : F2 x = none := by
    cases e : F2 x with
    | none => rfl
    | some u => rw [h2.sub x u e] at hx; cases hx
  have ownC := s2.own
  have nxC : x ∉ C := fun m => by
    obtain ⟨u, e, _⟩ := ownC x m
    rw [hx] at e; cases e
  have old : ∀ a u, H1 a = some u → upd (upd H1 dx (.own x)) x (.ins (Γ.cl n).adr dx []) a = some u := fun a u e => by
    rw [upd_ne (ne_of_none e hx), upd_ne (ne_of_none e hd)]
    exact e
  -- from the caller's heap to the one that the callee starts from
  have x0 : Ext F2 H1 C F2 (upd (upd H1 dx (.own x)) x (.ins (Γ.cl n).adr dx [])) (x :: C) := ⟨Same.refl _, fun a u e _ => old a u e, fun a u e => .inl e, fun a m => by
    rcases List.mem_cons.mp m with q | q
    · exact .inr (by rw [q]; exact hx)
    · exact .inl q⟩
  refine ⟨F2, x :: C, .ins n [] :: as, _, _, .io ok, ⟨⟨[x] ++ C, .one (by unfold RS RSL; exact ⟨x, dx, [], [], rfl, by simp [upd_same], by simp, ⟨rfl, rfl⟩, rfl⟩) (s2.mono (Same.refl _) fun a _ u e => old a u e), .refl _⟩, fun a u e => old a u (h2.sub a u e), List.nodup_cons.mpr ⟨nxC, (List.nodup_append.mp nd2).1⟩, fun a m => ?_⟩, hcon, fun r as' hr v F3 H3 A3 B3 o3 => ?_, fun n x as' hr F3 H3 A3 dx v x3 h3 hd hv => ?_⟩
  · rcases List.mem_cons.mp m with q | q
    · rw [q]; exact fx
    · exact fc a q
  · obtain ⟨rfl, fs, as'', rfl, hb⟩ := hr
    have r3 := o3.ors
    simp only [rs, RS, R] at r3
    obtain ⟨rfl, rfl⟩ := r3
    refine ⟨rfl, ?_⟩
    obtain ⟨A4, s4, p4⟩ := o3.oh.sl
    rw [List.map_cons, List.map_cons] at s4
    cases s4 with
    | @one _ _ B0 _ _ C0 r4 st =>
      unfold RS at r4
      obtain ⟨x', dx', ws, B', e1, hx3, hl3, rl, rfl⟩ := r4
      cases e1
      obtain ⟨rl2, rfl⟩ := RSL.dats rl
      have nd4 : (x :: C0).Nodup := p4.nodup_iff.mpr o3.oh.nd
      have fx3 : F3 x = none := o3.oh.av x (p4.mem_iff.mp (by simp))
      have hlw : ws.length = fs.length := RL.length rl2
      rw [zip_take (by simp [hlw])] at hx3
      have sF : Same F3 (upd F3 x (.ins (Γ.cl n).adr dx' ((Γ.cl n).fld.zip ws))) := fun c u e => by rw [upd_ne (ne_of_none e fx3)]; exact e
      have x3 : Ext F2 H1 C (upd F3 x (.ins (Γ.cl n).adr dx' ((Γ.cl n).fld.zip ws))) H3 C0 := by
        have y := x0.trans (o3.oe.sub fun a m => List.mem_append_right _ m)
        refine ⟨y.sf.trans sF, y.fr, fun a u e => ?_, fun a m => y.na a (p4.mem_iff.mp (by simp [m]))⟩
        by_cases h : a = x
        · subst h; exact .inr (.inl hx)
        · rw [upd_ne h] at e; exact y.nf a u e
      have h3 : hold Γ (vs.map some) (upd F3 x (.ins (Γ.cl n).adr dx' ((Γ.cl n).fld.zip ws))) H3 (as''.map some) C0 := by
        refine ⟨⟨C0, st.mono sF fun _ _ _ e => e, .refl _⟩, fun a u e => ?_, (List.nodup_cons.mp nd4).2, fun a m => ?_⟩
        · by_cases h : a = x
          · subst h; rw [upd_same] at e; cases e; exact hx3
          · rw [upd_ne h] at e; exact o3.oh.sub a u e
        · rw [upd_ne fun z => (List.nodup_cons.mp nd4).1 (by rw [← z]; exact m)]
          exact o3.oh.av a (p4.mem_iff.mp (by simp [m]))
      obtain ⟨ρ4, A5, q1, q2, q3⟩ := after_ok h2 nd2 (rsL_sl o.ors) x3 h3 hb
      refine hq _ ρ4 q1 _ _ _ A5 [] ((Out.now q2 (rs_d ?_)).pre ((frm_ok o.oe x2 x3).sub q3))
      unfold rep R
      exact ⟨x, dx', ws, rfl, upd_same, by rw [hlw]; simpa using hl3, RL.mono sF rl2⟩
  · obtain ⟨c, as'', rfl, hb⟩ := hr
    obtain ⟨A4, s4, p4⟩ := h3.sl
    rw [List.map_cons, List.map_cons] at s4
    cases s4 with
    | @one _ _ B0 _ _ C0 r4 st =>
      have nd4 : (B0 ++ C0).Nodup := p4.nodup_iff.mpr h3.nd
      have x4 : Ext F2 H1 C F3 H3 C0 := (x0.trans x3).sub fun a m => p4.mem_iff.mp (List.mem_append_right _ m)
      have h4 : hold Γ (vs.map some) F3 H3 (as''.map some) C0 := ⟨⟨C0, st, .refl _⟩, h3.sub, (List.nodup_append.mp nd4).2.1, fun a m => h3.av a (p4.mem_iff.mp (List.mem_append_right _ m))⟩
      obtain ⟨ρ4, A5, q1, q2, q3⟩ := after_ok h2 nd2 (rsL_sl o.ors) x4 h4 hb
      exact el _ _ ρ4 q1 F3 H3 A5 dx v ((frm_ok o.oe x2 x4).sub q3) q2 hd hv
/-- a class of the module, known by its name -/
structure MkE (Γ : Wd) (k n : Nat) (x : Str) (io : List Bool) (con : Con) : Prop where
  ex : ∃ (f : Addr) (fd : FuncData) (ps : List Str), Γ.mg x = some (.ref (Γ.cl n).adr) ∧ Mk Γ.K (Γ.cl n).adr f ∧ Binds Γ.K fd ps [] ∧ FnG Γ k f fd ps (spC Γ (true :: io) con)
theorem se_make (C : Ctx Γ X N sc fp (k + 1)) {x : Str} {n : Nat} {io : List Bool} {con : Con} {e : Expr} {es : List Expr} {wa : WA} {p pos : Pos} (F : MkE Γ k n x io con) (ha : SA Γ X (e :: es) wa) (hg : sc.names.lookup x = some .globalImplicit := by rfl) (hdb : (x == ("__debug__" : Str)) = false := by decide)
    (he : starEach (e :: es) X.env = (false, eval e X.env) :: starEach es X.env := by exact star_of rfl) (hpl : (backTo pos (starEach es X.env)).any (·.1) = false := by rfl) : SE Γ X (.Call (.Name x p) (e :: es) [] pos) (wMake n io con wa) := .mk fun σ F0 H A ρ Q E QV W hh tk el hw hq pins s I => by
  obtain ⟨f, fd, ps, hm, M, hb, FF⟩ := F.ex
  refine wpAny_Call_Name_kw (ld_glob I (gl_of C hg) (by rw [C.mg]; exact hm) ?_ hdb)
  refine PySem.W.callWith_K (h₀ := X.base) I.ok.mod.kin (by rw [C.K]; exact M.kp) (thn (ha.run σ F0 H A ρ _ E (fun vs H1 => ∀ x dx, H1 x = none → H1 dx = none → dx ≠ x → spC Γ (true :: io) con (.ref x :: vs) (upd (upd H1 dx (.own x)) x (.ins (Γ.cl n).adr dx [])) (fun v H2 => v = .non ∧ QV (.ref x) H2) (fun cls d H' => W cls d σ H')) W hh tk el hw (fun svs ρ1 hw1 vs F1 H1 A1 B1 o1 x dx h1 h2 h3 => make_core (n := n) o1 el hw1 hq h1 h2 h3) pos pins s I) fun us s1 ⟨vs, H1, I1, r, q⟩ => ⟨I1.kIn, ?_⟩) he hpl
  have hq' := q (s1.heap.objs.size + 1) s1.heap.objs.size (I1.hok.fresh (Nat.le_succ _)) (I1.hok.fresh (Nat.le_refl _)) (Nat.ne_of_lt (Nat.lt_succ_self _))
  have I2 := Inv.made (C := (Γ.cl n).adr) I1
  have r2 : Vals (V.ref (s1.heap.objs.size + 1) :: vs) (Value.ref (s1.heap.objs.size + 1) :: us) := .cons rfl r
  have hl : ((Value.ref (s1.heap.objs.size + 1) :: us) ++ []).length = ps.length := by
    have e := r2.length
    rw [FF.len _ _ _ _ hq'] at e
    rw [List.append_nil]
    exact e.symm
  have e0 := I2.env0.make (Γ.cl n).adr us []
  have kin := I2.kIn
  have kin1 := I1.kIn
  rw [C.p, C.w, C.K, C.mg, C.base] at e0
  rw [C.K] at kin kin1
  have R := FF.run _ X.stack _ _ ⟨Value.ref (s1.heap.objs.size + 1) :: us, []⟩ (Value.ref (s1.heap.objs.size + 1) :: us) _ _ _ (C.room.make (Γ.cl n).adr us []) (gd_make C.gd) e0 (by simpa using hb _ (Value.ref (s1.heap.objs.size + 1) :: us) kin hl) r2 hq'
  rw [← C.p, ← C.w] at R
  refine wpAny_call (make_map (f := f) kin1 M.makes M.init (beq_iff_eq.mp M.fn) (codeAny_mono R fun r s' back => ?_))
  cases r with
  | error e => exact tk e s' (XE.of_call I2 (fun _ _ _ z => z) back)
  | ok fl =>
    cases fl with
    | ret u =>
      obtain ⟨v, H', I3, rv, ev, q3⟩ := I2.after back
      subst ev
      exact ⟨rv, ⟨V.ref (s1.heap.objs.size + 1), H', I3, rfl, q3⟩⟩
    | next => exact False.elim back
    | brk => exact False.elim back
    | cont => exact False.elim back
/-! ### fields stored -/
def putAt (j : Nat) (x : SV) (fs : List SV) : List SV := if j < fs.length then fs.set j x else fs ++ [x]
def dataAt (j : Nat) (fs : List SV) : Prop := j = fs.length ∨ ∃ d, fs[j]? = some (.d d)
theorem putF_zip : ∀ {ks : List Str} {vs : List V} {j : Nat} {f : Str} {v : V}, ks.Nodup → ks[j]? = some f → j ≤ vs.length → vs.length ≤ ks.length → putF f v (ks.zip vs) = ks.zip (if j < vs.length then vs.set j v else vs ++ [v])
  | [], _, _, _, _, _, h, _, _ => by simp at h
  | k :: ks, [], 0, f, v, _, h, _, _ => by
    simp at h; subst h
    simp [putF]
  | k :: ks, [], j + 1, f, v, _, _, h, _ => by simp at h
  | k :: ks, w :: vs, 0, f, v, _, h, _, _ => by
    simp at h; subst h
    simp [putF]
  | k :: ks, w :: vs, j + 1, f, v, nd, h, hl, hk => by
    have h' : ks[j]? = some f := by simpa using h
    have nk : ¬ k = f := fun e => (List.nodup_cons.mp nd).1 (by rw [e]; exact List.mem_of_getElem? h')
    have ih := putF_zip (v := v) (List.nodup_cons.mp nd).2 h' (by simpa using hl) (by simpa using hk)
    simp only [List.zip_cons_cons, putF, if_neg nk, ih]
    by_cases q : j < vs.length
    · simp [q]
    · simp [q]
theorem RSL.app {F H : Hp} {v : V} {d : D} (r : rep Γ F v d) : ∀ {fs : List SV} {vs : List V} {B : List Addr}, RSL Γ.K Γ.cl F H vs fs B → RSL Γ.K Γ.cl F H (vs ++ [v]) (fs ++ [.d d]) B
  | [], _, _, h => by
    simp only [RSL] at h
    obtain ⟨rfl, rfl⟩ := h
    simp only [List.nil_append, RSL, RS]
    exact ⟨v, [], [], [], rfl, ⟨r, rfl⟩, ⟨rfl, rfl⟩, rfl⟩
  | x :: fs, _, _, h => by
    simp only [RSL] at h
    obtain ⟨w, r', B1, B2, rfl, h1, h2, rfl⟩ := h
    simp only [List.cons_append, RSL]
    exact ⟨w, r' ++ [v], B1, B2, rfl, h1, RSL.app r h2, rfl⟩
theorem RSL.setd {F H : Hp} {v : V} {d d0 : D} (r : rep Γ F v d) : ∀ {fs : List SV} {vs : List V} {B : List Addr} {j : Nat}, RSL Γ.K Γ.cl F H vs fs B → fs[j]? = some (.d d0) → RSL Γ.K Γ.cl F H (vs.set j v) (fs.set j (.d d)) B
  | [], _, _, _, _, e => by simp at e
  | x :: fs, _, _, 0, h, e => by
    simp at e; subst e
    simp only [RSL] at h
    obtain ⟨w, r', B1, B2, rfl, h1, h2, rfl⟩ := h
    unfold RS at h1
    obtain ⟨_, rfl⟩ := h1
    simp only [List.set_cons_zero, RSL, RS]
    exact ⟨v, r', [], B2, rfl, ⟨r, rfl⟩, h2, rfl⟩
  | x :: fs, _, _, j + 1, h, e => by
    simp only [RSL] at h
    obtain ⟨w, r', B1, B2, rfl, h1, h2, rfl⟩ := h
    simp only [List.set_cons_succ, RSL]
    exact ⟨w, r'.set j v, B1, B2, rfl, h1, RSL.setd r h2 (by simpa using e), rfl⟩
theorem RSL.len {F H : Hp} : ∀ {fs : List SV} {vs : List V} {B : List Addr}, RSL Γ.K Γ.cl F H vs fs B → vs.length = fs.length
  | [], _, _, h => by
    simp only [RSL] at h
    rw [h.1]; rfl
  | x :: fs, _, _, h => by
    simp only [RSL] at h
    obtain ⟨w, r', B1, B2, rfl, h1, h2, rfl⟩ := h
    simp [RSL.len h2]
/-- an owned instance in a slot, written to at a field of data -/
theorem Sl.wri {F H : Hp} {σ : Sg} {ρ : Rho} {A : List Addr} (h : Sl Γ.K Γ.cl F H σ ρ A) (nd : A.Nodup) {i n : Nat} {fs : List SV} (e : ρ[i]? = some (some (.ins n fs))) :
    ∃ a dx vs, σ[i]? = some (some (.ref a)) ∧ H a = some (.ins (Γ.cl n).adr dx ((Γ.cl n).fld.zip vs)) ∧ vs.length = fs.length ∧ fs.length ≤ (Γ.cl n).fld.length ∧ a ∈ A ∧
      ∀ (j : Nat) (v : V) (d : D), rep Γ F v d → dataAt j fs → j < (Γ.cl n).fld.length → Sl Γ.K Γ.cl F (upd H a (.ins (Γ.cl n).adr dx ((Γ.cl n).fld.zip (if j < vs.length then vs.set j v else vs ++ [v])))) σ (ρ.set i (some (.ins n (putAt j (.d d) fs)))) A := by
  induction h generalizing i with
  | nil => simp at e
  | @skip x σ ρ A h ih =>
    cases i with
    | zero => simp at e
    | succ i =>
      obtain ⟨a, dx, vs, h1, h2, h3, h4, h5, h6⟩ := ih nd (i := i) (by simpa using e)
      exact ⟨a, dx, vs, by simpa using h1, h2, h3, h4, h5, fun j v d r q z => .skip (h6 j v d r q z)⟩
  | @one v0 sv0 B0 σ ρ A r h ih =>
    have nd2 := List.nodup_append.mp nd
    cases i with
    | zero =>
      simp at e; subst e
      unfold RS at r
      obtain ⟨a, dx, vs, B', rfl, h2, h3, h4, rfl⟩ := r
      have hl := RSL.len h4
      rw [zip_take (by rw [hl]; exact Nat.le_refl _)] at h2
      refine ⟨a, dx, vs, rfl, h2, hl, h3, by simp, fun j v d r q z => .one (B := a :: B') ?_ (h.mono (Same.refl F) fun b m o q => ?_)⟩
      · have nB : ∀ b ∈ B', b ≠ a := fun b m e => (List.nodup_cons.mp nd2.1).1 (by rw [← e]; exact m)
        have up : ∀ {ws : List V} {gs : List SV}, RSL Γ.K Γ.cl F H ws gs B' → gs.length ≤ (Γ.cl n).fld.length → RS Γ.K Γ.cl F (upd H a (.ins (Γ.cl n).adr dx ((Γ.cl n).fld.zip ws))) (.ref a) (.ins n gs) (a :: B') := fun {ws gs} rr hg => by
          unfold RS
          refine ⟨a, dx, ws, B', rfl, ?_, hg, RSL.mono (Same.refl F) (fun b m o q => by rw [upd_ne (nB b m)]; exact q) rr, rfl⟩
          rw [upd_same, zip_take (by rw [RSL.len rr]; exact Nat.le_refl _)]
        unfold putAt
        rcases q with rfl | ⟨d0, q⟩
        · rw [if_neg (by omega), if_neg (by omega)]
          exact up (RSL.app r h4) (by simp; omega)
        · have hj : j < fs.length := (List.getElem?_eq_some_iff.mp q).1
          rw [if_pos (by omega), if_pos hj]
          exact up (RSL.setd r h4 q) (by simp; omega)
      · rw [upd_ne (fun z => nd2.2.2 a (by simp) b m z.symm)]
        exact q
    | succ i =>
      obtain ⟨a, dx, vs, h1, h2, h3, h4, h5, h6⟩ := ih nd2.2.1 (i := i) (by simpa using e)
      refine ⟨a, dx, vs, by simpa using h1, h2, h3, h4, List.mem_append_right _ h5, fun j v d rr q z => .one (RS.mono (Same.refl F) (fun b m o q => ?_) r) (h6 j v d rr q z)⟩
      rw [upd_ne (fun z => nd2.2.2 b m a h5 z)]
      exact q
def slotI (n i : Nat) (ρ : Rho) (K : List SV → Prop) : Prop := match ρ[i]? with
  | some (some (.ins n' fs)) => n' = n ∧ K fs
  | _ => False
theorem slotI_ok {n i : Nat} {ρ : Rho} {Kp : List SV → Prop} (h : slotI n i ρ Kp) : ∃ fs, ρ[i]? = some (some (.ins n fs)) ∧ Kp fs := by
  unfold slotI at h
  split at h
  · obtain ⟨rfl, h⟩ := h
    exact ⟨_, by assumption, h⟩
  · exact h.elim
/-- name.f = e -/
def wFldS (n i j : Nat) (w : WE) : WS := fun ρ D E => w ρ (fun sv ρ1 => keep sv ρ1 fun x ρ2 => slotI n i ρ2 fun fs => dataAt j fs ∧ D.nx (ρ2.set i (some (.ins n (putAt j (.d x) fs))))) E
theorem ss_flds (C : Ctx Γ X N sc fp k) (i : Nat) {n j : Nat} {f x : Str} {e : Expr} {w : WE} {p p2 pos : Pos} (K : ClOk Γ n) (hf : (Γ.cl n).fld[j]? = some f) (h : SE Γ X e w) (hN : N[i]? = some x := by rfl) (hv : Vis sc x := by first | exact Or.inl rfl | exact Or.inr (Or.inl rfl) | exact Or.inr (Or.inr rfl)) (hd : (x == ("__debug__" : Str)) = false := by decide) (hcd : (x == ("__classdict__" : Str)) = false := by decide)
    (hs : swapsWith e (some (.Attribute (.Name x p) f p2)) pos.line X.env = pure false := by rfl) :
    SS Γ lk X (.Assign [.Attribute (.Name x p) f p2] e pos) (wFldS n i j w) := .mk fun σ F H A ρ D E DV W hh tk el eo hw pins s I => by
  have pe : PE X (.Name x p) (tVar i) := pe_var (by rw [C.hN]; exact hN) (by rw [C.hs]; exact hv) hd hcd
  refine (ps_fld pe pe_x hs).run pins s σ H DV I ?_
  refine h.use hh tk el.now hw fun sv ρ1 q v F1 H1 A1 B1 o => ?_
  obtain ⟨d, ρ2, F2, A2, hk, x2, h2, r2, _⟩ := keep_ok o.oh o.ors o.ond o.ofb q
  obtain ⟨fs, e1, hda, hk⟩ := slotI_ok hk
  obtain ⟨A3, sl, pp⟩ := h2.sl
  obtain ⟨a, dx, vs, s1, s2, s3, s4, s5, s6⟩ := sl.wri (pp.nodup_iff.mpr h2.nd) e1
  have hj : j < (Γ.cl n).fld.length := (List.getElem?_eq_some_iff.mp hf).1
  have hjl : j ≤ vs.length := by
    rw [s3]
    rcases hda with q | ⟨_, q⟩
    · omega
    · exact Nat.le_of_lt (List.getElem?_eq_some_iff.mp q).1
  have ma : a ∈ A2 := pp.mem_iff.mp s5
  have few := K.few
  refine ⟨.ref a, s1, a, _, dx, _, rfl, s2, by rw [C.K]; exact K.cl, by rw [C.K]; exact K.no f (List.mem_of_getElem? hf), by simp only [List.length_zip]; omega, ?_⟩
  rw [putF_zip K.nd hf hjl (by omega)]
  refine eo.nx _ hk σ F2 _ A2 .refl ((o.oe.trans x2).trans ⟨Same.refl F2, fun b u e n => ?_, fun b u e => .inl e, fun b m => .inl m⟩) ⟨⟨A3, s6 j v d r2 hda hj, pp⟩, fun b u e => ?_, h2.nd, h2.av⟩
  · rw [upd_ne (fun z => n (by rw [z]; exact ma))]
    exact e
  · rw [upd_ne (fun z => by subst z; rw [h2.av b ma] at e; cases e)]
    exact h2.sub b u e
end
end Dv

/-! Dv12: two or three names at once, enumerate, zip, what never runs. -/
namespace Dv
open PySem PySem.Spec PyProof.Rows L2
section
variable {Γ : Wd} {X : Cx} {N : List Str} {sc : Scope} {fp : Str → Bool} {k : Nat} {lk : List Nat}
/-- a statement that is never reached -/
def wBad : WS := fun _ _ _ => False
theorem ss_bad {st : Stmt} : SS Γ lk X st wBad := .mk fun σ F H A ρ D E DV W hh tk el eo hw => hw.elim
def wBadE : WE := fun _ _ _ => False
theorem se_bad {e : Expr} : SE Γ X e wBadE := .mk fun σ F H A ρ Q E QV W hh tk el hw => hw.elim
/-! ### a, b = x, y -/
def wPar2 (i j : Nat) (wa : WA) : WS := fun ρ D E => wa ρ (fun svs ρ1 => keepL svs ρ1 fun ds ρ2 => match ds with
  | [x, y] => D.nx ((ρ2.set i (some (.d x))).set j (some (.d y)))
  | _ => False) E
theorem hold_putD {σ : Sg} {F H : Hp} {A : List Addr} {ρ : Rho} {v : V} {d : D} {i : Nat} (hh : hold Γ σ F H ρ A) (r : rep Γ F v d) (hi : i < σ.length) : ∃ A', hold Γ (σ.set i (some v)) F H (ρ.set i (some (.d d))) A' ∧ ∀ a ∈ A', a ∈ A := by
  obtain ⟨A', h1, h2⟩ := hold_put (B := []) hh (sv := .d d) (by unfold RS; exact ⟨r, rfl⟩) hh.nd (fun _ m => nomatch m) hi
  exact ⟨A', h1, fun a m => by simpa using h2 a m⟩
theorem ss_par2 (C : Ctx Γ X N sc fp k) (i j : Nat) {x y : Str} {a b : Expr} {wa : WA} {px py pt pos : Pos} {kt k2 pt2} (ha : SA Γ X [a, b] wa) (hi : N[i]? = some x := by rfl) (hj : N[j]? = some y := by rfl) (hij : i ≠ j := by decide)
    (hx : sc.names.lookup x = some .local := by rfl) (hy : sc.names.lookup y = some .local := by rfl) (f1 : lk.contains i = false := by rfl) (f2 : lk.contains j = false := by rfl)
    (hw : swappedStores [.Tuple [.Name x px, .Name y py] kt pt] (.Tuple [a, b] k2 pt2) { X.env with scope := sc } = pure (some [x, y]) := by rfl)
    (hs : swapsWithSole [.Tuple [.Name x px, .Name y py] kt pt] (.Tuple [a, b] k2 pt2) pos.line X.env = pure false := by rfl) :
    SS Γ lk X (.Assign [.Tuple [.Name x px, .Name y py] kt pt] (.Tuple [a, b] k2 pt2) pos) (wPar2 i j wa) := .mk fun σ F H A ρ D E DV W hh tk el eo hw' pins s I => by
  have eE : ({ X.env with scope := sc } : Env) = X.env := by rw [← C.hs]
  rw [eE] at hw
  refine (ps_par C.calm (by rw [C.hN]; exact C.nd) (by rw [C.hN]; exact hi) (by rw [C.hN]; exact hj) hij (by rw [C.hs]; exact hx) (by rw [C.hs]; exact hy) pa_x hw hs).run pins s σ H DV I ?_
  refine ha.run σ F H A ρ _ E _ W hh tk el.now hw' fun svs ρ1 hw1 vs F1 H1 A1 B1 o1 => ?_
  obtain ⟨ds, ρ2, F2, A2, hk, x2, hh2, r2, _⟩ := keepL_ok o1.oh o1.ors o1.ond o1.ofb hw1
  split at hk
  · rename_i d1 d2
    unfold repL RL RL RL at r2
    obtain ⟨v1, r', rfl, q1, v2, r'', rfl, q2, rfl⟩ := r2
    obtain ⟨A3, h3, s3⟩ := hold_putD (i := i) hh2 q1 (len_of C I hi)
    obtain ⟨A4, h4, s4⟩ := hold_putD (i := j) h3 q2 (by simpa using len_of C I hj)
    exact ⟨v1, v2, rfl, eo.nx _ hk _ F2 H1 A4 ((Kp.set f1).trans (.set f2)) ((o1.oe.trans x2).sub fun a m => s3 a (s4 a m)) h4⟩
  · exact hk.elim
def wPar3 (i j l : Nat) (wa : WA) : WS := fun ρ D E => wa ρ (fun svs ρ1 => keepL svs ρ1 fun ds ρ2 => match ds with
  | [x, y, z] => D.nx (((ρ2.set i (some (.d x))).set j (some (.d y))).set l (some (.d z)))
  | _ => False) E
/-! ### enumerate, zip -/
def enD (n : Nat) : List D → List D
  | [] => []
  | d :: ds => .tup [.int n, d] :: enD (n + 1) ds
theorem enD_len : ∀ {ds : List D} {n : Nat}, (enD n ds).length = ds.length
  | [], _ => rfl
  | _ :: ds, n => by simp [enD, enD_len (ds := ds)]
theorem enD_get : ∀ {ds : List D} {n i : Nat} {d : D}, ds[i]? = some d → (enD n ds)[i]? = some (.tup [.int ((n + i : Nat) : Int), d])
  | [], _, _, _, h => by simp at h
  | x :: ds, n, 0, d, h => by simp at h; subst h; simp [enD]
  | x :: ds, n, i + 1, d, h => by
    simp only [enD, List.getElem?_cons_succ]
    rw [enD_get (n := n + 1) (by simpa using h)]
    rw [show n + 1 + i = n + (i + 1) by omega]
theorem sqL_of {K : PySem.W.Frag} {H : Hp} {a : Addr} {vs : List V} (h : H a = some (.lst vs)) : SqL K H a vs := .of h
theorem tup_new {σ : Sg} {F H : Hp} {A : List Addr} {ρ : Rho} {T : Addr} {vs : List V} {ds : List D} (hh : hold Γ σ F H ρ A) (hT : H T = none) (r : repL Γ F vs ds) : ∃ F', Ext F H A F' (upd H T (.tup vs)) A ∧ hold Γ σ F' (upd H T (.tup vs)) ρ A ∧ rep Γ F' (.ref T) (.tup ds) := by
  have o := Out.newT hh hT r
  have r' := o.ors
  exact ⟨_, o.ext1, o.oh, by simpa [rs, RS] using r'⟩
theorem walks_enum {K : PySem.W.Frag} {F : Hp} {a : Addr} {vs : List V} {ds : List D} (fa : F a = some (.lst vs)) (r : repL Γ F vs ds) : Walks Γ F (Ite K a) (enD 0 ds) where
  go := fun i F' H s1 s2 hi => by
    rw [enD_len] at hi
    exact ⟨vs, vs[i]'(by rw [RL.length r]; exact hi), .of (s2 a _ (s1 a _ fa)), by simp⟩
  yld := fun i F' H A σ ρ x H' s1 hh hi y => by
    obtain ⟨T, z, rfl, hT, rfl, y⟩ := y
    obtain ⟨d, h1, h2⟩ := RL.get' (RL.mono s1 r) (y vs (.of (hh.sub a _ (s1 a _ fa))))
    obtain ⟨F2, x2, h3, r3⟩ := tup_new (vs := [.int i, z]) (ds := [.int i, d]) hh hT (RL.cons (by unfold Dv.R; rfl) (RL.cons h2 RL.nil))
    exact ⟨_, F2, by rw [enD_get h1]; simp, x2, h3, r3⟩
  stop := fun i F' H s1 s2 hi => ⟨vs, .of (s2 a _ (s1 a _ fa)), by rw [RL.length r]; rw [enD_len] at hi; exact hi⟩
def wEnum (w : WA) : WI := fun ρ Q E => w ρ (fun svs ρ1 => keepL svs ρ1 fun ds ρ2 => match ds with
  | [.lst xs] => Q (enD 0 xs) ρ2
  | _ => False) E
theorem si_enum (C : Ctx Γ X N sc fp k) {es : List Expr} {kk : Nat} {tpos : Pos} {e : Expr} {w : WA} {p pos : Pos} (h : SA Γ X [e] w) (hg : sc.names.lookup ("enumerate" : Str) = some .globalImplicit := by rfl) (hs : starEach [e] X.env = [(false, eval e X.env)] := by rfl) : SI Γ X (.Tuple es kk tpos) (.Call (.Name "enumerate" p) [e] [] pos) (wEnum w) :=
  .mk fun σ F H A ρ Q E R W hh tk el hw hq pins s I => by
  refine (pi_enum (gl_of C hg) (by rw [C.mg]; exact C.bn _ (by decide +kernel)) pa_x hs).run pins s σ H R I ?_
  refine h.run σ F H A ρ _ E _ W hh tk el hw fun svs ρ1 hw1 vs F1 H1 A1 B1 o1 => ?_
  obtain ⟨ds, ρ2, F2, A2, hk, x2, hh2, r2, _⟩ := keepL_ok o1.oh o1.ors o1.ond o1.ofb hw1
  split at hk
  · unfold repL RL RL Dv.R at r2
    obtain ⟨v1, r', rfl, ⟨a, us, rfl, fa, ra⟩, rfl⟩ := r2
    exact ⟨a, us, rfl, .of (hh2.sub a _ fa), hq _ ρ2 hk _ F2 H1 A2 (o1.oe.trans x2) hh2 (walks_enum fa ra)⟩
  · exact hk.elim
def zipD (xs ys : List D) : List D := (xs.zip ys).map fun p => .tup [p.1, p.2]
theorem zipD_get {xs ys : List D} {i : Nat} {x y : D} (h1 : xs[i]? = some x) (h2 : ys[i]? = some y) : (zipD xs ys)[i]? = some (.tup [x, y]) := by
  unfold zipD
  rw [List.getElem?_map, show (xs.zip ys)[i]? = some (x, y) from List.getElem?_zip_eq_some.mpr ⟨h1, h2⟩]
  rfl
theorem walks_zipL {K : PySem.W.Frag} {F : Hp} {a b : Addr} {vs us : List V} {ds es : List D} (fa : F a = some (.lst vs)) (fb : F b = some (.lst us)) (r : repL Γ F vs ds) (r2 : repL Γ F us es) : Walks Γ F (Itz K a b) (zipD ds es) where
  go := fun i F' H s1 s2 hi => by
    simp only [zipD, List.length_map, List.length_zip] at hi
    exact ⟨vs, us, vs[i]'(by rw [RL.length r]; omega), us[i]'(by rw [RL.length r2]; omega), .of (s2 a _ (s1 a _ fa)), .of (s2 b _ (s1 b _ fb)), by simp, by simp⟩
  yld := fun i F' H A σ ρ x H' s1 hh hi y => by
    obtain ⟨T, z, z2, rfl, hT, rfl, y1, y2⟩ := y
    obtain ⟨d, h1, h2⟩ := RL.get' (RL.mono s1 r) (y1 vs (.of (hh.sub a _ (s1 a _ fa))))
    obtain ⟨d', h1', h2'⟩ := RL.get' (RL.mono s1 r2) (y2 us (.of (hh.sub b _ (s1 b _ fb))))
    obtain ⟨F2, x2, h3, r3⟩ := tup_new (vs := [z, z2]) (ds := [d, d']) hh hT (RL.cons h2 (RL.cons h2' RL.nil))
    exact ⟨_, F2, zipD_get h1 h1', x2, h3, r3⟩
  stop := fun i F' H s1 s2 hi => ⟨vs, us, .of (s2 a _ (s1 a _ fa)), .of (s2 b _ (s1 b _ fb)), by
    simp only [zipD, List.length_map, List.length_zip] at hi
    rw [RL.length r, RL.length r2]; omega⟩
theorem walks_zipT {K : PySem.W.Frag} {F : Hp} {a b : Addr} {vs us : List V} {ds es : List D} (fa : F a = some (.tup vs)) (fb : F b = some (.tup us)) (r : repL Γ F vs ds) (r2 : repL Γ F us es) : Walks Γ F (RZ.ItzT K a b) (zipD ds es) where
  go := fun i F' H s1 s2 hi => by
    simp only [zipD, List.length_map, List.length_zip] at hi
    exact ⟨vs, us, vs[i]'(by rw [RL.length r]; omega), us[i]'(by rw [RL.length r2]; omega), .of (s2 a _ (s1 a _ fa)), .of (s2 b _ (s1 b _ fb)), by simp, by simp⟩
  yld := fun i F' H A σ ρ x H' s1 hh hi y => by
    obtain ⟨T, z, z2, rfl, hT, rfl, y1, y2⟩ := y
    obtain ⟨d, h1, h2⟩ := RL.get' (RL.mono s1 r) (y1 vs (.of (hh.sub a _ (s1 a _ fa))))
    obtain ⟨d', h1', h2'⟩ := RL.get' (RL.mono s1 r2) (y2 us (.of (hh.sub b _ (s1 b _ fb))))
    obtain ⟨F2, x2, h3, r3⟩ := tup_new (vs := [z, z2]) (ds := [d, d']) hh hT (RL.cons h2 (RL.cons h2' RL.nil))
    exact ⟨_, F2, zipD_get h1 h1', x2, h3, r3⟩
  stop := fun i F' H s1 s2 hi => ⟨vs, us, .of (s2 a _ (s1 a _ fa)), .of (s2 b _ (s1 b _ fb)), by
    simp only [zipD, List.length_map, List.length_zip] at hi
    rw [RL.length r, RL.length r2]; omega⟩
def wZip (w : WA) : WI := fun ρ Q E => w ρ (fun svs ρ1 => keepL svs ρ1 fun ds ρ2 => match ds with
  | [.lst xs, .lst ys] => Q (zipD xs ys) ρ2
  | [.tup xs, .tup ys] => Q (zipD xs ys) ρ2
  | _ => False) E
theorem si_zip (C : Ctx Γ X N sc fp k) {es : List Expr} {kk : Nat} {tpos : Pos} {e e2 : Expr} {w : WA} {p pos : Pos} (h : SA Γ X [e, e2] w) (hg : sc.names.lookup ("zip" : Str) = some .globalImplicit := by rfl)
    (hs : starEach [e, e2] X.env = (false, eval e X.env) :: starEach [e2] X.env := by rfl) (hpl : (backTo pos (starEach [e2] X.env)).any (·.1) = false := by rfl) : SI Γ X (.Tuple es kk tpos) (.Call (.Name "zip" p) [e, e2] [] pos) (wZip w) :=
  .mk fun σ F H A ρ Q E R W hh tk el hw hq pins s I => by
  refine (RZ.pi_zipA (gl_of C hg) (by rw [C.mg]; exact C.bn _ (by decide +kernel)) pa_x hs hpl).run pins s σ H R I ?_
  refine h.run σ F H A ρ _ E _ W hh tk el hw fun svs ρ1 hw1 vs F1 H1 A1 B1 o1 => ?_
  obtain ⟨ds, ρ2, F2, A2, hk, x2, hh2, r2, _⟩ := keepL_ok o1.oh o1.ors o1.ond o1.ofb hw1
  split at hk
  · unfold repL RL RL RL Dv.R at r2
    obtain ⟨v1, r', rfl, ⟨a, us, rfl, fa, ra⟩, v2, r'', rfl, ⟨b, ws, rfl, fb, rb⟩, rfl⟩ := r2
    exact ⟨a, b, us, ws, rfl, .inl ⟨.of (hh2.sub a _ fa), .of (hh2.sub b _ fb), hq _ ρ2 hk _ F2 H1 A2 (o1.oe.trans x2) hh2 (walks_zipL fa fb ra rb)⟩⟩
  · unfold repL RL RL RL Dv.R at r2
    obtain ⟨v1, r', rfl, ⟨a, us, rfl, fa, ra⟩, v2, r'', rfl, ⟨b, ws, rfl, fb, rb⟩, rfl⟩ := r2
    exact ⟨a, b, us, ws, rfl, .inr ⟨.of (hh2.sub a _ fa), .of (hh2.sub b _ fb), hq _ ρ2 hk _ F2 H1 A2 (o1.oe.trans x2) hh2 (walks_zipT fa fb ra rb)⟩⟩
  · exact hk.elim
end
end Dv

/-! Dv13: facts of the text, gathered; the law's own end. -/
namespace Dv
open PySem PySem.Spec PyProof.Rows L2
section
variable {Γ : Wd} {X : Cx} {N : List Str} {sc : Scope} {fp : Str → Bool} {k : Nat}
theorem se_gintE (C : Ctx Γ X N sc fp k) {x : Str} {i : Int} {pos : Pos} (hg : sc.names.lookup x = some .globalImplicit) (hm : ∃ t, Γ.mg x = some (.int i t)) (hd : (x == ("__debug__" : Str)) = false := by decide) : SE Γ X (.Name x pos) (wC (.int i)) := by
  obtain ⟨t, h⟩ := hm
  exact se_gint C hg h hd
theorem MtE.mono {i j n : Nat} {m : Str} {io : List Bool} {con : Con} (F : MtE Γ i n m io con) (h : i ≤ j) : MtE Γ j n m io con := ⟨F.no, let ⟨f, fd, ps, a, b, c⟩ := F.ex; ⟨f, fd, ps, a, b, c.mono h⟩⟩
theorem PrE.mono {i j n : Nat} {m : Str} {io : List Bool} {con : Con} (F : PrE Γ i n m io con) (h : i ≤ j) : PrE Γ j n m io con := ⟨let ⟨p, f, fd, ps, a, b, c⟩ := F.ex; ⟨p, f, fd, ps, a, b, c.mono h⟩⟩
theorem OpE.mono {i j n : Nat} {m : Str} {io : List Bool} {con : Con} (F : OpE Γ i n m io con) (h : i ≤ j) : OpE Γ j n m io con := ⟨let ⟨f, fd, ps, a, b, c, d, e⟩ := F.ex; ⟨f, fd, ps, a, b, c, d, e.mono h⟩⟩
theorem MkE.mono {i j n : Nat} {m : Str} {io : List Bool} {con : Con} (F : MkE Γ i n m io con) (h : i ≤ j) : MkE Γ j n m io con := ⟨let ⟨f, fd, ps, a, b, c, d⟩ := F.ex; ⟨f, fd, ps, a, b, c, d.mono h⟩⟩
/-- a def of the module / a method, as the text has it -/
def DefAt (Γ : Wd) (x : Str) (st : Stmt) : Prop := ∃ (f : Addr) (fd : FuncData), Γ.mg x = some (.ref f) ∧ Fun Γ.K x x st f fd
def InitAt (Γ : Wd) (n : Nat) (cn qual : Str) (st : Stmt) : Prop := Γ.mg cn = some (.ref (Γ.cl n).adr) ∧ ∃ (f : Addr) (fd : FuncData), Mk Γ.K (Γ.cl n).adr f ∧ Fun Γ.K "__init__" qual st f fd
def MethAt (Γ : Wd) (n : Nat) (m qual : Str) (st : Stmt) : Prop := m ∉ (Γ.cl n).fld ∧ ∃ (f : Addr) (fd : FuncData), PySem.W.findIn Γ.K (.ref (Γ.cl n).adr) m = some (some (.ref f)) ∧ PySem.W.isFn Γ.K (.ref f) = true ∧ PySem.W.fnIn Γ.K f = true ∧ Fun Γ.K m qual st f fd
def PropAt (Γ : Wd) (n : Nat) (m qual : Str) (st : Stmt) : Prop := ∃ (p f : Addr) (fd : FuncData), PropOf Γ.K (Γ.cl n).adr m p f ∧ Fun Γ.K m qual st f fd
abbrev BindsBy (ps : List Str) (st : Stmt) : Prop := ∀ (x qual : Str) (kV doc pm cdv ct : Value) (an : Option Addr) (us : List Value), us.length = ps.length → bindArgs (PySem.W.fnOf x qual (defArgs st) (defBody st) (defScope st) .none kV doc pm an cdv ct) ⟨us, []⟩ = pure (ps.zip us)
theorem binds_by {x qual : Str} {st : Stmt} {f : Addr} {fd : FuncData} {ps : List Str} (F : Fun Γ.K x qual st f fd) (h : BindsBy ps st) : Binds Γ.K fd ps [] := by
  obtain ⟨oc, od, kV, doc, pm, an, cdv, ct, osl, rfl, lk, hcd⟩ := F.ex
  exact Binds.all fun us hl => h x qual kV doc pm cdv ct an us hl
section
variable {st : Stmt} {N ps : List Str} {io : List Bool} {con : Con} {w : WS}
abbrev TrOf (Γ : Wd) (N : List Str) (io : List Bool) (st : Stmt) (k : Nat) (w : WS) : Prop := ∀ X, Ctx Γ X N (defScope st) (fun _ => true) k → Own X → DefCx X → SSs Γ (lkOf io 0) X (defBody st) w
abbrev LawOf (N : List Str) (io : List Bool) (con : Con) (w : WS) : Prop := ∀ svs Q E, ArgOk io svs → con svs Q E → w (startR N svs) (endsOf io svs Q) (errsOf io svs E)
theorem fnE_of {x : Str} (D : DefAt Γ x st) (S : FnScope N ps (defScope st)) (B : BindsBy ps st) (bn : ∀ x ∈ bnames, Γ.mg x = none) (hio : io.length = ps.length) (tr : TrOf Γ N io st k w) (law : LawOf N io con w) : FnE Γ (k + 1) x io con :=
  let ⟨f, fd, hm, F⟩ := D
  ⟨⟨f, fd, ps, hm, F.kp, binds_by F B, fnG_of F S bn hio tr law⟩⟩
theorem mkE_of {n : Nat} {x qual : Str} (D : InitAt Γ n x qual st) (S : FnScope N ps (defScope st)) (B : BindsBy ps st) (bn : ∀ x ∈ bnames, Γ.mg x = none) (hio : (true :: io).length = ps.length) (tr : TrOf Γ N (true :: io) st k w) (law : LawOf N (true :: io) con w) : MkE Γ (k + 1) n x io con :=
  let ⟨hm, f, fd, M, F⟩ := D
  ⟨⟨f, fd, ps, hm, M, binds_by F B, fnG_of F S bn hio tr law⟩⟩
theorem mtE_of {n : Nat} {x qual : Str} (D : MethAt Γ n x qual st) (S : FnScope N ps (defScope st)) (B : BindsBy ps st) (bn : ∀ x ∈ bnames, Γ.mg x = none) (hio : io.length = ps.length) (tr : TrOf Γ N io st k w) (law : LawOf N io con w) : MtE Γ (k + 1) n x io con :=
  let ⟨no, f, fd, h1, h2, h3, F⟩ := D
  ⟨no, ⟨f, fd, ps, ⟨h1, h2, F.kp⟩, binds_by F B, fnG_of F S bn hio tr law⟩⟩
theorem opE_of {n : Nat} {x qual : Str} (D : MethAt Γ n x qual st) (S : FnScope N ps (defScope st)) (B : BindsBy ps st) (bn : ∀ x ∈ bnames, Γ.mg x = none) (hio : io.length = ps.length) (tr : TrOf Γ N io st k w) (law : LawOf N io con w) : OpE Γ (k + 1) n x io con :=
  let ⟨no, f, fd, h1, h2, h3, F⟩ := D
  ⟨⟨f, fd, ps, h1, h2, h3, binds_by F B, fnG_of F S bn hio tr law⟩⟩
theorem prE_of {n : Nat} {x qual : Str} (D : PropAt Γ n x qual st) (S : FnScope N ps (defScope st)) (B : BindsBy ps st) (bn : ∀ x ∈ bnames, Γ.mg x = none) (hio : io.length = ps.length) (tr : TrOf Γ N io st k w) (law : LawOf N io con w) : PrE Γ (k + 1) n x io con :=
  let ⟨p, f, fd, h1, F⟩ := D
  ⟨⟨p, f, fd, ps, h1, binds_by F B, fnG_of F S bn hio tr law⟩⟩
end
end
/-! ### the end -/
/-- the law's promise: at every script True -/
def c_law : Con := fun svs Q _ => ∃ ns : List Int, svs = [.d (.scr ns)] ∧ ns.length ≤ 63 ∧ Q (.d (.bl true)) svs
section
variable {K : PySem.W.Frag} {w : World} {P : Program}
/-- the tracked heap at the law's call: nothing but the script -/
def scrH (a : Addr) (o : HO) : Hp := fun b => if b = a then some o else none
theorem scr_core {mg mb : Str → Option Value} {cl : Nat → Cl} {exc : Nat → Addr} {k : Nat} {fa a : Addr} {fd : FuncData} {s1 : Shared} {ns : List Int} {ov : Array Value} {H : Hp}
    (inK : K.In s1.heap) (gl : s1.heap.Ns mainGlobals mg) (bl : s1.heap.Ns builtinsNs mb) (boot : ∀ y : Str, y ≠ "__name__" → mb y = bootBuiltins y) (nolim : s1.heap.NoLimit) (nogen : s1.gens = #[]) (few : ns.length ≤ 63) (room : Room k callerA)
    (at_ : s1.heap.get? a = some { cls := .type "list", data := .seq ov })
    (F : ∀ base : Heap, K.In base → base.Ns mainGlobals mg → FnG ⟨P, w, K, mg, base, cl, exc⟩ k fa fd ["script"] (spC ⟨P, w, K, mg, base, cl, exc⟩ [false] c_law)) (bd : ∀ (s : Shared) (u : Value), BindsTo s fd ⟨[u], []⟩ [("script", u)])
    (sq : SqL K H a (ns.map V.int)) (okH : HOk P w H s1.heap) (onlyA : ∀ b, H b ≠ none → b = a ∧ K.lookup a = none) (frz : ∀ b u, H b = some u → ∃ o xs, u = .frz o (.lst xs)) :
    codeAny (model P w) callerA (.call (.ref fa) ⟨[.ref a], []⟩) (fun r s' => r = .ok (.ret (.bool true)) ∧ OldK s1.heap s'.heap ∧ s'.os = s1.os ∧ AllBare s'.gens) s1 := by
  have free : ∀ {b : Addr} {o : Obj}, s1.heap.get? b = some o → o.data ≠ .seq ov → H b = none := fun {b o} e d => by
    refine Classical.byContradiction fun n => d ?_
    obtain ⟨z, _⟩ := onlyA b n
    rw [z, at_] at e
    cases e
    rfl
  have nsOf : ∀ {b : Addr} {m : Str → Option Value}, s1.heap.Ns b m → (hidT s1.heap H).Ns b m := fun {b m} ⟨o, es, ep, e, d, r⟩ => ⟨o, es, ep, hidT_get e (free e (by rw [d]; exact fun z => nomatch z)), d, r⟩
  have inB : K.In (hidT s1.heap H) := fun b o e => hidT_get (inK b o e) (Classical.byContradiction fun n => by
    obtain ⟨z, q⟩ := onlyA b n
    rw [z, q] at e
    cases e)
  have lim : (hidT s1.heap H).NoLimit := by
    obtain ⟨mc, p, q⟩ := nolim
    exact ⟨mc, nsOf p, q⟩
  have env : Env0 P w K mg (hidT s1.heap H) callerA [] s1 H := { frames := rfl, mod := ⟨inB, nsOf gl, ⟨mb, nsOf bl, boot⟩, lim⟩, bs := fun b o e => of_hidT e, bsz := Nat.le_of_eq (hidT_size _ _), funs := trivial, frf := (fun b hb => nomatch hb), hok := okH, bare := .of_eq nogen }
  have promise : spC ⟨P, w, K, mg, hidT s1.heap H, cl, exc⟩ [false] c_law [.ref a] H (fun v _ => v = .bl true) (fun _ _ _ => False) := by
    refine ⟨H, [], [.d (.scr ns)], fun sv _ => sv = .d (.bl true), fun _ _ _ => False, .dat .nil, ⟨⟨[], ?_, .refl _⟩, Same.refl _, List.nodup_nil, (fun _ m => nomatch m)⟩, ⟨ns, rfl, few, rfl⟩, fun sv svs' e v F' H' A' B o => ?_, fun _ _ _ z => z.elim⟩
    · refine .one (B := []) (A := []) ?_ .nil
      unfold RS Dv.R
      exact ⟨⟨a, rfl, sq⟩, rfl⟩
    · subst e
      have r := o.ors
      simp only [rs, RS, Dv.R] at r
      exact r.1
  refine codeAny_mono ((F _ inB (nsOf gl)).run callerA [] s1 H ⟨[.ref a], []⟩ [.ref a] [.ref a] _ _ room rfl env (bd s1 (.ref a)) (.cons rfl .nil) promise) fun r s2 back => ?_
  cases r with
  | error e =>
    obtain ⟨_, _, _, _, _, _, _, _, _, _, _, _, z⟩ := back
    exact z.elim
  | ok fl =>
    cases fl with
    | ret u =>
      obtain ⟨v, H2, os, bare, un, ok2, rv, rfl⟩ := back
      cases rv
      refine ⟨rfl, OldK.of_keep fun b o e => ?_, os, bare⟩
      cases q : H b with
      | none => exact un.keep b o e q (fun z => nomatch z) (by simp)
      | some u =>
        obtain ⟨ob, xs, rfl⟩ := frz b u q
        have e1 := (okH b _ q).1
        have e2 := (ok2 b _ (un.frzs b ob _ q)).1
        rw [e1] at e
        cases e
        exact e2
    | _ => exact False.elim back
theorem law_end {mg mb : Str → Option Value} {cl : Nat → Cl} {exc : Nat → Addr} {k : Nat} {fa a : Addr} {fd : FuncData} {s1 : Shared} {vs : List Value} {ns : List Int}
    (inK : K.In s1.heap) (gl : s1.heap.Ns mainGlobals mg) (bl : s1.heap.Ns builtinsNs mb) (boot : ∀ y : Str, y ≠ "__name__" → mb y = bootBuiltins y) (nolim : s1.heap.NoLimit) (nogen : s1.gens = #[])
    (at_ : s1.heap.get? a = some { cls := .type "list", data := .seq vs.toArray }) (ia : IntsAre vs ns) (few : ns.length ≤ 63) (room : Room k callerA)
    (F : ∀ base : Heap, K.In base → base.Ns mainGlobals mg → FnG ⟨P, w, K, mg, base, cl, exc⟩ k fa fd ["script"] (spC ⟨P, w, K, mg, base, cl, exc⟩ [false] c_law)) (bd : ∀ (s : Shared) (u : Value), BindsTo s fd ⟨[u], []⟩ [("script", u)]) :
    codeAny (model P w) callerA (.call (.ref fa) ⟨[.ref a], []⟩) (fun r s' => r = .ok (.ret (.bool true)) ∧ OldK s1.heap s'.heap ∧ s'.os = s1.os ∧ AllBare s'.gens) s1 := by
  have vals := vals_ints ia
  have len : ns.length ≤ sizeLine := by rw [line_eq]; omega
  have lenV : vs.length = ns.length := by simpa using vals.length.symm
  cases hk : K.lookup a with
  | some o =>
    have e := inK a o hk
    rw [at_] at e
    cases e
    refine scr_core (H := fun _ => none) inK gl bl boot nolim nogen few room at_ F bd (.inr ⟨_, vs.toArray, _, hk, rfl, rfl, rfl, by rw [List.size_toArray, lenV]; exact len, by simpa using vals⟩) (fun b u z => nomatch z) (fun b z => absurd rfl z) fun b u z => nomatch z
  | none =>
    have hA : scrH a (.frz { cls := .type "list", data := .seq vs.toArray } (.lst (ns.map V.int))) a = some (.frz { cls := .type "list", data := .seq vs.toArray } (.lst (ns.map V.int))) := if_pos rfl
    have only : ∀ b u, scrH a (.frz { cls := .type "list", data := .seq vs.toArray } (.lst (ns.map V.int))) b = some u → b = a ∧ u = .frz { cls := .type "list", data := .seq vs.toArray } (.lst (ns.map V.int)) := fun b u z => by
      unfold scrH at z
      split at z
      · cases z; exact ⟨by assumption, rfl⟩
      · cases z
    refine scr_core inK gl bl boot nolim nogen few room at_ F bd (.inl (.inr ⟨_, hA⟩)) (fun b u z => ?_) (fun b z => ?_) fun b u z => ⟨_, _, (only b u z).2⟩
    · obtain ⟨rfl, rfl⟩ := only b u z
      exact ⟨at_, by rw [List.length_map]; exact len, vs, _, vals, at_⟩
    · cases q : scrH a (.frz { cls := .type "list", data := .seq vs.toArray } (.lst (ns.map V.int))) b with
      | none => exact absurd q z
      | some u => exact ⟨(only b u q).1, hk⟩
end
/-- the goal that k_head leaves -/
theorem walk_dv {l : PySem.W.OpenLaw} {k : Nat} {q : Program} {loose : List Str} {XP : (Str → Option Value) → Heap → Prop} {YP : World → Heap → Prop} {d : DefRec} {K : Params → PySem.W.Frag} (hn : l.most = some 63) (hdf : d.params.defaults = []) (room : Room k callerA)
    (hY : ∀ (w : World) (h : Heap), YP w h → (K w.params).In h)
    (F : ∀ (w : World) (mg : Str → Option Value) (fa : Addr) (h : Heap), (K w.params).In h → h.Ns mainGlobals mg → mg d.name = some (.ref fa) →
      ∃ (fd : FuncData) (cl : Nat → Cl) (exc : Nat → Addr), (∀ (s : Shared) (u : Value), BindsTo s fd ⟨[u], []⟩ [("script", u)]) ∧ ∀ base : Heap, (K w.params).In base → base.Ns mainGlobals mg → FnG ⟨l.prog, w, K w.params, mg, base, cl, exc⟩ k fa fd ["script"] (spC ⟨l.prog, w, K w.params, mg, base, cl, exc⟩ [false] c_law)) :
    PySem.W.WalkO q loose XP YP l.row.toRowW d [] (fun f vs => PySem.call f vs) := by
  refine Att.attach_call hn hdf fun w s0 s1 mg mb fa o pm cd doc a vs ns G Y ho hd hcd hmg hobj hints hlen hg => ?_
  obtain ⟨fd, cl, exc, bd, FF⟩ := F w mg fa _ (hY w _ Y) G.T.g hmg
  exact law_end (hY w _ Y) G.T.g G.T.b G.T.builtins G.T.nolimit hg hobj hints hlen room FF bd
end Dv

/-! Dv14: readings, stepped: loops by what each turn keeps, choices, items. -/
namespace Dv
open PySem PySem.Spec PyProof.Rows L2
theorem Br.of {p : Prop} [Decidable p] {A B : Prop} (h : p → A) (g : ¬ p → B) : Br (decide p) A B := ⟨fun e => h (of_decide_eq_true e), fun e => g (of_decide_eq_false e)⟩
theorem Br.ofN {p : Prop} [Decidable p] {A B : Prop} (h : ¬ p → A) (g : p → B) : Br (!decide p) A B := ⟨fun e => h (by simpa using e), fun e => g (by simpa using e)⟩
theorem Br.b {b : Bool} {A B : Prop} (h : b = true → A) (g : b = false → B) : Br b A B := ⟨h, g⟩
theorem forL_ind {g : WG} {wb : WS} {D : Nd} {E : EK} (P : List Dv.D → Rho → Prop) (nil : ∀ ρ, P [] ρ → D.nx ρ) (cons : ∀ d ds ρ, P (d :: ds) ρ → (∀ ρ', P ds ρ' → forL g wb ds ρ' D E) →
    g d ρ fun ρ1 => wb ρ1 { nx := fun ρ2 => Nxt ρ2 fun ρ3 => forL g wb ds ρ3 D E, ct := fun ρ2 => Nxt ρ2 fun ρ3 => forL g wb ds ρ3 D E, bk := D.nx, rt := D.rt } E) : ∀ ds ρ, P ds ρ → forL g wb ds ρ D E
  | [], ρ, h => nil ρ h
  | d :: ds, ρ, h => cons d ds ρ h fun ρ' h' => forL_ind P nil cons ds ρ' h'
theorem compL_ind {g : WG} {wt : WT} {we : WE} {own : List Nat} {K : List D → Rho → Prop} (P : List D → List D → Rho → Prop) (nil : ∀ acc ρ, P [] acc ρ → K acc ρ) (cons : ∀ d ds acc ρ, P (d :: ds) acc ρ → (∀ acc' ρ', P ds acc' ρ' → compL g wt we own ds acc' ρ' K) →
    g d ρ fun ρ1 => wt ρ1 (fun b ρ2 => Br b (we ρ2 (fun y ρ3 => keep y ρ3 fun x ρ4 => acc.length < 16777216 ∧ compL g wt we own ds (acc ++ [x]) (wipeR ρ4 own) K) noE) (compL g wt we own ds acc (wipeR ρ2 own) K)) noE) : ∀ ds acc ρ, P ds acc ρ → compL g wt we own ds acc ρ K
  | [], acc, ρ, h => nil acc ρ h
  | d :: ds, acc, ρ, h => cons d ds acc ρ h fun acc' ρ' h' => compL_ind P nil cons ds acc' ρ' h'
theorem at_get {α : Type} {xs : List α} {i : Int} (h : 0 ≤ i) (h2 : i < xs.length) : atI xs i = xs[i.toNat]? := by
  unfold atI ixN
  rw [if_pos h, if_pos h2]
  rfl
theorem at_nat {α : Type} {xs : List α} {i : Int} (h : 0 ≤ i) {x : α} (e : xs[i.toNat]? = some x) : atI xs i = some x := by
  have := (List.getElem?_eq_some_iff.mp e).1
  rw [at_get h (by omega), e]
theorem at0 {α : Type} {x : α} {xs : List α} : atI (x :: xs) 0 = some x := at_nat (by decide) rfl
theorem at1 {α : Type} {x y : α} {xs : List α} : atI (x :: y :: xs) 1 = some y := at_nat (by decide) rfl
theorem at2 {α : Type} {x y z : α} {xs : List α} : atI (x :: y :: z :: xs) 2 = some z := at_nat (by decide) rfl
theorem ix3 : ixN 3 0 = some 0 ∧ ixN 3 1 = some 1 ∧ ixN 3 2 = some 2 := by decide
theorem exEq {α : Type} {a : α} {P : α → Prop} (h : P a) : ∃ d, some a = some d ∧ P d := ⟨a, rfl, h⟩
theorem cml {i j : Int} (h1 : -(2 ^ 64) < i) (h2 : i < 2 ^ 64) : CMl i j := .inl (.inl ⟨h1, h2⟩)
theorem cmr {i j : Int} (h1 : -(2 ^ 64) < j) (h2 : j < 2 ^ 64) : CMl i j := .inl (.inr ⟨h1, h2⟩)
theorem log2_lt' {n k : Nat} (h : n < 2 ^ (k + 1)) : n.log2 < k + 1 := by
  by_cases e : n = 0
  · subst e; simp
  · exact (Nat.log2_lt e).mpr h
theorem cml_w {i j : Int} (h1 : i.natAbs < 2 ^ 400000) (h2 : j.natAbs < 2 ^ 400000) : CMl i j := .inr (by
  unfold CMulW
  have a := log2_lt' (k := 399999) h1
  have b := log2_lt' (k := 399999) h2
  omega)
theorem cdiv {i j : Int} (h1 : 0 < j) (h2 : j.natAbs < 2 ^ 8000) : CDivW i j := ⟨h1, by
  have a := log2_lt' (k := 7999) h2
  omega⟩
theorem cpw {i j : Int} (h1 : 0 ≤ j) (h2 : j ≤ 3000) (h3 : i.natAbs < 2 ^ 250) : CPw i j := ⟨h1, h2, Nat.lt_of_lt_of_le h3 (Nat.pow_le_pow_right (by decide) (by decide))⟩
theorem cdv {i j : Int} (h1 : 0 < j) (h2 : j < 2 ^ 250) : CDivW i j := cdiv h1 (Nat.lt_of_lt_of_le (show j.natAbs < 2 ^ 250 by omega) (Nat.pow_le_pow_right (by decide) (by decide)))
theorem few3 {n : Nat} (h : n ≤ 1000) : n ≤ 16777216 := by omega
theorem nb {b : Bool} : (false != b) = b := by cases b <;> rfl
end Dv

/-! Dv15: calls by name. -/
namespace Dv
open PySem PySem.Spec PyProof.Rows L2
def prm {α : Type} (d : α) (js : List Nat) (xs : List α) : List α := js.map fun j => xs.getD j d
theorem prm_all {α : Type} {d : α} {xs : List α} : prm d (List.range xs.length) xs = xs := by
  apply List.ext_getElem?
  intro i
  unfold prm
  rw [List.getElem?_map]
  by_cases h : i < xs.length
  · simp [h, List.getD]
  · simp [h]
theorem prm_map {α β : Type} {d : α} {f : α → β} {js : List Nat} {xs : List α} : prm (f d) js (xs.map f) = (prm d js xs).map f := by
  unfold prm
  rw [List.map_map]
  refine List.map_congr_left fun j _ => ?_
  simp only [Function.comp, List.getD, List.getElem?_map]
  cases xs[j]? <;> rfl
section
variable {Γ : Wd} {X : Cx} {N : List Str} {sc : Scope} {fp : Str → Bool} {k : Nat}
theorem rsL_perm {σ : Sg} {F H : Hp} {l l' : List (V × SV)} (p : l.Perm l') : ∀ {B : List Addr}, rsL Γ σ F H (l.map Prod.fst) (l.map Prod.snd) B → ∃ B', rsL Γ σ F H (l'.map Prod.fst) (l'.map Prod.snd) B' ∧ B.Perm B' := by
  induction p with
  | nil => exact fun {B} h => ⟨B, h, .refl _⟩
  | cons x _ ih =>
    rintro B ⟨v, r, B1, B2, e, h1, h2, rfl⟩
    cases e
    obtain ⟨B', h3, h4⟩ := ih h2
    exact ⟨B1 ++ B', ⟨_, _, B1, B', rfl, h1, h3, rfl⟩, .append_left _ h4⟩
  | swap x y l =>
    rintro B ⟨v, r, B1, B2, e, h1, ⟨v2, r2, B3, B4, e2, h2, h3, rfl⟩, rfl⟩
    cases e
    cases e2
    refine ⟨B3 ++ (B1 ++ B4), ⟨_, _, B3, _, rfl, h2, ⟨_, _, B1, B4, rfl, h1, h3, rfl⟩, rfl⟩, ?_⟩
    rw [← List.append_assoc, ← List.append_assoc]
    exact .append_right _ List.perm_append_comm
  | trans _ _ ih1 ih2 =>
    intro B h
    obtain ⟨B1, h1, p1⟩ := ih1 h
    obtain ⟨B2, h2, p2⟩ := ih2 h1
    exact ⟨B2, h2, p1.trans p2⟩
theorem rsL_len {σ : Sg} {F H : Hp} : ∀ {svs : List SV} {vs : List V} {B : List Addr}, rsL Γ σ F H vs svs B → vs.length = svs.length
  | [], _, _, h => by rw [h.1]; rfl
  | x :: xs, _, _, h => by
    obtain ⟨v, r, B1, B2, rfl, _, h3, _⟩ := h
    simp [rsL_len h3]
theorem out_perm {σ : Sg} {F H F1 H1 : Hp} {A A1 B1 : List Addr} {ρ1 : Rho} {svs : List SV} {vs : List V} {js : List Nat} (o : OutL Γ σ F H A ρ1 svs vs F1 H1 A1 B1) (p : js.Perm (List.range svs.length)) : ∃ B', OutL Γ σ F H A ρ1 (prm (.d .non) js svs) (prm .non js vs) F1 H1 A1 B' := by
  have hl := rsL_len o.ors
  have e1 : ((vs.zip svs).map Prod.fst) = vs := List.map_fst_zip (by omega)
  have e2 : ((vs.zip svs).map Prod.snd) = svs := List.map_snd_zip (by omega)
  have hz : (vs.zip svs).length = svs.length := by simp; omega
  have pp : (vs.zip svs).Perm (prm (V.non, SV.d .non) js (vs.zip svs)) := by
    have := (p.map fun j => (vs.zip svs).getD j (V.non, SV.d .non)).symm
    rw [← hz] at this
    rw [show List.map (fun j => (vs.zip svs).getD j (V.non, SV.d .non)) (List.range (vs.zip svs).length) = vs.zip svs from prm_all] at this
    exact this
  have r : rsL Γ σ F1 H1 ((vs.zip svs).map Prod.fst) ((vs.zip svs).map Prod.snd) B1 := by rw [e1, e2]; exact o.ors
  obtain ⟨B', r2, pb⟩ := rsL_perm pp r
  have q1 := prm_map (d := (V.non, SV.d D.non)) (f := Prod.fst) (js := js) (xs := vs.zip svs)
  have q2 := prm_map (d := (V.non, SV.d D.non)) (f := Prod.snd) (js := js) (xs := vs.zip svs)
  rw [e1] at q1
  rw [e2] at q2
  rw [← q1, ← q2] at r2
  have pa : (B1 ++ A1).Perm (B' ++ A1) := .append_right _ pb
  exact ⟨B', ⟨o.oe.sub fun a m => pa.mem_iff.mpr m, o.oh, r2, pa.nodup_iff.mp o.ond, fun b m => o.ofb b (pb.mem_iff.mpr m)⟩⟩
/-! ### the values of keywords -/
def wpXK (X : Cx) (kws : List Keyword) : TA := fun σ H Q => ∀ pos pins s, Inv X pins σ H s → wpAny (model X.prog X.w) X.A (evalAll ((backToKw pos (keywordEach kws X.env)).map (·.2))) (AP X pins σ Q) X.xe s
theorem pk_x {kws : List Keyword} : PK X kws (wpXK X kws) := ⟨fun pos pins s _ _ _ I h => h pos pins s I⟩
structure SK (Γ : Wd) (X : Cx) (kws : List Keyword) (w : WA) : Prop where
  run : ∀ (σ : Sg) (F H : Hp) (A : List Addr) (ρ : Rho) (Q : List SV → Rho → Prop) (E : EK) (QV : List V → Hp → Prop) (W : WX), hold Γ σ F H ρ A → Takes X W → EL Γ σ F H A E W → w ρ Q E →
    (∀ svs ρ', Q svs ρ' → ∀ vs F' H' A' B, OutL Γ σ F H A ρ' svs vs F' H' A' B → QV vs H') → wpXK X kws σ H QV
theorem sk_nil : SK Γ X [] wNil := .mk fun σ F H A ρ Q E QV W hh tk el hw hq pos pins s I =>
  pk_nil.run pos pins s σ H QV I (hq [] ρ hw [] F H A [] ⟨Ext.refl, hh, by unfold rsL; exact ⟨rfl, rfl⟩, hh.nd, fun _ m => nomatch m⟩)
theorem sk_cons {nm : Option Str} {e : Expr} {kpos : Pos} {kws : List Keyword} {w : WE} {wr : WA} (h : SE Γ X e w) (hr : SK Γ X kws wr) : SK Γ X (⟨nm, e, kpos⟩ :: kws) (wCons w wr) :=
  .mk fun σ F H A ρ Q E QV W hh tk el hw hq pos pins s I => by
  refine (pk_cons pe_x pk_x).run pos pins s σ H QV I ?_
  refine h.use hh tk el hw fun sx ρ1 hw1 v1 F1 H1 A1 B1 o1 => ?_
  refine hr.run σ F1 H1 A1 ρ1 _ E _ W o1.oh tk (el.ext o1.ext1) hw1 fun sxs ρ2 hw2 vs F2 H2 A2 B2 o2 => ?_
  exact hq _ _ hw2 (v1 :: vs) F2 H2 A2 (B1 ++ B2) (out_cons o1 o2)
/-- a def, known by its name and its text -/
structure FnX (Γ : Wd) (k : Nat) (x : Str) (st : Stmt) (ps : List Str) (io : List Bool) (con : Con) : Prop where
  ex : ∃ (f : Addr) (fd : FuncData), Γ.mg x = some (.ref f) ∧ Fun Γ.K x x st f fd ∧ FnG Γ k f fd ps (spC Γ io con)
theorem FnX.mono {i j : Nat} {x : Str} {st : Stmt} {ps : List Str} {io : List Bool} {con : Con} (F : FnX Γ i x st ps io con) (h : i ≤ j) : FnX Γ j x st ps io con := ⟨let ⟨f, fd, a, b, c⟩ := F.ex; ⟨f, fd, a, b, c.mono h⟩⟩
theorem fnX_of {st : Stmt} {N ps : List Str} {io : List Bool} {con : Con} {w : WS} {x : Str} (D : DefAt Γ x st) (S : FnScope N ps (defScope st)) (bn : ∀ x ∈ bnames, Γ.mg x = none) (hio : io.length = ps.length) (tr : TrOf Γ N io st k w) (law : LawOf N io con w) : FnX Γ (k + 1) x st ps io con :=
  let ⟨f, fd, hm, F⟩ := D
  ⟨⟨f, fd, hm, F, fnG_of F S bn hio tr law⟩⟩
abbrev BindsKw (ps ks : List Str) (js : List Nat) (st : Stmt) : Prop := ∀ (x qual : Str) (kV doc pm cdv ct : Value) (an : Option Addr) (ws : List Value), ws.length = ks.length → bindArgs (PySem.W.fnOf x qual (defArgs st) (defBody st) (defScope st) .none kV doc pm an cdv ct) ⟨[], ks.zip ws⟩ = pure (ps.zip (prm .none js ws))
theorem vals_prm {js : List Nat} {vs : List V} {ws : List Value} (r : Vals vs ws) : Vals (prm .non js vs) (prm .none js ws) := by
  induction js with
  | nil => exact .nil
  | cons j js ih =>
    refine .cons ?_ ih
    show RelV (vs.getD j .non) (ws.getD j .none)
    unfold List.getD
    cases e : vs[j]? with
    | none =>
      have : ws[j]? = none := by
        rw [List.getElem?_eq_none_iff] at e ⊢
        rw [← r.length]; exact e
      rw [this]; rfl
    | some v =>
      obtain ⟨u, hu, ru⟩ := r.get e
      rw [hu]; exact ru
def wCallW (js : List Nat) (io : List Bool) (con : Con) (wk : WA) : WE := fun ρ Q E => wk ρ (fun zs ρ1 => js.Perm (List.range zs.length) ∧ wCallK io con (prm (.d .non) js zs) ρ1 Q E) E
theorem se_callW (C : Ctx Γ X N sc fp k) {x : Str} {st : Stmt} {ps ks : List Str} {js : List Nat} {io : List Bool} {con : Con} {kws : List Keyword} {wk : WA} {p pos : Pos} (F : FnX Γ k x st ps io con) (KB : BindsKw ps ks js st) (hk : SK Γ X kws wk) (hg : sc.names.lookup x = some .globalImplicit := by rfl)
    (hall : (backToKw pos (keywordEach kws X.env)).all (·.1.isSome) = true := by rfl) (hks : (backToKw pos (keywordEach kws X.env)).filterMap (·.1) = ks := by rfl) (hdb : (x == ("__debug__" : Str)) = false := by decide)
    (hpl : ((backTo pos (starEach [] X.env)).any (·.1) || (backToKw pos (keywordEach kws X.env)).any (·.1.isNone)) = false := by rfl) (hkl : js.length = ks.length := by rfl) : SE Γ X (.Call (.Name x p) [] kws pos) (wCallW js io con wk) := .mk fun σ F0 H A ρ Q E QV W hh tk el hw hq pins s I => by
  obtain ⟨f, fd, hm, FU, FF⟩ := F.ex
  refine wpAny_Call_Name_kw (ld_glob I (gl_of C hg) (by rw [C.mg]; exact hm) ?_ hdb)
  refine PySem.W.callWith_KW0 (h₀ := X.base) I.ok.mod.kin (by rw [C.K]; exact FU.kp) hall ?_ hpl
  have len : wpXK X kws σ H fun zs H1 => zs.length = ks.length ∧ spC Γ io con (prm .non js zs) H1 QV (fun cls d H' => W cls d σ H') := by
    refine hk.run σ F0 H A ρ _ E _ W hh tk el hw fun svs ρ1 hw1 vs F1 H1 A1 B1 o1 => ?_
    obtain ⟨pp, hw1⟩ := hw1
    obtain ⟨B', oo⟩ := out_perm o1 pp
    refine ⟨?_, call_core oo el hw1 hq⟩
    have := pp.length_eq
    rw [rsL_len o1.ors, ← hkl, this, List.length_range]
  refine thn (len pos pins s I) fun ws s1 ⟨zs, H1, I1, rz, hz, q⟩ => ⟨I1.kIn, ?_⟩
  rw [hks]
  obtain ⟨oc, od, kV, doc, pm, an, cdv, ct, osl, rfl, lk, hcd⟩ := FU.ex
  have e0 := I1.env0
  rw [C.p, C.w, C.K, C.mg, C.base] at e0
  have R := FF.run X.A X.stack s1 H1 ⟨[], ks.zip ws⟩ (prm .none js ws) (prm .non js zs) QV _ C.room C.gd e0 (.of_eq (KB _ _ _ _ _ _ _ _ ws (by rw [← rz.length]; exact hz))) (vals_prm rz) q
  rw [← C.p, ← C.w] at R
  refine wpAny_call (codeAny_mono R fun res s' back => ?_)
  cases res with
  | error e => exact tk e s' (XE.of_call I1 (fun _ _ _ z => z) back)
  | ok fl =>
    cases fl with
    | ret u => exact I1.after back
    | next => exact back.elim
    | brk => exact back.elim
    | cont => exact back.elim
end
end Dv

/-! Dv16: what is written of trees of ints stays within bounds. -/
namespace Dv
open PySem PySem.Spec PyProof.Rows L2
/-! ints of at most 1900 bits, truths and None, in lists and tuples -/
mutual
def small : D → Prop
  | .non => True
  | .bl _ => True
  | .int i => i.natAbs < 2 ^ 1900
  | .lst ds => smallL ds
  | .tup ds => smallL ds
  | _ => False
def smallL : List D → Prop
  | [] => True
  | d :: ds => small d ∧ smallL ds
end
mutual
def room : D → Nat
  | .lst ds => roomL ds + 8
  | .tup ds => roomL ds + 8
  | _ => 1921
def roomL : List D → Nat
  | [] => 0
  | d :: ds => room d + 2 + roomL ds
end
mutual
def deepD : D → Nat
  | .lst ds => deepL ds + 1
  | .tup ds => deepL ds + 1
  | _ => 0
def deepL : List D → Nat
  | [] => 0
  | d :: ds => max (deepD d) (deepL ds)
end
mutual
theorem small_ok : ∀ (d : D), small d → plain d = true ∧ (py d).showable = true ∧ (py d).depth ≤ deepD d ∧ (py d).shown.length ≤ room d
  | .non, _ => ⟨rfl, rfl, Nat.le_refl _, by decide +kernel⟩
  | .bl b, _ => ⟨rfl, rfl, Nat.le_refl _, by cases b <;> decide +kernel⟩
  | .int i, h => by
    have h' : i.natAbs < 2 ^ 1900 := by unfold small at h; exact h
    have l : i.natAbs.log2 < 1920 := Nat.lt_of_lt_of_le (log2_lt' (k := 1899) h') (by decide)
    exact ⟨rfl, by unfold py PyData.showable; exact decide_eq_true l, Nat.le_refl _, by unfold py PyData.shown room; exact int_text_len_1921 l⟩
  | .lst ds, h => by
    unfold small at h
    obtain ⟨h1, h2, h3, h4⟩ := smallL_ok ds h
    unfold plain py PyData.showable PyData.depth PyData.shown deepD room
    refine ⟨h1, h2, by omega, ?_⟩
    have := listText_len_le (PyData.shownAll (pyL ds))
    omega
  | .tup ds, h => by
    unfold small at h
    obtain ⟨h1, h2, h3, h4⟩ := smallL_ok ds h
    unfold plain py PyData.showable PyData.depth PyData.shown deepD room
    refine ⟨h1, h2, by omega, ?_⟩
    have := tupleText_len_le (PyData.shownAll (pyL ds))
    omega
  | .str _, h => by unfold small at h; exact h.elim
  | .obj _ _, h => by unfold small at h; exact h.elim
  | .scr _, h => by unfold small at h; exact h.elim
theorem smallL_ok : ∀ (ds : List D), smallL ds → plainL ds = true ∧ PyData.showableAll (pyL ds) = true ∧ PyData.depthAll (pyL ds) ≤ deepL ds ∧ ((PyData.shownAll (pyL ds)).map (·.length)).sum + 2 * (PyData.shownAll (pyL ds)).length ≤ roomL ds
  | [], _ => ⟨rfl, rfl, Nat.le_refl _, Nat.le_refl _⟩
  | d :: ds, h => by
    unfold smallL at h
    obtain ⟨a1, a2, a3, a4⟩ := small_ok d h.1
    obtain ⟨b1, b2, b3, b4⟩ := smallL_ok ds h.2
    unfold plainL pyL PyData.showableAll PyData.depthAll PyData.shownAll deepL roomL
    refine ⟨by rw [a1, b1]; rfl, by rw [a2, b2]; rfl, by omega, ?_⟩
    simp only [List.map_cons, List.sum_cons, List.length_cons]
    omega
end
theorem rpr_of {d : D} (h : small d) (h1 : deepD d ≤ 50) (h2 : room d ≤ 16777216) : Rpr d := by
  obtain ⟨a, b, c, e⟩ := small_ok d h
  exact ⟨a, b, by omega, by omega⟩
theorem smallL_ints : ∀ {xs : List Int}, (∀ x ∈ xs, x.natAbs < 2 ^ 1900) → smallL (xs.map D.int) ∧ deepL (xs.map D.int) = 0 ∧ roomL (xs.map D.int) = 1923 * xs.length
  | [], _ => ⟨trivial, rfl, rfl⟩
  | x :: xs, h => by
    obtain ⟨a, b, c⟩ := smallL_ints (xs := xs) fun y hy => h y (by simp [hy])
    refine ⟨⟨h x (by simp), a⟩, ?_, ?_⟩
    · show max 0 (deepL (xs.map D.int)) = 0
      rw [b]; rfl
    · show 1921 + 2 + roomL (xs.map D.int) = 1923 * (xs.length + 1)
      rw [c]; omega
theorem small_of {i : Int} (h1 : -(10 ^ 60) < i) (h2 : i < 10 ^ 60) : i.natAbs < 2 ^ 1900 := Nat.lt_of_lt_of_le (show i.natAbs < 2 ^ 250 by omega) (Nat.pow_le_pow_right (by decide) (by decide))
/-! trees without texts and instances: == asks them without end -/
mutual
def bare : D → Bool
  | .lst ds => bareL ds
  | .tup ds => bareL ds
  | .non => true
  | .bl _ => true
  | .int _ => true
  | _ => false
def bareL : List D → Bool
  | [] => true
  | d :: ds => bare d && bareL ds
end
mutual
theorem bare_ok : ∀ (d : D), bare d = true → plain d = true ∧ (py d).canLay0 = true ∧ (py d).depth ≤ deepD d
  | .non, _ => ⟨rfl, rfl, Nat.le_refl _⟩
  | .bl b, _ => ⟨rfl, rfl, Nat.le_refl _⟩
  | .int i, h => ⟨rfl, rfl, Nat.le_refl _⟩
  | .lst ds, h => by
    unfold bare at h
    obtain ⟨h1, h2, h3⟩ := bareL_ok ds h
    unfold plain py PyData.canLay0 PyData.depth deepD
    exact ⟨h1, h2, by omega⟩
  | .tup ds, h => by
    unfold bare at h
    obtain ⟨h1, h2, h3⟩ := bareL_ok ds h
    unfold plain py PyData.canLay0 PyData.depth deepD
    exact ⟨h1, h2, by omega⟩
  | .str _, h => by unfold bare at h; cases h
  | .obj _ _, h => by unfold bare at h; cases h
  | .scr _, h => by unfold bare at h; cases h
theorem bareL_ok : ∀ (ds : List D), bareL ds = true → plainL ds = true ∧ PyData.canLayAll0 (pyL ds) = true ∧ PyData.depthAll (pyL ds) ≤ deepL ds
  | [], _ => ⟨rfl, rfl, Nat.le_refl _⟩
  | d :: ds, h => by
    unfold bareL at h
    obtain ⟨h1, h2⟩ := Bool.and_eq_true_iff.mp h
    obtain ⟨a1, a2, a3⟩ := bare_ok d h1
    obtain ⟨b1, b2, b3⟩ := bareL_ok ds h2
    unfold plainL pyL PyData.canLayAll0 PyData.depthAll deepL
    exact ⟨by rw [a1, b1]; rfl, by rw [a2, b2]; rfl, by omega⟩
end
theorem shp_of {d : D} (h : bare d = true) (h2 : deepD d ≤ 64) : Shp d := by
  obtain ⟨a, b, c⟩ := bare_ok d h
  refine ⟨a, ?_⟩
  unfold SeqAt.shaped
  rw [b, decide_eq_true (by omega : (py d).depth ≤ 64)]
  rfl
theorem deq_nil {ds : List D} : deq (.lst ds) (.lst []) = ds.isEmpty := by
  cases ds with
  | nil => rfl
  | cons d ds => rfl
section
variable {Γ : Wd} {X : Cx} {N : List Str} {sc : Scope} {fp : Str → Bool} {k : Nat} {lk : List Nat}
theorem ss_par3 (C : Ctx Γ X N sc fp k) (i j l : Nat) {x y z : Str} {a b c : Expr} {wa : WA} {px py pz pt pos : Pos} {kt k2 pt2} (ha : SA Γ X [a, b, c] wa) (hi : N[i]? = some x := by rfl) (hj : N[j]? = some y := by rfl) (hl : N[l]? = some z := by rfl) (hij : i ≠ j := by decide) (hil : i ≠ l := by decide) (hjl : j ≠ l := by decide)
    (hx : sc.names.lookup x = some .local := by rfl) (hy : sc.names.lookup y = some .local := by rfl) (hz : sc.names.lookup z = some .local := by rfl) (f1 : lk.contains i = false := by rfl) (f2 : lk.contains j = false := by rfl) (f3 : lk.contains l = false := by rfl)
    (hw : swappedStores [.Tuple [.Name x px, .Name y py, .Name z pz] kt pt] (.Tuple [a, b, c] k2 pt2) { X.env with scope := sc } = pure (some [x, y, z]) := by rfl)
    (hs : swapsWithSole [.Tuple [.Name x px, .Name y py, .Name z pz] kt pt] (.Tuple [a, b, c] k2 pt2) pos.line X.env = pure false := by rfl) :
    SS Γ lk X (.Assign [.Tuple [.Name x px, .Name y py, .Name z pz] kt pt] (.Tuple [a, b, c] k2 pt2) pos) (wPar3 i j l wa) := .mk fun σ F H A ρ D E DV W hh tk el eo hw' pins s I => by
  have eE : ({ X.env with scope := sc } : Env) = X.env := by rw [← C.hs]
  rw [eE] at hw
  refine (ps_par3 C.calm (by rw [C.hN]; exact C.nd) (by rw [C.hN]; exact hi) (by rw [C.hN]; exact hj) (by rw [C.hN]; exact hl) hij hil hjl (by rw [C.hs]; exact hx) (by rw [C.hs]; exact hy) (by rw [C.hs]; exact hz) pa_x hw hs).run pins s σ H DV I ?_
  refine ha.run σ F H A ρ _ E _ W hh tk el.now hw' fun svs ρ1 hw1 vs F1 H1 A1 B1 o1 => ?_
  obtain ⟨ds, ρ2, F2, A2, hk, x2, hh2, r2, _⟩ := keepL_ok o1.oh o1.ors o1.ond o1.ofb hw1
  split at hk
  · rename_i d1 d2 d3
    unfold repL RL RL RL RL at r2
    obtain ⟨v1, r', rfl, q1, v2, r'', rfl, q2, v3, r3, rfl, q3, rfl⟩ := r2
    obtain ⟨A3, h3, s3⟩ := hold_putD (i := i) hh2 q1 (len_of C I hi)
    obtain ⟨A4, h4, s4⟩ := hold_putD (i := j) h3 q2 (by simpa using len_of C I hj)
    obtain ⟨A5, h5, s5⟩ := hold_putD (i := l) h4 q3 (by simpa using len_of C I hl)
    exact ⟨v1, v2, v3, rfl, eo.nx _ hk _ F2 H1 A5 (((Kp.set f1).trans (.set f2)).trans (.set f3)) ((o1.oe.trans x2).sub fun a m => s3 a (s4 a (s5 a m))) h5⟩
  · exact hk.elim
end
end Dv

/-! Dv17: isinstance; == of own classes. -/
namespace Dv
open PySem PySem.Spec PyProof.Rows L2
section
variable {Γ : Wd} {X : Cx} {N : List Str} {sc : Scope} {fp : Str → Bool} {k : Nat} {lk : List Nat}
/-! isinstance(x, T), T built-in: 0 int, 1 bool, 2 str, 3 list, 4 tuple -/
def tyN : Nat → String
  | 0 => "int"
  | 1 => "bool"
  | 2 => "str"
  | 3 => "list"
  | _ => "tuple"
def isiB : Nat → D → Option Bool
  | 0, .int _ => some true
  | 0, .bl _ => some true
  | 0, .str _ => some false
  | 0, .lst _ => some false
  | 0, .tup _ => some false
  | 0, .non => some false
  | 1, .int _ => some false
  | 1, .bl _ => some true
  | 1, .str _ => some false
  | 1, .lst _ => some false
  | 1, .tup _ => some false
  | 1, .non => some false
  | 2, .int _ => some false
  | 2, .bl _ => some false
  | 2, .str _ => some true
  | 2, .lst _ => some false
  | 2, .tup _ => some false
  | 2, .non => some false
  | 3, .int _ => some false
  | 3, .bl _ => some false
  | 3, .str _ => some false
  | 3, .lst _ => some true
  | 3, .tup _ => some false
  | 3, .non => some false
  | 4, .int _ => some false
  | 4, .bl _ => some false
  | 4, .str _ => some false
  | 4, .lst _ => some false
  | 4, .tup _ => some true
  | 4, .non => some false
  | _, _ => none
def wIsi (t : Nat) (w : WE) : WE := fun ρ Q E => w ρ (fun x ρ1 => match rd x ρ1 with
  | some d => (match isiB t d with
    | some b => Q (.d (.bl b)) ρ1
    | none => False)
  | none => False) E
theorem isi_rel {F H : Hp} {K : PySem.W.Frag} (s : Same F H) {v : V} {d : D} (r : RV Γ F H v d) {t : Nat} {b : Bool} (e : isiB t d = some b) : ∃ ty, TyX K H v ty ∧ PySem.W.kitOne K ty (.type (tyN t)) = some b := by
  unfold isiB at e
  split at e <;> first | (cases e; done) | skip
  all_goals
    cases e
    first
    | (rw [rv_int r]; exact ⟨_, .base (.int _), kit_ty (by decide +kernel)⟩)
    | (rw [rv_bl r]; exact ⟨_, .base (.bl _), kit_ty (by decide +kernel)⟩)
    | (rw [rv_str r]; exact ⟨_, .base (.str _), kit_ty (by decide +kernel)⟩)
    | (rw [rv_non r]; exact ⟨_, .base .non, kit_ty (by decide +kernel)⟩)
    | (obtain ⟨a, vs, rfl, h, _⟩ := rv_lst r; exact ⟨_, .base (.lst h), kit_ty (by decide +kernel)⟩)
    | (obtain ⟨a, vs, rfl, h, _⟩ := rv_tup s r; exact ⟨_, .base (.tup h), kit_ty (by decide +kernel)⟩)
theorem se_isi (C : Ctx Γ X N sc fp k) (t : Nat) {T : Str} {p p2 pos : Pos} {e : Expr} {w : WE} (ha : SE Γ X e w) (hmT : Γ.mg T = none) (hvT : bootBuiltins T = some (.type (tyN t)) := by decide +kernel) (hg : sc.names.lookup ("isinstance" : Str) = some .globalImplicit := by rfl) (hgT : sc.names.lookup T = some .globalImplicit := by rfl)
    (hnT : T ≠ "__name__" := by decide) (hdT : (T == ("__debug__" : Str)) = false := by decide) (hs : starEach [e, .Name T p2] X.env = (false, eval e X.env) :: starEach [.Name T p2] X.env := by exact star_of rfl) (hpl : (backTo pos (starEach [.Name T p2] X.env)).any (·.1) = false := by rfl) :
    SE Γ X (.Call (.Name "isinstance" p) [e, .Name T p2] [] pos) (wIsi t w) := .mk fun σ F H A ρ Q E QV W hh tk el hw hq pins s I => by
  refine (pe_callB call_isi (gl_of C hg) (by rw [C.mg]; exact C.bn _ (by decide +kernel)) (by decide +kernel) (pa_cons pe_x (pa_cons (pe_bltn (v := .ty (tyN t)) (gl_of C hgT) (by rw [C.mg]; exact hmT) hvT rfl hnT hdT) pa_nil) hs) (he := hs) (hpl := hpl)).run pins s σ H QV I ?_
  refine ha.use hh tk el hw fun sx ρ1 hw1 v1 F1 H1 A1 B1 o1 => ?_
  cases e1 : rd sx ρ1 with
  | none => simp only [e1] at hw1
  | some d =>
    simp only [e1] at hw1
    cases e2 : isiB t d with
    | none => simp only [e2] at hw1
    | some b =>
      simp only [e2] at hw1
      obtain ⟨ty, h1, h2⟩ := isi_rel (K := X.K) o1.oh.sub (rd_ok o1.oh o1.ors e1) e2
      exact ⟨v1, .ty (tyN t), ty, .type (tyN t), b, rfl, .ty _, h1, h2, hq _ ρ1 hw1 _ _ _ _ _ ((out_sc o1.oh (.bl b)).pre o1.ext1)⟩
/-! isinstance(x, C), C of the text -/
structure IsiOk (Γ : Wd) (n : Nat) (x : Str) : Prop where
  g : Γ.mg x = some (.ref (Γ.cl n).adr)
  k : ClOk Γ n
  ca : PySem.W.findIn Γ.K (.ref (Γ.cl n).adr) "__class__" = some (some (.builtin "object.__class__"))
  cg : PySem.W.specialIn Γ.K (.builtin "object.__class__") "__get__" = some (some (.builtin "getset_descriptor.__get__"))
  ct : PySem.W.takesIn Γ.K (.builtin "object.__class__") = some true
  cm : PySem.W.mroIn Γ.K (Γ.cl n).adr (.type "object") = some true
  n0 : PySem.W.kitOne Γ.K (.type "int") (.ref (Γ.cl n).adr) = some false
  n1 : PySem.W.kitOne Γ.K (.type "bool") (.ref (Γ.cl n).adr) = some false
  n2 : PySem.W.kitOne Γ.K (.type "str") (.ref (Γ.cl n).adr) = some false
  n3 : PySem.W.kitOne Γ.K (.type "list") (.ref (Γ.cl n).adr) = some false
  n4 : PySem.W.kitOne Γ.K (.type "tuple") (.ref (Γ.cl n).adr) = some false
  n5 : PySem.W.kitOne Γ.K (.type "NoneType") (.ref (Γ.cl n).adr) = some false
/-- some n: an instance of class n -/
def isiC (n : Nat) : D → Option Bool
  | .int _ => some false
  | .bl _ => some false
  | .str _ => some false
  | .lst _ => some false
  | .tup _ => some false
  | .non => some false
  | .obj m _ => if m = n then some true else none
  | _ => none
def wIsiO (n : Nat) (w : WE) : WE := fun ρ Q E => w ρ (fun x ρ1 => match rd x ρ1 with
  | some d => (match isiC n d with
    | some b => Q (.d (.bl b)) ρ1
    | none => False)
  | none => False) E
theorem rv_ins {σ : Sg} {F H : Hp} {A : List Addr} {ρ : Rho} (hh : hold Γ σ F H ρ A) {v : V} {n : Nat} {fs : List D} (r : RV Γ F H v (.obj n fs)) : ∃ a dx gs, v = .ref a ∧ H a = some (.ins (Γ.cl n).adr dx gs) := by
  unfold RV rep R at r
  obtain ⟨a, dx, vs, h1, h2, _⟩ := r
  exact ⟨a, dx, _, h1, hh.sub a _ h2⟩
theorem isi_relC {σ : Sg} {F H : Hp} {A : List Addr} {ρ : Rho} (hh : hold Γ σ F H ρ A) {n : Nat} {x : Str} (O : IsiOk Γ n x) {v : V} {d : D} (r : RV Γ F H v d) {b : Bool} (e : isiC n d = some b) : ∃ ty, TyX Γ.K H v ty ∧ PySem.W.kitOne Γ.K ty (.ref (Γ.cl n).adr) = some b := by
  have s := hh.sub
  unfold isiC at e
  split at e <;> first | (cases e; done) | skip
  · cases e; rw [rv_int r]; exact ⟨_, .base (.int _), O.n0⟩
  · cases e; rw [rv_bl r]; exact ⟨_, .base (.bl _), O.n1⟩
  · cases e; rw [rv_str r]; exact ⟨_, .base (.str _), O.n2⟩
  · cases e; obtain ⟨a, vs, rfl, h, _⟩ := rv_lst r; exact ⟨_, .base (.lst h), O.n3⟩
  · cases e; obtain ⟨a, vs, rfl, h, _⟩ := rv_tup s r; exact ⟨_, .base (.tup h), O.n4⟩
  · cases e; rw [rv_non r]; exact ⟨_, .base .non, O.n5⟩
  · split at e
    · rename_i m fs q
      cases e; subst q
      obtain ⟨a, dx, gs, rfl, h⟩ := rv_ins hh r
      exact ⟨_, .base (.ins h O.k.cl O.ca O.cg O.ct O.cm), if_pos (beq_self_eq_true _)⟩
    · cases e
theorem se_isiO (C : Ctx Γ X N sc fp k) {n : Nat} {T : Str} (O : IsiOk Γ n T) {p p2 pos : Pos} {e : Expr} {w : WE} (ha : SE Γ X e w) (hg : sc.names.lookup ("isinstance" : Str) = some .globalImplicit := by rfl) (hgT : sc.names.lookup T = some .globalImplicit := by rfl)
    (hnT : T ≠ "__name__" := by decide) (hdT : (T == ("__debug__" : Str)) = false := by decide) (hs : starEach [e, .Name T p2] X.env = (false, eval e X.env) :: starEach [.Name T p2] X.env := by exact star_of rfl) (hpl : (backTo pos (starEach [.Name T p2] X.env)).any (·.1) = false := by rfl) :
    SE Γ X (.Call (.Name "isinstance" p) [e, .Name T p2] [] pos) (wIsiO n w) := .mk fun σ F H A ρ Q E QV W hh tk el hw hq pins s I => by
  refine (pe_callB call_isi (gl_of C hg) (by rw [C.mg]; exact C.bn _ (by decide +kernel)) (by decide +kernel) (pa_cons pe_x (pa_cons (pe_glob (v := .ref (Γ.cl n).adr) (gl_of C hgT) (by rw [C.mg]; exact O.g) rfl (hd := hdT)) pa_nil) hs) (he := hs) (hpl := hpl)).run pins s σ H QV I ?_
  refine ha.use hh tk el hw fun sx ρ1 hw1 v1 F1 H1 A1 B1 o1 => ?_
  cases e1 : rd sx ρ1 with
  | none => simp only [e1] at hw1
  | some d =>
    simp only [e1] at hw1
    cases e2 : isiC n d with
    | none => simp only [e2] at hw1
    | some b =>
      simp only [e2] at hw1
      obtain ⟨ty, h1, h2⟩ := isi_relC o1.oh O (rd_ok o1.oh o1.ors e1) e2
      exact ⟨v1, .ref (Γ.cl n).adr, ty, .ref (Γ.cl n).adr, b, rfl, .own _, by rw [C.K]; exact h1, by rw [C.K]; exact h2, hq _ ρ1 hw1 _ _ _ _ _ ((out_sc o1.oh (.bl b)).pre o1.ext1)⟩
/-! a == b, a of an own class with __eq__, b of the same class -/
def wEqO (n : Nat) (io : List Bool) (con : Con) (wa wb : WE) : WE := fun ρ Q E => wa ρ (fun sx ρ1 => wb ρ1 (fun sy ρ2 => isIns n sx ρ2 ∧ isIns n sy ρ2 ∧ wCallK io con [sx, sy] ρ2 (fun r ρ3 => match r with
  | .d (.bl b) => Q (.d (.bl b)) ρ3
  | _ => False) E) E) E
theorem eqO_core (C : Ctx Γ X N sc fp k) {n : Nat} {io : List Bool} {con : Con} (F : OpE Γ k n "__eq__" io con) {pins : List (Addr × Obj)} {s : Shared} {σ : Sg} {H : Hp} {QB : Bool → Hp → Prop} {W : WX} {a b dx dy : Addr} {fs gs : List (Str × V)} {Qv : Value → Shared → Prop} (tk : Takes X W) (I : Inv X pins σ H s)
    (ea : H a = some (.ins (Γ.cl n).adr dx fs)) (eb : H b = some (.ins (Γ.cl n).adr dy gs)) (q : spC Γ io con [.ref a, .ref b] H (fun r H3 => ∃ b, r = .bl b ∧ QB b H3) fun cls d H' => W cls d σ H') (hQ : ∀ b s' H', Inv X pins σ H' s' → QB b H' → Qv (.bool b) s') :
    wpAny (model X.prog X.w) X.A (compareOp .Eq (.ref a) (.ref b)) Qv X.xe s := by
  obtain ⟨f, fd, ps, h1, h2, h3, hbd, FF⟩ := F.ex
  obtain ⟨mA, O, _⟩ := ins_get I.hok ea
  obtain ⟨od, J, _⟩ := O.look
  obtain ⟨mB, O2, _⟩ := ins_get I.hok eb
  obtain ⟨od2, J2, _⟩ := O2.look
  obtain ⟨m, FR⟩ := I.fr
  have run := run_fnA C FF hbd tk C.room C.gd rfl I (vs := [.ref a, .ref b]) (us := [.ref a, .ref b]) (.cons rfl (.cons rfl .nil)) q
  refine PySem.W.cmp_K (op := .Eq) (Nat.lt_of_le_of_lt (Nat.le_add_right _ _) C.room.units) FR I.ok.mod.kin J J2.type (by unfold PySem.W.notFirst; simp) (by rw [C.K]; exact h1) (by rw [C.K]; exact h2) (wpAny_mono run (fun r s' h => ?_) fun _ _ z => z)
  obtain ⟨v', H', I', rv, b, rfl, qb⟩ := h
  cases rv
  exact hQ b s' H' I' qb
theorem se_eqO (C : Ctx Γ X N sc fp k) {n : Nat} {io : List Bool} {con : Con} {a b : Expr} {wa wb : WE} {pos : Pos} (F : OpE Γ k n "__eq__" io con) (ha : SE Γ X a wa) (hb : SE Γ X b wb) (hm : behindInMarks .Eq b = false := by with_unfolding_all rfl) :
    SE Γ X (.Compare a [.Eq] [b] pos) (wEqO n io con wa wb) := .mk fun σ F0 H A ρ Q E QV W hh tk el hw hq pins s I => by
  refine wpAny_Compare1 (binT pe_x pe_x I (R := fun x y H2 => ∃ a b dx dy fs gs, x = .ref a ∧ y = .ref b ∧ H2 a = some (.ins (Γ.cl n).adr dx fs) ∧ H2 b = some (.ins (Γ.cl n).adr dy gs) ∧ spC Γ io con [x, y] H2 (fun r H3 => ∃ b, r = .bl b ∧ QV (.bl b) H3) fun cls d H' => W cls d σ H') ?_ fun v u s2 x y H2 I2 rx ry q => ?_) hm
  · refine ha.use hh tk el hw fun sx ρ1 hw1 v1 F1 H1 A1 B1 o1 => ?_
    refine hb.use o1.oh tk (el.ext o1.ext1) hw1 fun sy ρ2 hw2 v2 F2 H2 A2 B2 o2 => ?_
    obtain ⟨hi, hj, hw2⟩ := hw2
    obtain ⟨a, dx, fs, e1, e2, _⟩ := ins_later o1 (out_one o2) hi
    obtain ⟨b, dy, gs, e3, e4, _⟩ := ins_of o2.oh o2.ors hj
    refine ⟨a, b, dx, dy, fs, gs, e1, e3, e2, e4, ?_⟩
    refine call_core (out_two o1 o2) el hw2 fun r ρ3 hr v3 F3 H3 A3 B3 o3 => ?_
    cases r with
    | d z =>
      cases z with
      | bl b =>
        have r3 := o3.ors
        simp only [rs, RS, R] at r3
        exact ⟨b, r3.1, hq _ ρ3 hr _ F3 H3 A3 [] ((Out.now o3.oh (rs_d (by simp [rep, R]))).pre o3.ext1)⟩
      | _ => exact hr.elim
    | _ => exact hr.elim
  · obtain ⟨a, b, dx, dy, fs, gs, rfl, rfl, ea, eb, q⟩ := q
    cases rx
    cases ry
    exact eqO_core C F tk I2 ea eb q fun b s' H' I' z => ⟨.bl b, H', I', rfl, z⟩
theorem st_eqO (C : Ctx Γ X N sc fp k) {n : Nat} {io : List Bool} {con : Con} {a b : Expr} {wa wb : WE} {pos : Pos} (F : OpE Γ k n "__eq__" io con) (ha : SE Γ X a wa) (hb : SE Γ X b wb) (hm : behindInMarks .Eq b = false := by with_unfolding_all rfl) :
    ST Γ X (.Compare a [.Eq] [b] pos) (wTst (wEqO n io con wa wb)) := .mk fun σ F0 H A ρ Q E QV W hh tk el hw hq pins s I => by
  refine wpAny_isTrue_Compare1 (binT pe_x pe_x I (R := fun x y H2 => ∃ a b dx dy fs gs, x = .ref a ∧ y = .ref b ∧ H2 a = some (.ins (Γ.cl n).adr dx fs) ∧ H2 b = some (.ins (Γ.cl n).adr dy gs) ∧ spC Γ io con [x, y] H2 (fun r H3 => ∃ b, r = .bl b ∧ QV b H3) fun cls d H' => W cls d σ H') ?_ fun v u s2 x y H2 I2 rx ry q => ?_) hm
  · unfold wTst wEqO at hw
    refine ha.use hh tk el hw fun sx ρ1 hw1 v1 F1 H1 A1 B1 o1 => ?_
    refine hb.use o1.oh tk (el.ext o1.ext1) hw1 fun sy ρ2 hw2 v2 F2 H2 A2 B2 o2 => ?_
    obtain ⟨hi, hj, hw2⟩ := hw2
    obtain ⟨a, dx, fs, e1, e2, _⟩ := ins_later o1 (out_one o2) hi
    obtain ⟨b, dy, gs, e3, e4, _⟩ := ins_of o2.oh o2.ors hj
    refine ⟨a, b, dx, dy, fs, gs, e1, e3, e2, e4, ?_⟩
    refine call_core (out_two o1 o2) el hw2 fun r ρ3 hr v3 F3 H3 A3 B3 o3 => ?_
    cases r with
    | d z =>
      cases z with
      | bl b =>
        have r3 := o3.ors
        simp only [rs, RS, R] at r3
        exact ⟨b, r3.1, hq _ ρ3 hr F3 H3 A3 o3.ext1 o3.oh⟩
      | _ => exact hr.elim
    | _ => exact hr.elim
  · obtain ⟨a, b, dx, dy, fs, gs, rfl, rfl, ea, eb, q⟩ := q
    cases rx
    cases ry
    exact eqO_core C F tk I2 ea eb q fun b s' H' I' z => wpAny_truthy_bool ⟨H', I', z⟩
/-! == of lists of ints -/
theorem eqv_ints : ∀ ps qs : List Int, PyData.eqvAll (pyL (ps.map D.int)) (pyL (qs.map D.int)) = decide (ps = qs)
  | [], [] => rfl
  | [], _ :: _ => rfl
  | _ :: _, [] => rfl
  | p :: ps, q :: qs => by
    show ((p == q) && PyData.eqvAll (pyL (ps.map D.int)) (pyL (qs.map D.int))) = _
    rw [eqv_ints ps qs, Bool.eq_iff_iff]
    simp
theorem deq_ltups (ps qs : List Int) : deq (.tup (ps.map D.int)) (.tup (qs.map D.int)) = decide (ps = qs) := eqv_ints ps qs
theorem deq_lints (ps qs : List Int) : deq (.lst (ps.map D.int)) (.lst (qs.map D.int)) = decide (ps = qs) := eqv_ints ps qs
theorem bare_ints : ∀ ps : List Int, bareL (ps.map D.int) = true ∧ deepL (ps.map D.int) = 0
  | [] => ⟨rfl, rfl⟩
  | p :: ps => by
    obtain ⟨a, b⟩ := bare_ints ps
    refine ⟨a, ?_⟩
    show max 0 (deepL (ps.map D.int)) = 0
    omega
theorem shp_ints (ps : List Int) : Shp (.lst (ps.map D.int)) := shp_of (bare_ints ps).1 (by have := (bare_ints ps).2; show deepL _ + 1 ≤ 64; omega)
theorem shp_tints (ps : List Int) : Shp (.tup (ps.map D.int)) := shp_of (bare_ints ps).1 (by have := (bare_ints ps).2; show deepL _ + 1 ≤ 64; omega)
theorem env_at (C : Ctx Γ X N sc fp k) : ({ X.env with scope := sc } : Env) = X.env := by rw [← C.hs]
/-- targets of which some are cells -/
theorem ss_unpC (C : Ctx Γ X N sc fp k) {es : List Expr} {kk : Nat} {tp pos : Pos} {e : Expr} {w : WE} {g : WG} {is : List Nat} (h : SE Γ X e w) (hg : SG Γ X (.Tuple es kk tp) g is) (fr : Fre lk is := by rfl) (hs : swapsWithSole [.Tuple es kk tp] e pos.line { X.env with scope := sc } = pure false := by rfl) (hw : swappedStores [.Tuple es kk tp] e { X.env with scope := sc } = pure none := by rfl)
    (h1 : (assignEach [.Tuple es kk tp] X.env).map (·.2) = [assign (.Tuple es kk tp) X.env] := by rfl) : SS Γ lk X (.Assign [.Tuple es kk tp] e pos) (wUnp w g) :=
  ss_unp h hg fr (by rw [env_at C] at hs; exact hs) (by rw [env_at C] at hw; exact hw) h1
/-- a comprehension for a cell -/
theorem ss_asgC (C : Ctx Γ X N sc fp k) (i : Nat) {x : Str} {e : Expr} {w : WE} {p pos : Pos} (h : SE Γ X e w) (hn : StN N sc fp lk i x := by first | exact ⟨⟨rfl, rfl⟩, Or.inl rfl⟩ | exact ⟨⟨rfl, rfl⟩, Or.inr ⟨rfl, rfl⟩⟩) (hs : swapsWith e (some (.Name x p)) pos.line { X.env with scope := sc } = pure false := by rfl) : SS Γ lk X (.Assign [.Name x p] e pos) (wAsg i w) :=
  ss_asg C i h hn (by rw [env_at C] at hs; exact hs)
end
end Dv

/-! Dv18: sets that are sorted at once: sorted(set(xs)), sorted({e for ..}); ints. -/
namespace Dv
open PySem PySem.Spec PyProof.Rows L2
/-- a set as it is made -/
abbrev freshSet (w : World) : Obj := { cls := .type "set", dict := none, data := .set #[] 0 (.fresh 0 0 (!w.params.followText "set-order")) }
section
variable {P : Program} {w : World} {A : Around} {E : Value → Shared → Prop} {s : Shared}
/-- what becomes of s while a set of ns is made -/
def SetMade (w : World) (ns : List Int) (s s2 : Shared) : Prop := ∃ h' tk c, s2 = { s with heap := h', toks := tk } ∧ SetR w h' s.heap.objs.size (fun j => decide (j ∈ ns)) c ∧ c ≤ ns.length ∧ ∀ b o, s.heap.get? b = some o → h'.get? b = some o
set_option maxHeartbeats 0 in
theorem made_set {l : Addr} {its : Array Value} (ns : List Int) {Q : Value → Shared → Prop} (hh : A.handled = none) (hl : s.heap.IsList l its) (hi : IntsAre its.toList ns) (hb : ns.length + 1 < scanBound)
    (h : ∀ s2, SetMade w ns s s2 → Q (.ref s.heap.objs.size) s2) : wpAny (model P w) A (call (.type "set") [.ref l]) Q E s := by
  have hlen : its.size = ns.length := by rw [← IntsAre.length hi, Array.length_toList]
  obtain ⟨c, tl, hmro⟩ := F.called_set.mro
  have m1 := F.called_set.made; have m2 := F.called_set.sub; have m3 := F.called_set.notType; have m4 := F.called_set.canCreate; have m5 := F.typeCall_set_1 (.ref l)
  refine wpAny_call (codeAny_of_tree (show wpAny _ _ (callAny (.type "set") _) _ _ _ from wpAny_pure ⟨Code.quiet_builtin _ (by decide +kernel), codeAny_builtin F.entry_type_call ?_⟩))
  rw [Around.under_plain (weight_type_call_type "set" [.ref l] []) rfl]
  repeat (any_goals (first | assumption | wp_step))
  refine codeAny_mono (code_set_led1 (.ref l) (E := E) (Q₁ := fun o s1 => o = .ref s.heap.objs.size ∧ s1 = { s with heap := s.heap.push (freshSet w) }) ⟨rfl, rfl⟩) fun r s1 hr => ?_
  rcases r with e | f
  · exact hr
  · cases f with
    | ret o =>
      obtain ⟨rfl, rfl⟩ := hr
      have at0 : (s.heap.push (freshSet w)).get? s.heap.objs.size = some (freshSet w) := Heap.get?_push_size _ rfl
      have ty : Shared.TypeIs { s with heap := s.heap.push (freshSet w) } (.ref s.heap.objs.size) "set" := ⟨_, at0, rfl⟩
      have i1 := F.called_set.init.lookup; have i2 := F.called_set.init.bind (.ref s.heap.objs.size)
      repeat (any_goals (first | assumption | wp_step))
      refine codeAny_mono (codeAny_call_builtin (R := wants (fun r s2 => r = .none ∧ SetMade w ns s s2) E) F.called_set.init.plain F.entry_set_init (check_set_init_1 ty ?_)) fun r2 s2 hr2 => ?_
      · obtain ⟨⟨oc, od, odt, os⟩, ho, hc, n, hd⟩ := hl
        simp only at hc hd
        subst hc hd
        have ho' : (s.heap.push (freshSet w)).get? l = some { cls := .type "list", dict := od, data := .seq its n, slots := os } := Heap.get?_push_of_some _ ho
        have d1 := F.sub_list_set; have d2 := F.sub_list_frozenset
        have d3 : (Value.type "list" == Value.type "dict") = false := by decide
        have hl' : (s.heap.push (freshSet w)).IsList l its := ⟨_, ho', rfl, n, rfl⟩
        unfold Builtin.«set.__init__» noKeywords Builtin.Frozenset.updateFrom
        generalize hPI : pyIter = PI
        wp_walk
        subst hPI
        refine wpAny_pyIter_list hl' (wpAny_bind (wpAny_runValue ?_))
        have lt : l < s.heap.objs.size := Heap.lt_size ho
        have sz : (s.heap.push (freshSet w)).objs.size = s.heap.objs.size + 1 := Heap.size_push ..
        have hh' : A.in1.in1.in1.handled = none := by simp [hh]
        refine set_update_ints ((Walks.list hh' _ l (by rw [sz]; exact Nat.ne_of_lt (Nat.lt_succ_of_lt lt)) its).toS) s.heap.objs.size (by rw [sz]; simp only [List.mem_cons, List.not_mem_nil, or_false, not_or]; exact ⟨Nat.ne_of_lt (Nat.lt_succ_self _), Nat.ne_of_gt lt⟩) ns hlen hb (fun i v hv => ?_) (its.size - 0) 0 _ (by omega) (Nat.zero_le _) ⟨⟨_, Heap.get?_push_size _ rfl, rfl, rfl⟩, hl'.push _⟩ ⟨0, Nat.le_refl 0, setR_new_at (Heap.get?_push_of_some _ at0)⟩ fun s' c' hm hc' hS' => ?_
        · have hin : i < ns.length := by rw [← hlen]; exact (Array.getElem?_eq_some_iff.mp hv).1
          obtain ⟨t, e⟩ := IntsAre.int_at hi i v (by rw [Array.getElem?_toList]; exact hv)
          exact ⟨ns[i], t, List.getElem?_eq_getElem hin, by rw [e, List.getD_eq_getElem?_getD, List.getElem?_eq_getElem hin]; rfl⟩
        · obtain ⟨h', g', d', tk', os'⟩ := s'
          obtain rfl : g' = s.gens := hm.gens
          obtain rfl : d' = s.drawn := hm.drawn
          obtain rfl : os' = s.os := hm.os
          show wpAny _ _ _ _ _ _
          refine wpAny_pure (show wpAny _ _ (ret Value.none) _ _ _ from wpAny_pure ⟨rfl, h', tk', c', rfl, hS', by omega, fun b o e => ?_⟩)
          have bl : b < s.heap.objs.size := Heap.lt_size e
          exact hm.heap b o (by rw [sz]; simp only [List.mem_cons, List.not_mem_nil, or_false, not_or]; exact ⟨Nat.ne_of_lt bl, Nat.ne_of_lt (Nat.lt_succ_of_lt bl)⟩) (Heap.get?_push_of_some _ (Heap.get?_push_of_some _ e))
      · rcases r2 with e2 | f2
        · exact hr2
        · cases f2 with
          | ret r =>
            obtain ⟨rfl, hm⟩ := hr2
            repeat (any_goals (first | assumption | wp_step))
            exact h _ hm
          | _ => exact hr2.elim
    | _ => exact hr.elim
/-- sorted(a set), any number of members -/
theorem sort_set {a : Addr} {S : Int → Bool} {n : Nat} {Q : Value → Shared → Prop} (R : SetR w s.heap a S n) (hh : A.handled = none)
    (hQ : ∀ s' p (out : Array Value) (c : Nat) (ns : List Int), (∀ b o, s.heap.get? b = some o → s'.heap.get? b = some o) ∧ s'.gens = s.gens ∧ s'.os = s.os → s.heap.objs.size ≤ p → s'.heap.get? p = some (seqObj "list" out c) → IntsAre out.toList ns → ns.Pairwise (· < ·) → (∀ k, k ∈ ns ↔ S k = true) → ns.length = n → Q (.ref p) s') :
    wpAny (model P w) A (call (.builtin "sorted") [.ref a]) Q E s := by
  obtain ⟨o, es, ep, t, ho, ex, hd, good, nd, mem, few, fits, rfl, ris, led⟩ := R
  refine Calls.call_function_entry kind_sorted plain_sorted entry_sorted (args_sorted1 _) ?_
  unfold Builtin.«sorted»
  refine wpAny_bind (m := checkCount "sorted" 1 1 _) (wpAny_pure (wpAny_bind (collect_set (A := A.in1) hh ⟨o, ho, ex.1, hd⟩ fits few ris led fun s1 vs k1 hz g1 o1 pm => ?_)))
  have lv : vs.length = es.size := by rw [pm.length_eq, List.length_map, Array.length_toList]
  have hI : IntsAre vs (vs.map Builtin.Re.reRawOf) := ints_of vs fun v hv => by
    obtain ⟨x, hx, q⟩ := List.mem_map.mp (pm.mem_iff.mp hv)
    obtain ⟨k, tk, h1, _⟩ := good x hx
    exact ⟨k, tk, by rw [← q]; exact h1⟩
  have pk : (vs.map Builtin.Re.reRawOf).Perm (es.toList.map keyOf) := by
    have := pm.map Builtin.Re.reRawOf
    rwa [List.map_map] at this
  have small : vs.length ≤ sizeLine := by rw [lv, sizeLine_eq]; unfold scanBound at few; omega
  refine wpAny_bind (wpAny_newList ?_ small)
  have hL : (s1.heap.push (seqObj "list" vs.toArray 0)).get? s1.heap.objs.size = some (seqObj "list" vs.toArray 0) := Heap.get?_push_size _ rfl
  refine wpAny_bind (wpAny_holding (wpAny_call_entry slot_list_sort ⟨_, hL, rfl⟩ entry_list_sort (SrtO.list_sort_ord SrtO.swo_int hL small (fun h2 => SrtO.ints_sortable hI h2) fun out q1 q2 => ⟨_, rfl, ?_⟩) (args_list_sort _)))
  obtain ⟨k1', k2', k3'⟩ := SrtO.ints_out hI q1 q2
  obtain ⟨c, hc⟩ := sortedHeap_at (vs := vs) (out := out.toArray) hL
  have pn := k2'.trans pk
  refine wpAny_pure ⟨_, rfl, hQ _ s1.heap.objs.size out.toArray c (out.map SrtO.iv) ⟨fun b u e => ?_, g1, o1⟩ hz hc k1' (lt_of_le_nodup _ k3' (pn.nodup_iff.mpr nd)) (fun k => by rw [pn.mem_iff, ← mem k]) (by rw [pn.length_eq, List.length_map, Array.length_toList])⟩
  have hlt := Heap.lt_size (k1 b u e)
  show (sortedHeap (s1.heap.push (seqObj "list" vs.toArray 0)) s1.heap.objs.size vs out.toArray).get? b = some u
  rw [sortedHeap_old (Nat.ne_of_lt hlt) (by rw [size_push']; exact Nat.lt_succ_of_lt hlt)]
  exact Heap.get?_push_of_some _ (k1 b u e)
end
section
variable {X : Cx}
/-- set(xs) of a list of ints -/
def rSetL (K : PySem.W.Frag) (w : World) : List V → Hp → VK → Prop := fun xs H Q => ∃ (l : Addr) (ns : List Int), xs = [V.ref l] ∧ SqL K H l (ns.map V.int) ∧ ns.length < 4000 ∧ ∀ p n, H p = none → Q (.ref p) (upd H p (SetO w p (fun j => decide (j ∈ ns)) n))
theorem cr_setL (hc : X.calm = true) : CallR X (.type "set") (rSetL X.K X.w) := by
  intro pins s σ H xs us Q I r h
  obtain ⟨l, ns, rfl, hs, few, q⟩ := h
  rw [Vals.ref1 r]
  obtain ⟨its, rv, pl, hz⟩ := I.list hs
  refine made_set ns (I.ok.hd hc) pl.isList (by simpa using rv.ints) (by unfold scanBound; omega) fun s2 hm => ?_
  obtain ⟨h', tk, c, rfl, R, hcn, keep⟩ := hm
  exact ⟨.ref _, _, I.laid (t' := tk) (fun b u e => keep b u e) (Nat.le_refl _) (setO_new R), rfl, q _ _ (I.hok.fresh (Nat.le_refl _))⟩
/-- sorted(a set of ints) -/
def rSortSet (w : World) : List V → Hp → VK → Prop := fun vs H Q => ∃ (a : Addr) (S : Int → Bool) (n : Nat), vs = [V.ref a] ∧ H a = some (SetO w a S n) ∧
  ∀ (ns : List Int) (p : Addr), ns.Pairwise (· < ·) → (∀ k : Int, k ∈ ns ↔ S k = true) → H p = none → Q (.ref p) (upd H p (.lst (ns.map V.int)))
theorem cr_sortSet (hc : X.calm = true) : CallR X (.builtin "sorted") (rSortSet X.w) := by
  intro pins s σ H vs us Q I r h
  obtain ⟨a, S, n, rfl, ha, q⟩ := h
  have R := setO_get I ha
  have lim : n < scanBound := by obtain ⟨_, _, _, _, _, _, _, _, _, _, few, _, e, _⟩ := R; omega
  rw [Vals.ref1 r]
  refine sort_set R (I.ok.hd hc) fun s' p out c ns hk hp hg hi hs hm hl => ?_
  have hn : H p = none := I.hok.fresh hp
  have len : (ns.map V.int).length ≤ sizeLine := by rw [List.length_map, hl, sizeLine_eq]; unfold scanBound at lim; omega
  refine ⟨.ref p, _, ?_, rfl, q ns p hs hm hn⟩
  exact I.call' (ch := []) hk.2.2 (Un.laid hk.1 hp hn) (I.hok.laid hk.1 hp ⟨len, out.toList, c, vals_of_ints hi, hg⟩) (by rw [hk.2.1]; exact I.bare) (fun _ z => nomatch z)
end
section
variable {Γ : Wd} {X : Cx} {N : List Str} {sc : Scope} {fp : Str → Bool} {k : Nat} {lk : List Nat}
/-- sorted(set(e)) -/
def wSortS (w : WE) : WE := fun ρ Q E => w ρ (fun x ρ1 => match rd x ρ1 with
  | some (.lst xs) => ∃ ns : List Int, xs = ns.map D.int ∧ ns.length < 4000 ∧ ∀ ns' : List Int, ns'.Pairwise (· < ·) → (∀ k, k ∈ ns' ↔ k ∈ ns) → Q (.lst (ns'.map D.int)) ρ1
  | _ => False) E
theorem se_sortS (C : Ctx Γ X N sc fp k) {p p2 pos pos2 : Pos} {e : Expr} {w : WE} (ha : SE Γ X e w) (hg : sc.names.lookup ("sorted" : Str) = some .globalImplicit := by rfl) (hg2 : sc.names.lookup ("set" : Str) = some .globalImplicit := by rfl)
    (hs : starEach [e] X.env = (false, eval e X.env) :: starEach [] X.env := by exact star_of rfl) (hs2 : starEach [.Call (.Name "set" p2) [e] [] pos2] X.env = (false, eval (.Call (.Name "set" p2) [e] [] pos2) X.env) :: starEach [] X.env := by exact star_of rfl) :
    SE Γ X (.Call (.Name "sorted" p) [.Call (.Name "set" p2) [e] [] pos2] [] pos) (wSortS w) := .mk fun σ F H A ρ Q E QV W hh tk el hw hq pins s I => by
  refine (pe_callB (cr_sortSet C.calm) (gl_of C hg) (by rw [C.mg]; exact C.bn _ (by decide +kernel)) (by decide +kernel) (pa_cons (pe_callTy (cr_setL C.calm) (gl_of C hg2) (by rw [C.mg]; exact C.bn _ (by decide +kernel)) (by decide +kernel) (pa_cons pe_x pa_nil hs) (he := hs)) pa_nil hs2) (he := hs2)).run pins s σ H QV I ?_
  refine ha.use hh tk el hw fun sx ρ1 hw1 v1 F1 H1 A1 B1 o1 => ?_
  cases e1 : rd sx ρ1 with
  | none => simp only [e1] at hw1
  | some d =>
    cases d with
    | lst xs =>
      simp only [e1] at hw1
      obtain ⟨ns, rfl, few, hw1⟩ := hw1
      have r := rd_ok o1.oh o1.ors e1
      obtain ⟨l, rfl, hl⟩ := ints_at r
      rw [← C.K] at hl
      refine ⟨l, ns, rfl, hl, few, fun q n hq' => ⟨q, _, n, rfl, upd_same, fun ns' p' up mem hp => ?_⟩⟩
      obtain ⟨h2, x2, nF, nA⟩ := hold_new (o := SetO X.w q (fun j => decide (j ∈ ns)) n) o1.oh hq'
      have x2' : Ext F1 H1 A1 F1 (upd H1 q (SetO X.w q (fun j => decide (j ∈ ns)) n)) A1 := ⟨x2.sf, x2.fr, x2.nf, fun a m => .inl m⟩
      exact hq _ ρ1 (hw1 ns' up fun k => by rw [mem k, decide_eq_true_iff]) _ _ _ _ _ ((Out.newL h2 hp (RL.of_ints)).pre (o1.ext1.trans x2'))
    | _ => simp only [e1] at hw1
end
end Dv

/-! Dv19: {e for t in it if c}, e an int; sorted at once. -/
namespace Dv
open PySem PySem.Spec PyProof.Rows L2 PpSet
section
variable {X : Cx}
/-- D grows by c -/
def Grown (w : World) (D : Addr) (y : V) (H : Hp) (N : Hp → Prop) : Prop := ∃ (c : Int) (S : Int → Bool) (n : Nat), y = .int c ∧ H D = some (SetO w D S n) ∧ n + 1 < scanBound ∧ N (upd H D (SetO w D (fun j => S j || decide (j = c)) (if S c = true then n else n + 1)))
def tSi (w : World) (wi : TI) (g : TG) (tt : TT) (te : TE) (vs : List Nat) : TE := fun σ H Q => wi σ H fun J H1 => ∀ D, H1 D = none → ∃ W : Nat → Nat → Hp → Prop, (∃ m, W 0 m (upd H1 D (SetO w D (fun _ => false) 0))) ∧ ∀ i m H, W i m H →
  (J.stop i H ∧ Q (.ref D) H) ∨ (J.go i H ∧ ∃ N : Hp → Prop, (∀ H', N H' → ∃ m', m' < m ∧ W (i + 1) m' H') ∧ ∀ x H', J.yld i H x H' → g x (wipe σ vs) H' fun σ2 H2 => wipe σ2 vs = wipe σ vs ∧ tt σ2 H2 fun b H3 => if b = true then te σ2 H3 fun y H4 => Grown w D y H4 N else N H3)
theorem si_core {pins : List (Addr × Obj)} {s : Shared} {σ : L2.St} {H : Hp} {Q : VK} {elt tg iter : Expr} {ifs : List Expr} {scope : Scope} {own : List (PySem.Str × Nat)} {pos pos' : Pos} {wi : TI} {g : TG} {tt : TT} {te : TE} {use : Option (Value → Sem Unit)} {Qf : Value → Shared → Prop}
    (hc : X.calm = true) (hN : X.N.Nodup) (I : Inv X pins σ H s) (hi : PI X tg iter wi) (ok : BlkOk X.N X.env.scope scope own)
    (blk : ∀ (s : Shared) (H : Hp) (C : Addr) (cl : List (PySem.Str × Addr)) (fp : List Addr), PG (X.blk s H scope (compEnvC scope cl C X.env) fp) tg g ∧ PTs (X.blk s H scope (compEnvC scope cl C X.env) fp) ifs tt ∧ PE (X.blk s H scope (compEnvC scope cl C X.env) fp) elt te) (hs : ∀ x, foldedSetIterable iter X.env x = pure x)
    (h : tSi X.w wi g tt te (own.map (·.2)) σ H Q)
    (back : ∀ D C s' m H', Inv X pins σ H' s' → Q (.ref D) H' → s'.heap.Ns C m → FpOk X pins H' C → compPost (model X.prog X.w) X.A X.xe use Qf (.ref D) C (.ok .next) s') :
    wpAny (model X.prog X.w) X.A (comprehension (.SetComp elt [⟨tg, iter, ifs, 0⟩] scope pos) scope X.env pos' (newSet (.type "set")) false (eval iter X.env) use) Qf X.xe s := by
  have free : ∀ y ∈ scope.names, y.2 = .free → ∃ c, X.env.cells.lookup y.1 = some c := fun y hy e => (ok.free y hy e).elim (fun k => I.ok.has _ (.inl k)) fun k => I.ok.has _ (.inr k)
  refine wpAny_comprehension_free (use := use) rfl hs (closure_ok free) ok.kind (fun y hy e => by rw [ok.uniq y hy, e]) (thn (hi.run pins s σ H _ I h) fun _ s1 hx => thn hx fun _ s2 ⟨it, fp, tn, J, H2, e, I2, T, st2, f2, q⟩ => ?_)
  subst e
  refine newSet_ok (newEnv_comp ?_)
  generalize hD : s2.heap.objs.size = D
  have freeD : H2 D = none := I2.hok.fresh (Nat.le_of_eq hD)
  obtain ⟨W, ⟨m0, w0⟩, turn⟩ := q D freeD
  generalize hs3 : ({ s2 with heap := s2.heap.push (freshSet X.w) } : Shared) = s3
  have h3 : s3.heap = s2.heap.push (freshSet X.w) := by rw [← hs3]
  generalize hH3 : upd H2 D (SetO X.w D (fun _ => false) 0) = H3 at w0
  have I3 : Inv X pins σ H3 s3 := by
    rw [← hs3, ← hH3]
    refine I2.laid (t' := s2.toks) (fun b o e => Heap.get?_push_of_some _ e) (Nat.le_of_eq hD) ?_
    rw [← hD]
    exact setO_new (setR_fresh X.w)
  have small : ∀ b ∈ fp, b < s2.heap.objs.size := fun b hb => let ⟨o, e, _⟩ := T.obj _ _ st2 b hb; Heap.lt_size e
  have f3 : ∀ b ∈ fp, FpOk X pins H3 b ∧ b < s3.heap.objs.size := fun b hb => by
    refine ⟨⟨?_, (f2 b hb).2⟩, by rw [h3, Heap.size_push]; exact Nat.lt_succ_of_lt (small b hb)⟩
    rw [← hH3, upd_ne (by rw [← hD]; exact Nat.ne_of_lt (small b hb))]
    exact (f2 b hb).1
  have n3 : ∀ b ∈ fp, H3 b = none := fun b hb => (f3 b hb).1.1
  have st3 : tn 0 s3.heap := T.keep _ _ _ st2 fun b _ o e => by rw [h3]; exact Heap.get?_push_of_some _ e
  have I4 := block_start I3 ok hN f3
  obtain ⟨pg, pt, pe⟩ := blk s3 H3 s3.heap.objs.size (cellsFrom (s3.heap.objs.size + 1) scope.names (cloFrom X.env.cells scope.names [])) fp
  show codeAny _ _ (.compStart (.SetComp elt [⟨tg, iter, ifs, 0⟩] scope pos) 0 (.ref it) (.ref D) (compEnvC scope (cellsFrom (s3.heap.objs.size + 1) scope.names (cloFrom X.env.cells scope.names [])) s3.heap.objs.size X.env)) (compPost (model X.prog X.w) X.A X.xe use Qf (.ref D) s3.heap.objs.size) { s3 with heap := pushCells (s3.heap.push { cls := .type "dict", data := .dict #[] }) scope.names }
  generalize hce : compEnvC scope (cellsFrom (s3.heap.objs.size + 1) scope.names (cloFrom X.env.cells scope.names [])) s3.heap.objs.size X.env = ce at I4 pg pt pe ⊢
  have locs : ce.locals = s3.heap.objs.size := by subst hce; rfl
  generalize hs4 : ({ s3 with heap := pushCells (s3.heap.push { cls := .type "dict", data := .dict #[] }) scope.names } : Shared) = s4 at I4 ⊢
  have st4 : tn 0 s4.heap := T.keep _ _ _ st3 fun b _ o e => by rw [← hs4]; exact pushCells_keeps _ _ _ _ (Heap.get?_push_of_some _ e)
  have fps : ∀ {σ' : L2.St} {H' : Hp} {s' : Shared}, Inv (X.blk s3 H3 scope ce fp) [] σ' H' s' → (∀ b ∈ fp, H' b = none) → ∀ b ∈ fp, FpOk (X.blk s3 H3 scope ce fp) [] H' b := fun {σ' H' s'} I' hn b hb =>
    ⟨hn b hb, (I'.ok.exf b hb).1, I'.ok.exfs b hb, .inl hb, fun x c e => (I'.ok.exf b hb).2 x c e, fun p hp => absurd (show p ∈ ([] : List (Addr × Obj)) ++ [] from hp) (by simp)⟩
  refine codeAny_compStart_set ?loop (T.self X.A 0 _ _ _ st4 ?loop)
  refine compLoopS_any (fun n s' => ∃ i H', Inv (X.blk s3 H3 scope ce fp) [] (wipe σ (own.map (·.2))) H' s' ∧ tn i s'.heap ∧ (∀ b ∈ fp, H' b = none) ∧ W i n H') ?_ m0 ⟨0, H3, I4, st4, n3, w0⟩
  rintro n s5 ⟨i, H5, I5, st5, n5, w5⟩
  rcases turn i n H5 w5 with ⟨stop, qq⟩ | ⟨go, Nx, hNx, step⟩
  · refine thnF (T.done (X.blk s3 H3 scope ce fp) rfl rfl rfl hc i [] s5 _ H5 (fun _ _ => False) I5 (fps I5 n5) st5 stop) fun r s6 ⟨hr, I6⟩ => ?_
    subst hr
    have I7 : Inv X pins σ H5 s6 := I3.call' (ch := fp) I6.os I6.base I6.hok I6.bare fun b hb => let z := (f3 b hb).1.2; ⟨z.2.2.1, z.1, z.2.2.2.1, z.2.2.2.2⟩
    obtain ⟨m, hn, _⟩ := I6.loc
    have hn' : s6.heap.Ns ce.locals m := hn
    have nC : H5 ce.locals = none := I6.free
    rw [locs] at hn' nC
    exact back D s3.heap.objs.size s6 m H5 I7 qq hn' (I3.fpOk (Nat.le_refl _) nC)
  · refine thnF (T.item (X.blk s3 H3 scope ce fp) rfl rfl rfl hc i [] s5 _ H5 (fun _ _ => False) I5 (fps I5 n5) st5 go) fun r s6 ⟨u, hr, h6⟩ => ?_
    subst hr
    refine thnF h6 fun _ s7 ⟨x, H7, I7, r7, y7, st7, n7⟩ => ?_
    refine thnF (pg.run _ s7 _ H7 x u _ (I7.pinned (fps I7 n7) (T.obj _ _ st7)) r7 (step x H7 y7)) fun _ s8 ⟨σ8, H8, I8, hw8, q8⟩ => ?_
    refine thnF (pt.run _ s8 σ8 H8 _ I8 q8) fun b s9 ⟨H9, I9, q9⟩ => ?_
    have fin : ∀ {s' : Shared} {H' : Hp}, Inv (X.blk s3 H3 scope ce fp) ([] ++ pinsAt fp s7.heap) σ8 H' s' → Nx H' → ∃ m, m < n ∧ ∃ i H', Inv (X.blk s3 H3 scope ce fp) [] (wipe σ (own.map (·.2))) H' s' ∧ tn i s'.heap ∧ (∀ b ∈ fp, H' b = none) ∧ W i m H' := fun {s' H'} I' nx => by
      obtain ⟨m', hm, w'⟩ := hNx H' nx
      have pin : ∀ b ∈ fp, ∀ o, s7.heap.get? b = some o → s'.heap.get? b = some o ∧ H' b = none := fun b hb o e => let z := I'.pin (b, o) (List.mem_append_right _ (List.mem_append_right _ (mem_pinsAt hb e))); ⟨z.1, z.2.1⟩
      refine ⟨m', hm, i + 1, H', (I'.unpinned (pins := [])).weak (by rw [← hw8, wipe_length]) (fun j v e => by rw [← hw8] at e; exact (wipe_some e).1), T.keep _ _ _ st7 fun b hb o e => (pin b hb o e).1, fun b hb => ?_, w'⟩
      obtain ⟨o, e, _⟩ := T.obj _ _ st7 b hb
      exact (pin b hb o e).2
    cases b with
    | false => exact fin I9 (by simpa using q9)
    | true =>
      simp only [if_true] at q9 ⊢
      refine thnF (pe.run _ s9 σ8 H9 _ I9 q9) fun z s10 ⟨yv, H10, I10, r10, c, S0, n0, ey, hD10, lim, nx⟩ => ?_
      subst ey
      exact thnF (mt_sadd (X := X.blk s3 H3 scope ce fp) _ s10 σ8 H10 (.ref D) [.int c] (.ref D) [z] _ I10 rfl (.cons r10 .nil) ⟨D, c, S0, n0, rfl, rfl, hD10, lim, nx⟩) fun _ s11 ⟨_, H11, I11, _, nx'⟩ => fin I11 nx'
theorem pe_si {elt tg iter : Expr} {ifs : List Expr} {scope : Scope} {own : List (PySem.Str × Nat)} {pos : Pos} {wi : TI} {g : TG} {tt : TT} {te : TE} (hc : X.calm = true) (hN : X.N.Nodup) (hi : PI X tg iter wi) (ok : BlkOk X.N X.env.scope scope own)
    (blk : ∀ (s : Shared) (H : Hp) (C : Addr) (cl : List (PySem.Str × Addr)) (fp : List Addr), PG (X.blk s H scope (compEnvC scope cl C X.env) fp) tg g ∧ PTs (X.blk s H scope (compEnvC scope cl C X.env) fp) ifs tt ∧ PE (X.blk s H scope (compEnvC scope cl C X.env) fp) elt te) (hs : ∀ x, foldedSetIterable iter X.env x = pure x) :
    PE X (.SetComp elt [⟨tg, iter, ifs, 0⟩] scope pos) (tSi X.w wi g tt te (own.map (·.2))) := ⟨fun pins s σ H Q I h => by
  rw [eval_SetComp]
  refine si_core hc hN I hi ok blk hs h fun D C s' m H' I' q hn f => ⟨m, hn, fun h'' sb => ?_⟩
  exact ⟨.ref D, H', I'.turned (t' := s'.toks) (fun b o hb e => (sb.2 b hb).trans e) f.1 f.2.1 f.2.2.2.1 f.2.2.2.2.1 f.2.2.2.2.2, rfl, q⟩⟩
end
section
variable {Γ : Wd} {X : Cx} {N : List Str} {sc : Scope} {fp : Str → Bool} {k : Nat} {lk : List Nat}
theorem wipe_twice (σ : Sg) (vs : List Nat) : wipe (wipe σ vs) vs = wipe σ vs := by
  apply List.ext_getElem?
  intro j
  by_cases hj : j ∈ vs
  · have key : ∀ (σ : Sg) (ls : List Nat), j ∈ ls → (wipe σ ls)[j]? = (if j < σ.length then some none else none) := fun σ ls hm => by
      induction ls with
      | nil => cases hm
      | cons l ls ih =>
        unfold wipe
        by_cases el : l = j
        · subst el
          by_cases hlt : l < σ.length
          · rw [List.getElem?_set_self (by rw [wipe_length]; exact hlt), if_pos hlt]
          · rw [if_neg hlt, List.getElem?_eq_none]
            rw [List.length_set, wipe_length]; omega
        · rw [List.getElem?_set_ne el]
          exact ih (by rcases List.mem_cons.mp hm with z | z; exact absurd z.symm el; exact z)
    rw [key _ _ hj, key _ _ hj, wipe_length]
  · rw [wipe_out hj]
/-- the ints that a block gives, turn by turn -/
def compI (g : WG) (wt : WT) (we : WE) (own : List Nat) : List D → List Int → Rho → (List Int → Rho → Prop) → Prop
  | [], acc, ρ, K => K acc ρ
  | d :: ds, acc, ρ, K => g d ρ fun ρ1 => wt ρ1 (fun b ρ2 => Br b
      (we ρ2 (fun y ρ3 => match y with
        | .d (.int c) => acc.length < 4000 ∧ compI g wt we own ds (acc ++ [c]) (wipeR ρ3 own) K
        | _ => False) noE)
      (compI g wt we own ds acc (wipeR ρ2 own) K)) noE
def wSortC (wi : WI) (g : WG) (wt : WT) (we : WE) (own : List Nat) : WE := fun ρ Q E => wi ρ (fun ds ρ1 => compI g wt we own ds [] (wipeR ρ1 own) fun acc ρ2 => ∀ ns : List Int, ns.Pairwise (· < ·) → (∀ k, k ∈ ns ↔ k ∈ acc) → Q (.lst (ns.map D.int)) ρ2) E
/-- the set that is made stands for the ints so far -/
def Stands (w : World) (D : Addr) (acc : List Int) (H : Hp) : Prop := ∃ (S : Int → Bool) (n : Nat), H D = some (SetO w D S n) ∧ (∀ k, S k = true ↔ k ∈ acc) ∧ n ≤ acc.length
theorem si_ok (C : Ctx Γ X N sc fp k) {tg iter elt : Expr} {ifs : List Expr} {scope : Scope} {own is : List Nat} {wi : WI} {g : WG} {wt : WT} {we : WE} (hi : SI Γ X tg iter wi) (hsub : ∀ i ∈ is, i ∈ own)
    (hg : ∀ X', Blk Γ N sc scope k X' → SG Γ X' tg g is) (ht : ∀ X', Blk Γ N sc scope k X' → STs Γ X' ifs wt) (he : ∀ X', Blk Γ N sc scope k X' → SE Γ X' elt we)
    {σ : Sg} {F H : Hp} {A : List Addr} {ρ : Rho} {Q : WK} {E : EK} {QV : VK} {W : WX} (hh : hold Γ σ F H ρ A) (tk : Takes X W) (el : EL Γ σ F H A E W) (hw : wSortC wi g wt we own ρ Q E)
    (hq : ∀ sv ρ', Q sv ρ' → ∀ v F' H' A' B, Out Γ σ F H A ρ' sv v F' H' A' B → QV v H') :
    tSi Γ.w (wpXI X tg iter) (bG Γ N sc scope k tg) (bT Γ N sc scope k ifs) (bE Γ N sc scope k elt) own σ H (fun v H1 => rSortSet Γ.w [v] H1 QV) := by
  refine hi.run σ F H A ρ _ E _ W hh tk el hw fun ds ρ1 hw1 J F1 H1 A1 x1 h1 wk => ?_
  intro dst hD
  obtain ⟨hn1, hn2, nF, nA⟩ := hold_new (o := SetO Γ.w dst (fun _ => false) 0) h1 hD
  obtain ⟨A2, h2, s2⟩ := hold_wipe hn1 own
  have K : List Int → Rho → Prop := fun acc ρ2 => ∀ ns : List Int, ns.Pairwise (· < ·) → (∀ k, k ∈ ns ↔ k ∈ acc) → Q (.lst (ns.map D.int)) ρ2
  refine ⟨fun i m H' => m = ds.length - i ∧ i ≤ ds.length ∧ ∃ F' ρ' A' acc, Ext F1 H1 A1 F' H' ([dst] ++ A') ∧ hold Γ (wipe σ own) F' H' ρ' A' ∧ Stands Γ.w dst acc H' ∧ F' dst = none ∧ dst ∉ A' ∧ compI g wt we own (ds.drop i) acc ρ' (fun acc ρ2 => ∀ ns : List Int, ns.Pairwise (· < ·) → (∀ k, k ∈ ns ↔ k ∈ acc) → Q (.lst (ns.map D.int)) ρ2),
    ⟨ds.length, by simp, Nat.zero_le _, F1, _, A2, [], hn2.sub (fun a m => by simp only [List.cons_append, List.nil_append, List.mem_cons] at m ⊢; exact m.imp id (s2 a)), h2, ⟨_, 0, upd_same, fun k => by simp, Nat.le_refl _⟩, nF, fun m => nA (s2 dst m), by simpa using hw1⟩, ?_⟩
  rintro i m H' ⟨rfl, hi', F', ρ', A', acc, x3, h3, ⟨S, n, hS, hSm, hSn⟩, nF3, nA3, hw3⟩
  by_cases hlt : i < ds.length
  · refine .inr ⟨wk.go i F' H' x3.sf h3.sub hlt, fun H'' => ∃ F' ρ' A' acc, Ext F1 H1 A1 F' H'' ([dst] ++ A') ∧ hold Γ (wipe σ own) F' H'' ρ' A' ∧ Stands Γ.w dst acc H'' ∧ F' dst = none ∧ dst ∉ A' ∧ compI g wt we own (ds.drop (i + 1)) acc ρ' (fun acc ρ2 => ∀ ns : List Int, ns.Pairwise (· < ·) → (∀ k, k ∈ ns ↔ k ∈ acc) → Q (.lst (ns.map D.int)) ρ2),
      fun H'' z => ⟨ds.length - (i + 1), by omega, rfl, hlt, z⟩, fun x H4 y => ?_⟩
    obtain ⟨d, F4, e1, x4, h4, r4⟩ := wk.yld i F' H' A' _ ρ' x H4 x3.sf h3 hlt y
    have e2 : ds.drop i = d :: ds.drop (i + 1) := by
      obtain ⟨hj, e⟩ := List.getElem?_eq_some_iff.mp e1
      rw [List.drop_eq_getElem_cons hj, e]
    rw [e2] at hw3
    unfold compI at hw3
    have keepD : ∀ {F5 H5 : Hp} {A5 : List Addr}, Ext F' H' A' F5 H5 A5 → H5 dst = some (SetO Γ.w dst S n) ∧ F5 dst = none ∧ dst ∉ A5 := fun {F5 H5 A5} z => by
      refine ⟨z.fr dst _ hS nA3, ?_, fun m => ?_⟩
      · cases e : F5 dst with
        | none => rfl
        | some u =>
          rcases z.nf dst u e with q | q | q
          · rw [nF3] at q; cases q
          · rw [hS] at q; cases q
          · exact absurd q nA3
      · rcases z.na dst m with q | q
        · exact nA3 q
        · rw [hS] at q; cases q
    intro X' hX'
    have elF : ∀ {σ5 : Sg} {F5 H5 : Hp} {A5 : List Addr}, EL Γ σ5 F5 H5 A5 noE (fun _ _ _ _ => False) := fun {σ5 F5 H5 A5} _ _ _ z => z.elim
    refine (hg X' hX').run _ F4 H4 A' ρ' x d _ _ h4 r4 hw3 fun ρ5 hk5 σ5 F5 H5 A5 w5 x5 h5 => ?_
    have ew : wipe σ5 own = wipe σ own := (w5 own hsub).trans (wipe_twice σ own)
    refine ⟨ew, fun X' hX' => ?_⟩
    have x45 := x4.trans x5
    refine (ht X' hX').run σ5 F5 H5 A5 ρ5 _ noE _ _ h5 hX'.2 elF hk5 fun b ρ6 hk6 F6 H6 A6 x6 h6 => ?_
    have x46 := x45.trans x6
    have x36 := x3.trans (x46.frame (B := [dst]))
    have fin : ∀ {F7 H7 : Hp} {A7 : List Addr} {ρ7 : Rho} {acc' : List Int}, Ext F1 H1 A1 F7 H7 ([dst] ++ A7) → hold Γ σ5 F7 H7 ρ7 A7 → Stands Γ.w dst acc' H7 → F7 dst = none → dst ∉ A7 → compI g wt we own (ds.drop (i + 1)) acc' (wipeR ρ7 own) (fun acc ρ2 => ∀ ns : List Int, ns.Pairwise (· < ·) → (∀ k, k ∈ ns ↔ k ∈ acc) → Q (.lst (ns.map D.int)) ρ2) →
        ∃ F' ρ' A' acc, Ext F1 H1 A1 F' H7 ([dst] ++ A') ∧ hold Γ (wipe σ own) F' H7 ρ' A' ∧ Stands Γ.w dst acc H7 ∧ F' dst = none ∧ dst ∉ A' ∧ compI g wt we own (ds.drop (i + 1)) acc ρ' (fun acc ρ2 => ∀ ns : List Int, ns.Pairwise (· < ·) → (∀ k, k ∈ ns ↔ k ∈ acc) → Q (.lst (ns.map D.int)) ρ2) := fun {F7 H7 A7 ρ7 acc'} y1 y2 y3 y4 y5 y7 => by
      obtain ⟨A8, h8, s8⟩ := hold_wipe y2 own
      rw [ew] at h8
      exact ⟨F7, _, A8, acc', y1.sub (fun a m => by simp only [List.cons_append, List.nil_append, List.mem_cons] at m ⊢; exact m.imp id (s8 a)), h8, y3, y4, fun m => y5 (s8 dst m), y7⟩
    cases b with
    | false =>
      rw [if_neg Bool.false_ne_true]
      obtain ⟨z1, z2, z3⟩ := keepD x46
      exact fin x36 h6 ⟨S, n, z1, hSm, hSn⟩ z2 z3 (hk6.f rfl)
    | true =>
      rw [if_pos rfl]
      intro X' hX'
      refine (he X' hX').use h6 hX'.2 elF (hk6.t rfl) fun sy ρ7 q7 v F7 H7 A7 B7 o => ?_
      split at q7
      · rename_i c
        obtain ⟨lim, hk8⟩ := q7
        have ev : v = .int c := by have := o.ors; simp only [rs, RS, R] at this; exact this.1
        have x48 := x46.trans (o.oe.sub fun a m => List.mem_append_right _ m)
        obtain ⟨z1, z2, z3⟩ := keepD x48
        refine ⟨c, S, n, ev, z1, by unfold scanBound; omega, ?_⟩
        refine fin (acc' := acc ++ [c]) ((x3.trans (x48.frame (B := [dst]))).trans ⟨Same.refl _, fun a u e n => ?_, fun a u e => .inl e, fun a m => .inl m⟩) (hold_out o.oh z2 z3) ⟨_, _, upd_same, fun k => ?_, ?_⟩ z2 z3 hk8
        · rw [upd_ne (fun z => n (by simp [z]))]; exact e
        · rw [Bool.or_eq_true, hSm k, decide_eq_true_iff, List.mem_append, List.mem_singleton]
        · rw [List.length_append, List.length_singleton]; split <;> omega
      · exact q7.elim
  · have e : i = ds.length := by omega
    subst e
    rw [List.drop_length] at hw3
    refine .inl ⟨wk.stop _ F' H' x3.sf h3.sub (Nat.le_refl _), dst, S, n, rfl, hS, fun ns p up mem hp => ?_⟩
    obtain ⟨y1, y2, y3⟩ := hold_back h3, x3, hw3
    have x4 : Ext F1 H1 A1 F' H' A' := x3.sub fun a m => List.mem_append_right _ m
    exact hq _ ρ' (hw3 ns up fun k => by rw [mem k, hSm k]) _ _ _ _ _ ((Out.newL (hold_back h3) hp RL.of_ints).pre (x1.trans x4))
/-- sorted({e for t in it if c}) -/
theorem se_sortC (C : Ctx Γ X N sc fp k) {tg iter elt : Expr} {ifs : List Expr} {scope : Scope} {own : List (Str × Nat)} {is : List Nat} {p pos spos : Pos} {wi : WI} {g : WG} {wt : WT} {we : WE} (ok : blkC N sc scope own = true) (hsub : is.all (fun i => (own.map (·.2)).contains i) = true) (hi : SI Γ X tg iter wi)
    (hg : ∀ X', Blk Γ N sc scope k X' → SG Γ X' tg g is) (ht : ∀ X', Blk Γ N sc scope k X' → STs Γ X' ifs wt) (he : ∀ X', Blk Γ N sc scope k X' → SE Γ X' elt we) (hs : ∀ x, foldedSetIterable iter X.env x = pure x := by intro _; rfl) (hgs : sc.names.lookup ("sorted" : Str) = some .globalImplicit := by rfl)
    (hst : starEach [.SetComp elt [⟨tg, iter, ifs, 0⟩] scope spos] X.env = (false, eval (.SetComp elt [⟨tg, iter, ifs, 0⟩] scope spos) X.env) :: starEach [] X.env := by exact star_of rfl) :
    SE Γ X (.Call (.Name "sorted" p) [.SetComp elt [⟨tg, iter, ifs, 0⟩] scope spos] [] pos) (wSortC wi g wt we (own.map (·.2))) := .mk fun σ F H A ρ Q E QV W hh tk el hw hq pins s I => by
  refine (pe_callB (cr_sortSet C.calm) (gl_of C hgs) (by rw [C.mg]; exact C.bn _ (by decide +kernel)) (by decide +kernel) (pa_cons (pe_si (own := own) (g := bG Γ N sc scope k tg) (tt := bT Γ N sc scope k ifs) (te := bE Γ N sc scope k elt) C.calm (by rw [C.hN]; exact C.nd) pi_x (by rw [C.hN, C.hs]; exact blkOk_by ok)
    (fun s H c cl f => ⟨⟨fun pins s' σ H v u Q I r h => h _ (blk_ctx C s _ cl c f) pins s' u I r⟩, ⟨fun pins s' σ H Q I h => h _ (blk_ctx C s _ cl c f) pins s' I⟩, ⟨fun pins s' σ H Q I h => h _ (blk_ctx C s _ cl c f) pins s' I⟩⟩) hs) pa_nil hst) (he := hst)).run pins s σ H QV I ?_
  have := si_ok C hi (fun i m => by simpa using List.all_eq_true.mp hsub i m) hg ht he hh tk el hw hq
  rw [← C.w] at this
  exact this
theorem compI_ind {g : WG} {wt : WT} {we : WE} {own : List Nat} {K : List Int → Rho → Prop} (P : List D → List Int → Rho → Prop) (nil : ∀ acc ρ, P [] acc ρ → K acc ρ) (cons : ∀ d ds acc ρ, P (d :: ds) acc ρ → (∀ acc' ρ', P ds acc' ρ' → compI g wt we own ds acc' ρ' K) →
    g d ρ fun ρ1 => wt ρ1 (fun b ρ2 => Br b (we ρ2 (fun y ρ3 => match y with
        | .d (.int c) => acc.length < 4000 ∧ compI g wt we own ds (acc ++ [c]) (wipeR ρ3 own) K
        | _ => False) noE) (compI g wt we own ds acc (wipeR ρ2 own) K)) noE) : ∀ ds acc ρ, P ds acc ρ → compI g wt we own ds acc ρ K
  | [], acc, ρ, h => nil acc ρ h
  | d :: ds, acc, ρ, h => cons d ds acc ρ h fun acc' ρ' h' => compI_ind P nil cons ds acc' ρ' h'
end
end Dv

/-! Dv20: methods called by name. -/
namespace Dv
open PySem PySem.Spec PyProof.Rows L2
section
variable {Γ : Wd} {X : Cx} {N : List Str} {sc : Scope} {fp : Str → Bool} {k : Nat}
/-- a method, known by its text -/
structure MtX (Γ : Wd) (k n : Nat) (m : Str) (st : Stmt) (ps : List Str) (io : List Bool) (con : Con) : Prop where
  no : m ∉ (Γ.cl n).fld
  ex : ∃ (f : Addr) (fd : FuncData) (qual : Str), Meth Γ.K (Γ.cl n).adr m f ∧ Fun Γ.K m qual st f fd ∧ FnG Γ k f fd ps (spC Γ io con)
theorem MtX.mono {i j n : Nat} {m : Str} {st : Stmt} {ps : List Str} {io : List Bool} {con : Con} (F : MtX Γ i n m st ps io con) (h : i ≤ j) : MtX Γ j n m st ps io con := ⟨F.no, let ⟨f, fd, q, a, b, c⟩ := F.ex; ⟨f, fd, q, a, b, c.mono h⟩⟩
abbrev BindsMk (ps ks : List Str) (js : List Nat) (st : Stmt) : Prop := ∀ (x qual : Str) (kV doc pm cdv ct : Value) (an : Option Addr) (u : Value) (ws : List Value), ws.length = ks.length → bindArgs (PySem.W.fnOf x qual (defArgs st) (defBody st) (defScope st) .none kV doc pm an cdv ct) ⟨[u], ks.zip ws⟩ = pure (ps.zip (u :: prm .none js ws))
def wMethW (js : List Nat) (n : Nat) (io : List Bool) (con : Con) (wo : WE) (wk : WA) : WE := fun ρ Q E => wo ρ (fun sx ρ1 => isIns n sx ρ1 ∧ wk ρ1 (fun zs ρ2 => js.Perm (List.range zs.length) ∧ wCallK io con (sx :: prm (.d .non) js zs) ρ2 Q E) E) E
theorem se_methW (C : Ctx Γ X N sc fp k) {n : Nat} {m : Str} {st : Stmt} {ps ks : List Str} {js : List Nat} {io : List Bool} {con : Con} {o : Expr} {kws : List Keyword} {wo : WE} {wk : WA} {apos pos : Pos} {pl : Sem Bool} (K : ClOk Γ n) (F : MtX Γ k n m st ps io con) (KB : BindsMk ps ks js st) (ho : SE Γ X o wo) (hk : SK Γ X kws wk)
    (hall : (backToKw pos (keywordEach kws X.env)).all (·.1.isSome) = true := by rfl) (hks : (backToKw pos (keywordEach kws X.env)).filterMap (·.1) = ks := by rfl)
    (hpl : ((backTo pos (starEach [] X.env)).any (·.1) || (backToKw pos (keywordEach kws X.env)).any (·.1.isNone)) = false := by rfl) (hkl : js.length = ks.length := by rfl)
    (ht : eval (.Call (.Attribute o m apos) [] kws pos) X.env = (do
      let ov ← eval o X.env
      standAt apos.atName
      let (f, first) ← holding [ov] (getMethod ov m pl)
      callWith pos f first (backTo pos (starEach [] X.env)) (backToKw pos (keywordEach kws X.env))) := by rfl) : SE Γ X (.Call (.Attribute o m apos) [] kws pos) (wMethW js n io con wo wk) := .mk fun σ F0 H A ρ Q E QV W hh tk el hw hq pins s I => by
  obtain ⟨f, fd, qual, hm, FU, FF⟩ := F.ex
  refine PySem.W.methodCall_KW (pl := pl) (thn (ho.use hh tk el hw (QV := fun x H1 => ∃ a dx fs, x = .ref a ∧ H1 a = some (.ins (Γ.cl n).adr dx fs) ∧ fs.lookup m = none ∧ wpXK X kws σ H1 fun zs H2 => zs.length = ks.length ∧ spC Γ io con (x :: prm .non js zs) H2 QV fun cls d H' => W cls d σ H') (fun sx ρ1 hw1 v1 F1 H1 A1 B1 o1 => ?_) pins s I) fun u s1 ⟨x, H1, I1, rx, a, dx, fs, ex, ea, l, q⟩ => ?_) ht
  · obtain ⟨hi, hw1⟩ := hw1
    obtain ⟨a, dx, fs, e1, e2, e3⟩ := ins_of o1.oh o1.ors hi
    refine ⟨a, dx, fs, e1, e2, e3 m F.no, ?_⟩
    refine hk.run σ F1 H1 A1 ρ1 _ E _ W o1.oh tk (el.ext o1.ext1) hw1 fun svs ρ2 hw2 vs F2 H2 A2 B2 o2 => ?_
    obtain ⟨pp, hw2⟩ := hw2
    obtain ⟨B', oo⟩ := out_perm o2 pp
    refine ⟨?_, call_core (out_cons o1 oo) el hw2 hq⟩
    have := pp.length_eq
    rw [rsL_len o2.ors, ← hkl, this, List.length_range]
  · subst ex
    obtain rfl : u = Value.ref a := rx
    refine getmeth_ok I1 ea (by rw [C.K]; exact K.cl) (by rw [C.K]; exact hm) l ?_
    refine PySem.W.callWith_KW0 (first := [.ref a]) (h₀ := X.base) I1.ok.mod.kin (by rw [C.K]; exact hm.kp) hall ?_ hpl
    refine thn (q pos pins s1 I1) fun ws s2 ⟨zs, H2, I2, rz, hz, q2⟩ => ⟨I2.kIn, ?_⟩
    rw [hks]
    obtain ⟨oc, od, kV, doc, pm, an, cdv, ct, osl, rfl, lk, hcd⟩ := FU.ex
    have e0 := I2.env0
    rw [C.p, C.w, C.K, C.mg, C.base] at e0
    have R := FF.run X.A X.stack s2 H2 ⟨[.ref a], ks.zip ws⟩ (.ref a :: prm .none js ws) (.ref a :: prm .non js zs) QV _ C.room C.gd e0 (.of_eq (KB _ _ _ _ _ _ _ _ _ ws (by rw [← rz.length]; exact hz))) (.cons rfl (vals_prm rz)) q2
    rw [← C.p, ← C.w] at R
    refine wpAny_call (codeAny_mono R fun res s' back => ?_)
    cases res with
    | error e => exact tk e s' (XE.of_call I2 (fun _ _ _ z => z) back)
    | ok fl =>
      cases fl with
      | ret u => exact I2.after back
      | next => exact back.elim
      | brk => exact back.elim
      | cont => exact back.elim
theorem mtX_of {n : Nat} {x qual : Str} {st : Stmt} {N ps : List Str} {io : List Bool} {con : Con} {w : WS} (D : MethAt Γ n x qual st) (S : FnScope N ps (defScope st)) (bn : ∀ x ∈ bnames, Γ.mg x = none) (hio : io.length = ps.length) (tr : TrOf Γ N io st k w) (law : LawOf N io con w) : MtX Γ (k + 1) n x st ps io con := by
  obtain ⟨no, f, fd, h1, h2, h3, FU⟩ := D
  exact ⟨no, f, fd, qual, ⟨h1, h2, FU.kp⟩, FU, fnG_of FU S bn hio tr law⟩
end
end Dv

/-! Dv21: own errors: raised. -/
namespace Dv
open PySem PySem.Spec PyProof.Rows L2
/-- an error is being made: self.value = value -/
def spVal (K : PySem.W.Frag) : Sp := fun vs H Q _ => ∃ (a C : Addr) (v : V), vs = [.ref a, v] ∧ H a = some (exo a C none) ∧ OexC K C ∧ PySem.W.findIn K (.ref C) "value" = some none ∧
  ∀ d, H d = none → d ≠ a → Q .non (upd (upd H d (exd d [(("value" : Str), v)])) a (exo a C (some d)))
section
variable {Γ : Wd}
theorem errInit_of {qual : Str} {st : Stmt} {f : Addr} {fd : FuncData} {p1 p2 p3 p4 : Pos} (F : Fun Γ.K "__init__" qual st f fd) (S : FnScope ["self", "value"] ["self", "value"] (defScope st)) (hb : defBody st = [.Assign [.Attribute (.Name "self" p1) "value" p2] (.Name "value" p3) p4])
    (l1 : (defScope st).names.lookup ("self" : Str) = some .local) (l2 : (defScope st).names.lookup ("value" : Str) = some .local) : FnOk Γ.P Γ.w Γ.K Γ.mg Γ.base (CX Γ.P Γ.w) 1 f fd ["self", "value"] (spVal Γ.K) := by
  obtain ⟨oc, od, kV, doc, pm, an, cdv, ct, osl, rfl, lk, hcd⟩ := F.ex
  refine fn_of (N := ["self", "value"]) lk hcd S (fun vs H Q E h => ?_) fun A outer s H vs Q E room h => ?_
  · obtain ⟨a, C, v, rfl, _⟩ := h
    rfl
  · rw [hb]
    refine ⟨_, pss_one (ps_ost (pe_var (i := 0) rfl (Or.inl l1)) (pe_var (i := 1) rfl (Or.inl l2))), ?_⟩
    obtain ⟨a, C, v, rfl, ha, T, no, q⟩ := h
    exact ⟨v, rfl, .ref a, rfl, a, C, rfl, T, no, .inl ⟨ha, fun dx n ne => q dx n ne⟩⟩
/-- the class object, as it stands in the written part -/
def ExKept (K : PySem.W.Frag) (C : Addr) : Prop := ∃ nm q N bs bm sn sub ab col dd k0 k1 k2 k3 k5, K.lookup C = some (excClassObj nm q C N bs bm true sn sub ab col dd k0 k1 k2 k3 k5 "ValueError.__new__") ∧ PySem.HandSPX.refsVE bm = true
def IsExc (C : Addr) (o : Obj) : Prop := ∃ nm q N bs bm sn sub ab col dd k0 k1 k2 k3 k5, o = excClassObj nm q C N bs bm true sn sub ab col dd k0 k1 k2 k3 k5 "ValueError.__new__" ∧ PySem.HandSPX.refsVE bm = true
theorem ex_fin {K : PySem.W.Frag} {C : Addr} (x : {o : Obj // K.lookup C = some o}) (h : IsExc C x.1) : ExKept K C := by
  obtain ⟨o, e⟩ := x
  obtain ⟨nm, q, N, bs, bm, sn, sub, ab, col, dd, k0, k1, k2, k3, k5, h1, h2⟩ := h
  exact ⟨nm, q, N, bs, bm, sn, sub, ab, col, dd, k0, k1, k2, k3, k5, e.trans (congrArg some h1), h2⟩
/-- an own error class -/
structure ErOk (Γ : Wd) (j : Nat) (x : Str) : Prop where
  g : Γ.mg x = some (.ref (Γ.exc j))
  t : OexC Γ.K (Γ.exc j)
  no : PySem.W.findIn Γ.K (.ref (Γ.exc j)) "value" = some none
  init : ∃ fI fd, PySem.W.findIn Γ.K (.ref (Γ.exc j)) "__init__" = some (some (.ref fI)) ∧ PySem.W.typeIn Γ.K (.ref fI) = some (.type "function") ∧ FnOk Γ.P Γ.w Γ.K Γ.mg Γ.base (CX Γ.P Γ.w) 1 fI fd ["self", "value"] (spVal Γ.K) ∧ Binds Γ.K fd ["self", "value"] []
end
section
variable {Γ : Wd} {X : Cx} {N : List Str} {sc : Scope} {fp : Str → Bool} {k : Nat} {lk : List Nat}
/-- raise C(e) -/
def wRaise (j : Nat) (w : WE) : WS := fun ρ D E => w ρ (fun sv ρ1 => keep sv ρ1 fun x ρ2 => E j x ρ2) E
theorem ss_raise (C : Ctx Γ X N sc fp (k + 2)) {j : Nat} {x : Str} (R : ErOk Γ j x) {e : Expr} {w : WE} {p pos pos' : Pos} (h : SE Γ X e w) (hg : sc.names.lookup x = some .globalImplicit := by rfl) (hdb : (x == ("__debug__" : Str)) = false := by decide)
    (he : starEach [e] X.env = (false, eval e X.env) :: starEach [] X.env := by exact star_of rfl) (hpl : (backTo pos (starEach [] X.env)).any (·.1) = false := by rfl) :
    SS Γ lk X (.Raise (some (.Call (.Name x p) [e] [] pos)) none pos') (wRaise j w) := .mk fun σ F H A ρ D E DV W hh tk el eo hw pins s I => by
  obtain ⟨fI, fd, i1, i2, i3, i4⟩ := R.init
  refine (ps_raise C.calm tk (pmk_oex (X := X) (CX := CX Γ.P Γ.w) (C := Γ.exc j) (dvs := []) (by rw [C.K]; exact R.t) (by rw [C.K]; exact i1) (by rw [C.K]; exact i2) (by rw [C.p, C.w, C.K, C.mg, C.base]; exact i3) (C.room.mono (by omega)) (by rw [C.K]; exact i4) .nil ?_ (gl_of C hg) (by rw [C.mg]; exact R.g) (pa_cons pe_x pa_nil he) hdb he hpl)).run pins s σ H DV I ?_
  · rw [← C.p, ← C.w]
    exact passes_call tk fun _ _ _ _ z => z.elim
  · refine h.use hh tk el.now hw fun sv ρ1 q v F1 H1 A1 B1 o => ?_
    obtain ⟨d, ρ2, F2, A2, hk, x2, h2, r2, _⟩ := keep_ok o.oh o.ors o.ond o.ofb q
    refine ⟨by show 1 ≤ 1000; decide, fun a na => ⟨a, Γ.exc j, v, rfl, upd_same, R.t, R.no, fun dx nd ne => ⟨rfl, dx, [(("value" : Str), v)], upd_same, ?_, ?_, ?_⟩⟩⟩
    · rw [upd_ne ne, upd_same]
    · rw [upd_ne ne] at nd; exact nd
    · have nd' : H1 dx = none := by rw [upd_ne ne] at nd; exact nd
      -- the heap behind: the dict alone is new
      have e3 : upd (del (upd (upd (upd H1 a (exo a (Γ.exc j) none)) dx (exd dx [(("value" : Str), v)])) a (exo a (Γ.exc j) (some dx))) a) dx (.xd [(("value" : Str), v)]) = upd H1 dx (.xd [(("value" : Str), v)]) := by
        funext b
        by_cases hb : b = dx
        · subst hb; rw [upd_same, upd_same]
        · rw [upd_ne hb, upd_ne hb]
          by_cases ha : b = a
          · subst ha; rw [del_same]; exact na.symm
          · rw [del_ne ha, upd_ne ha, upd_ne hb, upd_ne ha]
      rw [e3]
      obtain ⟨h4, x4, nF, nA⟩ := hold_new (o := .xd [(("value" : Str), v)]) h2 nd'
      have x4' : Ext F2 H1 A2 F2 (upd H1 dx (.xd [(("value" : Str), v)])) A2 := ⟨x4.sf, x4.fr, x4.nf, fun a m => .inl m⟩
      exact el.now j d ρ2 hk F2 _ A2 dx v ((o.oe.trans x2).trans x4') h4 upd_same r2
end
end Dv

/-! Dv22: own errors: caught; isinstance(e, C), e.value in the suite. -/
namespace Dv
open PySem PySem.Spec PyProof.Rows L2 PySem.W PySem.Calls
/-- e.__class__, e an error of an own class, with its dict -/
theorem class_of_err {prog : Program} {w : World} {A : Around} {E : Value → Shared → Prop} {s : Shared} {K : PySem.W.Frag} {x D : Addr} {ox od : Obj} {Q : Option Value → Shared → Prop} (T : ExcC K D) (X : K.In s.heap) (I : InstAt s.heap x ox D (some od)) (h : Q (some (.ref D)) { s with toks := s.toks + 1 }) :
    wpAny (model prog w) A (getAttr? (.ref x) "__class__") Q E s := by
  obtain ⟨g1, g2, sub0, dct, c1, c2, c3, c4⟩ := T
  have hf := findObj_data (od := od) (by obtain ⟨cd, hc, _⟩ := any_some dct; rw [hc]; rfl) c1 c2 c3
  obtain ⟨hp, g, d, t, os⟩ := s
  have l0 := I.type (M := model prog w); have l1 := looks_findIn (M := model prog w) X g1; have l2 := looks_findIn (M := model prog w) X g2; have l3 := looks_find (M := model prog w) X I hf
  have sub : Looks (model prog w) hp (isInstance (.ref x) (.type "BaseException")) true := l0.andThen (looks_subIn X sub0)
  unfold getAttr? getAttrBy? getAttrBy; refine wpAny_bind (wpAny_mkText (wpAny_bind (wpAny_attempt (wpAny_holding (wpAny_bind (l0.at (wpAny_bind (l1.at ?_))))))))
  have q1 : (onTheHeap (Value.ref D) && Value.builtin "BaseException.__getattribute__" == Value.builtin "object.__getattribute__") = false := by rw [show (Value.builtin "BaseException.__getattribute__" == Value.builtin "object.__getattribute__") = false by decide +kernel]; rfl
  show wpAny _ _ (if (onTheHeap (Value.ref D) && Value.builtin "BaseException.__getattribute__" == Value.builtin "object.__getattribute__") = true then _ else _) _ _ _; rw [q1, if_neg Bool.false_ne_true]
  unfold getAttrByItsOwn hookBefore; refine wpAny_bind ?_; rw [if_pos (show onTheHeap (Value.ref D) = true from rfl)]
  refine l2.at (wpAny_bind (wpAny_attempt (wpAny_holding ?_)))
  unfold callGetattribute; rw [show (false && onTheHeap (Value.builtin "BaseException.__getattribute__")) = false from rfl, if_neg Bool.false_ne_true]
  unfold boundAndCalled; rw [PySem.F.excAttr_ValueError.ga.bind (.ref x)]
  refine wpAny_bind (wpAny_pure (show wpAny _ _ (call (.builtin "BaseException.__getattribute__") [.ref x, .str "__class__" t]) _ _ _ from ?_))
  refine wpAny_call (codeAny_call_builtin PySem.F.excAttr_ValueError.ga.plain PySem.F.entry_bexc_ga (@check_slot (model prog w) _ _ ⟨hp, g, d, t + 1, os⟩ "BaseException.__getattribute__" "BaseException" "__getattribute__" (.ref x) [.str "__class__" t] [] _ (by decide +kernel) (by decide +kernel) sub (PySem.F.args_bexc_ga (.ref x) (.str "__class__" t)) ?_))
  unfold Builtin.«object.__getattribute__»; refine wpAny_bind (wpAny_of_eq (a := ((Value.ref x : Value), [Value.str "__class__" t])) (by first | rfl | (simp only [slotArgs]; rfl)) (wpAny_bind (wpAny_pure (wpAny_bind (l0.at (wpAny_bind (l3.at ?_)))))))
  show wpAny _ _ (holding [Value.builtin "object.__class__"] (call (.builtin "getset_descriptor.__get__") [.builtin "object.__class__", .ref x, .ref D]) >>= ret) _ _ _
  refine wpAny_bind (wpAny_holding (wpAny_call (class_get (s := ⟨hp, g, d, t + 1, os⟩) (ox := ox) (od := some od) X I c4 (wpAny_pure ?_))))
  show wpAny _ _ (handedOut (.ref D)) _ _ _; rw [handedOut_of (v := .ref D) rfl]
  first | exact wpAny_pure (wpAny_pure h) | exact wpAny_pure h | exact wpAny_pure (wpAny_bind (wpAny_pure (wpAny_pure h)))
theorem kitx_err {K : PySem.W.Frag} {x D : Addr} {ox od : Obj} (T : ExcC K D) : KitX K (.ref x) (.ref D) (fun h => InstAt h x ox D (some od)) := by
  obtain ⟨cd, hc, _⟩ := any_some T.hd
  have key : ∃ c' d' cd' sl', K.lookup D = some ⟨c', d', .cls cd', sl'⟩ := by
    unfold clsIn at hc
    split at hc
    · rename_i c' d' cd' sl' ho
      exact ⟨c', d', cd', sl', ho⟩
    · cases hc
  obtain ⟨c', d', cd', sl', ho⟩ := key
  refine ⟨fun _ _ _ I => I.type, fun _ _ X _ => ?_, fun h tp dd its n sl X htp => ?_, fun X I k => class_of_err T X I k⟩
  · intro A' Q' E' s' k q
    unfold isType loadHead; exact wpAny_bind (wpAny_loadPart (k _ _ (X _ _ ho)) (wpAny_pure q))
  · refine Bool.eq_false_iff.mpr fun q => ?_
    obtain rfl : D = tp := Value.ref.inj (beq_iff_eq.mp q)
    have z := (X _ _ ho).symm.trans htp
    cases z
/-- isinstance(e, c), e the caught error -/
theorem call_isX {X : Cx} {a D dd : Addr} {oe : Obj} {pn : List (Addr × Obj)} (C : ExcC X.K D) (hz : Zc (.ref D) (some dd) oe) (hf : ∃ vs, oe.data = .fields vs) :
    CallR (X.suite a ((a, oe) :: pn)) (.builtin "isinstance") (fun xs H Q => ∃ (c : V) (cv : Value) (b : Bool) (fs : List (Str × V)), xs = [.ref a, c] ∧ H dd = some (.xd fs) ∧ (∀ u, RelV c u → u = cv) ∧ kitOne X.K (.ref D) cv = some b ∧ Q (.bl b) H) := by
  intro pins s σ H xs us Q I r h
  obtain ⟨c, cv, b, fs, rfl, hd, hcv, e, q⟩ := h
  obtain ⟨u1, u2, rfl, r1, r2⟩ := vals2 r
  cases r1
  obtain rfl := hcv _ r2
  obtain ⟨hget, _⟩ := I.pin (a, oe) (List.mem_append.mpr (.inl List.mem_cons_self))
  obtain ⟨vs, hv⟩ := hf
  obtain ⟨mA, ⟨od, es, ep, ho, _⟩, _⟩ := I.hok dd _ hd
  obtain ⟨oc, odd, oda, osl⟩ := oe
  obtain ⟨h1, h2⟩ := hz
  simp only at h1 h2 hv
  subst h1 h2 hv
  exact kia_one (kitx_err (od := od) C) I.kIn ⟨hget, rfl, rfl, ho⟩ e (fun z => nomatch z) fun tk => ⟨.bl b, H, I.kept (t' := tk) fun _ _ z => z, rfl, q⟩
/-- the error classes 0 .. m - 1; 0 is the base of all -/
structure ErTab (Γ : Wd) (m : Nat) (xs : List Str) : Prop where
  mg : ∀ j, j < m → ∃ x, xs[j]? = some x ∧ Γ.mg x = some (.ref (Γ.exc j))
  xc : ∀ j, j < m → ExcC Γ.K (Γ.exc j)
  xf : ∀ j, j < m → XfC Γ.K (Γ.exc j)
  no : ∀ j, j < m → findIn Γ.K (.ref (Γ.exc j)) "value" = some none
  isa : ∀ j, j < m → ∀ i, i < m → kitOne Γ.K (.ref (Γ.exc j)) (.ref (Γ.exc i)) = some (i == 0 || j == i)
  exm : ∀ j, j < m → ∀ i, i < m → exmOne Γ.K (.ref (Γ.exc j)) (.ref (Γ.exc i)) = some (i == 0 || j == i)
section
variable {Γ : Wd} {X : Cx} {N : List Str} {sc : Scope} {fp : Str → Bool} {k : Nat} {lk : List Nat}
/-- the error, caught, at slot i; its dict at dd -/
structure Cau (Γ : Wd) (σ : Sg) (F H : Hp) (A : List Addr) (i : Nat) (a dd : Addr) (v : V) (x : D) : Prop where
  at_ : σ[i]? = some (some (.ref a))
  d : H dd = some (.xd [(("value" : Str), v)])
  out : dd ∉ A
  val : rep Γ F v x
theorem Cau.ext {σ : Sg} {F H F' H' : Hp} {A A' : List Addr} {i : Nat} {a dd : Addr} {v : V} {x : D} (c : Cau Γ σ F H A i a dd v x) (e : Ext F H A F' H' A') : Cau Γ σ F' H' A' i a dd v x := by
  refine ⟨c.at_, e.fr _ _ c.d c.out, fun m => ?_, R.mono e.sf c.val⟩
  rcases e.na dd m with q | q
  · exact c.out q
  · rw [c.d] at q; cases q
structure SX (Γ : Wd) (Xs : Cx) (i : Nat) (a dd : Addr) (x : D) (e : Expr) (w : WE) : Prop where
  run : ∀ (σ : Sg) (F H : Hp) (A : List Addr) (ρ : Rho) (Q : WK) (QV : VK) (v : V), hold Γ σ F H ρ A → Cau Γ σ F H A i a dd v x → w ρ Q noE → (∀ sv ρ', Q sv ρ' → ∀ v F' H' A' B, Out Γ σ F H A ρ' sv v F' H' A' B → QV v H') → wpX Xs e σ H QV
structure SXA (Γ : Wd) (Xs : Cx) (i : Nat) (a dd : Addr) (x : D) (es : List Expr) (w : WA) : Prop where
  run : ∀ (σ : Sg) (F H : Hp) (A : List Addr) (ρ : Rho) (Q : List SV → Rho → Prop) (QV : List V → Hp → Prop) (v : V), hold Γ σ F H ρ A → Cau Γ σ F H A i a dd v x → w ρ Q noE → (∀ svs ρ', Q svs ρ' → ∀ vs F' H' A' B, OutL Γ σ F H A ρ' svs vs F' H' A' B → QV vs H') → wpXA Xs es σ H QV
section
variable {Xs : Cx} {i : Nat} {a dd : Addr} {x : D}
theorem sxa_nil : SXA Γ Xs i a dd x [] wNil := .mk fun σ F H A ρ Q QV v hh ca hw hq pos pins s I =>
  pa_nil.run pos pins s σ H QV I (hq [] ρ hw [] F H A [] ⟨Ext.refl, hh, by unfold rsL; exact ⟨rfl, rfl⟩, hh.nd, fun _ m => nomatch m⟩)
theorem sxa_cons {e : Expr} {es : List Expr} {w : WE} {wr : WA} (h : SX Γ Xs i a dd x e w) (hr : SXA Γ Xs i a dd x es wr) (hs : starEach (e :: es) Xs.env = (false, eval e Xs.env) :: starEach es Xs.env := by exact star_of rfl) : SXA Γ Xs i a dd x (e :: es) (wCons w wr) :=
  .mk fun σ F H A ρ Q QV v hh ca hw hq pos pins s I => by
  refine (pa_cons pe_x pa_x hs).run pos pins s σ H QV I ?_
  refine h.run σ F H A ρ _ _ v hh ca hw fun sx ρ1 hw1 v1 F1 H1 A1 B1 o1 => ?_
  refine hr.run σ F1 H1 A1 ρ1 _ _ v o1.oh (ca.ext o1.ext1) hw1 fun sxs ρ2 hw2 vs F2 H2 A2 B2 o2 => ?_
  exact hq _ _ hw2 (v1 :: vs) F2 H2 A2 (B1 ++ B2) (out_cons o1 o2)
theorem sx_lst {es : List Expr} {w : WA} {pos : Pos} (h : SXA Γ Xs i a dd x es w) : SX Γ Xs i a dd x (.List es pos) (wLst w) := .mk fun σ F H A ρ Q QV v hh ca hw hq pins s I => by
  refine (pe_lst pa_x).run pins s σ H QV I ?_
  refine h.run σ F H A ρ _ _ v hh ca hw fun svs ρ1 hw1 vs F1 H1 A1 B1 o1 => ?_
  obtain ⟨ds, ρ2, F2, A2, ⟨hl, hk⟩, x2, h2, r2, _⟩ := keepL_ok o1.oh o1.ors o1.ond o1.ofb hw1
  exact ⟨by rw [RL.length r2, line_eq]; exact hl, fun p hp => hq _ ρ2 hk _ _ _ _ _ ((Out.newL h2 hp r2).pre (o1.oe.trans x2))⟩
theorem sx_str {z : Str} {j : Nat} {pos : Pos} : SX Γ Xs i a dd x (.Constant (.str z) j pos) (wC (.str z)) := .mk fun σ F H A ρ Q QV v hh ca hw hq pins s I =>
  pe_str.run pins s σ H QV I (hq _ ρ hw _ _ _ _ _ (out_sc hh (.str _)))
/-- e.value -/
theorem sx_value (C : Ctx Γ X N sc fp k) {m j : Nat} {xs : List Str} (T : ErTab Γ m xs) (hj : j < m) {n : Str} {oe : Obj} {pn : List (Addr × Obj)} (hN : N[i]? = some n) (hl : sc.names.lookup n = some .local) (hz : Zc (.ref (Γ.exc j)) (some dd) oe) (hf : ∃ vs, oe.data = .fields vs) {np pos : Pos} (hd : (n == ("__debug__" : Str)) = false := by decide) (hcd : (n == ("__classdict__" : Str)) = false := by decide)
    (hb : attributeBase (.Name n np) "value" X.env (eval (.Name n np) X.env) = eval (.Name n np) X.env := by rfl) : SX Γ (X.suite a ((a, oe) :: pn)) i a dd x (.Attribute (.Name n np) "value" pos) (wC x) := .mk fun σ F H A ρ Q QV v hh ca hw hq pins s I => by
  refine (pe_xf (X := X) (C := Γ.exc j) (by rw [C.K]; exact T.xf j hj) (by rw [C.K]; exact T.no j hj) hz hf (pe_var (i := i) (by show X.N[i]? = _; rw [C.hN]; exact hN) (by show Vis X.env.scope n; rw [C.hs]; exact Or.inl hl) hd hcd) hb).run pins s σ H QV I ?_
  refine ⟨.ref a, ca.at_, rfl, rfl, dd, _, v, rfl, ca.d, by simp [List.lookup], ?_⟩
  exact hq _ ρ hw _ _ _ _ _ (.now hh (rs_d ca.val))
/-- isinstance(e, C') -/
theorem sx_isi (C : Ctx Γ X N sc fp k) {m j : Nat} {xs : List Str} (T : ErTab Γ m xs) (hj : j < m) {n y : Str} {oe : Obj} {pn : List (Addr × Obj)} (hN : N[i]? = some n) (hl : sc.names.lookup n = some .local) (hz : Zc (.ref (Γ.exc j)) (some dd) oe) (hf : ∃ vs, oe.data = .fields vs) {p np p2 pos : Pos} (c : Nat) (hc : c < m) (hy : xs[c]? = some y)
    (hg : sc.names.lookup ("isinstance" : Str) = some .globalImplicit := by rfl) (hgy : sc.names.lookup y = some .globalImplicit := by rfl) (hd : (n == ("__debug__" : Str)) = false := by decide) (hcd : (n == ("__classdict__" : Str)) = false := by decide) (hdy : (y == ("__debug__" : Str)) = false := by decide)
    (hs : starEach [.Name n np, .Name y p2] X.env = (false, eval (.Name n np) X.env) :: starEach [.Name y p2] X.env := by exact star_of rfl) (hpl : (backTo pos (starEach [.Name y p2] X.env)).any (·.1) = false := by rfl) :
    SX Γ (X.suite a ((a, oe) :: pn)) i a dd x (.Call (.Name "isinstance" p) [.Name n np, .Name y p2] [] pos) (wC (.bl (c == 0 || j == c))) := .mk fun σ F H A ρ Q QV v hh ca hw hq pins s I => by
  obtain ⟨y', e1, e2⟩ := T.mg c hc
  rw [hy] at e1
  cases e1
  have xc := T.xc j hj
  rw [← C.K] at xc
  refine (pe_callB (X := X.suite a ((a, oe) :: pn)) (call_isX (dd := dd) xc hz hf) (gl_of C hg) (by show X.mg _ = _; rw [C.mg]; exact C.bn _ (by decide +kernel)) (by decide +kernel)
    (pa_cons (pe_var (i := i) (by show X.N[i]? = _; rw [C.hN]; exact hN) (by show Vis X.env.scope n; rw [C.hs]; exact Or.inl hl) hd hcd) (pa_cons (pe_glob (v := .ref (Γ.exc c)) (gl_of C hgy) (by show X.mg _ = _; rw [C.mg]; exact e2) rfl (hd := hdy)) pa_nil) hs) (he := hs) (hpl := hpl)).run pins s σ H QV I ?_
  exact ⟨.ref a, ca.at_, .ref (Γ.exc c), .ref (Γ.exc c), _, _, rfl, ca.d, fun u r => r, by show kitOne X.K _ _ = _; rw [C.K]; exact T.isa j hj c hc, hq _ ρ hw _ _ _ _ _ (out_sc hh (.bl _))⟩
theorem Sl.anyAt {F H : Hp} {σ : Sg} {ρ : Rho} {A : List Addr} (h : Sl Γ.K Γ.cl F H σ ρ A) {i : Nat} (e : ρ[i]? = some none) (v : Option V) : Sl Γ.K Γ.cl F H (σ.set i v) ρ A := by
  induction h generalizing i with
  | nil => simp at e
  | @skip x σ ρ A h ih =>
    cases i with
    | zero => exact .skip h
    | succ i => exact .skip (ih (by simpa using e))
  | @one v0 sv0 B0 σ ρ A r h ih =>
    cases i with
    | zero => simp at e
    | succ i => exact .one r (ih (by simpa using e))
theorem hold_any {F H : Hp} {σ : Sg} {ρ : Rho} {A : List Addr} (hh : hold Γ σ F H ρ A) {i : Nat} (e : ρ[i]? = some none) (v : Option V) : hold Γ (σ.set i v) F H ρ A := by
  obtain ⟨A1, s, p⟩ := hh.sl
  exact ⟨⟨A1, Sl.anyAt s e v, p⟩, hh.sub, hh.nd, hh.av⟩
theorem rs_any {F H : Hp} {σ : Sg} {v u : V} {sv : SV} {B : List Addr} (r : rs Γ σ F H v sv B) (ns : ∀ q, sv ≠ .sl q) {σ' : Sg} : rs Γ σ' F H v sv B := by
  cases sv with
  | sl q => exact absurd rfl (ns q)
  | _ => exact r
/-- try: .. except C as n: y = e -/
def wTry (m c i y : Nat) (wb : WS) (we : Nat → D → WE) : WS := fun ρ D E => wb ρ D fun j x ρ1 => j < m ∧ Br (c == 0 || j == c) (ρ1[i]? = some none ∧ we j x ρ1 (fun sv ρ2 => (match sv with
  | .sl _ => False
  | _ => ρ2[i]? = some none ∧ put y sv ρ2 fun ρ3 => D.nx (ρ3.set i none))) noE) (E j x ρ1)
theorem ss_try (C : Ctx Γ X N sc fp k) (P : Own X) (dc : DefCx X) {m c : Nat} {xs : List Str} (T : ErTab Γ m xs) (i y : Nat) {n yn cn : Str} {body : List Stmt} {wb : WS} {we : Nat → D → WE} {e : Expr} {np yp pos pos' pos3 : Pos}
    (hb : ∀ X', Ctx Γ X' N sc fp k → Own X' → DefCx X' → SSs Γ lk X' body wb)
    (hx : ∀ j, j < m → ∀ a dd x oe pn, Zc (.ref (Γ.exc j)) (some dd) oe → (∃ vs, oe.data = .fields vs) → SX Γ (X.suite a ((a, oe) :: pn)) i a dd x e (we j x))
    (hc : c < m) (hcn : xs[c]? = some cn) (hi : N[i]? = some n) (hil : sc.names.lookup n = some .local) (fi : lk.contains i = false) (hn : StN N sc fp lk y yn) (hg : sc.names.lookup cn = some .globalImplicit) (hdc : (cn == ("__debug__" : Str)) = false := by decide)
    (hs : swapsWith e (some (.Name yn yp)) pos3.line X.env = pure false := by rfl) :
    SS Γ lk X (.Try body [.ExceptHandler (some (.Name cn np)) (some n) [.Assign [.Name yn yp] e pos3] pos'] [] [] pos) (wTry m c i y wb we) := .mk fun σ F H A ρ D E DV W hh tk el eo hw pins s I => by
  obtain ⟨cn', e1, e2⟩ := T.mg c hc
  rw [hcn] at e1
  cases e1
  obtain ⟨y1, y2, y3⟩ := hn.loc C
  have nm : Names X cn (.ref (Γ.exc c)) := ⟨gl_of C hg, hdc, .inl (by rw [C.mg]; exact e2)⟩
  have ni : X.N[i]? = some n := by rw [C.hN]; exact hi
  have kl : X.env.kindOf n = some .local := by show X.env.scope.names.lookup n = _; rw [C.hs]; exact hil
  refine (ps_try_as (X := X) (i := i) (tb := fun W' D' σ' H' => ∀ pn xe, Takes (X.tr pn xe) W' → PassesOwn (model X.prog X.w) X.A X.env xe → wpXSs (X.tr pn xe) body D' σ' H')
    (ts := fun a cls d D' σ' H' => ∀ oe pn, Zc cls d oe → (∃ vs, oe.data = .fields vs) → wpXSs (X.suite a ((a, oe) :: pn)) [.Assign [.Name yn yp] e pos3] D' σ' H')
    dc.st dc.fr (by rw [C.hN]; exact C.nd) ni kl nm tk (fun W' pn xe t p => ⟨fun pins s σ' H' D' I' h' => h' pn xe t p pins s I'⟩) (fun a oe cls d pn z f => ⟨fun pins s σ' H' D' I' h' => h' oe pn z f pins s I'⟩)).run pins s σ H DV I ?_
  intro pn xe tk' po
  have C' : Ctx Γ (X.tr pn xe) N sc fp k := ⟨C.p, C.w, C.K, C.mg, C.base, C.hN, C.nd, C.hs, C.calm, C.room, C.gd, C.fn, C.bn⟩
  refine (hb (X.tr pn xe) C' po ⟨dc.st, dc.fr⟩).run σ F H A ρ D _ DV _ hh tk' ?_ eo hw
  intro σ1 kp j x ρ1 z F1 H1 A1 dx v xx h1 hd hr
  obtain ⟨hj, br⟩ := z
  refine ⟨(c == 0 || j == c), by rw [C.K]; exact T.exm j hj c hc, fun hb a na oe pn' hz hf => ?_, fun hb => el σ1 kp j x ρ1 (br.f hb) F1 H1 A1 dx v xx h1 hd hr⟩
  obtain ⟨e0, hwe⟩ := br.t hb
  have li : i < σ1.length := by rw [h1.len]; exact (List.getElem?_eq_some_iff.mp e0).1
  have out : dx ∉ A1 := fun m => by
    obtain ⟨u, q1, q2⟩ := h1.own dx m
    rw [hd] at q1
    cases q1
    cases q2
  have ca : Cau Γ (σ1.set i (some (.ref a))) F1 H1 A1 i a dx v x := ⟨by rw [List.getElem?_set_self li], hd, out, hr⟩
  have sx := hx j hj a dx x oe pn' hz hf
  intro pins2 s2 I2
  have ly : y < (σ1.set i (some (.ref a))).length := by
    rw [I2.len]
    exact (List.getElem?_eq_some_iff.mp y1).1
  refine (pss_one (ps_set (X := X.suite a ((a, oe) :: pn')) (i := y) (by show X.N.Nodup; rw [C.hN]; exact C.nd) y1 y2 pe_x hs y3)).run pins2 s2 _ H1 _ I2 ?_
  refine sx.run _ F1 H1 A1 ρ1 _ _ v (hold_any h1 e0 _) ca hwe fun sv ρ2 q v2 F2 H2 A2 B2 o => ?_
  have q' : (∀ r, sv ≠ .sl r) ∧ ρ2[i]? = some none ∧ put y sv ρ2 fun ρ3 => D.nx (ρ3.set i none) := by
    cases sv with
    | sl r => exact q.elim
    | _ => exact ⟨(fun r z => by cases z), q⟩
  obtain ⟨ns, _, q'⟩ := q'
  obtain ⟨ρ3, F3, A3, hk, x3, h3⟩ := put_ok (i := y) o ly q'
  obtain ⟨A4, h4, s4⟩ := hold_sub h3 fun s => s.noneAt i
  exact eo.nx _ hk _ F3 H2 A4 (((kp.trans (.set fi)).trans (.set hn.1.2)).trans (.set fi)) ((xx.trans x3).sub s4) h4
end
end
end Dv

/-! Dv23: classes made by keywords. -/
namespace Dv
open PySem PySem.Spec PyProof.Rows L2
section
variable {Γ : Wd} {X : Cx} {N : List Str} {sc : Scope} {fp : Str → Bool} {k : Nat}
/-- a class, its __init__ known by its text -/
structure MkX (Γ : Wd) (k n : Nat) (x : Str) (st : Stmt) (ps : List Str) (io : List Bool) (con : Con) : Prop where
  ex : ∃ (f : Addr) (fd : FuncData) (qual : Str), Γ.mg x = some (.ref (Γ.cl n).adr) ∧ Mk Γ.K (Γ.cl n).adr f ∧ Fun Γ.K "__init__" qual st f fd ∧ FnG Γ k f fd ps (spC Γ (true :: io) con)
theorem MkX.mono {i j n : Nat} {x : Str} {st : Stmt} {ps : List Str} {io : List Bool} {con : Con} (F : MkX Γ i n x st ps io con) (h : i ≤ j) : MkX Γ j n x st ps io con := ⟨let ⟨f, fd, q, a, b, c, d⟩ := F.ex; ⟨f, fd, q, a, b, c, d.mono h⟩⟩
def wMakeW (js : List Nat) (n : Nat) (io : List Bool) (con : Con) (wk : WA) : WE := fun ρ Q E => wk ρ (fun zs ρ1 => js.Perm (List.range zs.length) ∧ wMake n io con (fun ρ Q _ => Q (prm (.d .non) js zs) ρ) ρ1 Q E) E
theorem se_makeW (C : Ctx Γ X N sc fp (k + 1)) {x : Str} {n : Nat} {st : Stmt} {ps ks : List Str} {js : List Nat} {io : List Bool} {con : Con} {kws : List Keyword} {wk : WA} {p pos : Pos} (F : MkX Γ k n x st ps io con) (KB : BindsMk ps ks js st) (hk : SK Γ X kws wk) (hg : sc.names.lookup x = some .globalImplicit := by rfl)
    (hall : (backToKw pos (keywordEach kws X.env)).all (·.1.isSome) = true := by rfl) (hks : (backToKw pos (keywordEach kws X.env)).filterMap (·.1) = ks := by rfl) (hdb : (x == ("__debug__" : Str)) = false := by decide)
    (hpl : ((backTo pos (starEach [] X.env)).any (·.1) || (backToKw pos (keywordEach kws X.env)).any (·.1.isNone)) = false := by rfl) (hkl : js.length = ks.length := by rfl) : SE Γ X (.Call (.Name x p) [] kws pos) (wMakeW js n io con wk) := .mk fun σ F0 H A ρ Q E QV W hh tk el hw hq pins s I => by
  obtain ⟨f, fd, qual, hm, M, FU, FF⟩ := F.ex
  refine wpAny_Call_Name_kw (ld_glob I (gl_of C hg) (by rw [C.mg]; exact hm) ?_ hdb)
  refine PySem.W.callWith_KW0 (h₀ := X.base) I.ok.mod.kin (by rw [C.K]; exact M.kp) hall ?_ hpl
  have len : wpXK X kws σ H fun zs H1 => zs.length = ks.length ∧ ∀ x dx, H1 x = none → H1 dx = none → dx ≠ x → spC Γ (true :: io) con (.ref x :: prm .non js zs) (upd (upd H1 dx (.own x)) x (.ins (Γ.cl n).adr dx [])) (fun v H2 => v = .non ∧ QV (.ref x) H2) (fun cls d H' => W cls d σ H') := by
    refine hk.run σ F0 H A ρ _ E _ W hh tk el hw fun svs ρ1 hw1 vs F1 H1 A1 B1 o1 => ?_
    obtain ⟨pp, hw1⟩ := hw1
    obtain ⟨B', oo⟩ := out_perm o1 pp
    refine ⟨?_, fun x dx h1 h2 h3 => make_core (n := n) oo el hw1 hq h1 h2 h3⟩
    have := pp.length_eq
    rw [rsL_len o1.ors, ← hkl, this, List.length_range]
  refine thn (len pos pins s I) fun us s1 ⟨zs, H1, I1, rz, hz, q⟩ => ⟨I1.kIn, ?_⟩
  rw [hks]
  obtain ⟨oc, od, kV, doc, pm, an, cdv, ct, osl, rfl, lk, hcd⟩ := FU.ex
  have hq' := q (s1.heap.objs.size + 1) s1.heap.objs.size (I1.hok.fresh (Nat.le_succ _)) (I1.hok.fresh (Nat.le_refl _)) (Nat.ne_of_lt (Nat.lt_succ_self _))
  have I2 := Inv.made (C := (Γ.cl n).adr) I1
  have e0 := I2.env0.make (Γ.cl n).adr [] (ks.zip us)
  have kin1 := I1.kIn
  rw [C.p, C.w, C.K, C.mg, C.base] at e0
  rw [C.K] at kin1
  have r2 : Vals (V.ref (s1.heap.objs.size + 1) :: prm .non js zs) (Value.ref (s1.heap.objs.size + 1) :: prm .none js us) := .cons rfl (vals_prm rz)
  have R := FF.run _ X.stack _ _ ⟨[Value.ref (s1.heap.objs.size + 1)], ks.zip us⟩ (Value.ref (s1.heap.objs.size + 1) :: prm .none js us) _ _ _ (C.room.make (Γ.cl n).adr [] (ks.zip us)) (gd_make C.gd) e0 (.of_eq (KB _ _ _ _ _ _ _ _ _ us (by rw [← rz.length]; exact hz))) r2 hq'
  rw [← C.p, ← C.w] at R
  refine wpAny_call (make_map (f := f) kin1 M.makes M.init (beq_iff_eq.mp M.fn) (codeAny_mono R fun r s' back => ?_))
  cases r with
  | error e => exact tk e s' (XE.of_call I2 (fun _ _ _ z => z) back)
  | ok fl =>
    cases fl with
    | ret u =>
      obtain ⟨v, H', I3, rv, ev, q3⟩ := I2.after back
      subst ev
      exact ⟨rv, ⟨V.ref (s1.heap.objs.size + 1), H', I3, rfl, q3⟩⟩
    | next => exact False.elim back
    | brk => exact False.elim back
    | cont => exact False.elim back
theorem mkX_of {n : Nat} {x qual : Str} {st : Stmt} {N ps : List Str} {io : List Bool} {con : Con} {w : WS} (D : InitAt Γ n x qual st) (S : FnScope N ps (defScope st)) (bn : ∀ x ∈ bnames, Γ.mg x = none) (hio : (true :: io).length = ps.length) (tr : TrOf Γ N (true :: io) st k w) (law : LawOf N (true :: io) con w) : MkX Γ (k + 1) n x st ps io con := by
  obtain ⟨hm, f, fd, M, FU⟩ := D
  exact ⟨f, fd, qual, hm, M, FU, fnG_of FU S bn hio tr law⟩
end
end Dv

/-! Dv24: an instance that is called. -/
namespace Dv
open PySem PySem.Spec PyProof.Rows L2
section
variable {Γ : Wd} {X : Cx} {N : List Str} {sc : Scope} {fp : Str → Bool} {k : Nat}
theorem inst_look {A : List Addr} {pins : List (Addr × Obj)} {σ : Sg} {H : Hp} {s : Shared} {a C dx : Addr} {fs : List (Str × V)} (I : Inv X pins σ H s) (e : H a = some (.ins C dx fs)) : ∃ od, PySem.W.InstAt s.heap a (PySem.W.instObj C dx) C (some od) := by
  obtain ⟨mA, O, _⟩ := ins_get I.hok e
  obtain ⟨od, J, _⟩ := O.look
  exact ⟨od, J⟩
/-- an own instance is called: its standing is asked behind the arguments -/
theorem call_inst {M : Model} {A : Around} {E : Value → Shared → Prop} {s : Shared} {env : Env} {pos : Pos} {a : Addr} {Q : Value → Shared → Prop} {e : Expr} {es : List Expr}
    (h : wpAny M A (spliced (backTo pos (starEach (e :: es) env))) (fun us s1 => (∃ C ox od, PySem.W.InstAt s1.heap a ox C od ∧ ox.data = .plain) ∧ wpAny M A (call (.ref a) us) Q E s1) E s)
    (he : starEach (e :: es) env = (false, eval e env) :: starEach es env) (hp : (backTo pos (starEach es env)).any (·.1) = false) : wpAny M A (callWith pos (.ref a) [] (backTo pos (starEach (e :: es) env)) []) Q E s := by
  rw [he] at h ⊢
  have pl : ((backTo pos ((false, eval e env) :: starEach es env)).any (·.1) || ([] : List (Option Str × Sem Value)).any (·.1.isNone)) = false := by
    show ((false || (backTo pos (starEach es env)).any (·.1)) || false) = false
    rw [hp]; rfl
  unfold callWith
  have he2 : wpAny M A (evalArgs (.ref a) true (backTo pos ((false, eval e env) :: starEach es env)) []) (fun g s1 => (∃ C ox od, PySem.W.InstAt s1.heap a ox C od ∧ ox.data = .plain) ∧ wpAny M A (call (.ref a) ([] ++ g.pos) g.kw) Q E s1) E s :=
    PySem.Calls.evalArgs_plain (x := eval e env) (rest := backTo pos (starEach es env)) h
  refine wpAny_bind (wpAny_holding (wpAny_mono he2 (fun g s1 hg => ?_) fun _ _ z => z))
  obtain ⟨⟨C, ox, od, J, pd⟩, hc⟩ := hg
  refine wpAny_bind (wpAny_standAt ?_)
  have lk := PySem.W.kco_keeper (M := M) J pd
  simp only [pl]
  refine wpAny_bind (lk.here ?_)
  refine wpAny_bind (wpAny_mono (wpAny_operateT hc) (fun v s2 hv => ?_) fun _ _ z => z)
  exact wpAny_bind (wpAny_holding (wpAny_point (wpAny_pure hv)))
def wInst (n : Nat) (io : List Bool) (con : Con) (wo : WE) (wa : WA) : WE := fun ρ Q E => wo ρ (fun sx ρ1 => isIns n sx ρ1 ∧ wa ρ1 (fun svs ρ2 => isIns n sx ρ2 ∧ wCallK io con (sx :: svs) ρ2 Q E) E) E
theorem se_inst (C : Ctx Γ X N sc fp k) {n : Nat} {x : Str} {io : List Bool} {con : Con} {e : Expr} {es : List Expr} {wo : WE} {wa : WA} {p pos : Pos} (F : OpE Γ k n "__call__" io con) (ho : SE Γ X (.Name x p) wo) (ha : SA Γ X (e :: es) wa)
    (he : starEach (e :: es) X.env = (false, eval e X.env) :: starEach es X.env := by exact star_of rfl) (hpl : (backTo pos (starEach es X.env)).any (·.1) = false := by rfl) : SE Γ X (.Call (.Name x p) (e :: es) [] pos) (wInst n io con wo wa) := .mk fun σ F0 H A ρ Q E QV W hh tk el hw hq pins s I => by
  obtain ⟨f, fd, ps, h1, h2, h3, hb, FF⟩ := F.ex
  refine wpAny_Call_Name_kw (thn (ho.use hh tk el hw (QV := fun x H1 => ∃ a dx fs, x = .ref a ∧ H1 a = some (.ins (Γ.cl n).adr dx fs) ∧ wpXA X (e :: es) σ H1 fun vs H2 => (∃ dx fs, H2 a = some (.ins (Γ.cl n).adr dx fs)) ∧ spC Γ io con (x :: vs) H2 QV fun cls d H' => W cls d σ H') (fun sx ρ1 hw1 v1 F1 H1 A1 B1 o1 => ?_) pins s I) fun u s1 ⟨x, H1, I1, rx, a, dx, fs, ex, ea, q⟩ => ?_)
  · obtain ⟨hi, hw1⟩ := hw1
    obtain ⟨a, dx, fs, e1, e2, e3⟩ := ins_of o1.oh o1.ors hi
    refine ⟨a, dx, fs, e1, e2, ?_⟩
    refine ha.run σ F1 H1 A1 ρ1 _ E _ W o1.oh tk (el.ext o1.ext1) hw1 fun svs ρ2 hw2 vs F2 H2 A2 B2 o2 => ?_
    obtain ⟨hi2, hw2⟩ := hw2
    obtain ⟨a', dx', fs', e1', e2', _⟩ := ins_later o1 o2 hi2
    rw [e1] at e1'
    cases e1'
    exact ⟨⟨dx', fs', e2'⟩, call_core (out_cons o1 o2) el hw2 hq⟩
  · subst ex
    obtain rfl : u = Value.ref a := rx
    obtain ⟨od, J⟩ := inst_look (A := []) I1 ea
    have kin := I1.kIn
    rw [C.K] at kin
    refine call_inst (thn (q pos pins s1 I1) fun us s2 ⟨vs, H2, I2, r2, ⟨dx2, fs2, e2⟩, q2⟩ => ?_) he hpl
    obtain ⟨od2, J2⟩ := inst_look (A := []) I2 e2
    refine ⟨⟨_, _, _, J2, rfl⟩, ?_⟩
    have kin2 := I2.kIn
    have e0 := I2.env0
    rw [C.p, C.w, C.K, C.mg, C.base] at e0
    rw [C.K] at kin2
    have rr : Vals (.ref a :: vs) (.ref a :: us) := .cons rfl r2
    have al : ((Value.ref a :: us) ++ []).length = ps.length := by rw [List.append_nil, ← rr.length]; exact FF.len _ _ _ _ q2
    have R := FF.run X.A X.stack s2 H2 ⟨Value.ref a :: us, []⟩ (Value.ref a :: us) (.ref a :: vs) QV _ C.room C.gd e0 (by simpa using hb s2 (Value.ref a :: us) kin2 al) rr q2
    rw [← C.p, ← C.w] at R
    refine wpAny_call (PySem.W.kco_code kin2 J2 rfl h1 h2 h3 (codeAny_mono R fun res s' back => ?_))
    cases res with
    | error e => exact tk e s' (XE.of_call I2 (fun _ _ _ z => z) back)
    | ok fl =>
      cases fl with
      | ret u => exact I2.after back
      | next => exact back.elim
      | brk => exact back.elim
      | cont => exact back.elim
end
end Dv

/-! Dv25: != of two instances of an own class that has == alone. -/
namespace Dv
open PySem PySem.Spec PyProof.Rows L2
/-- object's own != stands for the class -/
structure NeOk (Γ : Wd) (n : Nat) : Prop where
  ne : PySem.W.findIn Γ.K (.ref (Γ.cl n).adr) "__ne__" = some (some (.builtin "object.__ne__"))
  ob : PySem.W.subIn Γ.K (.ref (Γ.cl n).adr) (.type "object") = some true
section
variable {prog : Program} {w : World} {A : Around} {E : Value → Shared → Prop} {s : Shared}
theorem ne_body {a b : Addr} {Q : Fin → Shared → Prop} (hu : A.units < cLine)
    (h : wpAny (model prog w) A (callSpecialIfBound? (.ref a) (Str.ofString "__eq__") [.ref b]) (fun r s' => ∃ z, r = some (.bool z) ∧ Q (.done (.ret (.bool (!z)))) s') E s) :
    wpAny (model prog w) A (Builtin.«object.__ne__» ⟨[.ref a, .ref b], []⟩) Q E s := by
  unfold Builtin.«object.__ne__»
  repeat (first
    | (with_reducible refine wpAny_cRoomFor hu ?_)
    | (refine wpAny_bind (m := callSpecialIfBound? (.ref a) (Str.ofString "__eq__") [.ref b]) (wpAny_mono h (fun r s' hr => ?_) fun _ _ z => z))
    | wp_step)
  obtain ⟨z, rfl, hq⟩ := hr
  repeat (first | exact hq | exact wpAny_pure hq | (refine wpAny_bind (m := truthy (.bool _)) (wpAny_truthy_bool ?_)) | wp_step)
theorem ne_try {K : PySem.W.Frag} {a b C : Addr} {ox : Obj} {od : Option Obj} {Q : Value → Shared → Prop} (hu : A.units + 1 < cLine) (X : K.In s.heap) (J : PySem.W.InstAt s.heap a ox C od) (hf : PySem.W.findIn K (.ref C) "__ne__" = some (some (.builtin "object.__ne__"))) (ho : PySem.W.subIn K (.ref C) (.type "object") = some true)
    (h : wpAny (model prog w) A.in1 (callSpecialIfBound? (.ref a) (Str.ofString "__eq__") [.ref b]) (fun r s' => ∃ z, r = some (.bool z) ∧ Q (.bool (!z)) s') E s) :
    wpAny (model prog w) A (tryCompare (.ref a) "__ne__" (.ref b)) (fun r s' => ∃ v, r = some v ∧ Q v s') E s := by
  have isa : PySem.W.Looks (model prog w) s.heap (isInstance (.ref a) (.type "object")) true := J.type.andThen (PySem.W.looks_subIn X ho)
  have cal : wpAny (model prog w) A (call (.builtin "object.__ne__") [.ref a, .ref b]) (fun v s' => ∃ z, v = .bool z ∧ Q v s') E s := by
    refine wpAny_call (codeAny_call_builtin PySem.F.cmp_object.ne.plain PySem.F.cmpEntry_ne (PySem.W.check_slot PySem.F.cmpKind_ne PySem.F.cmpSplit_ne isa (PySem.F.cmpArgs_ne _ _) ?_))
    refine ne_body hu (wpAny_mono h (fun r s' hr => ?_) fun _ _ z => z)
    obtain ⟨z, rfl, q⟩ := hr
    exact ⟨z, rfl, ⟨_, rfl, q⟩⟩
  have fin : wpAny (model prog w) A (call (.builtin "object.__ne__") ([.ref a] ++ [.ref b]) >>= fun v => pure (some v)) (fun r s' => ∃ z, r = some (.bool z) ∧ Q (.bool z) s') E s :=
    wpAny_bind (wpAny_mono cal (fun v s' ⟨z, e, q⟩ => wpAny_pure ⟨z, by rw [e], by rw [← e]; exact q⟩) fun _ _ z => z)
  unfold tryCompare
  refine wpAny_bind (wpAny_mono (Q := fun r s' => ∃ z, r = some (.bool z) ∧ Q (.bool z) s') ?_ (fun r s' hr => ?_) fun _ _ z => z)
  · simp only [callSpecialIfBound?, bindSpecialIfBound?]
    refine wpAny_holding (wpAny_bind (wpAny_bind (wpAny_bind (J.type.here ((PySem.W.looks_findIn X hf).here ?_)))))
    refine wpAny_bind (wpAny_askSetting (wpAny_ite ?_))
    rw [PySem.F.cmp_object.ne.bind]
    split
    · exact wpAny_bind (wpAny_pure (wpAny_pure fin))
    · exact wpAny_tryCatch (wpAny_bind (wpAny_pure (wpAny_pure fin)))
  · obtain ⟨z, rfl, q⟩ := hr
    exact wpAny_pure ⟨_, rfl, q⟩
end
section
variable {Γ : Wd} {X : Cx} {N : List Str} {sc : Scope} {fp : Str → Bool} {k : Nat}
def wNeO (n : Nat) (io : List Bool) (con : Con) (wa wb : WE) : WE := fun ρ Q E => wa ρ (fun sx ρ1 => wb ρ1 (fun sy ρ2 => isIns n sx ρ2 ∧ isIns n sy ρ2 ∧ wCallK io con [sx, sy] ρ2 (fun r ρ3 => match r with
  | .d (.bl b) => Q (.d (.bl (!b))) ρ3
  | _ => False) E) E) E
theorem neO_core (C : Ctx Γ X N sc fp (k + 1)) {n : Nat} {io : List Bool} {con : Con} (F : OpE Γ k n "__eq__" io con) (O : NeOk Γ n) {pins : List (Addr × Obj)} {s : Shared} {σ : Sg} {H : Hp} {QB : Bool → Hp → Prop} {W : WX} {a b dx dy : Addr} {fs gs : List (Str × V)} {Qv : Value → Shared → Prop} (tk : Takes X W) (I : Inv X pins σ H s)
    (ea : H a = some (.ins (Γ.cl n).adr dx fs)) (eb : H b = some (.ins (Γ.cl n).adr dy gs)) (q : spC Γ io con [.ref a, .ref b] H (fun r H3 => ∃ b, r = .bl b ∧ QB b H3) fun cls d H' => W cls d σ H') (hQ : ∀ b s' H', Inv X pins σ H' s' → QB b H' → Qv (.bool (!b)) s') :
    wpAny (model X.prog X.w) X.A (compareOp .NotEq (.ref a) (.ref b)) Qv X.xe s := by
  obtain ⟨f, fd, ps, h1, h2, h3, hbd, FF⟩ := F.ex
  obtain ⟨od, J⟩ := inst_look (A := []) I ea
  obtain ⟨od2, J2⟩ := inst_look (A := []) I eb
  have kin := I.kIn
  rw [C.K] at kin
  have run := run_fnA (A := X.A.in1) (k := k + 1) C FF hbd tk C.room.in1 (gd_in1 C.gd) rfl I (vs := [.ref a, .ref b]) (us := [.ref a, .ref b]) (.cons rfl (.cons rfl .nil)) q
  have eq1 : wpAny (model X.prog X.w) X.A.in1 (callSpecialIfBound? (.ref a) (Str.ofString "__eq__") [.ref b]) (fun r s' => ∃ z, r = some (.bool z) ∧ Qv (.bool (!z)) s') X.xe s :=
    PySem.W.ifBound_K kin J h1 h2 (wpAny_mono run (fun r s' h => by
      obtain ⟨v', H', I', rv, b, rfl, qb⟩ := h
      cases rv
      exact ⟨b, rfl, hQ b s' H' I' qb⟩) fun _ _ z => z)
  have one := ne_try (A := X.A) (Nat.lt_of_le_of_lt (by omega) C.room.units) kin J O.ne O.ob eq1
  show wpAny (model X.prog X.w) X.A (richCompare .NotEq (.ref a) (.ref b)) Qv X.xe s
  unfold richCompare
  simp only [oneThing_ref]
  refine wpAny_holding (wpAny_bind (wpAny_cRoomFor (Nat.lt_of_le_of_lt (Nat.le_add_right _ _) C.room.units) ?_))
  refine wpAny_bind (J.type.here (wpAny_bind (J2.type.here ?_)))
  rw [show (Value.ref (Γ.cl n).adr != Value.ref (Γ.cl n).adr) = false from by simp]
  simp only [Bool.false_eq_true, if_false]
  refine wpAny_bind (wpAny_pure ?_)
  simp only [Bool.false_eq_true, if_false]
  refine wpAny_bind (wpAny_mono one (fun r s' z => ?_) fun _ _ z => z)
  obtain ⟨v, rfl, hq⟩ := z
  exact wpAny_pure hq
theorem se_neO (C : Ctx Γ X N sc fp (k + 1)) {n : Nat} {io : List Bool} {con : Con} {a b : Expr} {wa wb : WE} {pos : Pos} (F : OpE Γ k n "__eq__" io con) (O : NeOk Γ n) (ha : SE Γ X a wa) (hb : SE Γ X b wb) (hm : behindInMarks .NotEq b = false := by with_unfolding_all rfl) :
    SE Γ X (.Compare a [.NotEq] [b] pos) (wNeO n io con wa wb) := .mk fun σ F0 H A ρ Q E QV W hh tk el hw hq pins s I => by
  refine wpAny_Compare1 (binT pe_x pe_x I (R := fun x y H2 => ∃ a b dx dy fs gs, x = .ref a ∧ y = .ref b ∧ H2 a = some (.ins (Γ.cl n).adr dx fs) ∧ H2 b = some (.ins (Γ.cl n).adr dy gs) ∧ spC Γ io con [x, y] H2 (fun r H3 => ∃ b, r = .bl b ∧ QV (.bl (!b)) H3) fun cls d H' => W cls d σ H') ?_ fun v u s2 x y H2 I2 rx ry q => ?_) hm
  · refine ha.use hh tk el hw fun sx ρ1 hw1 v1 F1 H1 A1 B1 o1 => ?_
    refine hb.use o1.oh tk (el.ext o1.ext1) hw1 fun sy ρ2 hw2 v2 F2 H2 A2 B2 o2 => ?_
    obtain ⟨hi, hj, hw2⟩ := hw2
    obtain ⟨a, dx, fs, e1, e2, _⟩ := ins_later o1 (out_one o2) hi
    obtain ⟨b, dy, gs, e3, e4, _⟩ := ins_of o2.oh o2.ors hj
    refine ⟨a, b, dx, dy, fs, gs, e1, e3, e2, e4, ?_⟩
    refine call_core (out_two o1 o2) el hw2 fun r ρ3 hr v3 F3 H3 A3 B3 o3 => ?_
    cases r with
    | d z =>
      cases z with
      | bl b =>
        have r3 := o3.ors
        simp only [rs, RS, R] at r3
        exact ⟨b, r3.1, hq _ ρ3 hr _ F3 H3 A3 [] ((Out.now o3.oh (rs_d (by simp [rep, R]))).pre o3.ext1)⟩
      | _ => exact hr.elim
    | _ => exact hr.elim
  · obtain ⟨a, b, dx, dy, fs, gs, rfl, rfl, ea, eb, q⟩ := q
    cases rx
    cases ry
    exact neO_core C F O tk I2 ea eb q fun b s' H' I' z => ⟨.bl (!b), H', I', rfl, z⟩
theorem st_neO (C : Ctx Γ X N sc fp (k + 1)) {n : Nat} {io : List Bool} {con : Con} {a b : Expr} {wa wb : WE} {pos : Pos} (F : OpE Γ k n "__eq__" io con) (O : NeOk Γ n) (ha : SE Γ X a wa) (hb : SE Γ X b wb) (hm : behindInMarks .NotEq b = false := by with_unfolding_all rfl) :
    ST Γ X (.Compare a [.NotEq] [b] pos) (wTst (wNeO n io con wa wb)) := .mk fun σ F0 H A ρ Q E QV W hh tk el hw hq pins s I => by
  refine wpAny_isTrue_Compare1 (binT pe_x pe_x I (R := fun x y H2 => ∃ a b dx dy fs gs, x = .ref a ∧ y = .ref b ∧ H2 a = some (.ins (Γ.cl n).adr dx fs) ∧ H2 b = some (.ins (Γ.cl n).adr dy gs) ∧ spC Γ io con [x, y] H2 (fun r H3 => ∃ b, r = .bl b ∧ QV (!b) H3) fun cls d H' => W cls d σ H') ?_ fun v u s2 x y H2 I2 rx ry q => ?_) hm
  · unfold wTst wNeO at hw
    refine ha.use hh tk el hw fun sx ρ1 hw1 v1 F1 H1 A1 B1 o1 => ?_
    refine hb.use o1.oh tk (el.ext o1.ext1) hw1 fun sy ρ2 hw2 v2 F2 H2 A2 B2 o2 => ?_
    obtain ⟨hi, hj, hw2⟩ := hw2
    obtain ⟨a, dx, fs, e1, e2, _⟩ := ins_later o1 (out_one o2) hi
    obtain ⟨b, dy, gs, e3, e4, _⟩ := ins_of o2.oh o2.ors hj
    refine ⟨a, b, dx, dy, fs, gs, e1, e3, e2, e4, ?_⟩
    refine call_core (out_two o1 o2) el hw2 fun r ρ3 hr v3 F3 H3 A3 B3 o3 => ?_
    cases r with
    | d z =>
      cases z with
      | bl b =>
        have r3 := o3.ors
        simp only [rs, RS, R] at r3
        exact ⟨b, r3.1, hq _ ρ3 hr F3 H3 A3 o3.ext1 o3.oh⟩
      | _ => exact hr.elim
    | _ => exact hr.elim
  · obtain ⟨a, b, dx, dy, fs, gs, rfl, rfl, ea, eb, q⟩ := q
    cases rx
    cases ry
    exact neO_core C F O tk I2 ea eb q fun b s' H' I' z => wpAny_truthy_bool ⟨H', I', z⟩
end
end Dv

/-! Dv26: fields that are lists which the instance alone owns. -/
namespace Dv
open PySem PySem.Spec PyProof.Rows L2
section
variable {Γ : Wd} {X : Cx} {N : List Str} {sc : Scope} {fp : Str → Bool} {k : Nat} {lk : List Nat}
theorem RSL.wrf {F H : Hp} {ds : List D} : ∀ {fs : List SV} {vs : List V} {B : List Addr} {j : Nat}, RSL Γ.K Γ.cl F H vs fs B → B.Nodup → fs[j]? = some (.lst ds) →
    ∃ b ws, vs[j]? = some (.ref b) ∧ H b = some (.lst ws) ∧ repL Γ F ws ds ∧ b ∈ B ∧ ∀ ws' ds', repL Γ F ws' ds' → RSL Γ.K Γ.cl F (upd H b (.lst ws')) vs (fs.set j (.lst ds')) B
  | [], _, _, _, _, _, e => by simp at e
  | x :: fs, _, _, 0, h, nd, e => by
    simp at e; subst e
    unfold RSL at h
    obtain ⟨v, r, B1, B2, rfl, h1, h2, rfl⟩ := h
    unfold RS at h1
    obtain ⟨a, ws, rfl, h3, h4, rfl⟩ := h1
    refine ⟨a, ws, rfl, h3, h4, by simp, fun ws' ds' q => ?_⟩
    rw [List.set_cons_zero]
    unfold RSL
    refine ⟨_, r, [a], B2, rfl, by unfold RS; exact ⟨a, ws', rfl, upd_same, q, rfl⟩, RSL.mono (Same.refl F) (fun c m o z => ?_) h2, rfl⟩
    rw [upd_ne (fun w => (List.nodup_append.mp nd).2.2 a (by simp) c m w.symm)]
    exact z
  | x :: fs, _, _, j + 1, h, nd, e => by
    unfold RSL at h
    obtain ⟨v, r, B1, B2, rfl, h1, h2, rfl⟩ := h
    have nd2 := List.nodup_append.mp nd
    obtain ⟨b, ws, e1, e2, e3, e4, e5⟩ := RSL.wrf (j := j) h2 nd2.2.1 (by simpa using e)
    refine ⟨b, ws, by simpa using e1, e2, e3, List.mem_append_right _ e4, fun ws' ds' q => ?_⟩
    rw [List.set_cons_succ]
    unfold RSL
    refine ⟨v, r, B1, B2, rfl, RS.mono (Same.refl F) (fun c m o z => ?_) h1, e5 ws' ds' q, rfl⟩
    rw [upd_ne (fun w => nd2.2.2 c m b e4 w)]
    exact z
theorem Sl.wrf {F H : Hp} {σ : Sg} {ρ : Rho} {A : List Addr} (h : Sl Γ.K Γ.cl F H σ ρ A) (nd : A.Nodup) {i n j : Nat} {fs : List SV} {ds : List D} (e : ρ[i]? = some (some (.ins n fs))) (e2 : fs[j]? = some (.lst ds)) :
    ∃ a dx vs b ws, σ[i]? = some (some (.ref a)) ∧ H a = some (.ins (Γ.cl n).adr dx (((Γ.cl n).fld.take fs.length).zip vs)) ∧ vs[j]? = some (.ref b) ∧ H b = some (.lst ws) ∧ repL Γ F ws ds ∧ b ∈ A ∧
      ∀ ws' ds', repL Γ F ws' ds' → Sl Γ.K Γ.cl F (upd H b (.lst ws')) σ (ρ.set i (some (.ins n (fs.set j (.lst ds'))))) A := by
  induction h generalizing i with
  | nil => simp at e
  | @skip x σ ρ A h ih =>
    cases i with
    | zero => simp at e
    | succ i =>
      obtain ⟨a, dx, vs, b, ws, h1, h2, h3, h4, h5, h6, h7⟩ := ih nd (i := i) (by simpa using e)
      exact ⟨a, dx, vs, b, ws, by simpa using h1, h2, h3, h4, h5, h6, fun ws' ds' r => .skip (h7 ws' ds' r)⟩
  | @one v0 sv0 B0 σ ρ A r h ih =>
    have nd2 := List.nodup_append.mp nd
    cases i with
    | zero =>
      simp at e; subst e
      unfold RS at r
      obtain ⟨a, dx, vs, B', rfl, h2, h3, h4, rfl⟩ := r
      obtain ⟨b, ws, e1, e3, e4, e5, e6⟩ := RSL.wrf h4 (List.nodup_cons.mp nd2.1).2 e2
      refine ⟨a, dx, vs, b, ws, rfl, h2, e1, e3, e4, by simp [e5], fun ws' ds' q => .one (B := a :: B') ?_ (h.mono (Same.refl F) fun c m o z => ?_)⟩
      · unfold RS
        refine ⟨a, dx, vs, B', rfl, ?_, by simpa using h3, e6 ws' ds' q, rfl⟩
        rw [upd_ne (fun z => (List.nodup_cons.mp nd2.1).1 (by rw [z]; exact e5)), List.length_set]
        exact h2
      · rw [upd_ne (fun w => nd2.2.2 b (List.mem_cons_of_mem _ e5) c m w.symm)]
        exact z
    | succ i =>
      obtain ⟨a, dx, vs, b, ws, h1, h2, h3, h4, h5, h6, h7⟩ := ih nd2.2.1 (i := i) (by simpa using e)
      refine ⟨a, dx, vs, b, ws, by simpa using h1, h2, h3, h4, h5, List.mem_append_right _ h6, fun ws' ds' q => .one (RS.mono (Same.refl F) (fun c m o z => ?_) r) (h7 ws' ds' q)⟩
      rw [upd_ne (fun w => nd2.2.2 c m b h6 w)]
      exact z
theorem hold_wrf {σ : Sg} {F H : Hp} {A : List Addr} {ρ : Rho} {i n j : Nat} {fs : List SV} {ds : List D} (hh : hold Γ σ F H ρ A) (e : ρ[i]? = some (some (.ins n fs))) (e2 : fs[j]? = some (.lst ds)) :
    ∃ a dx vs b ws, σ[i]? = some (some (.ref a)) ∧ H a = some (.ins (Γ.cl n).adr dx (((Γ.cl n).fld.take fs.length).zip vs)) ∧ vs[j]? = some (.ref b) ∧ H b = some (.lst ws) ∧ repL Γ F ws ds ∧
      ∀ ws' ds', repL Γ F ws' ds' → hold Γ σ F (upd H b (.lst ws')) (ρ.set i (some (.ins n (fs.set j (.lst ds'))))) A ∧ Ext F H A F (upd H b (.lst ws')) A := by
  obtain ⟨A1, s, p⟩ := hh.sl
  obtain ⟨a, dx, vs, b, ws, h1, h2, h3, h4, h5, h6, h7⟩ := Sl.wrf s (p.nodup_iff.mpr hh.nd) e e2
  have ma : b ∈ A := p.mem_iff.mp h6
  refine ⟨a, dx, vs, b, ws, h1, h2, h3, h4, h5, fun ws' ds' r => ⟨⟨⟨A1, h7 ws' ds' r, p⟩, fun c o q => ?_, hh.nd, hh.av⟩, ⟨Same.refl F, fun c o q n => ?_, fun c o q => .inl q, fun c m => .inl m⟩⟩⟩
  · rw [upd_ne (fun z => by subst z; rw [hh.av c ma] at q; cases q)]
    exact hh.sub c o q
  · rw [upd_ne (fun z => n (by rw [z]; exact ma))]
    exact q
/-- field j of the instance of class n that slot i owns is a list -/
def slotF (n i j : Nat) (ρ : Rho) (K : List SV → List D → Prop) : Prop := match ρ[i]? with
  | some (some (.ins n' fs)) => n' = n ∧ (match fs[j]? with
    | some (.lst ds) => K fs ds
    | _ => False)
  | _ => False
theorem slotF_ok {n i j : Nat} {ρ : Rho} {Kp : List SV → List D → Prop} (h : slotF n i j ρ Kp) : ∃ fs ds, ρ[i]? = some (some (.ins n fs)) ∧ fs[j]? = some (.lst ds) ∧ Kp fs ds := by
  unfold slotF at h
  split at h
  · rename_i n' fs e
    obtain ⟨rfl, h⟩ := h
    split at h
    · exact ⟨fs, _, e, by assumption, h⟩
    · exact h.elim
  · exact h.elim
/-- name.f evaluated, f such a field -/
theorem fl_get (C : Ctx Γ X N sc fp k) {n j i : Nat} {f x : Str} {p p2 : Pos} (K : ClOk Γ n) (hf : (Γ.cl n).fld[j]? = some f) (hN : N[i]? = some x) (hv : Vis sc x) (hd : (x == ("__debug__" : Str)) = false) (hcd : (x == ("__classdict__" : Str)) = false)
    (hb : attributeBase (.Name x p) f X.env (eval (.Name x p) X.env) = eval (.Name x p) X.env)
    {σ : Sg} {H : Hp} {a b dx : Addr} {vs : List V} {m : Nat} {QV : VK} (s1 : σ[i]? = some (some (.ref a))) (s2 : H a = some (.ins (Γ.cl n).adr dx (((Γ.cl n).fld.take m).zip vs))) (hj : j < m) (s3 : vs[j]? = some (.ref b)) (q : QV (.ref b) H) : wpX X (.Attribute (.Name x p) f p2) σ H QV := fun pins s I => by
  have pe : PE X (.Name x p) (tVar i) := pe_var (by rw [C.hN]; exact hN) (by rw [C.hs]; exact hv) hd hcd
  refine (pe_fld pe hb).run pins s σ H QV I ?_
  have na : NoAttr X.K (Γ.cl n).adr f := by rw [C.K]; exact K.no f (List.mem_of_getElem? hf)
  have cc : Cls X.K (Γ.cl n).adr := by rw [C.K]; exact K.cl
  refine ⟨.ref a, s1, a, _, dx, _, _, rfl, s2, cc, na, zip_get (K.nd.sublist (List.take_sublist _ _)) ?_ s3, q⟩
  rw [List.getElem?_take_of_lt hj]; exact hf
theorem lt_of_at {α : Type} {fs : List α} {j : Nat} {x : α} (e : fs[j]? = some x) : j < fs.length := (List.getElem?_eq_some_iff.mp e).1
def wFlB (n i j : Nat) (kf : List D → (SV → Prop) → Prop) : WE := fun ρ Q _ => slotF n i j ρ fun _ ds => kf [.lst ds] fun z => Q z ρ
section
variable {f x : Str} {p p2 pos : Pos} {n j : Nat}
theorem se_flB (C : Ctx Γ X N sc fp k) (i : Nat) {e : Expr} {r : List V → Hp → VK → Prop} {kf : List D → (SV → Prop) → Prop} (K : ClOk Γ n) (hf : (Γ.cl n).fld[j]? = some f) (rule : ∀ {ta : TA}, PA X [.Attribute (.Name x p) f p2] ta → PE X e (tCB r ta)) (hk : Bopn Γ r kf)
    (hN : N[i]? = some x := by rfl) (hv : Vis sc x := by first | exact Or.inl rfl | exact Or.inr (Or.inl rfl) | exact Or.inr (Or.inr rfl)) (hd : (x == ("__debug__" : Str)) = false := by decide) (hcd : (x == ("__classdict__" : Str)) = false := by decide)
    (hb : attributeBase (.Name x p) f X.env (eval (.Name x p) X.env) = eval (.Name x p) X.env := by rfl) (hst : starEach [.Attribute (.Name x p) f p2] X.env = (false, eval (.Attribute (.Name x p) f p2) X.env) :: starEach [] X.env := by exact star_of rfl) :
    SE Γ X e (wFlB n i j kf) := .mk fun σ F H A ρ Q E QV W hh tk el hw hq pins s I => by
  obtain ⟨fs, ds, e1, e2, hw⟩ := slotF_ok hw
  obtain ⟨a, dx, vs, b, ws, s1, s2, s3, s4, s5, _⟩ := hold_wrf hh e1 e2
  refine (rule (pa_cons (pe_x (X := X)) pa_nil hst)).run pins s σ H QV I ?_
  refine fl_get C K hf hN hv hd hcd hb s1 s2 (lt_of_at e2) s3 ?_
  refine hk σ F H A ρ [.ref b] [.lst ds] _ QV hh (.cons (by exact ⟨b, ws, rfl, s4, s5⟩) .nil) hw fun z hz v F3 H3 A3 B3 o3 => hq z ρ hz v F3 H3 A3 B3 o3
theorem se_fllen (C : Ctx Γ X N sc fp k) (i : Nat) {q : Pos} (K : ClOk Γ n) (hf : (Γ.cl n).fld[j]? = some f) (hN : N[i]? = some x := by rfl) (hv : Vis sc x := by first | exact Or.inl rfl | exact Or.inr (Or.inl rfl) | exact Or.inr (Or.inr rfl)) (hd : (x == ("__debug__" : Str)) = false := by decide) (hcd : (x == ("__classdict__" : Str)) = false := by decide)
    (hb : attributeBase (.Name x p) f X.env (eval (.Name x p) X.env) = eval (.Name x p) X.env := by rfl) (hst : starEach [.Attribute (.Name x p) f p2] X.env = (false, eval (.Attribute (.Name x p) f p2) X.env) :: starEach [] X.env := by exact star_of rfl)
    (hg : sc.names.lookup ("len" : Str) = some .globalImplicit := by rfl) (hpl : (backTo pos (starEach [] X.env)).any (·.1) = false := by rfl) : SE Γ X (.Call (.Name "len" q) [.Attribute (.Name x p) f p2] [] pos) (wFlB n i j kLen) :=
  se_flB C i K hf (fun pa => pe_callB (callR_or call_len_seq call_len_str) (gl_of C hg) (by rw [C.mg]; exact C.bn _ (by decide +kernel)) PySem.boot_len pa (by decide) (by decide) hst hpl) (bop_len C) hN hv hd hcd hb hst
theorem se_fllist (C : Ctx Γ X N sc fp k) (i : Nat) {q : Pos} (K : ClOk Γ n) (hf : (Γ.cl n).fld[j]? = some f) (hN : N[i]? = some x := by rfl) (hv : Vis sc x := by first | exact Or.inl rfl | exact Or.inr (Or.inl rfl) | exact Or.inr (Or.inr rfl)) (hd : (x == ("__debug__" : Str)) = false := by decide) (hcd : (x == ("__classdict__" : Str)) = false := by decide)
    (hb : attributeBase (.Name x p) f X.env (eval (.Name x p) X.env) = eval (.Name x p) X.env := by rfl) (hst : starEach [.Attribute (.Name x p) f p2] X.env = (false, eval (.Attribute (.Name x p) f p2) X.env) :: starEach [] X.env := by exact star_of rfl)
    (hg : sc.names.lookup ("list" : Str) = some .globalImplicit := by rfl) (hpl : (backTo pos (starEach [] X.env)).any (·.1) = false := by rfl) : SE Γ X (.Call (.Name "list" q) [.Attribute (.Name x p) f p2] [] pos) (wFlB n i j kList) :=
  se_flB C i K hf (fun pa => pe_callTy call_list_of (gl_of C hg) (by rw [C.mg]; exact C.bn _ (by decide +kernel)) (by decide +kernel) pa (by decide) (by decide) hst hpl) (bop_list C) hN hv hd hcd hb hst
/-- name.f[-1] -/
def wFlLast (n i j : Nat) : WE := fun ρ Q _ => slotF n i j ρ fun _ ds => ∃ d, atI ds (-1) = some d ∧ Q (.d d) ρ
theorem se_fllast (C : Ctx Γ X N sc fp k) (i : Nat) {kk : Nat} {q1 q2 : Pos} (K : ClOk Γ n) (hf : (Γ.cl n).fld[j]? = some f) (hs : PlainIx (.UnaryOp .USub (.Constant (.int 1) kk q1) q2))
    (hN : N[i]? = some x := by rfl) (hv : Vis sc x := by first | exact Or.inl rfl | exact Or.inr (Or.inl rfl) | exact Or.inr (Or.inr rfl)) (hd : (x == ("__debug__" : Str)) = false := by decide) (hcd : (x == ("__classdict__" : Str)) = false := by decide)
    (hb : attributeBase (.Name x p) f X.env (eval (.Name x p) X.env) = eval (.Name x p) X.env := by rfl) :
    SE Γ X (.Subscript (.Attribute (.Name x p) f p2) (.UnaryOp .USub (.Constant (.int 1) kk q1) q2) pos) (wFlLast n i j) := .mk fun σ F H A ρ Q E QV W hh tk el hw hq pins s I => by
  obtain ⟨fs, ds, e1, e2, d, e3, hw⟩ := slotF_ok hw
  obtain ⟨a, dx, vs, b, ws, s1, s2, s3, s4, s5, _⟩ := hold_wrf hh e1 e2
  refine (pe_ix (IxR.or ix_list (IxR.or ix_tup ix_str)) pe_x pe_x hs).run pins s σ H QV I ?_
  refine fl_get C K hf hN hv hd hcd hb s1 s2 (lt_of_at e2) s3 ?_
  refine fun pins2 s2' I2 => (pe_un un_neg pe_int).run pins2 s2' σ H _ I2 ⟨1, rfl, ?_⟩
  exact bop_idx C σ F H A ρ (.ref b) (.int (-1)) (.lst ds) (.int (-1)) (fun z => Q z ρ) QV hh ⟨b, ws, rfl, s4, s5⟩ (by simp [RV, rep, R]) ⟨d, e3, hw⟩ (fun z hz v F3 H3 A3 B3 o3 => hq z ρ hz v F3 H3 A3 B3 o3)
/-- name.f.append(y), y a name that holds data -/
def wFlApp (n i j m : Nat) : WS := fun ρ D _ => slotF n i j ρ fun fs ds => match ρ[m]? with
  | some (some (.d x)) => ds.length < 16777216 ∧ D.nx (ρ.set i (some (.ins n (fs.set j (.lst (ds ++ [x]))))))
  | _ => False
theorem ss_flapp (C : Ctx Γ X N sc fp k) (i m : Nat) {y : Str} {p3 p4 : Pos} (K : ClOk Γ n) (hf : (Γ.cl n).fld[j]? = some f)
    (hN : N[i]? = some x := by rfl) (hv : Vis sc x := by first | exact Or.inl rfl | exact Or.inr (Or.inl rfl) | exact Or.inr (Or.inr rfl)) (hd : (x == ("__debug__" : Str)) = false := by decide) (hcd : (x == ("__classdict__" : Str)) = false := by decide)
    (hNy : N[m]? = some y := by rfl) (hvy : Vis sc y := by first | exact Or.inl rfl | exact Or.inr (Or.inl rfl) | exact Or.inr (Or.inr rfl)) (hdy : (y == ("__debug__" : Str)) = false := by decide) (hcdy : (y == ("__classdict__" : Str)) = false := by decide)
    (hb : attributeBase (.Name x p) f X.env (eval (.Name x p) X.env) = eval (.Name x p) X.env := by rfl)
    (hst : starEach [.Name y p4] X.env = (false, eval (.Name y p4) X.env) :: starEach [] X.env := by exact star_of rfl)
    (hfew : ((backTo p3 (starEach [.Name y p4] X.env)).all (!·.1) && (backToKw p3 (keywordEach [] X.env)).all (·.1.isSome) && decide ([Expr.Name y p4].length + ([] : List Keyword).length + (if ([] : List Keyword).isEmpty then 0 else 1) < 30)) = true := by rfl) {q2 : Pos} (hline : (q2.endLine == p3.line) = true := by rfl) :
    SS Γ lk X (.Expr (.Call (.Attribute (.Attribute (.Name x p) f p2) "append" q2) [.Name y p4] [] p3) pos) (wFlApp n i j m) := .mk fun σ F H A ρ D E DV W hh tk el eo hw pins s I => by
  obtain ⟨fs, ds, e1, e2, hw⟩ := slotF_ok hw
  obtain ⟨a, dx, vs, b, ws, s1, s2, s3, s4, s5, s6⟩ := hold_wrf hh e1 e2
  refine (ps_expr (pe_bm PySem.F.plainAttrs_list PySem.F.slot_list_append PySem.F.type_list_append mt_append (pe_x (X := X)) (pa_cons (pe_var (by rw [C.hN]; exact hNy) (by rw [C.hs]; exact hvy) hdy hcdy) pa_nil hst) (hfew := hfew) (hline := hline) (hs := hst))).run pins s σ H DV I ?_
  refine fl_get C K hf hN hv hd hcd hb s1 s2 (lt_of_at e2) s3 ?_
  refine ⟨Or.inl ⟨rfl, _, Or.inl (Or.inl s4)⟩, ?_⟩
  split at hw
  · rename_i d e3
    obtain ⟨hl, hw⟩ := hw
    obtain ⟨A1, sl, _⟩ := hh.sl
    obtain ⟨v, B, A0, t1, t2, _⟩ := sl.at e3
    unfold RS at t2
    obtain ⟨h5, x5⟩ := s6 (ws ++ [v]) (ds ++ [d]) (s5.append (RL.cons t2.1 RL.nil))
    exact ⟨v, t1, b, ws, v, rfl, rfl, s4, by rw [RL.length s5, line_eq]; exact hl, eo.nx _ hw σ F _ A .refl x5 h5⟩
  · exact hw.elim
end
end
end Dv

/-! Dv27: instances made that one name alone owns; owned lists put into fields. -/
namespace Dv
open PySem PySem.Spec PyProof.Rows L2
section
variable {Γ : Wd} {X : Cx} {N : List Str} {sc : Scope} {fp : Str → Bool} {k : Nat} {lk : List Nat}
/-- C(..): an instance that is changed later -/
def wMakeO (n : Nat) (io : List Bool) (con : Con) (wa : WA) : WE := fun ρ Q E => wa ρ (fun svs ρ1 => passA io svs ρ1 fun as ρ2 => con (.ins n [] :: as) (fun r as' => r = .d .non ∧ ∃ fs as'', as' = .ins n fs :: as'' ∧ backA io svs as'' ρ2 fun ρ3 => Q (.ins n fs) ρ3)
  (fun e x as' => ∃ c as'', as' = c :: as'' ∧ backA io svs as'' ρ2 fun ρ3 => E e x ρ3)) E
theorem makeO_core {n : Nat} {io : List Bool} {con : Con} {σ : Sg} {F H F1 H1 : Hp} {A A1 B1 : List Addr} {ρ1 : Rho} {svs : List SV} {vs : List V} {Q : WK} {E : EK} {QV : VK} {W : WX} (o : OutL Γ σ F H A ρ1 svs vs F1 H1 A1 B1) (el : EL Γ σ F H A E W)
    (hw : wMakeO n io con (fun ρ Q _ => Q svs ρ) ρ1 Q E) (hq : ∀ sv ρ', Q sv ρ' → ∀ v F' H' A' B, Out Γ σ F H A ρ' sv v F' H' A' B → QV v H')
    {x dx : Addr} (hx : H1 x = none) (hd : H1 dx = none) (ne : dx ≠ x) : spC Γ (true :: io) con (.ref x :: vs) (upd (upd H1 dx (.own x)) x (.ins (Γ.cl n).adr dx [])) (fun v H2 => v = .non ∧ QV (.ref x) H2) (fun cls d H' => W cls d σ H') := by
  unfold wMakeO at hw
  obtain ⟨as, ρ2, F2, A2, C, hcon, x2, h2, s2, nd2, fc, ok, hl, _⟩ := passA_ok o.oh o.ors o.ond o.ofb hw
  have fx : F2 x = none := by
    cases e : F2 x with
    | none => rfl
    | some u => rw [h2.sub x u e] at hx; cases hx
  have ownC := s2.own
  have nxC : x ∉ C := fun m => by
    obtain ⟨u, e, _⟩ := ownC x m
    rw [hx] at e; cases e
  have old : ∀ a u, H1 a = some u → upd (upd H1 dx (.own x)) x (.ins (Γ.cl n).adr dx []) a = some u := fun a u e => by
    rw [upd_ne (ne_of_none e hx), upd_ne (ne_of_none e hd)]
    exact e
  -- from the caller's heap to the one that the callee starts from
  have x0 : Ext F2 H1 C F2 (upd (upd H1 dx (.own x)) x (.ins (Γ.cl n).adr dx [])) (x :: C) := ⟨Same.refl _, fun a u e _ => old a u e, fun a u e => .inl e, fun a m => by
    rcases List.mem_cons.mp m with q | q
    · exact .inr (by rw [q]; exact hx)
    · exact .inl q⟩
  refine ⟨F2, x :: C, .ins n [] :: as, _, _, .io ok, ⟨⟨[x] ++ C, .one (by unfold RS RSL; exact ⟨x, dx, [], [], rfl, by simp [upd_same], by simp, ⟨rfl, rfl⟩, rfl⟩) (s2.mono (Same.refl _) fun a _ u e => old a u e), .refl _⟩, fun a u e => old a u (h2.sub a u e), List.nodup_cons.mpr ⟨nxC, (List.nodup_append.mp nd2).1⟩, fun a m => ?_⟩, hcon, fun r as' hr v F3 H3 A3 B3 o3 => ?_, fun n x as' hr F3 H3 A3 dx v x3 h3 hd hv => ?_⟩
  · rcases List.mem_cons.mp m with q | q
    · rw [q]; exact fx
    · exact fc a q
  · obtain ⟨rfl, fs, as'', rfl, hb⟩ := hr
    have r3 := o3.ors
    simp only [rs, RS, R] at r3
    obtain ⟨rfl, rfl⟩ := r3
    refine ⟨rfl, ?_⟩
    obtain ⟨A4, s4, p4⟩ := o3.oh.sl
    rw [List.map_cons, List.map_cons] at s4
    cases s4 with
    | @one _ _ B0 _ _ C0 r4 st =>
      have nd4 : (B0 ++ C0).Nodup := p4.nodup_iff.mpr o3.oh.nd
      have x3 : Ext F2 H1 C F3 H3 (B0 ++ C0) := (x0.trans (o3.oe.sub fun a m => List.mem_append_right _ m)).sub fun a m => p4.mem_iff.mp m
      have x4 : Ext F2 H1 C F3 H3 C0 := x3.sub fun a m => List.mem_append_right _ m
      have h3 : hold Γ (vs.map some) F3 H3 (as''.map some) C0 := ⟨⟨C0, st, .refl _⟩, o3.oh.sub, (List.nodup_append.mp nd4).2.1, fun a m => o3.oh.av a (p4.mem_iff.mp (List.mem_append_right _ m))⟩
      obtain ⟨ρ4, A5, q1, q2, q3⟩ := after_ok h2 nd2 (rsL_sl o.ors) x4 h3 hb
      refine hq _ ρ4 q1 _ _ _ A5 B0 ⟨(frm_ok o.oe x2 x3).sub fun a m => ?_, q2, rs_of r4, List.nodup_append.mpr ⟨(List.nodup_append.mp nd4).1, q2.nd, fun a m b m' z => ?_⟩, fun a m => o3.oh.av a (p4.mem_iff.mp (List.mem_append_left _ m))⟩
      · rcases List.mem_append.mp m with m | m
        · exact List.mem_append_left _ (List.mem_append_left _ m)
        · rcases List.mem_append.mp (q3 a m) with m | m
          · exact List.mem_append_left _ (List.mem_append_right _ m)
          · exact List.mem_append_right _ m
      · subst z
        rcases List.mem_append.mp (q3 a m') with m' | m'
        · exact (List.nodup_append.mp nd4).2.2 a m a m' rfl
        · rcases x3.na a (List.mem_append_left _ m) with q | q
          · exact (List.nodup_append.mp nd2).2.2 a q a m' rfl
          · obtain ⟨u, e, _⟩ := h2.own a m'
            rw [e] at q; cases q
  · obtain ⟨c, as'', rfl, hb⟩ := hr
    obtain ⟨A4, s4, p4⟩ := h3.sl
    rw [List.map_cons, List.map_cons] at s4
    cases s4 with
    | @one _ _ B0 _ _ C0 r4 st =>
      have nd4 : (B0 ++ C0).Nodup := p4.nodup_iff.mpr h3.nd
      have x4 : Ext F2 H1 C F3 H3 C0 := (x0.trans x3).sub fun a m => p4.mem_iff.mp (List.mem_append_right _ m)
      have h4 : hold Γ (vs.map some) F3 H3 (as''.map some) C0 := ⟨⟨C0, st, .refl _⟩, h3.sub, (List.nodup_append.mp nd4).2.1, fun a m => h3.av a (p4.mem_iff.mp (List.mem_append_right _ m))⟩
      obtain ⟨ρ4, A5, q1, q2, q3⟩ := after_ok h2 nd2 (rsL_sl o.ors) x4 h4 hb
      exact el _ _ ρ4 q1 F3 H3 A5 dx v ((frm_ok o.oe x2 x4).sub q3) q2 hd hv
theorem se_makeO (C : Ctx Γ X N sc fp (k + 1)) {x : Str} {n : Nat} {io : List Bool} {con : Con} {e : Expr} {es : List Expr} {wa : WA} {p pos : Pos} (F : MkE Γ k n x io con) (ha : SA Γ X (e :: es) wa) (hg : sc.names.lookup x = some .globalImplicit := by rfl) (hdb : (x == ("__debug__" : Str)) = false := by decide)
    (he : starEach (e :: es) X.env = (false, eval e X.env) :: starEach es X.env := by exact star_of rfl) (hpl : (backTo pos (starEach es X.env)).any (·.1) = false := by rfl) : SE Γ X (.Call (.Name x p) (e :: es) [] pos) (wMakeO n io con wa) := .mk fun σ F0 H A ρ Q E QV W hh tk el hw hq pins s I => by
  obtain ⟨f, fd, ps, hm, M, hb, FF⟩ := F.ex
  refine wpAny_Call_Name_kw (ld_glob I (gl_of C hg) (by rw [C.mg]; exact hm) ?_ hdb)
  refine PySem.W.callWith_K (h₀ := X.base) I.ok.mod.kin (by rw [C.K]; exact M.kp) (thn (ha.run σ F0 H A ρ _ E (fun vs H1 => ∀ x dx, H1 x = none → H1 dx = none → dx ≠ x → spC Γ (true :: io) con (.ref x :: vs) (upd (upd H1 dx (.own x)) x (.ins (Γ.cl n).adr dx [])) (fun v H2 => v = .non ∧ QV (.ref x) H2) (fun cls d H' => W cls d σ H')) W hh tk el hw (fun svs ρ1 hw1 vs F1 H1 A1 B1 o1 x dx h1 h2 h3 => makeO_core (n := n) o1 el hw1 hq h1 h2 h3) pos pins s I) fun us s1 ⟨vs, H1, I1, r, q⟩ => ⟨I1.kIn, ?_⟩) he hpl
  have hq' := q (s1.heap.objs.size + 1) s1.heap.objs.size (I1.hok.fresh (Nat.le_succ _)) (I1.hok.fresh (Nat.le_refl _)) (Nat.ne_of_lt (Nat.lt_succ_self _))
  have I2 := Inv.made (C := (Γ.cl n).adr) I1
  have r2 : Vals (V.ref (s1.heap.objs.size + 1) :: vs) (Value.ref (s1.heap.objs.size + 1) :: us) := .cons rfl r
  have hl : ((Value.ref (s1.heap.objs.size + 1) :: us) ++ []).length = ps.length := by
    have e := r2.length
    rw [FF.len _ _ _ _ hq'] at e
    rw [List.append_nil]
    exact e.symm
  have e0 := I2.env0.make (Γ.cl n).adr us []
  have kin := I2.kIn
  have kin1 := I1.kIn
  rw [C.p, C.w, C.K, C.mg, C.base] at e0
  rw [C.K] at kin kin1
  have R := FF.run _ X.stack _ _ ⟨Value.ref (s1.heap.objs.size + 1) :: us, []⟩ (Value.ref (s1.heap.objs.size + 1) :: us) _ _ _ (C.room.make (Γ.cl n).adr us []) (gd_make C.gd) e0 (by simpa using hb _ (Value.ref (s1.heap.objs.size + 1) :: us) kin hl) r2 hq'
  rw [← C.p, ← C.w] at R
  refine wpAny_call (make_map (f := f) kin1 M.makes M.init (beq_iff_eq.mp M.fn) (codeAny_mono R fun r s' back => ?_))
  cases r with
  | error e => exact tk e s' (XE.of_call I2 (fun _ _ _ z => z) back)
  | ok fl =>
    cases fl with
    | ret u =>
      obtain ⟨v, H', I3, rv, ev, q3⟩ := I2.after back
      subst ev
      exact ⟨rv, ⟨V.ref (s1.heap.objs.size + 1), H', I3, rfl, q3⟩⟩
    | next => exact False.elim back
    | brk => exact False.elim back
    | cont => exact False.elim back
def wMakeWO (js : List Nat) (n : Nat) (io : List Bool) (con : Con) (wk : WA) : WE := fun ρ Q E => wk ρ (fun zs ρ1 => js.Perm (List.range zs.length) ∧ wMakeO n io con (fun ρ Q _ => Q (prm (.d .non) js zs) ρ) ρ1 Q E) E
theorem se_makeWO (C : Ctx Γ X N sc fp (k + 1)) {x : Str} {n : Nat} {st : Stmt} {ps ks : List Str} {js : List Nat} {io : List Bool} {con : Con} {kws : List Keyword} {wk : WA} {p pos : Pos} (F : MkX Γ k n x st ps io con) (KB : BindsMk ps ks js st) (hk : SK Γ X kws wk) (hg : sc.names.lookup x = some .globalImplicit := by rfl)
    (hall : (backToKw pos (keywordEach kws X.env)).all (·.1.isSome) = true := by rfl) (hks : (backToKw pos (keywordEach kws X.env)).filterMap (·.1) = ks := by rfl) (hdb : (x == ("__debug__" : Str)) = false := by decide)
    (hpl : ((backTo pos (starEach [] X.env)).any (·.1) || (backToKw pos (keywordEach kws X.env)).any (·.1.isNone)) = false := by rfl) (hkl : js.length = ks.length := by rfl) : SE Γ X (.Call (.Name x p) [] kws pos) (wMakeWO js n io con wk) := .mk fun σ F0 H A ρ Q E QV W hh tk el hw hq pins s I => by
  obtain ⟨f, fd, qual, hm, M, FU, FF⟩ := F.ex
  refine wpAny_Call_Name_kw (ld_glob I (gl_of C hg) (by rw [C.mg]; exact hm) ?_ hdb)
  refine PySem.W.callWith_KW0 (h₀ := X.base) I.ok.mod.kin (by rw [C.K]; exact M.kp) hall ?_ hpl
  have len : wpXK X kws σ H fun zs H1 => zs.length = ks.length ∧ ∀ x dx, H1 x = none → H1 dx = none → dx ≠ x → spC Γ (true :: io) con (.ref x :: prm .non js zs) (upd (upd H1 dx (.own x)) x (.ins (Γ.cl n).adr dx [])) (fun v H2 => v = .non ∧ QV (.ref x) H2) (fun cls d H' => W cls d σ H') := by
    refine hk.run σ F0 H A ρ _ E _ W hh tk el hw fun svs ρ1 hw1 vs F1 H1 A1 B1 o1 => ?_
    obtain ⟨pp, hw1⟩ := hw1
    obtain ⟨B', oo⟩ := out_perm o1 pp
    refine ⟨?_, fun x dx h1 h2 h3 => makeO_core (n := n) oo el hw1 hq h1 h2 h3⟩
    have := pp.length_eq
    rw [rsL_len o1.ors, ← hkl, this, List.length_range]
  refine thn (len pos pins s I) fun us s1 ⟨zs, H1, I1, rz, hz, q⟩ => ⟨I1.kIn, ?_⟩
  rw [hks]
  obtain ⟨oc, od, kV, doc, pm, an, cdv, ct, osl, rfl, lk, hcd⟩ := FU.ex
  have hq' := q (s1.heap.objs.size + 1) s1.heap.objs.size (I1.hok.fresh (Nat.le_succ _)) (I1.hok.fresh (Nat.le_refl _)) (Nat.ne_of_lt (Nat.lt_succ_self _))
  have I2 := Inv.made (C := (Γ.cl n).adr) I1
  have e0 := I2.env0.make (Γ.cl n).adr [] (ks.zip us)
  have kin1 := I1.kIn
  rw [C.p, C.w, C.K, C.mg, C.base] at e0
  rw [C.K] at kin1
  have r2 : Vals (V.ref (s1.heap.objs.size + 1) :: prm .non js zs) (Value.ref (s1.heap.objs.size + 1) :: prm .none js us) := .cons rfl (vals_prm rz)
  have R := FF.run _ X.stack _ _ ⟨[Value.ref (s1.heap.objs.size + 1)], ks.zip us⟩ (Value.ref (s1.heap.objs.size + 1) :: prm .none js us) _ _ _ (C.room.make (Γ.cl n).adr [] (ks.zip us)) (gd_make C.gd) e0 (.of_eq (KB _ _ _ _ _ _ _ _ _ us (by rw [← rz.length]; exact hz))) r2 hq'
  rw [← C.p, ← C.w] at R
  refine wpAny_call (make_map (f := f) kin1 M.makes M.init (beq_iff_eq.mp M.fn) (codeAny_mono R fun r s' back => ?_))
  cases r with
  | error e => exact tk e s' (XE.of_call I2 (fun _ _ _ z => z) back)
  | ok fl =>
    cases fl with
    | ret u =>
      obtain ⟨v, H', I3, rv, ev, q3⟩ := I2.after back
      subst ev
      exact ⟨rv, ⟨V.ref (s1.heap.objs.size + 1), H', I3, rfl, q3⟩⟩
    | next => exact False.elim back
    | brk => exact False.elim back
    | cont => exact False.elim back
/-! ### owned lists put into fields, one after the other -/
theorem RSL.appo {F H : Hp} {v : V} {sv : SV} {B1 : List Addr} (r : RS Γ.K Γ.cl F H v sv B1) : ∀ {fs : List SV} {vs : List V} {B : List Addr}, RSL Γ.K Γ.cl F H vs fs B → RSL Γ.K Γ.cl F H (vs ++ [v]) (fs ++ [sv]) (B ++ B1)
  | [], _, _, h => by
    simp only [RSL] at h
    obtain ⟨rfl, rfl⟩ := h
    simp only [List.nil_append, RSL]
    exact ⟨v, [], B1, [], rfl, r, ⟨rfl, rfl⟩, by simp⟩
  | x :: fs, _, _, h => by
    simp only [RSL] at h
    obtain ⟨w, r', B2, B3, rfl, h1, h2, rfl⟩ := h
    simp only [List.cons_append, RSL]
    exact ⟨w, r' ++ [v], B2, B3 ++ B1, rfl, h1, RSL.appo r h2, by simp⟩
theorem Sl.fldo {F H : Hp} {σ : Sg} {ρ : Rho} {A : List Addr} (h : Sl Γ.K Γ.cl F H σ ρ A) (nd : A.Nodup) {i n : Nat} {fs : List SV} (e : ρ[i]? = some (some (.ins n fs))) :
    ∃ a dx vs, σ[i]? = some (some (.ref a)) ∧ H a = some (.ins (Γ.cl n).adr dx ((Γ.cl n).fld.zip vs)) ∧ vs.length = fs.length ∧ fs.length ≤ (Γ.cl n).fld.length ∧ a ∈ A ∧
      ∀ (v : V) (sv : SV) (B1 : List Addr), RS Γ.K Γ.cl F H v sv B1 → (∀ b ∈ B1, b ≠ a) → fs.length < (Γ.cl n).fld.length → ∃ A', Sl Γ.K Γ.cl F (upd H a (.ins (Γ.cl n).adr dx ((Γ.cl n).fld.zip (vs ++ [v])))) σ (ρ.set i (some (.ins n (fs ++ [sv])))) A' ∧ A'.Perm (B1 ++ A) := by
  induction h generalizing i with
  | nil => simp at e
  | @skip x σ ρ A h ih =>
    cases i with
    | zero => simp at e
    | succ i =>
      obtain ⟨a, dx, vs, h1, h2, h3, h4, h5, h6⟩ := ih nd (i := i) (by simpa using e)
      refine ⟨a, dx, vs, by simpa using h1, h2, h3, h4, h5, fun v sv B1 r q z => ?_⟩
      obtain ⟨A', s, p⟩ := h6 v sv B1 r q z
      exact ⟨A', .skip s, p⟩
  | @one v0 sv0 B0 σ ρ A r h ih =>
    have nd2 := List.nodup_append.mp nd
    cases i with
    | zero =>
      simp at e; subst e
      unfold RS at r
      obtain ⟨a, dx, vs, B', rfl, h2, h3, h4, rfl⟩ := r
      have hl := RSL.len h4
      rw [zip_take (by rw [hl]; exact Nat.le_refl _)] at h2
      refine ⟨a, dx, vs, rfl, h2, hl, h3, by simp, fun v sv B1 r q z => ⟨(a :: (B' ++ B1)) ++ A, .one (B := a :: (B' ++ B1)) ?_ (h.mono (Same.refl F) fun b m o q => ?_), ?_⟩⟩
      · have nB : ∀ b ∈ B' ++ B1, b ≠ a := fun b m e => by
          rcases List.mem_append.mp m with m | m
          · exact (List.nodup_cons.mp nd2.1).1 (by rw [← e]; exact m)
          · exact q b m e
        unfold RS
        refine ⟨a, dx, vs ++ [v], B' ++ B1, rfl, ?_, by simp; omega, RSL.mono (Same.refl F) (fun b m o q => by rw [upd_ne (nB b m)]; exact q) (RSL.appo r h4), rfl⟩
        rw [upd_same, zip_take (by simp [hl])]
      · rw [upd_ne (fun z => nd2.2.2 a (by simp) b m z.symm)]
        exact q
      · have p1 : (a :: (B' ++ B1)).Perm (B1 ++ (a :: B')) := by
          rw [← List.cons_append]; exact List.perm_append_comm
        rw [← List.append_assoc]
        exact p1.append_right A
    | succ i =>
      obtain ⟨a, dx, vs, h1, h2, h3, h4, h5, h6⟩ := ih nd2.2.1 (i := i) (by simpa using e)
      refine ⟨a, dx, vs, by simpa using h1, h2, h3, h4, List.mem_append_right _ h5, fun v sv B1 rr q z => ?_⟩
      obtain ⟨A', s, p⟩ := h6 v sv B1 rr q z
      refine ⟨B0 ++ A', .one (RS.mono (Same.refl F) (fun b m o q => ?_) r) s, ?_⟩
      · rw [upd_ne (fun z => nd2.2.2 b m a h5 z)]
        exact q
      · refine (p.append_left B0).trans ?_
        rw [← List.append_assoc, ← List.append_assoc]
        exact List.perm_append_comm.append_right A
/-- name.f = e, e an own new list -/
def wFldO (n i j : Nat) (w : WE) : WS := fun ρ D E => w ρ (fun sv ρ1 => match sv with
  | .lst ds => slotI n i ρ1 fun fs => j = fs.length ∧ D.nx (ρ1.set i (some (.ins n (fs ++ [.lst ds]))))
  | _ => False) E
theorem ss_fldo (C : Ctx Γ X N sc fp k) (i : Nat) {n j : Nat} {f x : Str} {e : Expr} {w : WE} {p p2 pos : Pos} (K : ClOk Γ n) (hf : (Γ.cl n).fld[j]? = some f) (h : SE Γ X e w) (hN : N[i]? = some x := by rfl) (hv : Vis sc x := by first | exact Or.inl rfl | exact Or.inr (Or.inl rfl) | exact Or.inr (Or.inr rfl)) (hd : (x == ("__debug__" : Str)) = false := by decide) (hcd : (x == ("__classdict__" : Str)) = false := by decide)
    (hs : swapsWith e (some (.Attribute (.Name x p) f p2)) pos.line X.env = pure false := by rfl) :
    SS Γ lk X (.Assign [.Attribute (.Name x p) f p2] e pos) (wFldO n i j w) := .mk fun σ F H A ρ D E DV W hh tk el eo hw pins s I => by
  have pe : PE X (.Name x p) (tVar i) := pe_var (by rw [C.hN]; exact hN) (by rw [C.hs]; exact hv) hd hcd
  refine (ps_fld pe pe_x hs).run pins s σ H DV I ?_
  refine h.use hh tk el.now hw fun sv ρ1 q v F1 H1 A1 B1 o => ?_
  split at q
  · rename_i ds
    obtain ⟨fs, e1, hda, hk⟩ := slotI_ok q
    obtain ⟨A3, sl, pp⟩ := o.oh.sl
    obtain ⟨a, dx, vs, s1, s2, s3, s4, s5, s6⟩ := sl.fldo (pp.nodup_iff.mpr o.oh.nd) e1
    have hj : j < (Γ.cl n).fld.length := (List.getElem?_eq_some_iff.mp hf).1
    have ma : a ∈ A1 := pp.mem_iff.mp s5
    have few := K.few
    have ndd := List.nodup_append.mp o.ond
    refine ⟨.ref a, s1, a, _, dx, _, rfl, s2, by rw [C.K]; exact K.cl, by rw [C.K]; exact K.no f (List.mem_of_getElem? hf), by simp only [List.length_zip]; omega, ?_⟩
    rw [putF_zip K.nd hf (by omega) (by omega), if_neg (by omega)]
    obtain ⟨A4, sl4, p4⟩ := s6 v (.lst ds) B1 o.ors (fun b m z => ndd.2.2 b m a ma z) (by omega)
    have p5 : A4.Perm (B1 ++ A1) := p4.trans (pp.append_left B1)
    have out : ∀ b, b ∈ B1 ++ A1 → F1 b = none := fun b m => by
      rcases List.mem_append.mp m with m | m
      · exact o.ofb b m
      · exact o.oh.av b m
    refine eo.nx _ hk σ F1 _ (B1 ++ A1) .refl (o.oe.trans ⟨Same.refl F1, fun b u e n => ?_, fun b u e => .inl e, fun b m => .inl m⟩) ⟨⟨A4, sl4, p5⟩, fun b u e => ?_, o.ond, out⟩
    · rw [upd_ne (fun z => n (by rw [z]; exact List.mem_append_right _ ma))]
      exact e
    · rw [upd_ne (fun z => by subst z; rw [o.oh.av b ma] at e; cases e)]
      exact o.oh.sub b u e
  · exact q.elim
/-! ### a, b = x, y, where what is owned stays owned -/
def ownV : SV → Prop
  | .d _ => True
  | .lst _ => True
  | .ins _ _ => True
  | _ => False
theorem rs_own1 {σ : Sg} {F H : Hp} {v : V} {x : SV} {B : List Addr} (h : rs Γ σ F H v x B) (o : ownV x) : RS Γ.K Γ.cl F H v x B := by
  cases x <;> first | exact h | exact o.elim
def wPar2O (i j : Nat) (wa : WA) : WS := fun ρ D E => wa ρ (fun svs ρ1 => match svs with
  | [x, y] => ownV x ∧ ownV y ∧ D.nx ((ρ1.set i (some x)).set j (some y))
  | _ => False) E
theorem ss_par2O (C : Ctx Γ X N sc fp k) (i j : Nat) {x y : Str} {a b : Expr} {wa : WA} {px py pt pos : Pos} {kt k2 pt2} (ha : SA Γ X [a, b] wa) (hi : N[i]? = some x := by rfl) (hj : N[j]? = some y := by rfl) (hij : i ≠ j := by decide)
    (hx : sc.names.lookup x = some .local := by rfl) (hy : sc.names.lookup y = some .local := by rfl) (f1 : lk.contains i = false := by rfl) (f2 : lk.contains j = false := by rfl)
    (hw : swappedStores [.Tuple [.Name x px, .Name y py] kt pt] (.Tuple [a, b] k2 pt2) { X.env with scope := sc } = pure (some [x, y]) := by rfl)
    (hs : swapsWithSole [.Tuple [.Name x px, .Name y py] kt pt] (.Tuple [a, b] k2 pt2) pos.line X.env = pure false := by rfl) :
    SS Γ lk X (.Assign [.Tuple [.Name x px, .Name y py] kt pt] (.Tuple [a, b] k2 pt2) pos) (wPar2O i j wa) := .mk fun σ F H A ρ D E DV W hh tk el eo hw' pins s I => by
  have eE : ({ X.env with scope := sc } : Env) = X.env := by rw [← C.hs]
  rw [eE] at hw
  refine (ps_par C.calm (by rw [C.hN]; exact C.nd) (by rw [C.hN]; exact hi) (by rw [C.hN]; exact hj) hij (by rw [C.hs]; exact hx) (by rw [C.hs]; exact hy) pa_x hw hs).run pins s σ H DV I ?_
  refine ha.run σ F H A ρ _ E _ W hh tk el.now hw' fun svs ρ1 hw1 vs F1 H1 A1 B1 o1 => ?_
  split at hw1
  · rename_i x y
    obtain ⟨ox, oy, hk⟩ := hw1
    obtain ⟨v1, r', C1, C2, rfl, q1, ⟨v2, r'', C3, C4, rfl, q2, ⟨rfl, rfl⟩, rfl⟩, rfl⟩ := o1.ors
    have q1' := rs_own1 q1 ox
    have q2' := rs_own1 q2 oy
    have nd := o1.ond
    rw [List.append_nil] at nd
    have fb := o1.ofb
    rw [List.append_nil] at fb
    have nd' := nd
    rw [List.append_assoc] at nd'
    have n1 := List.nodup_append.mp nd'
    have n2 := List.nodup_append.mp n1.2.1
    have ndx : (C1 ++ A1).Nodup := List.nodup_append.mpr ⟨n1.1, n2.2.1, fun a m b m' => n1.2.2 a m b (List.mem_append_right _ m')⟩
    obtain ⟨A3, h3, s3⟩ := hold_put o1.oh q1' ndx (fun b m => fb b (List.mem_append_left _ m)) (len_of C I hi)
    have ndy : (C3 ++ A3).Nodup := List.nodup_append.mpr ⟨n2.1, h3.nd, fun a m b m' z => by
      subst z
      rcases List.mem_append.mp (s3 a m') with q | q
      · exact n1.2.2 a q a (List.mem_append_left _ m) rfl
      · exact n2.2.2 a m a q rfl⟩
    obtain ⟨A4, h4, s4⟩ := hold_put h3 q2' ndy (fun b m => fb b (List.mem_append_right _ m)) (by simpa using len_of C I hj)
    refine ⟨v1, v2, rfl, eo.nx _ hk _ F1 H1 A4 ((Kp.set f1).trans (.set f2)) (o1.oe.sub fun a m => ?_) h4⟩
    rw [List.append_nil]
    rcases List.mem_append.mp (s4 a m) with q | q
    · exact List.mem_append_left _ (List.mem_append_right _ q)
    · rcases List.mem_append.mp (s3 a q) with q | q
      · exact List.mem_append_left _ (List.mem_append_left _ q)
      · exact List.mem_append_right _ q
  · exact hw1.elim
end
end Dv

/-! Dv28: more of owned fields: pop, a test for the empty list; len of an own instance. -/
namespace Dv
open PySem PySem.Spec PyProof.Rows L2
section
variable {Γ : Wd} {X : Cx} {N : List Str} {sc : Scope} {fp : Str → Bool} {k : Nat} {lk : List Nat}
/-- a list beside an empty one -/
def rEqNil : R2 := fun x y H Q => ∃ a b xs, x = .ref a ∧ y = .ref b ∧ H a = some (.lst xs) ∧ H b = some (.lst []) ∧ Q (.bl xs.isEmpty) H
theorem op_eqNil (hu : X.A.units + 64 < cLine) : OpR X (compareOp .Eq) rEqNil := by
  intro pins s σ H x y v u Q I rx ry h
  obtain ⟨l, b, xs, rfl, rfl, hH, hB, q⟩ := h
  cases rx
  cases ry
  obtain ⟨z, its, n, r, hl, e⟩ := I.lstM hH
  obtain ⟨z2, its2, n2, r2, hl2, e2⟩ := I.lstM hB
  have i1 : s.heap.IsList l its.toArray := ⟨_, e, rfl, _, rfl⟩
  have i2 : s.heap.IsList b its2.toArray := ⟨_, e2, rfl, _, rfl⟩
  have z2 : its2 = [] := by cases its2 with
    | nil => rfl
    | cons _ _ => cases r2
  subst z2
  cases xs with
  | nil =>
    have z1 : its = [] := by cases its with
      | nil => rfl
      | cons _ _ => cases r
    subst z1
    exact PySem.SeqAt.eq_listAt (e := fun _ => true) i1 i2 rfl (by omega) (fun j h1 _ => absurd h1 (by simp)) ⟨.bl true, H, I, rfl, q⟩
  | cons x xs =>
    have z1 : ∃ a r, its = a :: r := by cases its with
      | nil => cases r
      | cons a t => exact ⟨a, t, rfl⟩
    obtain ⟨a, r', rfl⟩ := z1
    exact PySem.SeqAt.eq_list_lengthsAt i1 i2 (by simp) (by omega) ⟨.bl false, H, I, rfl, q⟩
section
variable {f x : Str} {p p2 pos : Pos} {n j : Nat}
/-- name.f == [] -/
def wFlNil (n i j : Nat) : WT := fun ρ Q _ => slotF n i j ρ fun _ ds => Q ds.isEmpty ρ
theorem st_flnil (C : Ctx Γ X N sc fp k) (i : Nat) {q : Pos} (K : ClOk Γ n) (hf : (Γ.cl n).fld[j]? = some f)
    (hN : N[i]? = some x := by rfl) (hv : Vis sc x := by first | exact Or.inl rfl | exact Or.inr (Or.inl rfl) | exact Or.inr (Or.inr rfl)) (hd : (x == ("__debug__" : Str)) = false := by decide) (hcd : (x == ("__classdict__" : Str)) = false := by decide)
    (hb : attributeBase (.Name x p) f X.env (eval (.Name x p) X.env) = eval (.Name x p) X.env := by rfl) (hm : behindInMarks .Eq (.List [] q) = false := by rfl) :
    ST Γ X (.Compare (.Attribute (.Name x p) f p2) [.Eq] [.List [] q] pos) (wFlNil n i j) := .mk fun σ F H A ρ Q E QV W hh tk el hw hq pins s I => by
  obtain ⟨fs, ds, e1, e2, hw⟩ := slotF_ok hw
  obtain ⟨a, dx, vs, b, ws, s1, s2, s3, s4, s5, _⟩ := hold_wrf hh e1 e2
  refine (pt_cmpR (op_eqNil C.room.units) pe_x (pe_lst pa_nil) hm).run pins s σ H QV I ?_
  refine fl_get C K hf hN hv hd hcd hb s1 s2 (lt_of_at e2) s3 ?_
  refine ⟨Nat.zero_le _, fun c hc => ?_⟩
  have o := Out.newL (Γ := Γ) (ds := []) (vs := []) hh hc RL.nil
  have bc : b ≠ c := fun z => by subst z; rw [s4] at hc; cases hc
  have xe : Ext F H A F (upd H c (.lst [])) A := o.ext1
  have ie : ws.isEmpty = ds.isEmpty := by
    have := s5.length
    cases ws <;> cases ds <;> simp_all
  refine ⟨b, c, ws, rfl, rfl, by rw [upd_ne bc]; exact s4, upd_same, ws.isEmpty, rfl, ?_⟩
  rw [ie]
  exact hq _ ρ hw F _ A xe o.oh
/-- name.f.pop() -/
def wFlPop (n i j : Nat) : WS := fun ρ D _ => slotF n i j ρ fun fs ds => ds ≠ [] ∧ D.nx (ρ.set i (some (.ins n (fs.set j (.lst ds.dropLast)))))
theorem RL.dropLast {K : PySem.W.Frag} {cl : Nat → Cl} {F : Hp} {vs : List V} {ds : List D} (h : RL K cl F vs ds) : RL K cl F vs.dropLast ds.dropLast := by
  rw [List.dropLast_eq_take, List.dropLast_eq_take, h.length]
  exact h.take _
theorem ss_flpop (C : Ctx Γ X N sc fp k) (i : Nat) {p3 : Pos} (K : ClOk Γ n) (hf : (Γ.cl n).fld[j]? = some f)
    (hN : N[i]? = some x := by rfl) (hv : Vis sc x := by first | exact Or.inl rfl | exact Or.inr (Or.inl rfl) | exact Or.inr (Or.inr rfl)) (hd : (x == ("__debug__" : Str)) = false := by decide) (hcd : (x == ("__classdict__" : Str)) = false := by decide)
    (hb : attributeBase (.Name x p) f X.env (eval (.Name x p) X.env) = eval (.Name x p) X.env := by rfl) {q2 : Pos}
    (hbase : attributeBase (.Attribute (.Name x p) f p2) "pop" X.env (eval (.Attribute (.Name x p) f p2) X.env) = eval (.Attribute (.Name x p) f p2) X.env := by rfl) (hline : (q2.endLine == p3.line) = true := by rfl)
    (hs : swapsWith (.Call (.Attribute (.Attribute (.Name x p) f p2) "pop" q2) [] [] p3) none pos.line X.env = pure false := by rfl) :
    SS Γ lk X (.Expr (.Call (.Attribute (.Attribute (.Name x p) f p2) "pop" q2) [] [] p3) pos) (wFlPop n i j) := .mk fun σ F H A ρ D E DV W hh tk el eo hw pins s I => by
  obtain ⟨fs, ds, e1, e2, hne, hw⟩ := slotF_ok hw
  obtain ⟨a, dx, vs, b, ws, s1, s2, s3, s4, s5, s6⟩ := hold_wrf hh e1 e2
  refine (ps_expr (pe_bm0 PySem.F.plainAttrs_list PySem.F.slot_list_pop PySem.F.type_list_pop mt_pop (pe_x (X := X)) hbase hline) hs).run pins s σ H DV I ?_
  refine fl_get C K hf hN hv hd hcd hb s1 s2 (lt_of_at e2) s3 ?_
  refine ⟨Or.inl ⟨rfl, _, Or.inl (Or.inl s4)⟩, ?_⟩
  have hl : 0 < ws.length := by
    rw [RL.length s5]
    cases ds with
    | nil => exact absurd rfl hne
    | cons _ _ => simp
  obtain ⟨h5, x5⟩ := s6 ws.dropLast ds.dropLast (RL.dropLast s5)
  exact ⟨b, ws, ws[ws.length - 1], rfl, rfl, s4, by simp [hl], eo.nx _ hw σ F _ A .refl x5 h5⟩
end
/-! ### len(x), x an own instance -/
def wLenO (n : Nat) (io : List Bool) (con : Con) (wo : WE) : WE := fun ρ Q E => wo ρ (fun sx ρ1 => isIns n sx ρ1 ∧ wCallK io con [sx] ρ1 (fun r ρ2 => match r with
  | .d (.int i) => (0 ≤ i ∧ i < 2 ^ 63) ∧ Q (.d (.int i)) ρ2
  | _ => False) E) E
theorem se_lenO (C : Ctx Γ X N sc fp (k + 1)) {n : Nat} {io : List Bool} {con : Con} {e : Expr} {wo : WE} {p pos : Pos} (F : OpE Γ k n "__len__" io con) (ho : SE Γ X e wo) (hg : sc.names.lookup ("len" : Str) = some .globalImplicit := by rfl)
    (he : starEach [e] X.env = (false, eval e X.env) :: starEach [] X.env := by exact star_of rfl) (hpl : (backTo pos (starEach [] X.env)).any (·.1) = false := by rfl) : SE Γ X (.Call (.Name "len" p) [e] [] pos) (wLenO n io con wo) := .mk fun σ F0 H A ρ Q E QV W hh tk el hw hq pins s I => by
  obtain ⟨f, fd, ps, h1, h2, h3, hbd, FF⟩ := F.ex
  have hmn : X.mg ("len" : Str) = none := by rw [C.mg]; exact C.bn _ (by decide +kernel)
  refine wpAny_Call_Name_kw (ld_blt I (gl_of C hg) hmn PySem.boot_len ?_ (by decide) (by decide))
  have pa : wpXA X [e] σ H fun vs H1 => ∃ a dx fs, vs = [.ref a] ∧ H1 a = some (.ins (Γ.cl n).adr dx fs) ∧ spC Γ io con [.ref a] H1 (fun v H3 => ∃ i : Int, v = .int i ∧ (0 ≤ i ∧ i < 2 ^ 63) ∧ QV (.int i) H3) fun cls d H' => W cls d σ H' := fun pos' pins' s' I' => by
    refine (pa_cons (pe_x (X := X)) pa_nil he).run pos' pins' s' σ H _ I' ?_
    refine ho.use hh tk el hw fun sx ρ1 hw1 v1 F1 H1 A1 B1 o1 => ?_
    obtain ⟨hi, hw1⟩ := hw1
    obtain ⟨a, dx, fs, rfl, e2, _⟩ := ins_of o1.oh o1.ors hi
    refine ⟨a, dx, fs, rfl, e2, ?_⟩
    refine call_core (out_one o1) el hw1 fun r ρ3 hr v3 F3 H3 A3 B3 o3 => ?_
    cases r with
    | d z =>
      cases z with
      | int i =>
        have r3 := o3.ors
        simp only [rs, RS, R] at r3
        exact ⟨i, r3.1, hr.1, by have g := hq _ ρ3 hr.2 v3 F3 H3 A3 B3 o3; rw [r3.1] at g; exact g⟩
      | _ => exact hr.elim
    | _ => exact hr.elim
  refine PyProof.Rows.callWith_builtin1 (thn (pa pos pins s I) fun us s1 ⟨vs, H1, I1, r1, a, dx, fs, ev, ea, q⟩ => ?_) he hpl
  subst ev
  obtain ⟨u, rfl, ru⟩ := r1.one
  cases ru
  obtain ⟨mA, O, _⟩ := ins_get I1.hok ea
  obtain ⟨od, J, _⟩ := O.look
  obtain ⟨m, FR⟩ := I1.fr
  refine PySem.W.len_K FR I1.ok.mod.kin J (by rw [C.K]; exact h1) (by rw [C.K]; exact h2) (wpAny_mono (run_fnA C FF hbd tk C.room.in1 (gd_in1 C.gd) rfl I1 (vs := [.ref a]) (us := [.ref a]) (.cons rfl .nil) q) (fun r s' h => ?_) fun _ _ z => z)
  obtain ⟨v', H', I', rv, i, rfl, ⟨i0, i1⟩, qi⟩ := h
  obtain ⟨t, rfl⟩ := rv
  exact ⟨⟨i0, i1⟩, ⟨.int i, H', I'.tok _, ⟨_, rfl⟩, qi⟩⟩
end
end Dv

/-! Dv29: a, b, c, d = .., four and more, where what is owned stays owned. -/
namespace Dv
open PySem PySem.Spec PyProof.Rows L2
section
variable {Γ : Wd} {X : Cx} {N : List Str} {sc : Scope} {fp : Str → Bool} {k : Nat} {lk : List Nat}
def setS (σ : Sg) : List Nat → List V → Sg
  | i :: is, v :: vs => setS (σ.set i (some v)) is vs
  | _, _ => σ
def setR (ρ : Rho) : List Nat → List SV → Rho
  | i :: is, v :: vs => setR (ρ.set i (some v)) is vs
  | _, _ => ρ
/-- names, stored one after the other -/
structure NGs (X : Cx) (N : List Str) (lk : List Nat) (ts : List Expr) (is : List Nat) : Prop where
  run : ∀ (vs : List V) (σ : Sg) (H : Hp) (QV : L2.St → Hp → Prop), vs.length = is.length → QV (setS σ is vs) H → wpXGs X ts vs σ H QV
  kp : ∀ (vs : List V) (σ : Sg), Kp lk σ (setS σ is vs)
  lt : ∀ i ∈ is, i < N.length
theorem ngs_nil : NGs X N lk [] [] := .mk (fun vs σ H QV hl q pins s us I ru => by
  refine pgs_nil.run pins s σ H vs us QV I ru ?_
  cases vs with
  | nil => exact ⟨rfl, q⟩
  | cons _ _ => simp at hl) (fun _ _ => .refl) (fun _ m => nomatch m)
theorem ngs_cons (C : Ctx Γ X N sc fp k) (i : Nat) {x : Str} {pos : Pos} {ts : List Expr} {is : List Nat} (h : NGs X N lk ts is) (hn : StN N sc fp lk i x := by first | exact ⟨⟨rfl, rfl⟩, Or.inl rfl⟩ | exact ⟨⟨rfl, rfl⟩, Or.inr ⟨rfl, rfl⟩⟩)
    (hs : (assignEach (.Name x pos :: ts) X.env).map (·.2) = assign (.Name x pos) X.env :: (assignEach ts X.env).map (·.2) := by rfl) : NGs X N lk (.Name x pos :: ts) (i :: is) := .mk (fun vs σ H QV hl q pins s us I ru => by
  obtain ⟨h1, h2, h3⟩ := hn.loc C
  refine (pgs_cons (pg_name (i := i) (by rw [C.hN]; exact C.nd) h1 h2 h3) pgs_x hs).run pins s σ H vs us QV I ru ?_
  cases vs with
  | nil => simp at hl
  | cons v vs => exact ⟨v, vs, rfl, h.run vs _ H QV (by simpa using hl) q⟩) (fun vs σ => by
  cases vs with
  | nil => exact .refl
  | cons v vs => exact (Kp.set hn.1.2).trans (h.kp vs _)) (fun j m => by
  rcases List.mem_cons.mp m with rfl | m
  · exact (List.getElem?_eq_some_iff.mp hn.1.1).1
  · exact h.lt j m)
theorem hold_puts {F H : Hp} {σ0 : Sg} : ∀ {is : List Nat} {svs : List SV} {vs : List V} {σ : Sg} {ρ : Rho} {A B : List Addr}, hold Γ σ F H ρ A → rsL Γ σ0 F H vs svs B → (∀ x ∈ svs, ownV x) → (B ++ A).Nodup → (∀ b ∈ B, F b = none) → (∀ i ∈ is, i < σ.length) →
    ∃ A', hold Γ (setS σ is vs) F H (setR ρ is svs) A' ∧ ∀ a ∈ A', a ∈ B ++ A
  | [], svs, vs, σ, ρ, A, B, hh, r, o, nd, fb, hi => by
    refine ⟨A, ?_, fun a m => List.mem_append_right _ m⟩
    cases vs <;> cases svs <;> exact hh
  | i :: is, [], vs, σ, ρ, A, B, hh, r, o, nd, fb, hi => by
    obtain ⟨rfl, rfl⟩ := r
    exact ⟨A, hh, fun a m => by simpa using m⟩
  | i :: is, x :: xs, vs, σ, ρ, A, B, hh, r, o, nd, fb, hi => by
    obtain ⟨v, r', B1, B2, rfl, h2, h3, rfl⟩ := r
    have n1 := nd
    rw [List.append_assoc] at n1
    have n1 := List.nodup_append.mp n1
    have n2 := List.nodup_append.mp n1.2.1
    have ndx : (B1 ++ A).Nodup := List.nodup_append.mpr ⟨n1.1, n2.2.1, fun a m b m' => n1.2.2 a m b (List.mem_append_right _ m')⟩
    obtain ⟨A3, h4, s4⟩ := hold_put hh (rs_own1 h2 (o x (by simp))) ndx (fun b m => fb b (List.mem_append_left _ m)) (hi i (by simp))
    have nd3 : (B2 ++ A3).Nodup := List.nodup_append.mpr ⟨n2.1, h4.nd, fun a m b m' z => by
      subst z
      rcases List.mem_append.mp (s4 a m') with q | q
      · exact n1.2.2 a q a (List.mem_append_left _ m) rfl
      · exact n2.2.2 a m a q rfl⟩
    obtain ⟨A5, h5, s5⟩ := hold_puts (is := is) h4 h3 (fun y m => o y (by simp [m])) nd3 (fun b m => fb b (List.mem_append_right _ m)) (fun j m => by simpa using hi j (by simp [m]))
    refine ⟨A5, h5, fun a m => ?_⟩
    rcases List.mem_append.mp (s5 a m) with q | q
    · exact List.mem_append_left _ (List.mem_append_right _ q)
    · rcases List.mem_append.mp (s4 a q) with q | q
      · exact List.mem_append_left _ (List.mem_append_left _ q)
      · exact List.mem_append_right _ q
def wParL (is : List Nat) (wa : WA) : WS := fun ρ D E => wa ρ (fun svs ρ1 => (∀ x ∈ svs, ownV x) ∧ svs.length = is.length ∧ svs.length ≤ 16777216 ∧ D.nx (setR ρ1 is svs)) E
theorem ss_parL (C : Ctx Γ X N sc fp k) {ts es : List Expr} {is : List Nat} {kt k2 n : Nat} {pt pt2 pos : Pos} {wa : WA} (ha : SA Γ X es wa) (hg : NGs X N lk ts is) (hn : (assignEach ts X.env).length = n := by rfl) (hst : (assignEach ts X.env).findIdx? (·.1) = none := by rfl) (hil : n = is.length := by rfl)
    (hs : swapsWithSole [.Tuple ts kt pt] (.Tuple es k2 pt2) pos.line X.env = pure false := by rfl) (hw : swappedStores [.Tuple ts kt pt] (.Tuple es k2 pt2) X.env = pure none := by rfl)
    (h1 : (assignEach [.Tuple ts kt pt] X.env).map (·.2) = [assign (.Tuple ts kt pt) X.env] := by rfl) : SS Γ lk X (.Assign [.Tuple ts kt pt] (.Tuple es k2 pt2) pos) (wParL is wa) := .mk fun σ F H A ρ D E DV W hh tk el eo hw' pins s I => by
  refine (ps_asg (pe_tup pa_x) (pg_tup C.calm pgs_x hn hst) hs hw h1).run pins s σ H DV I ?_
  refine ha.run σ F H A ρ _ E _ W hh tk el.now hw' fun svs ρ1 hw1 vs F1 H1 A1 B1 o1 => ?_
  obtain ⟨ov, hl, hl2, hk⟩ := hw1
  have len : vs.length = svs.length := rsL_len o1.ors
  refine ⟨by rw [len, line_eq]; exact hl2, fun p hp => ?_⟩
  have pres : ∀ a u, H1 a = some u → upd H1 p (.tup vs) a = some u := fun a u e => by rw [upd_ne (ne_of_none e hp)]; exact e
  refine ⟨p, vs, rfl, .of upd_same, by omega, hg.run vs σ _ _ (by omega) ?_⟩
  obtain ⟨Aq, sl, pq⟩ := o1.oh.sl
  have h2 : hold Γ σ F1 (upd H1 p (.tup vs)) ρ1 A1 := ⟨⟨Aq, sl.mono (Same.refl F1) fun a m u e => pres a u e, pq⟩, fun a u e => pres a u (o1.oh.sub a u e), o1.oh.nd, o1.oh.av⟩
  obtain ⟨A3, h3, s3⟩ := hold_puts (is := is) h2 (rsL_mono (Same.refl F1) (fun a m u e => pres a u e) o1.ors) ov o1.ond o1.ofb (fun i m => by rw [I.len, C.hN]; exact hg.lt i m)
  exact eo.nx _ hk _ F1 _ A3 (hg.kp vs σ) ((o1.oe.trans ⟨Same.refl F1, fun a u e _ => pres a u e, fun a u e => .inl e, fun a m => .inl m⟩).sub s3) h3
end
end Dv

namespace Law
open PySem PySem.Spec PyProof.Rows L2 Dv
def top (i : Nat) : Stmt := PySem.Challenge.pw_dueclocks_k62_tickets_switched_and_enlar.main.body.getD i (.Pass ⟨0, 0, 0, 0⟩)
abbrev st_law_well : Stmt := top 33
abbrev N_law_well : List Str := ["script", "place", "cell", "seed"]
abbrev st_law_take : Stmt := top 34
abbrev N_law_take : List Str := ["well", "many", "mixed", "taken"]
abbrev st_law_number : Stmt := top 35
abbrev N_law_number : List Str := ["well", "way", "found"]
abbrev st_law_load : Stmt := top 36
abbrev N_law_load : List Str := ["well", "total", "way"]
abbrev st_law_paces : Stmt := top 37
abbrev N_law_paces : List Str := ["well", "size", "way", "found", "spot", "turn"]
abbrev st_law_marks : Stmt := top 38
abbrev N_law_marks : List Str := ["well", "size", "cap", "found", "many", "at", "turn"]
abbrev st_law_pace : Stmt := top 39
abbrev N_law_pace : List Str := ["paces", "marks", "at", "spot", "pace"]
abbrev st_law_near : Stmt := top 40
abbrev N_law_near : List Str := ["well", "marks", "back", "way"]
abbrev st_law_total : Stmt := top 41
abbrev N_law_total : List Str := ["paces", "marks", "low", "high", "weeks", "found", "at", "spot", "pace"]
abbrev st_law_is_end : Stmt := top 42
abbrev N_law_is_end : List Str := ["paces", "marks", "low", "load", "high"]
abbrev st_law_left : Stmt := top 43
abbrev N_law_left : List Str := ["state", "at"]
abbrev st_law_gap : Stmt := top 45
abbrev N_law_gap : List Str := ["well", "span"]
abbrev st_law_is_wait : Stmt := top 46
abbrev N_law_is_wait : List Str := ["state", "high", "start", "paces", "marks", "left", "at"]
abbrev st_law_lists : Stmt := top 47
abbrev N_law_lists : List Str := ["well", "size", "sign", "shift", "found", "week", "parts", "spots", "marks", "at", "tries", "turn", "pace"]
abbrev st_check_weeks : Stmt := top 15
abbrev N_check_weeks : List Str := ["week", "twin"]
abbrev st_check_speeds : Stmt := top 16
abbrev N_check_speeds : List Str := ["speeds", "index", "speed"]
abbrev st_check_changes : Stmt := top 17
abbrev N_check_changes : List Str := ["changes", "index", "moment", "speed"]
abbrev st_speed_at : Stmt := top 18
abbrev N_speed_at : List Str := ["speeds", "changes", "moment", "place", "speed"]
abbrev st_Calendar_init : Stmt := inClass (top 19) 0
abbrev N_Calendar_init : List Str := ["self", "speeds", "changes", "at", "speed"]
abbrev st_Calendar_speeds : Stmt := inClass (top 19) 2
abbrev N_Calendar_speeds : List Str := ["self"]
abbrev st_Calendar_changes : Stmt := inClass (top 19) 3
abbrev N_Calendar_changes : List Str := ["self"]
abbrev st_Calendar_or : Stmt := inClass (top 19) 7
abbrev N_Calendar_or : List Str := ["self", "other", "speeds", "found", "at", "speed", "twin"]
abbrev st_Calendar_and : Stmt := inClass (top 19) 8
abbrev N_Calendar_and : List Str := ["self", "other", "speeds", "found", "at", "speed", "twin"]
abbrev st_Calendar_moved : Stmt := inClass (top 19) 9
abbrev N_Calendar_moved : List Str := ["self", "number", "week", "speeds", "at", "speed"]
abbrev st_Calendar_eq : Stmt := inClass (top 19) 10
abbrev N_Calendar_eq : List Str := ["self", "other"]
abbrev st_check_span : Stmt := top 24
abbrev N_check_span : List Str := ["begin", "end"]
abbrev st_work_of_weeks : Stmt := top 21
abbrev N_work_of_weeks : List Str := ["speeds", "begin", "end", "week", "whole"]
abbrev st_end_of_weeks : Stmt := top 22
abbrev N_end_of_weeks : List Str := ["speeds", "begin", "amount", "weeks", "left", "at"]
abbrev st_begin_of_weeks : Stmt := top 23
abbrev N_begin_of_weeks : List Str := ["speeds", "end", "amount", "weeks", "left", "at"]
abbrev st_check_amount : Stmt := top 25
abbrev N_check_amount : List Str := ["amount"]
abbrev st_work : Stmt := top 26
abbrev N_work : List Str := ["calendar", "begin", "end", "speeds", "found", "moment", "speed"]
abbrev st_due : Stmt := top 27
abbrev N_due : List Str := ["calendar", "moment", "amount", "speeds", "at", "left", "place", "speed", "done"]
abbrev st_latest : Stmt := top 28
abbrev N_latest : List Str := ["calendar", "moment", "amount", "speeds", "at", "left", "place", "speed", "done"]
abbrev st_left_of : Stmt := top 30
abbrev N_left_of : List Str := ["state", "moment", "calendar", "left", "begin", "paused"]
abbrev st_Ticket_init : Stmt := inClass (top 31) 0
abbrev N_Ticket_init : List Str := ["self", "calendar", "amount", "moment"]
abbrev st_Ticket_moment : Stmt := inClass (top 31) 1
abbrev N_Ticket_moment : List Str := ["self"]
abbrev st_Ticket_left : Stmt := inClass (top 31) 2
abbrev N_Ticket_left : List Str := ["self"]
abbrev st_Ticket_is_paused : Stmt := inClass (top 31) 3
abbrev N_Ticket_is_paused : List Str := ["self"]
abbrev st_Ticket_left_at : Stmt := inClass (top 31) 4
abbrev N_Ticket_left_at : List Str := ["self", "moment"]
abbrev st_Ticket_done_at : Stmt := inClass (top 31) 5
abbrev N_Ticket_done_at : List Str := ["self", "calendar", "left", "begin", "paused"]
abbrev st_Ticket_can_wait : Stmt := inClass (top 31) 6
abbrev N_Ticket_can_wait : List Str := ["self", "limit", "calendar", "left", "begin", "paused", "start"]
abbrev st_Ticket_note : Stmt := inClass (top 31) 7
abbrev N_Ticket_note : List Str := ["self", "call", "state"]
abbrev st_Ticket_pause : Stmt := inClass (top 31) 8
abbrev N_Ticket_pause : List Str := ["self", "moment", "left"]
abbrev st_Ticket_switch : Stmt := inClass (top 31) 10
abbrev N_Ticket_switch : List Str := ["self", "calendar", "moment", "left"]
abbrev st_Ticket_enlarge : Stmt := inClass (top 31) 11
abbrev N_Ticket_enlarge : List Str := ["self", "amount", "moment", "left", "calendar", "before", "begin", "paused"]
abbrev st_law_told : Stmt := top 44
abbrev N_law_told : List Str := ["ticket"]
abbrev st_law_built : Stmt := top 48
abbrev N_law_built : List Str := ["row", "found", "marks"]
abbrev st_law_right : Stmt := top 49
abbrev N_law_right : List Str := ["well", "ticket", "state", "later", "high"]
abbrev st_law_called : Stmt := top 50
abbrev N_law_called : List Str := ["well", "ticket", "state", "lists", "spot", "held", "left", "way", "row", "made", "answer", "more"]
abbrev st_law_fits : Stmt := top 51
abbrev N_law_fits : List Str := ["well", "lists", "paces", "marks", "at", "far", "load", "held", "state", "ticket", "spot", "turn", "made", "row"]
abbrev st_law : Stmt := top 52
abbrev N_law : List Str := ["script", "place", "well", "turn"]
structure Tx (Γ : Wd) : Prop where
  bn : ∀ x ∈ bnames, Γ.mg x = none
  c_LONGEST_WEEK : ∃ t, Γ.mg "LONGEST_WEEK" = some (.int 12 t)
  c_FASTEST : ∃ t, Γ.mg "FASTEST" = some (.int 3 t)
  K_0 : ClOk Γ 0
  F_0 : (Γ.cl 0).fld = [("week_speeds" : Str), ("real_changes" : Str)]
  I_0 : IsiOk Γ 0 "Calendar"
  S_0 : PySem.W.selfFirst Γ.K (Γ.cl 0).adr = true
  K_1 : ClOk Γ 1
  F_1 : (Γ.cl 1).fld = [("asked" : Str), ("most" : Str), ("calls" : Str), ("states" : Str)]
  d_law_well : DefAt Γ "_law_well" st_law_well
  d_law_take : DefAt Γ "_law_take" st_law_take
  d_law_number : DefAt Γ "_law_number" st_law_number
  d_law_load : DefAt Γ "_law_load" st_law_load
  d_law_paces : DefAt Γ "_law_paces" st_law_paces
  d_law_marks : DefAt Γ "_law_marks" st_law_marks
  d_law_pace : DefAt Γ "_law_pace" st_law_pace
  d_law_near : DefAt Γ "_law_near" st_law_near
  d_law_total : DefAt Γ "_law_total" st_law_total
  d_law_is_end : DefAt Γ "_law_is_end" st_law_is_end
  d_law_left : DefAt Γ "_law_left" st_law_left
  d_law_gap : DefAt Γ "_law_gap" st_law_gap
  d_law_is_wait : DefAt Γ "_law_is_wait" st_law_is_wait
  d_law_lists : DefAt Γ "_law_lists" st_law_lists
  d_check_weeks : DefAt Γ "check_weeks" st_check_weeks
  d_check_speeds : DefAt Γ "check_speeds" st_check_speeds
  d_check_changes : DefAt Γ "check_changes" st_check_changes
  d_speed_at : DefAt Γ "speed_at" st_speed_at
  d_Calendar_init : InitAt Γ 0 "Calendar" "Calendar.__init__" st_Calendar_init
  d_Calendar_speeds : PropAt Γ 0 "speeds" "Calendar.speeds" st_Calendar_speeds
  d_Calendar_changes : PropAt Γ 0 "changes" "Calendar.changes" st_Calendar_changes
  d_Calendar_or : MethAt Γ 0 "__or__" "Calendar.__or__" st_Calendar_or
  d_Calendar_and : MethAt Γ 0 "__and__" "Calendar.__and__" st_Calendar_and
  d_Calendar_moved : MethAt Γ 0 "moved" "Calendar.moved" st_Calendar_moved
  d_Calendar_eq : MethAt Γ 0 "__eq__" "Calendar.__eq__" st_Calendar_eq
  d_check_span : DefAt Γ "check_span" st_check_span
  d_work_of_weeks : DefAt Γ "work_of_weeks" st_work_of_weeks
  d_end_of_weeks : DefAt Γ "end_of_weeks" st_end_of_weeks
  d_begin_of_weeks : DefAt Γ "begin_of_weeks" st_begin_of_weeks
  d_check_amount : DefAt Γ "check_amount" st_check_amount
  d_work : DefAt Γ "work" st_work
  d_due : DefAt Γ "due" st_due
  d_latest : DefAt Γ "latest" st_latest
  d_left_of : DefAt Γ "left_of" st_left_of
  d_Ticket_init : InitAt Γ 1 "Ticket" "Ticket.__init__" st_Ticket_init
  d_Ticket_moment : PropAt Γ 1 "moment" "Ticket.moment" st_Ticket_moment
  d_Ticket_left : PropAt Γ 1 "left" "Ticket.left" st_Ticket_left
  d_Ticket_is_paused : PropAt Γ 1 "is_paused" "Ticket.is_paused" st_Ticket_is_paused
  d_Ticket_left_at : MethAt Γ 1 "left_at" "Ticket.left_at" st_Ticket_left_at
  d_Ticket_done_at : MethAt Γ 1 "done_at" "Ticket.done_at" st_Ticket_done_at
  d_Ticket_can_wait : MethAt Γ 1 "can_wait" "Ticket.can_wait" st_Ticket_can_wait
  d_Ticket_note : MethAt Γ 1 "note" "Ticket.note" st_Ticket_note
  d_Ticket_pause : MethAt Γ 1 "pause" "Ticket.pause" st_Ticket_pause
  d_Ticket_switch : MethAt Γ 1 "switch" "Ticket.switch" st_Ticket_switch
  d_Ticket_enlarge : MethAt Γ 1 "enlarge" "Ticket.enlarge" st_Ticket_enlarge
  d_law_told : DefAt Γ "_law_told" st_law_told
  d_law_built : DefAt Γ "_law_built" st_law_built
  d_law_right : DefAt Γ "_law_right" st_law_right
  d_law_called : DefAt Γ "_law_called" st_law_called
  d_law_fits : DefAt Γ "_law_fits" st_law_fits
  d_law : DefAt Γ "law" st_law

/-- a well of numbers: n draws at most were made -/
def Pool (n : Nat) (sv : SV) : Prop := ∃ a b c : Int, sv = .lst [.int a, .int b, .int c] ∧ -(2 ^ 100) < b ∧ b < 2 ^ 100 ∧ 0 ≤ c ∧ c ≤ n
theorem Pool.mono {n m : Nat} {sv : SV} (h : Pool n sv) (k : n ≤ m) : Pool m sv := by
  obtain ⟨a, b, c, e, h1, h2, h3, h4⟩ := h
  exact ⟨a, b, c, e, h1, h2, h3, by omega⟩
theorem well_b (X i : Int) (h0 : 0 ≤ i) (h1 : i < 64) : -(2 ^ 100) < X % 2305843009213693951 + 1000003 * i ∧ X % 2305843009213693951 + 1000003 * i < 2 ^ 100 := by omega
theorem ite_b (p : Prop) [Decidable p] : -(2 ^ 64) < (if p then (1 : Int) else 0) ∧ (if p then (1 : Int) else 0) < 2 ^ 64 := by split <;> decide
def c_law_well : Con := fun svs Q _ => ∃ (ns : List Int) (i : Int), svs = [.d (.scr ns), .d (.int i)] ∧ 0 ≤ i ∧ i < 64 ∧ ∀ p, Pool 0 p → Q p svs
/-! _law_well: script 0, place 1, cell 2, seed 3 -/
theorem sc_law_well : FnScope N_law_well ["script", "place"] (defScope st_law_well) := ⟨rfl, rfl, rfl, by decide +kernel, rfl, by decide +kernel, by decide +kernel⟩
abbrev w_law_well_1 : WS := wRet (wLst (wCons (w2 kMul (wVar 2) (wB kInt (wCons (w2 kGe (wVar 2) (w2 kPow (wC (.int 10)) (wC (.int 18)))) (wNil)))) (wCons (w2 kAdd (wVar 3) (w2 kMul (wC (.int 1000003)) (wVar 1))) (wCons (wC (.int 0)) (wNil)))))
abbrev w_law_well_2 : WS := wSeq (wAsg 3 (w2 kMod (wB kInt (wCons (w2 kAdd (w2 kMul (wB kAbs (wCons (wVar 2) (wNil))) (wC (.int 2))) (wB kInt (wCons (w2 kLt (wVar 2) (wC (.int 0))) (wNil)))) (wNil))) (wC (.int 2305843009213693951)))) w_law_well_1
abbrev w_law_well_3 : WS := wSeq (wIf (wTst (w2 kLt (wVar 1) (wB kLen (wCons (wVar 0) (wNil))))) (wAsg 2 (w2 kIdx (wVar 0) (wVar 1))) (wNext)) w_law_well_2
def w_law_well : WS :=
  wSeq (wAsg 2 (wC (.int 0))) w_law_well_3
theorem tr_law_well {Γ : Wd} (T : Tx Γ) (X : Cx) (C : Ctx Γ X N_law_well (defScope st_law_well) (fun _ => true) 0) (P : Own X) (dc : DefCx X) : SSs Γ [] X (defBody st_law_well) w_law_well :=
  sss_cons (ss_asg C 2 (se_int))
  (sss_cons (ss_if (st_lt  (se_var C 1) (se_len C (sa_cons (se_var C 0) (sa_nil)))) (sss_one (ss_asg C 2 (se_idx C (fun _ _ => rfl) (se_var C 0) (se_var C 1)))) (sss_nil))
  (sss_cons (ss_asg C 3 (se_mod (se_intc C (sa_cons (se_add (se_mul (se_abs C (sa_cons (se_var C 2) (sa_nil))) (se_int)) (se_intc C (sa_cons (se_lt  (se_var C 2) (se_int)) (sa_nil)))) (sa_nil))) (se_int)))
  (sss_one (ss_ret (se_lst (sa_cons (se_mul (se_var C 2) (se_intc C (sa_cons (se_ge  (se_var C 2) (se_pow (se_int) (se_int))) (sa_nil)))) (sa_cons (se_add (se_var C 3) (se_mul (se_int) (se_var C 1))) (sa_cons (se_int) (sa_nil)))))))))

theorem law_law_well : LawOf N_law_well [false, false] c_law_well w_law_well := by
  rintro svs Q E - ⟨ns, i, rfl, h0, h1, hq⟩
  ((conv => whnf); try dsimp only [List.set_cons_zero, List.set_cons_succ])
  refine Br.of (fun h => ?_) (fun h => ?_)
  · ((conv => whnf); try dsimp only [List.set_cons_zero, List.set_cons_succ])
    refine ⟨ns[i.toNat]'(by omega), at_nat h0 (List.getElem?_eq_getElem _), ?_⟩
    ((conv => whnf); try dsimp only [List.set_cons_zero, List.set_cons_succ]); refine ⟨cmr (by decide) (by decide), ?_⟩
    ((conv => whnf); try dsimp only [List.set_cons_zero, List.set_cons_succ]); refine ⟨(by show (0 : Int) < _; decide), ?_⟩
    ((conv => whnf); try dsimp only [List.set_cons_zero, List.set_cons_succ]); refine ⟨cpw (by decide) (by decide) (by decide), ?_⟩
    ((conv => whnf); try dsimp only [List.set_cons_zero, List.set_cons_succ]); refine ⟨cmr (ite_b _).1 (ite_b _).2, ?_⟩
    ((conv => whnf); try dsimp only [List.set_cons_zero, List.set_cons_succ]); refine ⟨cml (by decide) (by decide), ?_⟩
    ((conv => whnf); try dsimp only [List.set_cons_zero, List.set_cons_succ]); refine ⟨few3 (by show 3 ≤ 1000; decide), ?_⟩
    ((conv => whnf); try dsimp only [List.set_cons_zero, List.set_cons_succ]); exact hq _ ⟨_, _, _, rfl, (well_b _ _ h0 h1).1, (well_b _ _ h0 h1).2, by decide, by decide⟩
  · ((conv => whnf); try dsimp only [List.set_cons_zero, List.set_cons_succ]); refine ⟨cmr (by decide) (by decide), ?_⟩
    ((conv => whnf); try dsimp only [List.set_cons_zero, List.set_cons_succ]); refine ⟨(by show (0 : Int) < _; decide), ?_⟩
    ((conv => whnf); try dsimp only [List.set_cons_zero, List.set_cons_succ]); refine ⟨cpw (by decide) (by decide) (by decide), ?_⟩
    ((conv => whnf); try dsimp only [List.set_cons_zero, List.set_cons_succ]); refine ⟨cmr (ite_b _).1 (ite_b _).2, ?_⟩
    ((conv => whnf); try dsimp only [List.set_cons_zero, List.set_cons_succ]); refine ⟨cml (by decide) (by decide), ?_⟩
    ((conv => whnf); try dsimp only [List.set_cons_zero, List.set_cons_succ]); refine ⟨few3 (by show 3 ≤ 1000; decide), ?_⟩
    ((conv => whnf); try dsimp only [List.set_cons_zero, List.set_cons_succ]); exact hq _ ⟨_, _, _, rfl, (well_b _ _ h0 h1).1, (well_b _ _ h0 h1).2, by decide, by decide⟩
theorem ok_law_well {Γ : Wd} (T : Tx Γ) : FnE Γ 1 "_law_well" [false, false] c_law_well :=
  fnE_of T.d_law_well sc_law_well (by intro _ _ _ _ _ _ _ _ us hl; exact match us, hl with | [_, _], _ => rfl) T.bn rfl (tr_law_well T) law_law_well

def c_law_take : Con := fun svs Q _ => ∃ (n : Nat) (p : SV) (m : Int), svs = [p, .d (.int m)] ∧ Pool n p ∧ n < 10 ^ 9 ∧ 0 < m ∧ m < 2 ^ 250 ∧ ∀ r p', 0 ≤ r → r < m → Pool (n + 1) p' → Q (.d (.int r)) [p', .d (.int m)]
/-! _law_take: well 0, many 1, mixed 2, taken 3 -/
theorem sc_law_take : FnScope N_law_take ["well", "many"] (defScope st_law_take) := ⟨rfl, rfl, rfl, by decide +kernel, rfl, by decide +kernel, by decide +kernel⟩
abbrev w_law_take_1 : WS := wRetF (wVar 3)
abbrev w_law_take_2 : WS := wSeq (wSetI 0 (w2 kFdiv (w2 kIdx (wVar 0) (wC (.int 0))) (wVar 1)) (wC (.int 0))) w_law_take_1
abbrev w_law_take_3 : WS := wRetF (w2 kMod (wB kInt (wCons (w2 kFdiv (wVar 2) (wC (.int 131072))) (wNil))) (wVar 1))
abbrev w_law_take_4 : WS := wSeq (wAsg 2 (w2 kMod (wB kInt (wCons (w2 kPow (wVar 2) (wC (.int 3))) (wNil))) (wC (.int 618970019642690137449562111)))) w_law_take_3
abbrev w_law_take_5 : WS := wSeq (wAsg 2 (w2 kAdd (w2 kMod (wB kInt (wCons (wVar 2) (wNil))) (wC (.int 2305843009213693951))) (w2 kMul (wC (.int 2971215073)) (w2 kIdx (wVar 0) (wC (.int 2)))))) w_law_take_4
abbrev w_law_take_6 : WS := wSeq (wAsg 2 (w2 kAdd (w2 kPow (w2 kAdd (w2 kIdx (wVar 0) (wC (.int 1))) (w2 kMul (wC (.int 6700417)) (w2 kIdx (wVar 0) (wC (.int 2))))) (wC (.int 3))) (w2 kMul (wC (.int 97)) (w2 kIdx (wVar 0) (wC (.int 2)))))) w_law_take_5
abbrev w_law_take_7 : WS := wSeq (wSetI 0 (w2 kAdd (w2 kIdx (wVar 0) (wC (.int 2))) (wC (.int 1))) (wC (.int 2))) w_law_take_6
def w_law_take : WS :=
  wSeq (wIf (wTst (w2 kGt (w2 kIdx (wVar 0) (wC (.int 0))) (wC (.int 0)))) (wSeq (wAsg 3 (w2 kMod (wB kInt (wCons (w2 kIdx (wVar 0) (wC (.int 0))) (wNil))) (wVar 1))) w_law_take_2) (wNext)) w_law_take_7
theorem tr_law_take {Γ : Wd} (T : Tx Γ) (X : Cx) (C : Ctx Γ X N_law_take (defScope st_law_take) (fun _ => true) 0) (P : Own X) (dc : DefCx X) : SSs Γ [0] X (defBody st_law_take) w_law_take :=
  sss_cons (ss_if (st_gt  (se_idx C (fun _ _ => rfl) (se_var C 0) (se_int)) (se_int)) (sss_cons (ss_asg C 3 (se_mod (se_intc C (sa_cons (se_idx C (fun _ _ => rfl) (se_var C 0) (se_int)) (sa_nil))) (se_var C 1)))
  (sss_cons (ss_seti C 0 (se_fdiv (se_idx C (fun _ _ => rfl) (se_var C 0) (se_int)) (se_var C 1)) (se_int))
  (sss_one (ss_retF (se_var C 3))))) (sss_nil))
  (sss_cons (ss_seti C 0 (se_add (se_idx C (fun _ _ => rfl) (se_var C 0) (se_int)) (se_int)) (se_int))
  (sss_cons (ss_asg C 2 (se_add (se_pow (se_add (se_idx C (fun _ _ => rfl) (se_var C 0) (se_int)) (se_mul (se_int) (se_idx C (fun _ _ => rfl) (se_var C 0) (se_int)))) (se_int)) (se_mul (se_int) (se_idx C (fun _ _ => rfl) (se_var C 0) (se_int)))))
  (sss_cons (ss_asg C 2 (se_add (se_mod (se_intc C (sa_cons (se_var C 2) (sa_nil))) (se_int)) (se_mul (se_int) (se_idx C (fun _ _ => rfl) (se_var C 0) (se_int)))))
  (sss_cons (ss_asg C 2 (se_mod (se_intc C (sa_cons (se_pow (se_var C 2) (se_int)) (sa_nil))) (se_int)))
  (sss_one (ss_retF (se_mod (se_intc C (sa_cons (se_fdiv (se_var C 2) (se_int)) (sa_nil))) (se_var C 1))))))))

theorem take_b1 (b c : Int) (n : Nat) (h1 : -(2 ^ 100) < b) (h2 : b < 2 ^ 100) (h3 : 0 ≤ c) (h4 : c ≤ n) (h5 : n < 10 ^ 9) : (b + 6700417 * (c + 1)).natAbs < 2 ^ 250 := by omega
theorem take_b2 (X c : Int) (n : Nat) (h3 : 0 ≤ c) (h4 : c ≤ n) (h5 : n < 10 ^ 9) : (X % 2305843009213693951 + 2971215073 * (c + 1)).natAbs < 2 ^ 250 := by omega
theorem law_law_take : LawOf N_law_take [true, false] c_law_take w_law_take := by
  rintro svs Q E - ⟨n, p, m, rfl, ⟨a, b, c, rfl, h1, h2, h3, h4⟩, h5, h6, h7, hq⟩
  ((conv => whnf); try dsimp only [List.set_cons_zero, List.set_cons_succ]); refine ⟨_, at0, ?_⟩
  ((conv => whnf); try dsimp only [List.set_cons_zero, List.set_cons_succ]); refine Br.of (fun h => ?_) (fun h => ?_)
  · ((conv => whnf); try dsimp only [List.set_cons_zero, List.set_cons_succ]); refine ⟨_, at0, ?_⟩
    ((conv => whnf); try dsimp only [List.set_cons_zero, List.set_cons_succ]); refine ⟨h6, ?_⟩
    ((conv => whnf); try dsimp only [List.set_cons_zero, List.set_cons_succ]); refine ⟨_, at0, ?_⟩
    ((conv => whnf); try dsimp only [List.set_cons_zero, List.set_cons_succ]); refine ⟨cdv h6 h7, ?_⟩
    ((conv => whnf); try dsimp only [List.set_cons_zero, List.set_cons_succ]); refine ⟨0, ix3.1, ?_⟩
    ((conv => whnf); try dsimp only [List.set_cons_zero, List.set_cons_succ]); exact hq _ _ (Int.emod_nonneg _ (by omega)) (Int.emod_lt_of_pos _ h6) ⟨_, _, _, rfl, h1, h2, h3, by omega⟩
  · ((conv => whnf); try dsimp only [List.set_cons_zero, List.set_cons_succ]); refine ⟨_, at2, ?_⟩
    ((conv => whnf); try dsimp only [List.set_cons_zero, List.set_cons_succ]); refine ⟨2, ix3.2.2, ?_⟩
    ((conv => whnf); try dsimp only [List.set_cons_zero, List.set_cons_succ]); refine ⟨_, at1, ?_⟩
    ((conv => whnf); try dsimp only [List.set_cons_zero, List.set_cons_succ]); refine ⟨_, at2, ?_⟩
    ((conv => whnf); try dsimp only [List.set_cons_zero, List.set_cons_succ]); refine ⟨cml (by decide) (by decide), ?_⟩
    ((conv => whnf); try dsimp only [List.set_cons_zero, List.set_cons_succ]); refine ⟨cpw (by decide) (by decide) (take_b1 b c n h1 h2 h3 h4 h5), ?_⟩
    ((conv => whnf); try dsimp only [List.set_cons_zero, List.set_cons_succ]); refine ⟨_, at2, ?_⟩
    ((conv => whnf); try dsimp only [List.set_cons_zero, List.set_cons_succ]); refine ⟨cml (by decide) (by decide), ?_⟩
    ((conv => whnf); try dsimp only [List.set_cons_zero, List.set_cons_succ]); refine ⟨(by show (0 : Int) < _; decide), ?_⟩
    ((conv => whnf); try dsimp only [List.set_cons_zero, List.set_cons_succ]); refine ⟨_, at2, ?_⟩
    ((conv => whnf); try dsimp only [List.set_cons_zero, List.set_cons_succ]); refine ⟨cml (by decide) (by decide), ?_⟩
    ((conv => whnf); try dsimp only [List.set_cons_zero, List.set_cons_succ]); refine ⟨cpw (by decide) (by decide) (take_b2 _ c n h3 h4 h5), ?_⟩
    ((conv => whnf); try dsimp only [List.set_cons_zero, List.set_cons_succ]); refine ⟨(by show (0 : Int) < _; decide), ?_⟩
    ((conv => whnf); try dsimp only [List.set_cons_zero, List.set_cons_succ]); refine ⟨cdv (by decide) (by decide), ?_⟩
    ((conv => whnf); try dsimp only [List.set_cons_zero, List.set_cons_succ]); refine ⟨h6, ?_⟩
    ((conv => whnf); try dsimp only [List.set_cons_zero, List.set_cons_succ]); exact hq _ _ (Int.emod_nonneg _ (by omega)) (Int.emod_lt_of_pos _ h6) ⟨_, _, _, rfl, h1, h2, by omega, by omega⟩
theorem ok_law_take {Γ : Wd} (T : Tx Γ) : FnE Γ 1 "_law_take" [true, false] c_law_take :=
  fnE_of T.d_law_take sc_law_take (by intro _ _ _ _ _ _ _ _ us hl; exact match us, hl with | [_, _], _ => rfl) T.bn rfl (tr_law_take T) law_law_take

theorem at4 {a b c d : D} {w : Int} (h0 : 0 ≤ w) (h4 : w < 4) : ∃ m, atI [a, b, c, d] w = some m ∧ (w = 0 ∧ m = a ∨ w = 1 ∧ m = b ∨ w = 2 ∧ m = c ∨ w = 3 ∧ m = d) := by
  obtain rfl | rfl | rfl | rfl : w = 0 ∨ w = 1 ∨ w = 2 ∨ w = 3 := by omega
  · exact ⟨a, rfl, by simp⟩
  · exact ⟨b, rfl, by simp⟩
  · exact ⟨c, rfl, by simp⟩
  · exact ⟨d, rfl, by simp⟩
def c_law_number : Con := fun svs Q _ => ∃ (n : Nat) (p : SV), svs = [p] ∧ Pool n p ∧ n < 10 ^ 8 ∧ ∀ z p', -(10 ^ 30) < z → z < 10 ^ 30 → Pool (n + 4) p' → Q (.d (.int z)) [p']
/-! _law_number: well 0, way 1, found 2 -/
theorem sc_law_number : FnScope N_law_number ["well"] (defScope st_law_number) := ⟨rfl, rfl, rfl, by decide +kernel, rfl, by decide +kernel, by decide +kernel⟩
abbrev w_law_number_1 : WS := wRetF (w2 kMul (wVar 2) (w2 kSub (wC (.int 1)) (w2 kMul (wC (.int 2)) (wCall [true, false] c_law_take (wCons (wRef 0) (wCons (wC (.int 2)) (wNil)))))))
abbrev w_law_number_2 : WS := wSeq (wIf (wTst (w2 kEq (wVar 1) (wC (.int 3)))) (wAsg 2 (w2 kAdd (w2 kMul (wVar 2) (w2 kPow (wC (.int 10)) (wC (.int 15)))) (wCall [true, false] c_law_take (wCons (wRef 0) (wCons (w2 kPow (wC (.int 10)) (wC (.int 15))) (wNil)))))) (wNext)) w_law_number_1
abbrev w_law_number_3 : WS := wSeq (wAsg 2 (wCall [true, false] c_law_take (wCons (wRef 0) (wCons (w2 kIdx (wLst (wCons (wC (.int 13)) (wCons (wC (.int 60)) (wCons (wC (.int 1000)) (wCons (w2 kPow (wC (.int 10)) (wC (.int 15))) (wNil)))))) (wVar 1)) (wNil))))) w_law_number_2
def w_law_number : WS :=
  wSeq (wAsg 1 (wCall [true, false] c_law_take (wCons (wRef 0) (wCons (wC (.int 4)) (wNil))))) w_law_number_3
theorem tr_law_number {Γ : Wd} (T : Tx Γ) (X : Cx) (C : Ctx Γ X N_law_number (defScope st_law_number) (fun _ => true) 1) (P : Own X) (dc : DefCx X) : SSs Γ [0] X (defBody st_law_number) w_law_number :=
  sss_cons (ss_asg C 1 (se_call C (FnE.mono (ok_law_take T) (by decide)) (sa_cons (se_ref C 0) (sa_cons (se_int) (sa_nil)))))
  (sss_cons (ss_asg C 2 (se_call C (FnE.mono (ok_law_take T) (by decide)) (sa_cons (se_ref C 0) (sa_cons (se_idx C (fun _ _ => rfl) (se_lst (sa_cons (se_int) (sa_cons (se_int) (sa_cons (se_int) (sa_cons (se_pow (se_int) (se_int)) (sa_nil)))))) (se_var C 1)) (sa_nil)))))
  (sss_cons (ss_if (st_eq C (se_var C 1) (se_int)) (sss_one (ss_asg C 2 (se_add (se_mul (se_var C 2) (se_pow (se_int) (se_int))) (se_call C (FnE.mono (ok_law_take T) (by decide)) (sa_cons (se_ref C 0) (sa_cons (se_pow (se_int) (se_int)) (sa_nil))))))) (sss_nil))
  (sss_one (ss_retF (se_mul (se_var C 2) (se_sub (se_int) (se_mul (se_int) (se_call C (FnE.mono (ok_law_take T) (by decide)) (sa_cons (se_ref C 0) (sa_cons (se_int) (sa_nil)))))))))))

theorem number_fin (f r : Int) (B : Int) (h1 : 0 ≤ f) (h2 : f < B) (h3 : 0 ≤ r) (h4 : r < 2) : -B < f * (1 - 2 * r) ∧ f * (1 - 2 * r) < B := by
  obtain rfl | rfl : r = 0 ∨ r = 1 := by omega
  · omega
  · omega
theorem law_law_number : LawOf N_law_number [true] c_law_number w_law_number := by
  rintro svs Q E - ⟨n, p, rfl, hp, hn, hq⟩
  ((conv => whnf); try dsimp only [List.set_cons_zero, List.set_cons_succ]); refine ⟨rfl, ?_⟩
  ((conv => whnf); try dsimp only [List.set_cons_zero, List.set_cons_succ]); refine ⟨n, _, _, rfl, hp, by omega, (by show (0 : Int) < _; decide), by decide, fun w p1 w0 w4 hp1 => ?_⟩
  ((conv => whnf); try dsimp only [List.set_cons_zero, List.set_cons_succ]); refine ⟨rfl, ?_⟩
  ((conv => whnf); try dsimp only [List.set_cons_zero, List.set_cons_succ]); refine ⟨cpw (by decide) (by decide) (by decide), ?_⟩
  ((conv => whnf); try dsimp only [List.set_cons_zero, List.set_cons_succ]); refine ⟨few3 (by show 4 ≤ 1000; decide), ?_⟩
  obtain ⟨m, em, hm⟩ := at4 (a := .int 13) (b := .int 60) (c := .int 1000) (d := .int (10 ^ 15)) w0 w4
  ((conv => whnf); try dsimp only [List.set_cons_zero, List.set_cons_succ]); refine ⟨m, em, ?_⟩
  have hm' : ∃ mi : Int, m = .int mi ∧ 0 < mi ∧ mi ≤ 10 ^ 15 := by
    rcases hm with ⟨_, rfl⟩ | ⟨_, rfl⟩ | ⟨_, rfl⟩ | ⟨_, rfl⟩ <;> exact ⟨_, rfl, by decide, by decide⟩
  obtain ⟨mi, rfl, m0, m1⟩ := hm'
  ((conv => whnf); try dsimp only [List.set_cons_zero, List.set_cons_succ]); refine ⟨n + 1, _, _, rfl, hp1, by omega, m0, by omega, fun f p2 f0 f1 hp2 => ?_⟩
  ((conv => whnf); try dsimp only [List.set_cons_zero, List.set_cons_succ]); refine Br.of (fun h => ?_) (fun h => ?_)
  · ((conv => whnf); try dsimp only [List.set_cons_zero, List.set_cons_succ]); refine ⟨cpw (by decide) (by decide) (by decide), ?_⟩
    ((conv => whnf); try dsimp only [List.set_cons_zero, List.set_cons_succ]); refine ⟨cmr (by decide) (by decide), ?_⟩
    ((conv => whnf); try dsimp only [List.set_cons_zero, List.set_cons_succ]); refine ⟨rfl, ?_⟩
    ((conv => whnf); try dsimp only [List.set_cons_zero, List.set_cons_succ]); refine ⟨cpw (by decide) (by decide) (by decide), ?_⟩
    ((conv => whnf); try dsimp only [List.set_cons_zero, List.set_cons_succ]); refine ⟨n + 2, _, _, rfl, hp2, by omega, by decide, by decide, fun g p3 g0 g1 hp3 => ?_⟩
    ((conv => whnf); try dsimp only [List.set_cons_zero, List.set_cons_succ]); refine ⟨rfl, ?_⟩
    ((conv => whnf); try dsimp only [List.set_cons_zero, List.set_cons_succ]); refine ⟨n + 3, _, _, rfl, hp3, by omega, (by show (0 : Int) < _; decide), by decide, fun r p4 r0 r1 hp4 => ?_⟩
    ((conv => whnf); try dsimp only [List.set_cons_zero, List.set_cons_succ]); refine ⟨cml (by decide) (by decide), ?_⟩
    have hr : r = 0 ∨ r = 1 := by omega
    ((conv => whnf); try dsimp only [List.set_cons_zero, List.set_cons_succ]); refine ⟨cmr (by show _ < 1 - 2 * r; omega) (by show 1 - 2 * r < _; omega), ?_⟩
    have g1' : g < 10 ^ 15 := g1
    have b := number_fin (f * 10 ^ 15 + g) r (10 ^ 30) (by omega) (by omega) r0 r1
    ((conv => whnf); try dsimp only [List.set_cons_zero, List.set_cons_succ]); exact hq _ _ b.1 b.2 hp4
  · ((conv => whnf); try dsimp only [List.set_cons_zero, List.set_cons_succ]); refine ⟨rfl, ?_⟩
    ((conv => whnf); try dsimp only [List.set_cons_zero, List.set_cons_succ]); refine ⟨n + 2, _, _, rfl, hp2, by omega, (by show (0 : Int) < _; decide), by decide, fun r p4 r0 r1 hp4 => ?_⟩
    ((conv => whnf); try dsimp only [List.set_cons_zero, List.set_cons_succ]); refine ⟨cml (by decide) (by decide), ?_⟩
    have hr : r = 0 ∨ r = 1 := by omega
    ((conv => whnf); try dsimp only [List.set_cons_zero, List.set_cons_succ]); refine ⟨cmr (by show _ < 1 - 2 * r; omega) (by show 1 - 2 * r < _; omega), ?_⟩
    have b := number_fin f r (10 ^ 30) (by omega) (by omega) r0 r1
    ((conv => whnf); try dsimp only [List.set_cons_zero, List.set_cons_succ]); exact hq _ _ b.1 b.2 (hp4.mono (by omega))
theorem ok_law_number {Γ : Wd} (T : Tx Γ) : FnE Γ 2 "_law_number" [true] c_law_number :=
  fnE_of T.d_law_number sc_law_number (by intro _ _ _ _ _ _ _ _ us hl; exact match us, hl with | [_], _ => rfl) T.bn rfl (tr_law_number T) law_law_number

/-- a week's speeds: some open moment, none above 3 -/
structure Week (ps : List Int) : Prop where
  pos : ∃ x ∈ ps, 0 < x
  bd : ∀ x ∈ ps, 0 ≤ x ∧ x ≤ 3
def c_law_paces : Con := fun svs Q _ => ∃ (n : Nat) (p : SV) (size : Int), svs = [p, .d (.int size)] ∧ Pool n p ∧ n < 10 ^ 7 ∧ 1 ≤ size ∧ size ≤ 12 ∧
  ∀ (ps : List Int) p', Week ps → (ps.length : Int) = size → Pool (n + 15) p' → Q (.lst (ps.map D.int)) [p', .d (.int size)]
/-! _law_paces: well 0, size 1, way 2, found 3, spot 4, turn 5 -/
theorem sc_law_paces : FnScope N_law_paces ["well", "size"] (defScope st_law_paces) := ⟨rfl, rfl, rfl, by decide +kernel, rfl, by decide +kernel, by decide +kernel⟩
abbrev w_law_paces_1 : WS := wSetI 3 (w2 kAdd (wC (.int 1)) (wCall [true, false] c_law_take (wCons (wRef 0) (wCons (wC (.int 3)) (wNil))))) (wVar 4)
abbrev w_law_paces_2 : WS := wRet (wVar 3)
abbrev w_law_paces_3 : WS := wSeq (wIf (wTst (w2 kEq (wB kMax (wCons (wVar 3) (wNil))) (wC (.int 0)))) (wSeq (wAsg 4 (wCall [true, false] c_law_take (wCons (wRef 0) (wCons (wVar 1) (wNil))))) w_law_paces_1) (wNext)) w_law_paces_2
abbrev w_law_paces_4 : WS := wSeq (wIf (wTst (w2 kEq (wVar 2) (wC (.int 3)))) (wAsg 3 (w2 kMul (wLst (wCons (w2 kAdd (wC (.int 1)) (wCall [true, false] c_law_take (wCons (wRef 0) (wCons (wC (.int 3)) (wNil))))) (wNil))) (wVar 1))) (wNext)) w_law_paces_3
abbrev w_law_paces_5 : WS := wSeq (wIf (wTst (w2 kLt (wVar 2) (wC (.int 2)))) (wAsg 3 (wLc (wRng1 (wCons (wVar 1) (wNil))) (gNm 5) (wYes) (wCall [true, false] c_law_take (wCons (wRef 0) (wCons (w2 kSub (wC (.int 4)) (w2 kMul (wC (.int 2)) (wVar 2))) (wNil)))) [5])) (wNext)) w_law_paces_4
abbrev w_law_paces_6 : WS := wSeq (wAsg 3 (w2 kMul (wLst (wCons (wC (.int 0)) (wNil))) (wVar 1))) w_law_paces_5
def w_law_paces : WS :=
  wSeq (wAsg 2 (wCall [true, false] c_law_take (wCons (wRef 0) (wCons (wC (.int 4)) (wNil))))) w_law_paces_6
theorem tr_law_paces {Γ : Wd} (T : Tx Γ) (X : Cx) (C : Ctx Γ X N_law_paces (defScope st_law_paces) (fun _ => true) 1) (P : Own X) (dc : DefCx X) : SSs Γ [0] X (defBody st_law_paces) w_law_paces :=
  sss_cons (ss_asg C 2 (se_call C (FnE.mono (ok_law_take T) (by decide)) (sa_cons (se_ref C 0) (sa_cons (se_int) (sa_nil)))))
  (sss_cons (ss_asg C 3 (se_mul (se_lst (sa_cons (se_int) (sa_nil))) (se_var C 1)))
  (sss_cons (ss_if (st_lt  (se_var C 2) (se_int)) (sss_one (ss_asgLc C 3 (own := [("turn", 5)]) (is := [5]) rfl rfl rfl rfl (by decide +kernel) (by decide +kernel) (by decide +kernel) (si_range1 C (sa_cons (se_var C 1) (sa_nil))) (fun _ hX => sg_name hX.1 5) (fun _ hX => sts_nil) (fun _ hX => se_call hX.1 (FnE.mono (ok_law_take T) (by decide)) (sa_cons (se_ref hX.1 0) (sa_cons (se_sub (se_int) (se_mul (se_int) (se_var hX.1 2))) (sa_nil)))))) (sss_nil))
  (sss_cons (ss_if (st_eq C (se_var C 2) (se_int)) (sss_one (ss_asg C 3 (se_mul (se_lst (sa_cons (se_add (se_int) (se_call C (FnE.mono (ok_law_take T) (by decide)) (sa_cons (se_ref C 0) (sa_cons (se_int) (sa_nil))))) (sa_nil))) (se_var C 1)))) (sss_nil))
  (sss_cons (ss_if (st_eq C (se_max C (sa_cons (se_var C 3) (sa_nil))) (se_int)) (sss_cons (ss_asg C 4 (se_call C (FnE.mono (ok_law_take T) (by decide)) (sa_cons (se_ref C 0) (sa_cons (se_var C 1) (sa_nil)))))
  (sss_one (ss_seti C 3 (se_add (se_int) (se_call C (FnE.mono (ok_law_take T) (by decide)) (sa_cons (se_ref C 0) (sa_cons (se_int) (sa_nil))))) (se_var C 4)))) (sss_nil))
  (sss_one (ss_ret (se_var C 3)))))))

theorem rep1 (n : Nat) (x : Int) : (List.replicate n [D.int x]).flatten = (List.replicate n x).map D.int := by
  induction n with
  | zero => rfl
  | succ n ih => rw [List.replicate_succ, List.flatten_cons, ih]; rfl
theorem paces_tail (n : Nat) (p' : SV) (size w : Int) (s1 : 1 ≤ size) (s2 : size ≤ 12) (hn : n < 10 ^ 7) (ps : List Int) (hp : Pool (n + 13) p') (bd : ∀ x ∈ ps, 0 ≤ x ∧ x ≤ 3) (hl : (ps.length : Int) = size) (DD : Nd) (E : EK)
    (fin : ∀ (qs : List Int) p2 (v : Option SV), Week qs → (qs.length : Int) = size → Pool (n + 15) p2 → DD.rt (.lst (qs.map D.int)) [some p2, some (.d (.int size)), some (.d (.int w)), none, v, none]) :
    w_law_paces_3 [some p', some (.d (.int size)), some (.d (.int w)), some (.lst (ps.map D.int)), none, none] DD E := by
  ((conv => whnf); try dsimp only [List.set_cons_zero, List.set_cons_succ]); refine ⟨ps, rfl, by omega, fun m mm mx => ?_⟩
  ((conv => whnf); try dsimp only [List.set_cons_zero, List.set_cons_succ]); refine Br.of (fun h => ?_) (fun h => ?_)
  · ((conv => whnf); try dsimp only [List.set_cons_zero, List.set_cons_succ]); refine ⟨rfl, ?_⟩
    ((conv => whnf); try dsimp only [List.set_cons_zero, List.set_cons_succ]); refine ⟨n + 13, _, _, rfl, hp, by omega, by omega, by omega, fun spot p2 t0 t1 hp2 => ?_⟩
    ((conv => whnf); try dsimp only [List.set_cons_zero, List.set_cons_succ]); refine ⟨rfl, ?_⟩
    ((conv => whnf); try dsimp only [List.set_cons_zero, List.set_cons_succ]); refine ⟨n + 14, _, _, rfl, hp2, by omega, (by show (0 : Int) < _; decide), by decide, fun r p3 r0 r1 hp3 => ?_⟩
    have hs : spot.toNat < (ps.map D.int).length := by simp; omega
    ((conv => whnf); try dsimp only [List.set_cons_zero, List.set_cons_succ]); refine ⟨spot.toNat, ?_, ?_⟩
    · unfold ixN
      rw [if_pos t0, if_pos (by simp; omega)]
    · have e : (ps.map D.int).set spot.toNat (D.int (1 + r)) = (ps.set spot.toNat (1 + r)).map D.int := by rw [List.map_set]
      ((conv => whnf); try dsimp only [List.set_cons_zero, List.set_cons_succ])
      have g := fin (ps.set spot.toNat (1 + r)) p3 (some (.d (.int spot))) ⟨⟨1 + r, List.mem_set (by simp at hs; exact hs) _, by omega⟩, fun x hx => (List.mem_or_eq_of_mem_set hx).elim (bd x) fun q => by subst q; omega⟩ (by rw [List.length_set]; exact hl) hp3
      rw [← e] at g
      exact g
  · ((conv => whnf); try dsimp only [List.set_cons_zero, List.set_cons_succ])
    exact fin ps p' none ⟨⟨m, mm, by have := bd m mm; omega⟩, bd⟩ hl (hp.mono (by omega))
theorem law_law_paces : LawOf N_law_paces [true, false] c_law_paces w_law_paces := by
  rintro svs Q E - ⟨n, p, size, rfl, hp, hn, s1, s2, hq⟩
  ((conv => whnf); try dsimp only [List.set_cons_zero, List.set_cons_succ]); refine ⟨rfl, ?_⟩
  ((conv => whnf); try dsimp only [List.set_cons_zero, List.set_cons_succ]); refine ⟨n, _, _, rfl, hp, by omega, (by show (0 : Int) < _; decide), by decide, fun w p1 w0 w4 hp1 => ?_⟩
  have tail : ∀ (ps : List Int) (p' : SV), Pool (n + 13) p' → (∀ x ∈ ps, 0 ≤ x ∧ x ≤ 3) → (ps.length : Int) = size →
      w_law_paces_3 [some p', some (.d (.int size)), some (.d (.int w)), some (.lst (ps.map D.int)), none, none] (endsOf [true, false] [p, .d (.int size)] Q) (errsOf [true, false] [p, .d (.int size)] E) := fun ps p' hp bd hl => paces_tail n p' size w s1 s2 (by omega) ps hp bd hl _ _ fun qs p2 v wk l hp2 => hq qs p2 wk l hp2
  ((conv => whnf); try dsimp only [List.set_cons_zero, List.set_cons_succ]); refine ⟨few3 (by show 1 ≤ 1000; decide), ?_⟩
  ((conv => whnf); try dsimp only [List.set_cons_zero, List.set_cons_succ]); refine ⟨⟨by omega, by omega, by show 1 * _ ≤ _; omega⟩, ?_⟩
  have third : ∀ (ps : List Int) (p' : SV), Pool (n + 13) p' → (∀ x ∈ ps, 0 ≤ x ∧ x ≤ 3) → (ps.length : Int) = size → w ≠ 3 →
      w_law_paces_4 [some p', some (.d (.int size)), some (.d (.int w)), some (.lst (ps.map D.int)), none, none] (endsOf [true, false] [p, .d (.int size)] Q) (errsOf [true, false] [p, .d (.int size)] E) := fun ps p' hp bd hl hw => by
    ((conv => whnf); try dsimp only [List.set_cons_zero, List.set_cons_succ]); refine Br.of (fun h => absurd h hw) (fun h => ?_)
    exact tail ps p' hp bd hl
  have z : ∀ x ∈ List.replicate size.toNat (0 : Int), 0 ≤ x ∧ x ≤ 3 := fun x hx => by rw [(List.mem_replicate.mp hx).2]; decide
  have zl : ((List.replicate size.toNat (0 : Int)).length : Int) = size := by rw [List.length_replicate]; omega
  ((conv => whnf); try dsimp only [List.set_cons_zero, List.set_cons_succ]); refine Br.of (fun h => ?_) (fun h => ?_)
  · ((conv => whnf); try dsimp only [List.set_cons_zero, List.set_cons_succ]); refine ⟨by omega, by omega, ?_⟩
    refine compL_ind (fun ds acc ρ => ∃ (xs : List Int) (p2 : SV), acc = xs.map D.int ∧ (∀ x ∈ xs, 0 ≤ x ∧ x ≤ 3) ∧ (xs.length : Int) + ds.length = size ∧ Pool (n + 1 + xs.length) p2 ∧
      ρ = [some p2, some (.d (.int size)), some (.d (.int w)), some (.lst ((List.replicate size.toNat [D.int 0]).flatten)), none, none]) ?_ ?_ _ _ _ ⟨[], p1, rfl, (fun x hx => nomatch hx), by simp [rngD]; omega, hp1, rfl⟩
    · rintro acc ρ ⟨xs, p2, rfl, bd, hl, hp2, rfl⟩
      exact third xs p2 (hp2.mono (by simp at hl; omega)) bd (by simpa using hl) (by omega)
    · rintro d ds acc ρ ⟨xs, p2, rfl, bd, hl, hp2, rfl⟩ ih
      simp only [List.length_cons] at hl
      ((conv => whnf); try dsimp only [List.set_cons_zero, List.set_cons_succ]); refine Br.tt ?_
      ((conv => whnf); try dsimp only [List.set_cons_zero, List.set_cons_succ]); refine ⟨rfl, ?_⟩
      ((conv => whnf); try dsimp only [List.set_cons_zero, List.set_cons_succ]); refine ⟨cml (by decide) (by decide), ?_⟩
      ((conv => whnf); try dsimp only [List.set_cons_zero, List.set_cons_succ]); refine ⟨n + 1 + xs.length, _, _, rfl, hp2, by omega, (by show 0 < 4 - 2 * w; omega), (by show 4 - 2 * w < _; omega), fun r p3 r0 r1 hp3 => ?_⟩
      ((conv => whnf); try dsimp only [List.set_cons_zero, List.set_cons_succ]); refine ⟨by simp; omega, ?_⟩
      exact ih _ _ ⟨xs ++ [r], p3, by simp, fun x hx => by
        rcases List.mem_append.mp hx with q | q
        · exact bd x q
        · have r1' : r < 4 - 2 * w := r1
          simp at q; omega, by simp; omega, by simpa [Nat.add_assoc] using hp3, rfl⟩
  · ((conv => whnf); try dsimp only [List.set_cons_zero, List.set_cons_succ]); refine Br.of (fun h3 => ?_) (fun h3 => ?_)
    · ((conv => whnf); try dsimp only [List.set_cons_zero, List.set_cons_succ]); refine ⟨rfl, ?_⟩
      ((conv => whnf); try dsimp only [List.set_cons_zero, List.set_cons_succ]); refine ⟨n + 1, _, _, rfl, hp1, by omega, (by show (0 : Int) < _; decide), by decide, fun r p3 r0 r1 hp3 => ?_⟩
      ((conv => whnf); try dsimp only [List.set_cons_zero, List.set_cons_succ]); refine ⟨few3 (by show 1 ≤ 1000; decide), ?_⟩
      ((conv => whnf); try dsimp only [List.set_cons_zero, List.set_cons_succ]); refine ⟨⟨by omega, by omega, by show 1 * _ ≤ _; omega⟩, ?_⟩
      have g := tail (List.replicate size.toNat (1 + r)) p3 (hp3.mono (by omega)) (fun x hx => by rw [(List.mem_replicate.mp hx).2]; omega) (by rw [List.length_replicate]; omega)
      rw [← rep1] at g
      exact g
    · have g := tail (List.replicate size.toNat 0) p1 (hp1.mono (by omega)) z zl
      rw [← rep1] at g
      exact g
theorem ok_law_paces {Γ : Wd} (T : Tx Γ) : FnE Γ 2 "_law_paces" [true, false] c_law_paces :=
  fnE_of T.d_law_paces sc_law_paces (by intro _ _ _ _ _ _ _ _ us hl; exact match us, hl with | [_, _], _ => rfl) T.bn rfl (tr_law_paces T) law_law_paces


def mkD (m : Int × Int) : D := .tup [.int m.1, .int m.2]
/-- changes: one behind the other, speeds of 0 to 3 -/
structure Marks (ms : List (Int × Int)) : Prop where
  up : ms.Pairwise fun x y => x.1 < y.1
  bd : ∀ m ∈ ms, 0 ≤ m.2 ∧ m.2 ≤ 3
def c_law_marks : Con := fun svs Q _ => ∃ (n : Nat) (p : SV) (size cap : Int), svs = [p, .d (.int size), .d (.int cap)] ∧ Pool n p ∧ n < 10 ^ 6 ∧ 1 ≤ size ∧ size ≤ 12 ∧ 0 ≤ cap ∧ cap ≤ 30 ∧
  ∀ (ms : List (Int × Int)) p', Marks ms → (ms.length : Int) ≤ cap → (∀ m ∈ ms, -(10 ^ 31) < m.1 ∧ m.1 < 10 ^ 31) → Pool (n + 100) p' → Q (.lst (ms.map mkD)) [p', .d (.int size), .d (.int cap)]
/-! _law_marks: well 0, size 1, cap 2, found 3, many 4, at 5, turn 6 -/
theorem sc_law_marks : FnScope N_law_marks ["well", "size", "cap"] (defScope st_law_marks) := ⟨rfl, rfl, rfl, by decide +kernel, rfl, by decide +kernel, by decide +kernel⟩
abbrev w_law_marks_1 : WS := wAsg 5 (w2 kAdd (w2 kAdd (wVar 5) (wC (.int 1))) (wCall [true, false] c_law_take (wCons (wRef 0) (wCons (w2 kIdx (wLst (wCons (wC (.int 1)) (wCons (wC (.int 4)) (wCons (w2 kMul (wC (.int 3)) (wVar 1)) (wCons (w2 kPow (wC (.int 10)) (wC (.int 29))) (wNil)))))) (wCall [true, false] c_law_take (wCons (wRef 0) (wCons (wC (.int 4)) (wNil))))) (wNil)))))
abbrev w_law_marks_2 : WS := wSeq (wApp 3 (wTup (wCons (wVar 5) (wCons (wCall [true, false] c_law_take (wCons (wRef 0) (wCons (wC (.int 4)) (wNil)))) (wNil))))) w_law_marks_1
abbrev w_law_marks_3 : WS := wRet (wVar 3)
abbrev w_law_marks_4 : WS := wSeq (wFor (wRng1 (wCons (wVar 4) (wNil))) (gNm 6) w_law_marks_2) w_law_marks_3
abbrev w_law_marks_5 : WS := wSeq (wAsg 5 (wCall [true] c_law_number (wCons (wRef 0) (wNil)))) w_law_marks_4
abbrev w_law_marks_6 : WS := wSeq (wAsg 4 (wCall [true, false] c_law_take (wCons (wRef 0) (wCons (w2 kAdd (wVar 2) (wC (.int 1))) (wNil))))) w_law_marks_5
def w_law_marks : WS :=
  wSeq (wAsg 3 (wLst (wNil))) w_law_marks_6
theorem tr_law_marks {Γ : Wd} (T : Tx Γ) (X : Cx) (C : Ctx Γ X N_law_marks (defScope st_law_marks) (fun _ => true) 2) (P : Own X) (dc : DefCx X) : SSs Γ [0] X (defBody st_law_marks) w_law_marks :=
  sss_cons (ss_asg C 3 (se_lst (sa_nil)))
  (sss_cons (ss_asg C 4 (se_call C (FnE.mono (ok_law_take T) (by decide)) (sa_cons (se_ref C 0) (sa_cons (se_add (se_var C 2) (se_int)) (sa_nil)))))
  (sss_cons (ss_asg C 5 (se_call C (FnE.mono (ok_law_number T) (by decide)) (sa_cons (se_ref C 0) (sa_nil))))
  (sss_cons (ss_for C P (is := [6]) (si_range1 C (sa_cons (se_var C 4) (sa_nil))) (sg_name C 6) (sss_cons (ss_app C 3 (se_tup (sa_cons (se_var C 5) (sa_cons (se_call C (FnE.mono (ok_law_take T) (by decide)) (sa_cons (se_ref C 0) (sa_cons (se_int) (sa_nil)))) (sa_nil)))))
  (sss_one (ss_asg C 5 (se_add (se_add (se_var C 5) (se_int)) (se_call C (FnE.mono (ok_law_take T) (by decide)) (sa_cons (se_ref C 0) (sa_cons (se_idx C (fun _ _ => rfl) (se_lst (sa_cons (se_int) (sa_cons (se_int) (sa_cons (se_mul (se_int) (se_var C 1)) (sa_cons (se_pow (se_int) (se_int)) (sa_nil)))))) (se_call C (FnE.mono (ok_law_take T) (by decide)) (sa_cons (se_ref C 0) (sa_cons (se_int) (sa_nil))))) (sa_nil)))))))))
  (sss_one (ss_ret (se_var C 3))))))

theorem law_law_marks : LawOf N_law_marks [true, false, false] c_law_marks w_law_marks := by
  rintro svs Q E - ⟨n, p, size, cap, rfl, hp, hn, s1, s2, c1, c2, hq⟩
  ((conv => whnf); try dsimp only [List.set_cons_zero, List.set_cons_succ]); refine ⟨few3 (by show 0 ≤ 1000; decide), ?_⟩
  ((conv => whnf); try dsimp only [List.set_cons_zero, List.set_cons_succ]); refine ⟨rfl, ?_⟩
  ((conv => whnf); try dsimp only [List.set_cons_zero, List.set_cons_succ]); refine ⟨n, _, _, rfl, hp, by omega, (by show 0 < cap + 1; omega), (by show cap + 1 < _; omega), fun many p1 m0 m1 hp1 => ?_⟩
  ((conv => whnf); try dsimp only [List.set_cons_zero, List.set_cons_succ]); refine ⟨rfl, ?_⟩
  ((conv => whnf); try dsimp only [List.set_cons_zero, List.set_cons_succ]); refine ⟨n + 1, _, rfl, hp1, by omega, fun a0 p2 b0 b1 hp2 => ?_⟩
  have m1' : many < cap + 1 := m1
  ((conv => whnf); try dsimp only [List.set_cons_zero, List.set_cons_succ]); refine ⟨by omega, by omega, ?_⟩
  refine forL_ind (fun ds ρ => ∃ (ms : List (Int × Int)) (p3 : SV) (a : Int) (t : Option SV), Marks ms ∧ (∀ m ∈ ms, -(10 ^ 31) < m.1 ∧ m.1 < a) ∧ (ms.length : Int) + ds.length = many ∧ -(10 ^ 31) < a ∧ a < 10 ^ 30 + (10 ^ 29 + 1) * ms.length ∧ Pool (n + 5 + 3 * ms.length) p3 ∧
    ρ = [some p3, some (.d (.int size)), some (.d (.int cap)), some (.lst (ms.map mkD)), some (.d (.int many)), some (.d (.int a)), t]) ?_ ?_ _ _ ⟨[], p2, a0, none, ⟨.nil, fun m hm => nomatch hm⟩, (fun m hm => nomatch hm), by simp [rngD]; omega, by omega, by simpa using b1, hp2, rfl⟩
  · rintro ρ ⟨ms, p3, a, t, mk, lt, hl, a0, a1, hp3, rfl⟩
    simp only [List.length_nil] at hl
    ((conv => whnf); try dsimp only [List.set_cons_zero, List.set_cons_succ]); exact hq ms p3 mk (by omega) (fun m hm => ⟨(lt m hm).1, by have := (lt m hm).2; omega⟩) (hp3.mono (by omega))
  · rintro d ds ρ ⟨ms, p3, a, t, mk, lt, hl, a0, a1, hp3, rfl⟩ ih
    simp only [List.length_cons] at hl
    ((conv => whnf); try dsimp only [List.set_cons_zero, List.set_cons_succ]); refine ⟨rfl, ?_⟩
    ((conv => whnf); try dsimp only [List.set_cons_zero, List.set_cons_succ]); refine ⟨n + 5 + 3 * ms.length, _, _, rfl, hp3, by omega, (by show (0 : Int) < _; decide), by decide, fun sp p4 e0 e1 hp4 => ?_⟩
    ((conv => whnf); try dsimp only [List.set_cons_zero, List.set_cons_succ]); refine ⟨few3 (by show 2 ≤ 1000; decide), ?_⟩
    ((conv => whnf); try dsimp only [List.set_cons_zero, List.set_cons_succ]); refine ⟨by simp; omega, ?_⟩
    ((conv => whnf); try dsimp only [List.set_cons_zero, List.set_cons_succ]); refine ⟨rfl, ?_⟩
    ((conv => whnf); try dsimp only [List.set_cons_zero, List.set_cons_succ]); refine ⟨cml (by decide) (by decide), ?_⟩
    ((conv => whnf); try dsimp only [List.set_cons_zero, List.set_cons_succ]); refine ⟨cpw (by decide) (by decide) (by decide), ?_⟩
    ((conv => whnf); try dsimp only [List.set_cons_zero, List.set_cons_succ]); refine ⟨few3 (by show 4 ≤ 1000; decide), ?_⟩
    ((conv => whnf); try dsimp only [List.set_cons_zero, List.set_cons_succ]); refine ⟨rfl, ?_⟩
    ((conv => whnf); try dsimp only [List.set_cons_zero, List.set_cons_succ]); refine ⟨n + 6 + 3 * ms.length, _, _, rfl, (hp4.mono (by omega)), by omega, (by show (0 : Int) < _; decide), by decide, fun w p5 w0 w4 hp5 => ?_⟩
    obtain ⟨m, em, hm⟩ := at4 (a := .int 1) (b := .int 4) (c := .int (3 * size)) (d := .int (10 ^ 29)) w0 w4
    ((conv => whnf); try dsimp only [List.set_cons_zero, List.set_cons_succ]); refine ⟨m, em, ?_⟩
    have hm' : ∃ mi : Int, m = .int mi ∧ 0 < mi ∧ mi ≤ 10 ^ 29 := by
      rcases hm with ⟨_, rfl⟩ | ⟨_, rfl⟩ | ⟨_, rfl⟩ | ⟨_, rfl⟩
      · exact ⟨_, rfl, by decide, by decide⟩
      · exact ⟨_, rfl, by decide, by decide⟩
      · exact ⟨_, rfl, by omega, by omega⟩
      · exact ⟨_, rfl, by decide, by decide⟩
    obtain ⟨mi, rfl, mm0, mm1⟩ := hm'
    ((conv => whnf); try dsimp only [List.set_cons_zero, List.set_cons_succ]); refine ⟨n + 7 + 3 * ms.length, _, _, rfl, (hp5.mono (by omega)), by omega, mm0, by omega, fun g p6 g0 g1 hp6 => ?_⟩
    refine ⟨_, Fgt.refl _, ih _ ⟨ms ++ [(a, sp)], p6, a + 1 + g, some (.d d), ⟨List.pairwise_append.mpr ⟨mk.up, List.pairwise_singleton _ _, fun x hx y hy => ?_⟩, fun m hm => ?_⟩, fun m hm => ?_, by simp; omega, by omega, by simp; omega, hp6.mono (by simp; omega), ?_⟩⟩
    · simp at hy; subst hy; exact (lt x hx).2
    · rcases List.mem_append.mp hm with q | q
      · exact mk.bd m q
      · simp at q; subst q; exact ⟨e0, by have e1' : sp < 4 := e1; show sp ≤ 3; omega⟩
    · rcases List.mem_append.mp hm with q | q
      · have := lt m q; omega
      · simp at q; subst q; show _ < a ∧ a < _; omega
    · rw [List.map_append]; rfl
theorem ok_law_marks {Γ : Wd} (T : Tx Γ) : FnE Γ 3 "_law_marks" [true, false, false] c_law_marks :=
  fnE_of T.d_law_marks sc_law_marks (by intro _ _ _ _ _ _ _ _ us hl; exact match us, hl with | [_, _, _], _ => rfl) T.bn rfl (tr_law_marks T) law_law_marks

/-- the speed at a moment, of a week and changes -/
def paceF (ps : List Int) : List (Int × Int) → Int → Int
  | [], at_ => (ps[(at_ % ps.length).toNat]?).getD 0
  | m :: ms, at_ => if m.1 = at_ then m.2 else paceF ps ms at_
theorem at_week {ps : List Int} (h : 0 < ps.length) (a : Int) : atI (ps.map D.int) (a % (ps.length : Int)) = some (.int (paceF ps [] a)) := by
  have h1 := Int.emod_nonneg a (show (ps.length : Int) ≠ 0 by omega)
  have h2 := Int.emod_lt_of_pos a (show (0 : Int) < ps.length by omega)
  refine at_nat h1 ?_
  unfold paceF
  have h3 : (a % (ps.length : Int)).toNat < ps.length := by omega
  rw [List.getElem?_map, List.getElem?_eq_getElem h3]
  rfl

def c_law_pace : Con := fun svs Q _ => ∃ (ps : List Int) (ms : List (Int × Int)) (a : Int), svs = [.d (.lst (ps.map D.int)), .d (.lst (ms.map mkD)), .d (.int a)] ∧ 0 < ps.length ∧ Q (.d (.int (paceF ps ms a))) svs
/-! _law_pace: paces 0, marks 1, at 2, spot 3, pace 4 -/
theorem sc_law_pace : FnScope N_law_pace ["paces", "marks", "at"] (defScope st_law_pace) := ⟨rfl, rfl, rfl, by decide +kernel, rfl, by decide +kernel, by decide +kernel⟩
abbrev w_law_pace_1 : WS := wIf (wTst (w2 kEq (wVar 3) (wVar 2))) (wRetF (wVar 4)) (wNext)
abbrev w_law_pace_2 : WS := wRetF (w2 kIdx (wVar 0) (w2 kMod (wB kInt (wCons (wVar 2) (wNil))) (wB kLen (wCons (wVar 0) (wNil)))))
def w_law_pace : WS :=
  wSeq (wFor (wIt (wVar 1)) (gTp 2 (gsCons (gNm 3) (gsCons (gNm 4) (gsNil)))) w_law_pace_1) w_law_pace_2
theorem tr_law_pace {Γ : Wd} (T : Tx Γ) (X : Cx) (C : Ctx Γ X N_law_pace (defScope st_law_pace) (fun _ => true) 0) (P : Own X) (dc : DefCx X) : SSs Γ [] X (defBody st_law_pace) w_law_pace :=
  sss_cons (ss_for C P (is := [3, 4]) (si_seq (se_var C 1)) (sg_tup C (sgs_cons (sg_name C 3) (sgs_cons (sg_name C 4) (sgs_nil)))) (sss_one (ss_if (st_eq C (se_var C 3) (se_var C 2)) (sss_one (ss_retF (se_var C 4))) (sss_nil))))
  (sss_one (ss_retF (se_idx C (fun _ _ => rfl) (se_var C 0) (se_mod (se_intc C (sa_cons (se_var C 2) (sa_nil))) (se_len C (sa_cons (se_var C 0) (sa_nil)))))))

theorem law_law_pace : LawOf N_law_pace [false, false, false] c_law_pace w_law_pace := by
  rintro svs Q E - ⟨ps, ms, a, rfl, hl, hq⟩
  ((conv => whnf); try dsimp only [List.set_cons_zero, List.set_cons_succ])
  refine forL_ind (fun ds ρ => ∃ (rs : List (Int × Int)) (x y : Option SV), ds = rs.map mkD ∧ paceF ps ms a = paceF ps rs a ∧ ρ = [some (.d (.lst (ps.map D.int))), some (.d (.lst (ms.map mkD))), some (.d (.int a)), x, y]) ?_ ?_ _ _ ⟨ms, none, none, rfl, rfl, rfl⟩
  · rintro ρ ⟨rs, x, y, e, ep, rfl⟩
    obtain rfl : rs = [] := by cases rs with
      | nil => rfl
      | cons _ _ => cases e
    ((conv => whnf); try dsimp only [List.set_cons_zero, List.set_cons_succ]); refine ⟨by simp; omega, ?_⟩
    have k := at_week hl a
    rw [← ep] at k
    ((conv => whnf); try dsimp only [List.set_cons_zero, List.set_cons_succ]); refine ⟨_, (by simpa using k), ?_⟩
    ((conv => whnf); try dsimp only [List.set_cons_zero, List.set_cons_succ]); exact hq
  · rintro d ds ρ ⟨rs, x, y, e, ep, rfl⟩ ih
    cases rs with
    | nil => cases e
    | cons r rs =>
      cases e
      ((conv => whnf); try dsimp only [List.set_cons_zero, List.set_cons_succ]); refine ⟨rfl, ?_⟩
      ((conv => whnf); try dsimp only [List.set_cons_zero, List.set_cons_succ]); refine Br.of (fun h => ?_) (fun h => ?_)
      · ((conv => whnf); try dsimp only [List.set_cons_zero, List.set_cons_succ])
        have e2 : paceF ps ms a = r.2 := by rw [ep]; exact if_pos h
        rw [e2] at hq
        exact hq
      · refine ⟨_, Fgt.refl _, ih _ ⟨rs, _, _, rfl, ?_, rfl⟩⟩
        rw [ep]; exact if_neg h
theorem ok_law_pace {Γ : Wd} (T : Tx Γ) : FnE Γ 1 "_law_pace" [false, false, false] c_law_pace :=
  fnE_of T.d_law_pace sc_law_pace (by intro _ _ _ _ _ _ _ _ us hl; exact match us, hl with | [_, _, _], _ => rfl) T.bn rfl (tr_law_pace T) law_law_pace

/-- gone moment by moment -/
def stepSum (ps : List Int) (ms : List (Int × Int)) (b : Int) : Nat → Int
  | 0 => 0
  | k + 1 => stepSum ps ms b k + paceF ps ms (b + k)

theorem bareL_marks : ∀ ms : List (Int × Int), bareL (ms.map mkD) = true ∧ deepL (ms.map mkD) ≤ 1
  | [] => ⟨rfl, Nat.zero_le _⟩
  | m :: ms => by
    obtain ⟨a, b⟩ := bareL_marks ms
    refine ⟨?_, ?_⟩
    · show (bare (mkD m) && bareL (ms.map mkD)) = true
      rw [a]; rfl
    · show max (deepD (mkD m)) (deepL (ms.map mkD)) ≤ 1
      have : deepD (mkD m) = 1 := rfl
      omega
theorem shp_marks (ms : List (Int × Int)) : Shp (.lst (ms.map mkD)) := shp_of (bareL_marks ms).1 (by have := (bareL_marks ms).2; show deepL _ + 1 ≤ 64; omega)
def c_law_near : Con := fun svs Q _ => ∃ (n : Nat) (p : SV) (ms : List (Int × Int)) (back : Int), svs = [p, .d (.lst (ms.map mkD)), .d (.int back)] ∧ Pool n p ∧ n < 10 ^ 7 ∧ (∀ m ∈ ms, -(10 ^ 32) < m.1 ∧ m.1 < 10 ^ 32) ∧ ms.length ≤ 30 ∧ 0 < back ∧ back ≤ 1000 ∧
  ∀ z p', -(2 * 10 ^ 32) < z → z < 2 * 10 ^ 32 → Pool (n + 6) p' → Q (.d (.int z)) [p', .d (.lst (ms.map mkD)), .d (.int back)]
/-! _law_near: well 0, marks 1, back 2, way 3 -/
theorem sc_law_near : FnScope N_law_near ["well", "marks", "back"] (defScope st_law_near) := ⟨rfl, rfl, rfl, by decide +kernel, rfl, by decide +kernel, by decide +kernel⟩
abbrev w_law_near_1 : WS := wRetF (w2 kSub (w2 kAdd (w2 kIdx (w2 kIdx (wVar 1) (wCall [true, false] c_law_take (wCons (wRef 0) (wCons (wB kLen (wCons (wVar 1) (wNil))) (wNil))))) (wC (.int 0))) (wC (.int 3))) (wCall [true, false] c_law_take (wCons (wRef 0) (wCons (wVar 2) (wNil)))))
abbrev w_law_near_2 : WS := wSeq (wIf (wOrT (wTst (w2 kEq (wVar 1) (wLst (wNil)))) (wTst (w2 kEq (wVar 3) (wC (.int 0))))) (wRetF (wCall [true] c_law_number (wCons (wRef 0) (wNil)))) (wNext)) w_law_near_1
def w_law_near : WS :=
  wSeq (wAsg 3 (wCall [true, false] c_law_take (wCons (wRef 0) (wCons (wC (.int 3)) (wNil))))) w_law_near_2
theorem tr_law_near {Γ : Wd} (T : Tx Γ) (X : Cx) (C : Ctx Γ X N_law_near (defScope st_law_near) (fun _ => true) 2) (P : Own X) (dc : DefCx X) : SSs Γ [0] X (defBody st_law_near) w_law_near :=
  sss_cons (ss_asg C 3 (se_call C (FnE.mono (ok_law_take T) (by decide)) (sa_cons (se_ref C 0) (sa_cons (se_int) (sa_nil)))))
  (sss_cons (ss_if (SW.st (sw_or (st_eq C (se_var C 1) (se_lst (sa_nil))) (sw_or1 (st_eq C (se_var C 3) (se_int))))) (sss_one (ss_retF (se_call C (FnE.mono (ok_law_number T) (by decide)) (sa_cons (se_ref C 0) (sa_nil))))) (sss_nil))
  (sss_one (ss_retF (se_sub (se_add (se_idx C (fun _ _ => rfl) (se_idx C (fun _ _ => rfl) (se_var C 1) (se_call C (FnE.mono (ok_law_take T) (by decide)) (sa_cons (se_ref C 0) (sa_cons (se_len C (sa_cons (se_var C 1) (sa_nil))) (sa_nil))))) (se_int)) (se_int)) (se_call C (FnE.mono (ok_law_take T) (by decide)) (sa_cons (se_ref C 0) (sa_cons (se_var C 2) (sa_nil))))))))

theorem law_law_near : LawOf N_law_near [true, false, false] c_law_near w_law_near := by
  rintro svs Q E - ⟨n, p, ms, back, rfl, hp, hn, hb, hl, b0, b1, hq⟩
  ((conv => whnf); try dsimp only [List.set_cons_zero, List.set_cons_succ]); refine ⟨rfl, ?_⟩
  ((conv => whnf); try dsimp only [List.set_cons_zero, List.set_cons_succ]); refine ⟨n, _, _, rfl, hp, by omega, (by show (0 : Int) < _; decide), by decide, fun w p1 w0 w1 hp1 => ?_⟩
  ((conv => whnf); try dsimp only [List.set_cons_zero, List.set_cons_succ]); refine ⟨few3 (by show 0 ≤ 1000; decide), ?_⟩
  ((conv => whnf); try dsimp only [List.set_cons_zero, List.set_cons_succ]); refine ⟨⟨shp_marks ms, shp_of rfl (by decide)⟩, ?_⟩
  have nums : ∀ z : Int, -(10 ^ 30) < z → z < 10 ^ 30 → -(2 * 10 ^ 32) < z ∧ z < 2 * 10 ^ 32 := fun z a b => by omega
  refine Br.b (fun h => ?_) (fun h => ?_)
  · ((conv => whnf); try dsimp only [List.set_cons_zero, List.set_cons_succ]); refine Br.tt ?_
    ((conv => whnf); try dsimp only [List.set_cons_zero, List.set_cons_succ]); refine ⟨rfl, ?_⟩
    ((conv => whnf); try dsimp only [List.set_cons_zero, List.set_cons_succ]); refine ⟨n + 1, _, rfl, hp1, by omega, fun z p2 z0 z1 hp2 => ?_⟩
    ((conv => whnf); try dsimp only [List.set_cons_zero, List.set_cons_succ]); exact hq z p2 (nums z z0 z1).1 (nums z z0 z1).2 (hp2.mono (by omega))
  · have ne : 0 < ms.length := by
      have e : deq (.lst (ms.map mkD)) (.lst []) = false := h
      rw [deq_nil] at e
      cases ms with
      | nil => cases e
      | cons _ _ => simp
    ((conv => whnf); try dsimp only [List.set_cons_zero, List.set_cons_succ]); refine Br.of (fun hw => ?_) (fun hw => ?_)
    · ((conv => whnf); try dsimp only [List.set_cons_zero, List.set_cons_succ]); refine ⟨rfl, ?_⟩
      ((conv => whnf); try dsimp only [List.set_cons_zero, List.set_cons_succ]); refine ⟨n + 1, _, rfl, hp1, by omega, fun z p2 z0 z1 hp2 => ?_⟩
      ((conv => whnf); try dsimp only [List.set_cons_zero, List.set_cons_succ]); exact hq z p2 (nums z z0 z1).1 (nums z z0 z1).2 (hp2.mono (by omega))
    · have lenD : (ms.map mkD).length = ms.length := List.length_map ..
      ((conv => whnf); try dsimp only [List.set_cons_zero, List.set_cons_succ]); refine ⟨rfl, ?_⟩
      ((conv => whnf); try dsimp only [List.set_cons_zero, List.set_cons_succ]); refine ⟨n + 1, _, _, rfl, hp1, by omega, (by show (0 : Int) < ((ms.map mkD).length : Nat); omega), (by show (((ms.map mkD).length : Nat) : Int) < _; omega), fun i p2 i0 i1 hp2 => ?_⟩
      have i1' : i < ((ms.map mkD).length : Nat) := i1
      have hi : i.toNat < ms.length := by omega
      have e : (ms.map mkD)[i.toNat]? = some (mkD (ms[i.toNat]'hi)) := by rw [List.getElem?_map, List.getElem?_eq_getElem hi]; rfl
      ((conv => whnf); try dsimp only [List.set_cons_zero, List.set_cons_succ]); refine ⟨_, at_nat i0 e, ?_⟩
      ((conv => whnf); try dsimp only [List.set_cons_zero, List.set_cons_succ]); refine ⟨_, at0, ?_⟩
      ((conv => whnf); try dsimp only [List.set_cons_zero, List.set_cons_succ]); refine ⟨rfl, ?_⟩
      ((conv => whnf); try dsimp only [List.set_cons_zero, List.set_cons_succ]); refine ⟨n + 2, _, _, rfl, hp2, by omega, b0, by omega, fun r p3 r0 r1 hp3 => ?_⟩
      have bd := hb _ (List.getElem_mem hi)
      ((conv => whnf); try dsimp only [List.set_cons_zero, List.set_cons_succ]); exact hq _ p3 (by show _ < (ms[i.toNat]'hi).1 + 3 - r; omega) (by show (ms[i.toNat]'hi).1 + 3 - r < _; omega) (hp3.mono (by omega))
theorem ok_law_near {Γ : Wd} (T : Tx Γ) : FnE Γ 3 "_law_near" [true, false, false] c_law_near :=
  fnE_of T.d_law_near sc_law_near (by intro _ _ _ _ _ _ _ _ us hl; exact match us, hl with | [_, _, _], _ => rfl) T.bn rfl (tr_law_near T) law_law_near


def c_law_load : Con := fun svs Q _ => ∃ (n : Nat) (p : SV) (t : Int), svs = [p, .d (.int t)] ∧ Pool n p ∧ n < 10 ^ 7 ∧ 0 ≤ t ∧ t ≤ 100 ∧ ∀ z p', 0 ≤ z → z < 10 ^ 32 → Pool (n + 3) p' → Q (.d (.int z)) [p', .d (.int t)]
/-! _law_load: well 0, total 1, way 2 -/
theorem sc_law_load : FnScope N_law_load ["well", "total"] (defScope st_law_load) := ⟨rfl, rfl, rfl, by decide +kernel, rfl, by decide +kernel, by decide +kernel⟩
abbrev w_law_load_1 : WS := wRetF (w2 kAdd (w2 kMul (wCall [true, false] c_law_take (wCons (wRef 0) (wCons (w2 kPow (wC (.int 10)) (wC (.int 15))) (wNil)))) (w2 kPow (wC (.int 10)) (wC (.int 14)))) (wCall [true, false] c_law_take (wCons (wRef 0) (wCons (w2 kPow (wC (.int 10)) (wC (.int 14))) (wNil)))))
abbrev w_law_load_2 : WS := wSeq (wIf (wTst (w2 kEq (wVar 2) (wC (.int 1)))) (wRetF (wB kMax (wCons (wC (.int 0)) (wCons (w2 kSub (w2 kAdd (w2 kMul (wVar 1) (wCall [true, false] c_law_take (wCons (wRef 0) (wCons (wC (.int 25)) (wNil))))) (wCall [true, false] c_law_take (wCons (wRef 0) (wCons (wC (.int 3)) (wNil))))) (wC (.int 1))) (wNil))))) (wNext)) w_law_load_1
abbrev w_law_load_3 : WS := wSeq (wIf (wTst (w2 kEq (wVar 2) (wC (.int 0)))) (wRetF (wCall [true, false] c_law_take (wCons (wRef 0) (wCons (wC (.int 8)) (wNil))))) (wNext)) w_law_load_2
def w_law_load : WS :=
  wSeq (wAsg 2 (wCall [true, false] c_law_take (wCons (wRef 0) (wCons (wC (.int 3)) (wNil))))) w_law_load_3
theorem tr_law_load {Γ : Wd} (T : Tx Γ) (X : Cx) (C : Ctx Γ X N_law_load (defScope st_law_load) (fun _ => true) 1) (P : Own X) (dc : DefCx X) : SSs Γ [0] X (defBody st_law_load) w_law_load :=
  sss_cons (ss_asg C 2 (se_call C (FnE.mono (ok_law_take T) (by decide)) (sa_cons (se_ref C 0) (sa_cons (se_int) (sa_nil)))))
  (sss_cons (ss_if (st_eq C (se_var C 2) (se_int)) (sss_one (ss_retF (se_call C (FnE.mono (ok_law_take T) (by decide)) (sa_cons (se_ref C 0) (sa_cons (se_int) (sa_nil)))))) (sss_nil))
  (sss_cons (ss_if (st_eq C (se_var C 2) (se_int)) (sss_one (ss_retF (se_max C (sa_cons (se_int) (sa_cons (se_sub (se_add (se_mul (se_var C 1) (se_call C (FnE.mono (ok_law_take T) (by decide)) (sa_cons (se_ref C 0) (sa_cons (se_int) (sa_nil))))) (se_call C (FnE.mono (ok_law_take T) (by decide)) (sa_cons (se_ref C 0) (sa_cons (se_int) (sa_nil))))) (se_int)) (sa_nil)))))) (sss_nil))
  (sss_one (ss_retF (se_add (se_mul (se_call C (FnE.mono (ok_law_take T) (by decide)) (sa_cons (se_ref C 0) (sa_cons (se_pow (se_int) (se_int)) (sa_nil)))) (se_pow (se_int) (se_int))) (se_call C (FnE.mono (ok_law_take T) (by decide)) (sa_cons (se_ref C 0) (sa_cons (se_pow (se_int) (se_int)) (sa_nil)))))))))

theorem law_law_load : LawOf N_law_load [true, false] c_law_load w_law_load := by
  rintro svs Q E - ⟨n, p, t, rfl, hp, hn, t0, t1, hq⟩
  ((conv => whnf); try dsimp only [List.set_cons_zero, List.set_cons_succ]); refine ⟨rfl, ?_⟩
  ((conv => whnf); try dsimp only [List.set_cons_zero, List.set_cons_succ]); refine ⟨n, _, _, rfl, hp, by omega, (by show (0 : Int) < _; decide), by decide, fun w p1 w0 w1 hp1 => ?_⟩
  ((conv => whnf); try dsimp only [List.set_cons_zero, List.set_cons_succ]); refine Br.of (fun h => ?_) (fun h => ?_)
  · ((conv => whnf); try dsimp only [List.set_cons_zero, List.set_cons_succ]); refine ⟨rfl, ?_⟩
    ((conv => whnf); try dsimp only [List.set_cons_zero, List.set_cons_succ]); refine ⟨n + 1, _, _, rfl, hp1, by omega, (by show (0 : Int) < _; decide), by decide, fun r p2 r0 r1 hp2 => ?_⟩
    have r1' : r < 8 := r1
    ((conv => whnf); try dsimp only [List.set_cons_zero, List.set_cons_succ]); exact hq r p2 r0 (by omega) (hp2.mono (by omega))
  · ((conv => whnf); try dsimp only [List.set_cons_zero, List.set_cons_succ]); refine Br.of (fun h2 => ?_) (fun h2 => ?_)
    · ((conv => whnf); try dsimp only [List.set_cons_zero, List.set_cons_succ]); refine ⟨rfl, ?_⟩
      ((conv => whnf); try dsimp only [List.set_cons_zero, List.set_cons_succ]); refine ⟨n + 1, _, _, rfl, hp1, by omega, (by show (0 : Int) < _; decide), by decide, fun r p2 r0 r1 hp2 => ?_⟩
      have r1' : r < 25 := r1
      ((conv => whnf); try dsimp only [List.set_cons_zero, List.set_cons_succ]); refine ⟨cmr (by omega) (by omega), ?_⟩
      ((conv => whnf); try dsimp only [List.set_cons_zero, List.set_cons_succ]); refine ⟨rfl, ?_⟩
      ((conv => whnf); try dsimp only [List.set_cons_zero, List.set_cons_succ]); refine ⟨n + 2, _, _, rfl, hp2, by omega, (by show (0 : Int) < _; decide), by decide, fun r' p3 r0' r1' hp3 => ?_⟩
      have r2 : r' < 3 := r1'
      have tr : t * r ≤ 100 * 25 := Int.mul_le_mul t1 (by omega) r0 (by omega)
      ((conv => whnf); try dsimp only [List.set_cons_zero, List.set_cons_succ]); refine hq _ p3 ?_ ?_ hp3
      · split <;> omega
      · split <;> omega
    · ((conv => whnf); try dsimp only [List.set_cons_zero, List.set_cons_succ]); refine ⟨rfl, ?_⟩
      ((conv => whnf); try dsimp only [List.set_cons_zero, List.set_cons_succ]); refine ⟨cpw (by decide) (by decide) (by decide), ?_⟩
      ((conv => whnf); try dsimp only [List.set_cons_zero, List.set_cons_succ]); refine ⟨n + 1, _, _, rfl, hp1, by omega, by decide, by decide, fun r p2 r0 r1 hp2 => ?_⟩
      have r1' : r < 10 ^ 15 := r1
      ((conv => whnf); try dsimp only [List.set_cons_zero, List.set_cons_succ]); refine ⟨cpw (by decide) (by decide) (by decide), ?_⟩
      ((conv => whnf); try dsimp only [List.set_cons_zero, List.set_cons_succ]); refine ⟨cmr (by decide) (by decide), ?_⟩
      ((conv => whnf); try dsimp only [List.set_cons_zero, List.set_cons_succ]); refine ⟨rfl, ?_⟩
      ((conv => whnf); try dsimp only [List.set_cons_zero, List.set_cons_succ]); refine ⟨cpw (by decide) (by decide) (by decide), ?_⟩
      ((conv => whnf); try dsimp only [List.set_cons_zero, List.set_cons_succ]); refine ⟨n + 2, _, _, rfl, hp2, by omega, by decide, by decide, fun r' p3 r0' r1' hp3 => ?_⟩
      have r2 : r' < 10 ^ 14 := r1'
      ((conv => whnf); try dsimp only [List.set_cons_zero, List.set_cons_succ]); exact hq _ p3 (by show 0 ≤ r * 10 ^ 14 + r'; omega) (by show r * 10 ^ 14 + r' < 10 ^ 32; omega) hp3
theorem ok_law_load {Γ : Wd} (T : Tx Γ) : FnE Γ 2 "_law_load" [true, false] c_law_load :=
  fnE_of T.d_law_load sc_law_load (by intro _ _ _ _ _ _ _ _ us hl; exact match us, hl with | [_, _], _ => rfl) T.bn rfl (tr_law_load T) law_law_load


def c_check_speeds : Con := fun svs Q _ => ∃ ps : List Int, svs = [.d (.lst (ps.map D.int))] ∧ Week ps ∧ 1 ≤ ps.length ∧ ps.length ≤ 12 ∧ Q (.d .non) svs
/-! check_speeds: speeds 0, index 1, speed 2 -/
theorem sc_check_speeds : FnScope N_check_speeds ["speeds"] (defScope st_check_speeds) := ⟨rfl, rfl, rfl, by decide +kernel, rfl, by decide +kernel, by decide +kernel⟩
abbrev w_check_speeds_1 : WS := wIf (wNotT (wTst (wChain gLe gLe (wC (.int 0)) (wVar 2) (wC (.int 3))))) (wBad) (wNext)
abbrev w_check_speeds_2 : WS := wIf (wTst (w2 kEq (wB kMax (wCons (wVar 0) (wNil))) (wC (.int 0)))) (wBad) (wNext)
abbrev w_check_speeds_3 : WS := wSeq (wFor (wEnum (wCons (wVar 0) (wNil))) (gTp 2 (gsCons (gNm 1) (gsCons (gNm 2) (gsNil)))) w_check_speeds_1) w_check_speeds_2
def w_check_speeds : WS :=
  wSeq (wIf (wNotT (wTst (wChain gLe gLe (wC (.int 1)) (wB kLen (wCons (wVar 0) (wNil))) (wC (.int 12))))) (wBad) (wNext)) w_check_speeds_3
theorem tr_check_speeds {Γ : Wd} (T : Tx Γ) (X : Cx) (C : Ctx Γ X N_check_speeds (defScope st_check_speeds) (fun _ => true) 0) (P : Own X) (dc : DefCx X) : SSs Γ [] X (defBody st_check_speeds) w_check_speeds :=
  sss_cons (ss_if (st_not (st_chain op_leB op_leB (se_int) (se_len C (sa_cons (se_var C 0) (sa_nil))) (se_gintE C rfl T.c_LONGEST_WEEK))) (sss_one (ss_bad)) (sss_nil))
  (sss_cons (ss_for C P (is := [1, 2]) (si_enum C (sa_cons (se_var C 0) (sa_nil))) (sg_tup C (sgs_cons (sg_name C 1) (sgs_cons (sg_name C 2) (sgs_nil)))) (sss_one (ss_if (st_not (st_chain op_leB op_leB (se_int) (se_var C 2) (se_gintE C rfl T.c_FASTEST))) (sss_one (ss_bad)) (sss_nil))))
  (sss_one (ss_if (st_eq C (se_max C (sa_cons (se_var C 0) (sa_nil))) (se_int)) (sss_one (ss_bad)) (sss_nil))))

theorem Br.falseN {b : Bool} {A B : Prop} (e : b = false) (h : B) : Br b A B := by subst e; exact Br.ff h
theorem law_check_speeds : LawOf N_check_speeds [false] c_check_speeds w_check_speeds := by
  rintro svs Q E - ⟨ps, rfl, wk, l1, l2, hq⟩
  ((conv => whnf); try dsimp only [List.set_cons_zero, List.set_cons_succ])
  have hl : (ps.map D.int).length = ps.length := List.length_map ..
  have a : ((1 : Int) ≤ ((ps.map D.int).length : Int)) := by rw [hl]; omega
  have b : (((ps.map D.int).length : Int) ≤ 12) := by rw [hl]; omega
  refine Br.of (fun _ => ?_) (fun h => absurd a h)
  ((conv => whnf); try dsimp only [List.set_cons_zero, List.set_cons_succ]); refine Br.ofN (fun h => absurd b h) (fun _ => ?_)
  · ((conv => whnf); try dsimp only [List.set_cons_zero, List.set_cons_succ])
    refine forL_ind (fun ds ρ => ∃ (i : Nat) (rs : List Int) (x y : Option SV), ds = enD i (rs.map D.int) ∧ (∀ z ∈ rs, 0 ≤ z ∧ z ≤ 3) ∧ ρ = [some (.d (.lst (ps.map D.int))), x, y]) ?_ ?_ _ _ ⟨0, ps, none, none, rfl, wk.bd, rfl⟩
    · rintro ρ ⟨i, rs, x, y, e, bd, rfl⟩
      ((conv => whnf); try dsimp only [List.set_cons_zero, List.set_cons_succ]); refine ⟨ps, rfl, l1, fun m hm mx => ?_⟩
      ((conv => whnf); try dsimp only [List.set_cons_zero, List.set_cons_succ]); refine Br.of (fun h => ?_) (fun _ => ?_)
      · exfalso
        obtain ⟨z, hz, z0⟩ := wk.pos
        have := mx z hz
        have h' : m = 0 := h
        omega
      · ((conv => whnf); try dsimp only [List.set_cons_zero, List.set_cons_succ]); exact hq
    · rintro d ds ρ ⟨i, rs, x, y, e, bd, rfl⟩ ih
      cases rs with
      | nil => cases e
      | cons r rs =>
        cases e
        have hr := bd r (by simp)
        ((conv => whnf); try dsimp only [List.set_cons_zero, List.set_cons_succ]); refine ⟨rfl, ?_⟩
        ((conv => whnf); try dsimp only [List.set_cons_zero, List.set_cons_succ]); refine Br.of (fun _ => ?_) (fun h => absurd hr.1 h)
        ((conv => whnf); try dsimp only [List.set_cons_zero, List.set_cons_succ]); refine Br.ofN (fun h => absurd hr.2 h) (fun _ => ?_)
        · refine ⟨_, Fgt.refl _, ih _ ⟨i + 1, rs, some (.d (.int i)), some (.d (.int r)), rfl, fun z hz => bd z (by simp [hz]), rfl⟩⟩
theorem ok_check_speeds {Γ : Wd} (T : Tx Γ) : FnE Γ 1 "check_speeds" [false] c_check_speeds :=
  fnE_of T.d_check_speeds sc_check_speeds (by intro _ _ _ _ _ _ _ _ us hl; exact match us, hl with | [_], _ => rfl) T.bn rfl (tr_check_speeds T) law_check_speeds

def c_check_changes : Con := fun svs Q _ => ∃ ms : List (Int × Int), svs = [.d (.lst (ms.map mkD))] ∧ Marks ms ∧ Q (.d .non) svs
/-! check_changes: changes 0, index 1, moment 2, speed 3 -/
theorem sc_check_changes : FnScope N_check_changes ["changes"] (defScope st_check_changes) := ⟨rfl, rfl, rfl, by decide +kernel, rfl, by decide +kernel, by decide +kernel⟩
abbrev w_check_changes_1 : WS := wIf (wAndT (wTst (w2 kGt (wVar 1) (wC (.int 0)))) (wTst (w2 kLe (wVar 2) (w2 kIdx (w2 kIdx (wVar 0) (w2 kSub (wVar 1) (wC (.int 1)))) (wC (.int 0)))))) (wBad) (wNext)
abbrev w_check_changes_2 : WS := wSeq (wIf (wNotT (wTst (wChain gLe gLe (wC (.int 0)) (wVar 3) (wC (.int 3))))) (wBad) (wNext)) w_check_changes_1
def w_check_changes : WS :=
  wFor (wEnum (wCons (wVar 0) (wNil))) (gTp 2 (gsCons (gNm 1) (gsCons (gTp 2 (gsCons (gNm 2) (gsCons (gNm 3) (gsNil)))) (gsNil)))) w_check_changes_2
theorem tr_check_changes {Γ : Wd} (T : Tx Γ) (X : Cx) (C : Ctx Γ X N_check_changes (defScope st_check_changes) (fun _ => true) 0) (P : Own X) (dc : DefCx X) : SSs Γ [] X (defBody st_check_changes) w_check_changes :=
  sss_one (ss_for C P (is := [1, 2, 3]) (si_enum C (sa_cons (se_var C 0) (sa_nil))) (sg_tup C (sgs_cons (sg_name C 1) (sgs_cons (sg_tup C (sgs_cons (sg_name C 2) (sgs_cons (sg_name C 3) (sgs_nil)))) (sgs_nil)))) (sss_cons (ss_if (st_not (st_chain op_leB op_leB (se_int) (se_var C 3) (se_gintE C rfl T.c_FASTEST))) (sss_one (ss_bad)) (sss_nil))
  (sss_one (ss_if (SW.st (sw_and (st_gt  (se_var C 1) (se_int)) (sw_and1 (st_le  (se_var C 2) (se_idx C (fun _ _ => rfl) (se_idx C (fun _ _ => rfl) (se_var C 0) (se_sub (se_var C 1) (se_int))) (se_int)))))) (sss_one (ss_bad)) (sss_nil)))))

theorem law_check_changes : LawOf N_check_changes [false] c_check_changes w_check_changes := by
  rintro svs Q E - ⟨ms, rfl, mk, hq⟩
  ((conv => whnf); try dsimp only [List.set_cons_zero, List.set_cons_succ])
  refine forL_ind (fun ds ρ => ∃ (as rs : List (Int × Int)) (x y z : Option SV), ms = as ++ rs ∧ ds = enD as.length (rs.map mkD) ∧ ρ = [some (.d (.lst (ms.map mkD))), x, y, z]) ?_ ?_ _ _ ⟨[], ms, none, none, none, rfl, rfl, rfl⟩
  · rintro ρ ⟨as, rs, x, y, z, e, e2, rfl⟩
    ((conv => whnf); try dsimp only [List.set_cons_zero, List.set_cons_succ]); exact hq
  · rintro d ds ρ ⟨as, rs, x, y, z, e, e2, rfl⟩ ih
    cases rs with
    | nil => cases e2
    | cons r rs =>
      cases e2
      have hr := mk.bd r (by rw [e]; simp)
      ((conv => whnf); try dsimp only [List.set_cons_zero, List.set_cons_succ]); refine ⟨rfl, ?_⟩
      ((conv => whnf); try dsimp only [List.set_cons_zero, List.set_cons_succ]); refine ⟨rfl, ?_⟩
      ((conv => whnf); try dsimp only [List.set_cons_zero, List.set_cons_succ]); refine Br.of (fun _ => ?_) (fun h => absurd hr.1 h)
      ((conv => whnf); try dsimp only [List.set_cons_zero, List.set_cons_succ]); refine Br.ofN (fun h => absurd hr.2 h) (fun _ => ?_)
      · have done : forL (gTp 2 (gsCons (gNm 1) (gsCons (gTp 2 (gsCons (gNm 2) (gsCons (gNm 3) gsNil))) gsNil))) w_check_changes_2 (enD (as.length + 1) (rs.map mkD)) [some (.d (.lst (ms.map mkD))), some (.d (.int as.length)), some (.d (.int r.1)), some (.d (.int r.2))] (endsOf [false] [.d (.lst (ms.map mkD))] Q) (errsOf [false] [.d (.lst (ms.map mkD))] E) :=
          ih _ ⟨as ++ [r], rs, _, _, _, by rw [e]; simp, by simp, rfl⟩
        ((conv => whnf); try dsimp only [List.set_cons_zero, List.set_cons_succ]); refine Br.of (fun h => ?_) (fun h => ?_)
        · have h0 : (0 : Int) < as.length := h
          have hi : as.length - 1 < as.length := by omega
          have q : atI (ms.map mkD) ((as.length : Int) - 1) = some (mkD (as[as.length - 1]'hi)) := by
            refine at_nat (by omega) ?_
            rw [show ((as.length : Int) - 1).toNat = as.length - 1 by omega, e, List.map_append, List.getElem?_append_left (by simp; omega), List.getElem?_map, List.getElem?_eq_getElem hi]
            rfl
          ((conv => whnf); try dsimp only [List.set_cons_zero, List.set_cons_succ]); refine ⟨_, q, ?_⟩
          ((conv => whnf); try dsimp only [List.set_cons_zero, List.set_cons_succ]); refine ⟨_, at0, ?_⟩
          ((conv => whnf); try dsimp only [List.set_cons_zero, List.set_cons_succ]); refine Br.of (fun h2 => ?_) (fun _ => ?_)
          · exfalso
            have h2' : r.1 ≤ (as[as.length - 1]'hi).1 := h2
            have up := mk.up
            rw [e] at up
            have := (List.pairwise_append.mp up).2.2 _ (List.getElem_mem hi) r (by simp)
            omega
          · exact ⟨_, Fgt.refl _, done⟩
        · ((conv => whnf); try dsimp only [List.set_cons_zero, List.set_cons_succ]); exact Br.ff ⟨_, Fgt.refl _, done⟩
theorem ok_check_changes {Γ : Wd} (T : Tx Γ) : FnE Γ 1 "check_changes" [false] c_check_changes :=
  fnE_of T.d_check_changes sc_check_changes (by intro _ _ _ _ _ _ _ _ us hl; exact match us, hl with | [_], _ => rfl) T.bn rfl (tr_check_changes T) law_check_changes

/-- the changes that change something -/
def realOf (ps : List Int) (ms : List (Int × Int)) : List (Int × Int) := ms.filter fun m => !decide (paceF ps [] m.1 = m.2)
theorem paceF_real {ps : List Int} {a : Int} : ∀ {ms : List (Int × Int)}, (ms.Pairwise fun x y => x.1 < y.1) → paceF ps (realOf ps ms) a = paceF ps ms a
  | [], _ => rfl
  | m :: ms, h => by
    have ih := paceF_real (ps := ps) (a := a) (List.pairwise_cons.mp h).2
    have skip : ∀ (rs : List (Int × Int)), (∀ r ∈ rs, m.1 < r.1) → m.1 = a → paceF ps rs a = paceF ps [] a := fun rs => by
      induction rs with
      | nil => intro _ _; rfl
      | cons r rs ih2 =>
        intro h1 h2
        have := h1 r (by simp)
        show (if r.1 = a then r.2 else paceF ps rs a) = _
        rw [if_neg (by omega)]
        exact ih2 (fun r hr => h1 r (by simp [hr])) h2
    show paceF ps (List.filter _ (m :: ms)) a = if m.1 = a then m.2 else paceF ps ms a
    rw [List.filter_cons]
    by_cases hk : paceF ps [] m.1 = m.2
    · rw [if_neg (by simp [hk])]
      by_cases e : m.1 = a
      · rw [if_pos e, show List.filter _ ms = realOf ps ms from rfl, ih, skip ms (fun r hr => (List.pairwise_cons.mp h).1 r hr) e, ← hk, e]
      · rw [if_neg e]; exact ih
    · rw [if_pos (by simp [hk])]
      show (if m.1 = a then m.2 else paceF ps (realOf ps ms) a) = _
      rw [ih]
def calD (ps : List Int) (ms : List (Int × Int)) : D := .obj 0 [.tup (ps.map D.int), .tup ((realOf ps ms).map mkD)]
def c_Calendar_init : Con := fun svs Q _ => ∃ (ps : List Int) (ms : List (Int × Int)), svs = [.ins 0 [], .d (.lst (ps.map D.int)), .d (.lst (ms.map mkD))] ∧ Week ps ∧ 1 ≤ ps.length ∧ ps.length ≤ 12 ∧ Marks ms ∧ ms.length ≤ 1000 ∧
  Q (.d .non) [.ins 0 ([.tup (ps.map D.int), .tup ((realOf ps ms).map mkD)].map SV.d), .d (.lst (ps.map D.int)), .d (.lst (ms.map mkD))]
/-! Calendar.__init__: self 0, speeds 1, changes 2, at 3, speed 4 -/
theorem sc_Calendar_init : FnScope N_Calendar_init ["self", "speeds", "changes"] (defScope st_Calendar_init) := ⟨rfl, rfl, rfl, by decide +kernel, rfl, by decide +kernel, by decide +kernel⟩
abbrev w_Calendar_init_1 : WS := wFldS 0 0 1 (wB kTuple (wCons (wLc (wIt (wVar 2)) (gTp 2 (gsCons (gNm 3) (gsCons (gNm 4) (gsNil)))) (wTst (w2 kNe (w2 kIdx (wVar 1) (w2 kMod (wVar 3) (wB kLen (wCons (wVar 1) (wNil))))) (wVar 4))) (wTup (wCons (wVar 3) (wCons (wVar 4) (wNil)))) [3, 4]) (wNil)))
abbrev w_Calendar_init_2 : WS := wSeq (wFldS 0 0 0 (wB kTuple (wCons (wVar 1) (wNil)))) w_Calendar_init_1
abbrev w_Calendar_init_3 : WS := wSeq (wExp (wCall [false] c_check_changes (wCons (wVar 2) (wNil)))) w_Calendar_init_2
def w_Calendar_init : WS :=
  wSeq (wExp (wCall [false] c_check_speeds (wCons (wVar 1) (wNil)))) w_Calendar_init_3
theorem tr_Calendar_init {Γ : Wd} (T : Tx Γ) (X : Cx) (C : Ctx Γ X N_Calendar_init (defScope st_Calendar_init) (fun _ => true) 1) (P : Own X) (dc : DefCx X) : SSs Γ [0] X (defBody st_Calendar_init) w_Calendar_init :=
  sss_cons (ss_exp (se_call C (FnE.mono (ok_check_speeds T) (by decide)) (sa_cons (se_var C 1) (sa_nil))))
  (sss_cons (ss_exp (se_call C (FnE.mono (ok_check_changes T) (by decide)) (sa_cons (se_var C 2) (sa_nil))))
  (sss_cons (ss_flds C 0 T.K_0 (by rw [T.F_0]; rfl) (se_tuplec C (sa_cons (se_var C 1) (sa_nil))))
  (sss_one (ss_flds C 0 T.K_0 (by rw [T.F_0]; rfl) (se_tuplec C (sa_cons (se_lc C (own := [("at", 3), ("speed", 4)]) (is := [3, 4]) (by decide +kernel) (by decide +kernel) (si_seq (se_var C 2)) (fun _ hX => sg_tup hX.1 (sgs_cons (sg_name hX.1 3) (sgs_cons (sg_name hX.1 4) (sgs_nil)))) (fun _ hX => sts_one (st_ne hX.1 (se_idx hX.1 (fun _ _ => rfl) (se_var hX.1 1) (se_mod (se_var hX.1 3) (se_len hX.1 (sa_cons (se_var hX.1 1) (sa_nil))))) (se_var hX.1 4))) (fun _ hX => se_tup (sa_cons (se_var hX.1 3) (sa_cons (se_var hX.1 4) (sa_nil))))) (sa_nil)))))))

theorem law_Calendar_init : LawOf N_Calendar_init [true, false, false] c_Calendar_init w_Calendar_init := by
  rintro svs Q E - ⟨ps, ms, rfl, wk, l1, l2, mk, hm, hq⟩
  ((conv => whnf); try dsimp only [List.set_cons_zero, List.set_cons_succ]); refine ⟨ps, rfl, wk, l1, l2, ?_⟩
  ((conv => whnf); try dsimp only [List.set_cons_zero, List.set_cons_succ]); refine ⟨ms, rfl, mk, ?_⟩
  ((conv => whnf); try dsimp only [List.set_cons_zero, List.set_cons_succ]); refine ⟨rfl, ?_⟩
  ((conv => whnf); try dsimp only [List.set_cons_zero, List.set_cons_succ]); refine ⟨.inl rfl, ?_⟩
  ((conv => whnf); try dsimp only [List.set_cons_zero, List.set_cons_succ])
  refine compL_ind (fun ds acc ρ => ∃ (as rs : List (Int × Int)), ms = as ++ rs ∧ ds = rs.map mkD ∧ acc = (realOf ps as).map mkD ∧ ρ = [some (.ins 0 [.d (.tup (ps.map D.int))]), some (.d (.lst (ps.map D.int))), some (.d (.lst (ms.map mkD))), none, none]) ?_ ?_ _ _ _ ⟨[], ms, rfl, rfl, rfl, rfl⟩
  · rintro acc ρ ⟨as, rs, e, e2, rfl, rfl⟩
    obtain rfl : rs = [] := by cases rs with
      | nil => rfl
      | cons _ _ => cases e2
    rw [List.append_nil] at e
    subst e
    ((conv => whnf); try dsimp only [List.set_cons_zero, List.set_cons_succ]); refine ⟨rfl, ?_⟩
    ((conv => whnf); try dsimp only [List.set_cons_zero, List.set_cons_succ]); refine ⟨.inl rfl, ?_⟩
    ((conv => whnf); try dsimp only [List.set_cons_zero, List.set_cons_succ]); exact hq
  · rintro d ds acc ρ ⟨as, rs, e, e2, rfl, rfl⟩ ih
    cases rs with
    | nil => cases e2
    | cons r rs =>
      cases e2
      have k := at_week (show 0 < ps.length by omega) r.1
      have lenD : (((ps.map D.int).length : Nat) : Int) = ps.length := by rw [List.length_map]
      have la : (realOf ps as).length ≤ as.length := List.length_filter_le _ _
      have lm : as.length ≤ ms.length := by rw [e]; simp
      ((conv => whnf); try dsimp only [List.set_cons_zero, List.set_cons_succ]); refine ⟨rfl, ?_⟩
      ((conv => whnf); try dsimp only [List.set_cons_zero, List.set_cons_succ]); refine ⟨by show (0 : Int) < ((ps.map D.int).length : Nat); omega, ?_⟩
      ((conv => whnf); try dsimp only [List.set_cons_zero, List.set_cons_succ]); refine ⟨_, (by rw [← lenD] at k; exact k), ?_⟩
      ((conv => whnf); try dsimp only [List.set_cons_zero, List.set_cons_succ]); refine Br.ofN (fun h => ?_) (fun h => ?_)
      · ((conv => whnf); try dsimp only [List.set_cons_zero, List.set_cons_succ]); refine ⟨few3 (by show 2 ≤ 1000; decide), ?_⟩
        ((conv => whnf); try dsimp only [List.set_cons_zero, List.set_cons_succ]); refine ⟨by rw [List.length_map]; omega, ?_⟩
        refine ih _ _ ⟨as ++ [r], rs, by rw [e]; simp, rfl, ?_, rfl⟩
        have h' : ¬ paceF ps [] r.1 = r.2 := h
        unfold realOf
        rw [List.filter_append, List.filter_cons, if_pos (by simp [h']), List.map_append]
        rfl
      · refine ih _ _ ⟨as ++ [r], rs, by rw [e]; simp, rfl, ?_, rfl⟩
        have h' : paceF ps [] r.1 = r.2 := h
        unfold realOf
        rw [List.filter_append, List.filter_cons, if_neg (by simp [h']), List.map_append]
        simp
theorem ok_Calendar_init {Γ : Wd} (T : Tx Γ) : MkE Γ 2 0 "Calendar" [false, false] c_Calendar_init :=
  mkE_of T.d_Calendar_init sc_Calendar_init (by intro _ _ _ _ _ _ _ _ us hl; exact match us, hl with | [_, _, _], _ => rfl) T.bn rfl (tr_Calendar_init T) law_Calendar_init


/-! the sums of a week's speeds, plain -/
def weekSum (ps : List Int) (b e : Int) : Int := (e / ps.length - b / ps.length) * ps.sum + (ps.take (e % ps.length).toNat).sum - (ps.take (b % ps.length).toNat).sum
theorem take_sum_succ {ps : List Int} {r : Nat} (h : r < ps.length) : (ps.take (r + 1)).sum = (ps.take r).sum + ps[r] := by
  rw [List.take_succ_eq_append_getElem h, List.sum_append]
  simp
theorem weekSum_succ {ps : List Int} (h : 0 < ps.length) (b e : Int) : weekSum ps b (e + 1) = weekSum ps b e + paceF ps [] e := by
  have hn : (0 : Int) < ps.length := by omega
  have r0 := Int.emod_nonneg e (show (ps.length : Int) ≠ 0 by omega)
  have r1 := Int.emod_lt_of_pos e hn
  have q := Int.mul_ediv_add_emod e ps.length
  have hr : (e % (ps.length : Int)).toNat < ps.length := by omega
  have pf : paceF ps [] e = ps[(e % (ps.length : Int)).toNat]'hr := by
    unfold paceF
    rw [List.getElem?_eq_getElem hr]; rfl
  have ts := take_sum_succ hr
  by_cases c : e % (ps.length : Int) + 1 < ps.length
  · obtain ⟨d1, d2⟩ := (Int.ediv_emod_unique (a := e + 1) (r := e % ps.length + 1) (q := e / ps.length) hn).mpr ⟨by omega, by omega, c⟩
    unfold weekSum
    rw [d1, d2, show (e % (ps.length : Int) + 1).toNat = (e % (ps.length : Int)).toNat + 1 by omega, ts, pf]
    omega
  · have e1 : e % (ps.length : Int) + 1 = ps.length := by omega
    obtain ⟨d1, d2⟩ := (Int.ediv_emod_unique (a := e + 1) (r := 0) (q := e / ps.length + 1) hn).mpr ⟨by rw [Int.mul_add]; omega, by omega, hn⟩
    have full : (ps.take ((e % (ps.length : Int)).toNat + 1)).sum = ps.sum := by rw [List.take_of_length_le (by omega)]
    rw [full] at ts
    unfold weekSum
    rw [d1, d2, pf]
    have ex : (e / (ps.length : Int) + 1 - b / ps.length) * ps.sum = (e / ps.length - b / ps.length) * ps.sum + ps.sum := by
      rw [show e / (ps.length : Int) + 1 - b / ps.length = (e / ps.length - b / ps.length) + 1 by omega, Int.add_mul]
      omega
    rw [ex]
    show _ + (ps.take 0).sum - _ = _
    rw [List.take_zero]
    show _ + 0 - _ = _
    omega
def adjS (ps : List Int) : List (Int × Int) → Int → Int → Int
  | [], _, _ => 0
  | m :: rs, b, e => (if b ≤ m.1 ∧ m.1 < e then m.2 - paceF ps [] m.1 else 0) + adjS ps rs b e
theorem adjS_none {ps : List Int} {b e : Int} : ∀ {rs : List (Int × Int)}, (∀ m ∈ rs, ¬ (b ≤ m.1 ∧ m.1 < e)) → adjS ps rs b e = 0
  | [], _ => rfl
  | m :: rs, h => by
    show (if _ then _ else _) + adjS ps rs b e = 0
    rw [if_neg (h m (by simp)), adjS_none fun r hr => h r (by simp [hr])]
    rfl
theorem paceF_none {ps : List Int} {a : Int} : ∀ {rs : List (Int × Int)}, (∀ m ∈ rs, m.1 ≠ a) → paceF ps rs a = paceF ps [] a
  | [], _ => rfl
  | m :: rs, h => by
    show (if m.1 = a then m.2 else paceF ps rs a) = _
    rw [if_neg (h m (by simp)), paceF_none fun r hr => h r (by simp [hr])]
theorem adjS_succ {ps : List Int} {b e : Int} (hb : b ≤ e) : ∀ {rs : List (Int × Int)}, (rs.Pairwise fun x y => x.1 < y.1) → adjS ps rs b (e + 1) = adjS ps rs b e + (paceF ps rs e - paceF ps [] e)
  | [], _ => by show (0 : Int) = 0 + (paceF ps [] e - paceF ps [] e); omega
  | m :: rs, h => by
    obtain ⟨h1, h2⟩ := List.pairwise_cons.mp h
    show (if b ≤ m.1 ∧ m.1 < e + 1 then m.2 - paceF ps [] m.1 else 0) + adjS ps rs b (e + 1) = (if b ≤ m.1 ∧ m.1 < e then m.2 - paceF ps [] m.1 else 0) + adjS ps rs b e + ((if m.1 = e then m.2 else paceF ps rs e) - paceF ps [] e)
    have ih := adjS_succ (ps := ps) hb h2
    by_cases c : m.1 = e
    · rw [if_pos (by omega), if_neg (by omega), if_pos c, adjS_none (e := e + 1) (fun r hr => by have := h1 r hr; omega), adjS_none (e := e) (fun r hr => by have := h1 r hr; omega), c]
      omega
    · rw [if_neg c]
      by_cases d : b ≤ m.1 ∧ m.1 < e
      · rw [if_pos (by omega), if_pos d, ih]; omega
      · rw [if_neg (by omega), if_neg d, ih]; omega
theorem work_steps {ps : List Int} (h : 0 < ps.length) {rs : List (Int × Int)} (up : rs.Pairwise fun x y => x.1 < y.1) (b : Int) : ∀ k : Nat, weekSum ps b (b + k) + adjS ps rs b (b + k) = stepSum ps rs b k
  | 0 => by
    have : adjS ps rs b (b + (0 : Nat)) = 0 := adjS_none fun m _ => by omega
    rw [this, show b + ((0 : Nat) : Int) = b by omega]
    unfold weekSum stepSum
    rw [Int.sub_self, Int.zero_mul]
    omega
  | k + 1 => by
    have ih := work_steps h up b k
    have e : b + ((k + 1 : Nat) : Int) = (b + k) + 1 := by omega
    rw [e, weekSum_succ h, adjS_succ (by omega) up]
    show _ = stepSum ps rs b k + paceF ps rs (b + k)
    omega
theorem stepSum_real {ps : List Int} {ms : List (Int × Int)} (mk : Marks ms) (b : Int) : ∀ k : Nat, stepSum ps (realOf ps ms) b k = stepSum ps ms b k
  | 0 => rfl
  | k + 1 => by
    show stepSum ps (realOf ps ms) b k + paceF ps (realOf ps ms) (b + k) = _
    rw [stepSum_real mk b k, paceF_real mk.up]; rfl
theorem real_up {ps : List Int} {ms : List (Int × Int)} (mk : Marks ms) : (realOf ps ms).Pairwise fun x y => x.1 < y.1 := mk.up.filter _
theorem cut_take {ps : List Int} {r : Int} (h0 : 0 ≤ r) (h1 : r < ps.length) : cutL (ps.map D.int) none (some r) = (ps.take r.toNat).map D.int := by
  unfold cutL
  have e : HT.sIx (ps.map D.int).length (ps.map D.int).length (some r) = r.toNat := by
    show (if r < 0 then _ else min r.toNat (ps.map D.int).length) = _
    rw [if_neg (by omega), List.length_map]; omega
  rw [e]
  show List.take (r.toNat - 0) (List.drop 0 (ps.map D.int)) = _
  rw [List.drop_zero, Nat.sub_zero, ← List.map_take]
def c_Calendar_speeds : Con := fun svs Q _ => ∃ (ps : List Int) (ms : List (Int × Int)), svs = [.d (calD ps ms)] ∧ Q (.lst (ps.map D.int)) svs
/-! Calendar.speeds: self 0 -/
theorem sc_Calendar_speeds : FnScope N_Calendar_speeds ["self"] (defScope st_Calendar_speeds) := ⟨rfl, rfl, rfl, by decide +kernel, rfl, by decide +kernel, by decide +kernel⟩
def w_Calendar_speeds : WS :=
  wRet (wB kList (wCons (wFld 0 0 (wVar 0)) (wNil)))
theorem tr_Calendar_speeds {Γ : Wd} (T : Tx Γ) (X : Cx) (C : Ctx Γ X N_Calendar_speeds (defScope st_Calendar_speeds) (fun _ => true) 0) (P : Own X) (dc : DefCx X) : SSs Γ [] X (defBody st_Calendar_speeds) w_Calendar_speeds :=
  sss_one (ss_ret (se_listc C (sa_cons (se_fld C T.K_0 (by rw [T.F_0]; rfl) (se_var C 0)) (sa_nil))))

theorem law_Calendar_speeds : LawOf N_Calendar_speeds [false] c_Calendar_speeds w_Calendar_speeds := by
  rintro svs Q E - ⟨ps, ms, rfl, hq⟩
  ((conv => whnf); try dsimp only [List.set_cons_zero, List.set_cons_succ]); refine ⟨rfl, ?_⟩
  ((conv => whnf); try dsimp only [List.set_cons_zero, List.set_cons_succ]); exact hq
theorem ok_Calendar_speeds {Γ : Wd} (T : Tx Γ) : PrE Γ 1 0 "speeds" [false] c_Calendar_speeds :=
  prE_of T.d_Calendar_speeds sc_Calendar_speeds (by intro _ _ _ _ _ _ _ _ us hl; exact match us, hl with | [_], _ => rfl) T.bn rfl (tr_Calendar_speeds T) law_Calendar_speeds

def c_Calendar_changes : Con := fun svs Q _ => ∃ (ps : List Int) (ms : List (Int × Int)), svs = [.d (calD ps ms)] ∧ Q (.lst ((realOf ps ms).map mkD)) svs
/-! Calendar.changes: self 0 -/
theorem sc_Calendar_changes : FnScope N_Calendar_changes ["self"] (defScope st_Calendar_changes) := ⟨rfl, rfl, rfl, by decide +kernel, rfl, by decide +kernel, by decide +kernel⟩
def w_Calendar_changes : WS :=
  wRet (wB kList (wCons (wFld 0 1 (wVar 0)) (wNil)))
theorem tr_Calendar_changes {Γ : Wd} (T : Tx Γ) (X : Cx) (C : Ctx Γ X N_Calendar_changes (defScope st_Calendar_changes) (fun _ => true) 0) (P : Own X) (dc : DefCx X) : SSs Γ [] X (defBody st_Calendar_changes) w_Calendar_changes :=
  sss_one (ss_ret (se_listc C (sa_cons (se_fld C T.K_0 (by rw [T.F_0]; rfl) (se_var C 0)) (sa_nil))))

theorem law_Calendar_changes : LawOf N_Calendar_changes [false] c_Calendar_changes w_Calendar_changes := by
  rintro svs Q E - ⟨ps, ms, rfl, hq⟩
  ((conv => whnf); try dsimp only [List.set_cons_zero, List.set_cons_succ]); refine ⟨rfl, ?_⟩
  ((conv => whnf); try dsimp only [List.set_cons_zero, List.set_cons_succ]); exact hq
theorem ok_Calendar_changes {Γ : Wd} (T : Tx Γ) : PrE Γ 1 0 "changes" [false] c_Calendar_changes :=
  prE_of T.d_Calendar_changes sc_Calendar_changes (by intro _ _ _ _ _ _ _ _ us hl; exact match us, hl with | [_], _ => rfl) T.bn rfl (tr_Calendar_changes T) law_Calendar_changes

def c_work_of_weeks : Con := fun svs Q _ => ∃ (ps : List Int) (b e : Int), svs = [.d (.lst (ps.map D.int)), .d (.int b), .d (.int e)] ∧ 0 < ps.length ∧ ps.length ≤ 12 ∧ -(2 ^ 64) < ps.sum ∧ ps.sum < 2 ^ 64 ∧ Q (.d (.int (weekSum ps b e))) svs
/-! work_of_weeks: speeds 0, begin 1, end 2, week 3, whole 4 -/
theorem sc_work_of_weeks : FnScope N_work_of_weeks ["speeds", "begin", "end"] (defScope st_work_of_weeks) := ⟨rfl, rfl, rfl, by decide +kernel, rfl, by decide +kernel, by decide +kernel⟩
abbrev w_work_of_weeks_1 : WS := wRetF (w2 kSub (w2 kAdd (wVar 4) (wB kSum (wCons (wSl (wVar 0) (wNoP) (wP (w2 kMod (wVar 2) (wVar 3)))) (wNil)))) (wB kSum (wCons (wSl (wVar 0) (wNoP) (wP (w2 kMod (wVar 1) (wVar 3)))) (wNil))))
abbrev w_work_of_weeks_2 : WS := wSeq (wAsg 4 (w2 kMul (w2 kSub (w2 kFdiv (wVar 2) (wVar 3)) (w2 kFdiv (wVar 1) (wVar 3))) (wB kSum (wCons (wVar 0) (wNil))))) w_work_of_weeks_1
def w_work_of_weeks : WS :=
  wSeq (wAsg 3 (wB kLen (wCons (wVar 0) (wNil)))) w_work_of_weeks_2
theorem tr_work_of_weeks {Γ : Wd} (T : Tx Γ) (X : Cx) (C : Ctx Γ X N_work_of_weeks (defScope st_work_of_weeks) (fun _ => true) 0) (P : Own X) (dc : DefCx X) : SSs Γ [] X (defBody st_work_of_weeks) w_work_of_weeks :=
  sss_cons (ss_asg C 3 (se_len C (sa_cons (se_var C 0) (sa_nil))))
  (sss_cons (ss_asg C 4 (se_mul (se_sub (se_fdiv (se_var C 2) (se_var C 3)) (se_fdiv (se_var C 1) (se_var C 3))) (se_sum C (sa_cons (se_var C 0) (sa_nil)))))
  (sss_one (ss_retF (se_sub (se_add (se_var C 4) (se_sum C (sa_cons (se_slice C (se_var C 0) (so_none) (so_some (se_mod (se_var C 2) (se_var C 3)))) (sa_nil)))) (se_sum C (sa_cons (se_slice C (se_var C 0) (so_none) (so_some (se_mod (se_var C 1) (se_var C 3)))) (sa_nil)))))))

theorem law_work_of_weeks : LawOf N_work_of_weeks [false, false, false] c_work_of_weeks w_work_of_weeks := by
  rintro svs Q E - ⟨ps, b, e, rfl, hl, h12, s0, s1, hq⟩
  have lenD : (((ps.map D.int).length : Nat) : Int) = ps.length := by rw [List.length_map]
  have p0 : (0 : Int) < ((ps.map D.int).length : Nat) := by omega
  have pb : ((((ps.map D.int).length : Nat) : Int)) < 2 ^ 250 := by omega
  have n0 : (ps.length : Int) ≠ 0 := by omega
  have n1 : (0 : Int) < ps.length := by omega
  have ce : cutL (ps.map D.int) none (some (e % ((ps.map D.int).length : Nat))) = (ps.take (e % (ps.length : Int)).toNat).map D.int := by rw [lenD]; exact cut_take (Int.emod_nonneg _ n0) (Int.emod_lt_of_pos _ n1)
  have cb : cutL (ps.map D.int) none (some (b % ((ps.map D.int).length : Nat))) = (ps.take (b % (ps.length : Int)).toNat).map D.int := by rw [lenD]; exact cut_take (Int.emod_nonneg _ n0) (Int.emod_lt_of_pos _ n1)
  ((conv => whnf); try dsimp only [List.set_cons_zero, List.set_cons_succ]); refine ⟨cdv p0 pb, ?_⟩
  ((conv => whnf); try dsimp only [List.set_cons_zero, List.set_cons_succ]); refine ⟨cdv p0 pb, ?_⟩
  ((conv => whnf); try dsimp only [List.set_cons_zero, List.set_cons_succ]); refine ⟨ps, rfl, ?_⟩
  ((conv => whnf); try dsimp only [List.set_cons_zero, List.set_cons_succ]); refine ⟨cmr s0 s1, ?_⟩
  ((conv => whnf); try dsimp only [List.set_cons_zero, List.set_cons_succ]); refine ⟨p0, ?_⟩
  ((conv => whnf); try dsimp only [List.set_cons_zero, List.set_cons_succ]); refine ⟨_, ce, ?_⟩
  ((conv => whnf); try dsimp only [List.set_cons_zero, List.set_cons_succ]); refine ⟨p0, ?_⟩
  ((conv => whnf); try dsimp only [List.set_cons_zero, List.set_cons_succ]); refine ⟨_, cb, ?_⟩
  ((conv => whnf); try dsimp only [List.set_cons_zero, List.set_cons_succ])
  unfold weekSum at hq
  rw [← lenD] at hq
  simp only [List.length_map] at hq ⊢
  exact hq
theorem ok_work_of_weeks {Γ : Wd} (T : Tx Γ) : FnE Γ 1 "work_of_weeks" [false, false, false] c_work_of_weeks :=
  fnE_of T.d_work_of_weeks sc_work_of_weeks (by intro _ _ _ _ _ _ _ _ us hl; exact match us, hl with | [_, _, _], _ => rfl) T.bn rfl (tr_work_of_weeks T) law_work_of_weeks


theorem sum_bd' : ∀ {ps : List Int}, (∀ x ∈ ps, 0 ≤ x ∧ x ≤ 3) → 0 ≤ ps.sum
  | [], _ => by simp
  | p :: ps, h => by
    have := sum_bd' (ps := ps) fun x hx => h x (by simp [hx])
    have := h p (by simp)
    simp only [List.sum_cons]
    omega
theorem weekSum_self (ps : List Int) (b : Int) : weekSum ps b b = 0 := by
  unfold weekSum
  rw [Int.sub_self, Int.zero_mul]
  omega
theorem weekSum_weeks {ps : List Int} (h : 0 < ps.length) (b e k : Int) : weekSum ps b (e + k * ps.length) = weekSum ps b e + k * ps.sum := by
  have n0 : (ps.length : Int) ≠ 0 := by omega
  unfold weekSum
  rw [Int.add_mul_ediv_right _ _ n0, Int.add_mul_emod_self_right]
  have : (e / (ps.length : Int) + k - b / ps.length) * ps.sum = (e / ps.length - b / ps.length) * ps.sum + k * ps.sum := by
    rw [show e / (ps.length : Int) + k - b / ps.length = (e / ps.length - b / ps.length) + k by omega, Int.add_mul]
  omega
theorem weekSum_step {ps : List Int} (wk : Week ps) (h : 0 < ps.length) (b e : Int) : weekSum ps b e ≤ weekSum ps b (e + 1) := by
  rw [weekSum_succ h]
  have h1 := Int.emod_nonneg e (show (ps.length : Int) ≠ 0 by omega)
  have h2 := Int.emod_lt_of_pos e (show (0 : Int) < ps.length by omega)
  have h3 : (e % (ps.length : Int)).toNat < ps.length := by omega
  have : 0 ≤ paceF ps [] e := by
    unfold paceF
    rw [List.getElem?_eq_getElem h3]
    exact (wk.bd _ (List.getElem_mem h3)).1
  omega
theorem sum_pos {ps : List Int} (wk : Week ps) : 0 < ps.sum := by
  obtain ⟨x, hx, x0⟩ := wk.pos
  have key : ∀ {qs : List Int}, (∀ y ∈ qs, 0 ≤ y ∧ y ≤ 3) → x ∈ qs → x ≤ qs.sum := fun {qs} => by
    induction qs with
    | nil => intro _ h; cases h
    | cons q qs ih =>
      intro bd h
      rw [List.sum_cons]
      have s := sum_bd' (ps := qs) fun y hy => bd y (by simp [hy])
      have q0 := bd q (by simp)
      rcases List.mem_cons.mp h with e | h
      · omega
      · have := ih (fun y hy => bd y (by simp [hy])) h
        omega
  have := key wk.bd hx
  omega

def c_check_amount : Con := fun svs Q _ => ∃ a : Int, svs = [.d (.int a)] ∧ 0 ≤ a ∧ Q (.d .non) svs
/-! check_amount: amount 0 -/
theorem sc_check_amount : FnScope N_check_amount ["amount"] (defScope st_check_amount) := ⟨rfl, rfl, rfl, by decide +kernel, rfl, by decide +kernel, by decide +kernel⟩
def w_check_amount : WS :=
  wIf (wTst (w2 kLt (wVar 0) (wC (.int 0)))) (wBad) (wNext)
theorem tr_check_amount {Γ : Wd} (T : Tx Γ) (X : Cx) (C : Ctx Γ X N_check_amount (defScope st_check_amount) (fun _ => true) 0) (P : Own X) (dc : DefCx X) : SSs Γ [] X (defBody st_check_amount) w_check_amount :=
  sss_one (ss_if (st_lt  (se_var C 0) (se_int)) (sss_one (ss_bad)) (sss_nil))

theorem law_check_amount : LawOf N_check_amount [false] c_check_amount w_check_amount := by
  rintro svs Q E - ⟨a, rfl, h, hq⟩
  ((conv => whnf); try dsimp only [List.set_cons_zero, List.set_cons_succ]); refine Br.of (fun g => absurd g (by omega)) (fun _ => ?_)
  ((conv => whnf); try dsimp only [List.set_cons_zero, List.set_cons_succ]); exact hq
theorem ok_check_amount {Γ : Wd} (T : Tx Γ) : FnE Γ 1 "check_amount" [false] c_check_amount :=
  fnE_of T.d_check_amount sc_check_amount (by intro _ _ _ _ _ _ _ _ us hl; exact match us, hl with | [_], _ => rfl) T.bn rfl (tr_check_amount T) law_check_amount


/-- by the week alone, the amount is done at e and not ahead of it -/
def EndW (ps : List Int) (b a e : Int) : Prop := (a = 0 ∧ e = b) ∨ (0 < a ∧ b < e ∧ a ≤ weekSum ps b e ∧ weekSum ps b (e - 1) < a)
def c_end_of_weeks : Con := fun svs Q _ => ∃ (ps : List Int) (b a : Int), svs = [.d (.lst (ps.map D.int)), .d (.int b), .d (.int a)] ∧ Week ps ∧ 0 < ps.length ∧ ps.length ≤ 12 ∧ 0 ≤ a ∧ ∀ e, EndW ps b a e → Q (.d (.int e)) svs
/-! end_of_weeks: speeds 0, begin 1, amount 2, weeks 3, left 4, at 5 -/
theorem sc_end_of_weeks : FnScope N_end_of_weeks ["speeds", "begin", "amount"] (defScope st_end_of_weeks) := ⟨rfl, rfl, rfl, by decide +kernel, rfl, by decide +kernel, by decide +kernel⟩
abbrev w_end_of_weeks_1 : WS := wAugA 5 (· + ·) (wC (.int 1))
abbrev w_end_of_weeks_2 : WS := wSeq (wAugA 4 (· - ·) (w2 kIdx (wVar 0) (w2 kMod (wVar 5) (wB kLen (wCons (wVar 0) (wNil)))))) w_end_of_weeks_1
abbrev w_end_of_weeks_3 : WS := wRetF (wVar 5)
abbrev w_end_of_weeks_4 : WS := wSeq (wWh (wTst (w2 kGt (wVar 4) (wC (.int 0)))) w_end_of_weeks_2) w_end_of_weeks_3
abbrev w_end_of_weeks_5 : WS := wSeq (wAsg 5 (w2 kAdd (wVar 1) (w2 kMul (wVar 3) (wB kLen (wCons (wVar 0) (wNil)))))) w_end_of_weeks_4
abbrev w_end_of_weeks_6 : WS := wSeq (wAsg 4 (w2 kSub (wVar 2) (w2 kMul (wVar 3) (wB kSum (wCons (wVar 0) (wNil)))))) w_end_of_weeks_5
abbrev w_end_of_weeks_7 : WS := wSeq (wAsg 3 (w2 kFdiv (w2 kSub (wVar 2) (wC (.int 1))) (wB kSum (wCons (wVar 0) (wNil))))) w_end_of_weeks_6
def w_end_of_weeks : WS :=
  wSeq (wIf (wTst (w2 kEq (wVar 2) (wC (.int 0)))) (wRetF (wVar 1)) (wNext)) w_end_of_weeks_7
theorem tr_end_of_weeks {Γ : Wd} (T : Tx Γ) (X : Cx) (C : Ctx Γ X N_end_of_weeks (defScope st_end_of_weeks) (fun _ => true) 0) (P : Own X) (dc : DefCx X) : SSs Γ [] X (defBody st_end_of_weeks) w_end_of_weeks :=
  sss_cons (ss_if (st_eq C (se_var C 2) (se_int)) (sss_one (ss_retF (se_var C 1))) (sss_nil))
  (sss_cons (ss_asg C 3 (se_fdiv (se_sub (se_var C 2) (se_int)) (se_sum C (sa_cons (se_var C 0) (sa_nil)))))
  (sss_cons (ss_asg C 4 (se_sub (se_var C 2) (se_mul (se_var C 3) (se_sum C (sa_cons (se_var C 0) (sa_nil))))))
  (sss_cons (ss_asg C 5 (se_add (se_var C 1) (se_mul (se_var C 3) (se_len C (sa_cons (se_var C 0) (sa_nil))))))
  (sss_cons (ss_while P (st_gt  (se_var C 4) (se_int)) (sss_cons (ss_aug C 4 ip_sub (se_idx C (fun _ _ => rfl) (se_var C 0) (se_mod (se_var C 5) (se_len C (sa_cons (se_var C 0) (sa_nil))))))
  (sss_one (ss_aug C 5 ip_add (se_int)))))
  (sss_one (ss_retF (se_var C 5)))))))

theorem law_end_of_weeks : LawOf N_end_of_weeks [false, false, false] c_end_of_weeks w_end_of_weeks := by
  rintro svs Q E - ⟨ps, b, a, rfl, wk, hl, h12, ha, hq⟩
  have lenD : (((ps.map D.int).length : Nat) : Int) = ps.length := by rw [List.length_map]
  have sp := sum_pos wk
  have sb := sum_bd' wk.bd
  have s36 : ps.sum ≤ 36 := by
    have key : ∀ {qs : List Int}, (∀ y ∈ qs, 0 ≤ y ∧ y ≤ 3) → qs.sum ≤ 3 * qs.length := fun {qs} => by
      induction qs with
      | nil => intro _; simp
      | cons q qs ih =>
        intro bd
        have := ih fun y hy => bd y (by simp [hy])
        have := bd q (by simp)
        simp only [List.sum_cons, List.length_cons]
        omega
    have := key wk.bd
    omega
  ((conv => whnf); try dsimp only [List.set_cons_zero, List.set_cons_succ]); refine Br.of (fun h => ?_) (fun h => ?_)
  · ((conv => whnf); try dsimp only [List.set_cons_zero, List.set_cons_succ]); exact hq b (.inl ⟨h, rfl⟩)
  · have h' : ¬ a = 0 := h
    ((conv => whnf); try dsimp only [List.set_cons_zero, List.set_cons_succ]); refine ⟨ps, rfl, ?_⟩
    ((conv => whnf); try dsimp only [List.set_cons_zero, List.set_cons_succ]); refine ⟨cdv sp (by omega), ?_⟩
    ((conv => whnf); try dsimp only [List.set_cons_zero, List.set_cons_succ]); refine ⟨ps, rfl, ?_⟩
    ((conv => whnf); try dsimp only [List.set_cons_zero, List.set_cons_succ]); refine ⟨cmr (by omega) (by omega), ?_⟩
    ((conv => whnf); try dsimp only [List.set_cons_zero, List.set_cons_succ]); refine ⟨cmr (by show _ < (((ps.map D.int).length : Nat) : Int); omega) (by show (((ps.map D.int).length : Nat) : Int) < _; omega), ?_⟩
    have w0 : 0 ≤ (a - 1) / ps.sum := Int.ediv_nonneg (by omega) (by omega)
    have wq := Int.mul_ediv_add_emod (a - 1) ps.sum
    have wr0 := Int.emod_nonneg (a - 1) (show ps.sum ≠ 0 by omega)
    have wr1 := Int.emod_lt_of_pos (a - 1) sp
    have base : weekSum ps b (b + (a - 1) / ps.sum * ps.length) = (a - 1) / ps.sum * ps.sum := by rw [weekSum_weeks hl, weekSum_self]; omega
    have one := weekSum_weeks hl b (b + (a - 1) / ps.sum * ps.length) 1
    rw [base] at one
    have comm : ps.sum * ((a - 1) / ps.sum) = (a - 1) / ps.sum * ps.sum := Int.mul_comm ..
    have nn : 0 ≤ (a - 1) / ps.sum * ps.length := Int.mul_nonneg w0 (by omega)
    generalize ew : (a - 1) / ps.sum * (ps.length : Int) = W at base one nn
    have ew2 : (a - 1) / ps.sum * (((ps.map D.int).length : Nat) : Int) = W := by rw [lenD]; exact ew
    ((conv => whnf); try dsimp only [List.set_cons_zero, List.set_cons_succ])
    refine ⟨fun m ρ => ∃ at_ left : Int, m = (b + W + ps.length - at_).toNat ∧ b + W ≤ at_ ∧ at_ ≤ b + W + ps.length ∧ left = a - weekSum ps b at_ ∧ (b + W < at_ → weekSum ps b (at_ - 1) < a) ∧
      ρ = [some (.d (.lst (ps.map D.int))), some (.d (.int b)), some (.d (.int a)), some (.d (.int ((a - 1) / ps.sum))), some (.d (.int left)), some (.d (.int at_))], ⟨_, b + W, _, rfl, by omega, by omega, rfl, (fun h => by omega), ?_⟩, ?_⟩
    · rw [base, ← ew2]; rfl
    · rintro m ρ ⟨at_, left, rfl, h1, h2, hlft, h3, rfl⟩
      have k := at_week hl at_
      have sc := weekSum_succ hl b at_
      ((conv => whnf); try dsimp only [List.set_cons_zero, List.set_cons_succ]); refine Br.of (fun g => ?_) (fun g => ?_)
      · have g' : 0 < left := g
        have lt : at_ < b + W + ps.length := by
          refine Classical.byContradiction fun z => ?_
          have e : at_ = b + W + 1 * ps.length := by omega
          rw [e] at hlft
          omega
        ((conv => whnf); try dsimp only [List.set_cons_zero, List.set_cons_succ]); refine ⟨rfl, ?_⟩
        ((conv => whnf); try dsimp only [List.set_cons_zero, List.set_cons_succ]); refine ⟨by show (0 : Int) < ((ps.map D.int).length : Nat); omega, ?_⟩
        ((conv => whnf); try dsimp only [List.set_cons_zero, List.set_cons_succ]); refine ⟨_, (by rw [← lenD] at k; exact k), ?_⟩
        ((conv => whnf); try dsimp only [List.set_cons_zero, List.set_cons_succ]); refine ⟨rfl, ?_⟩
        ((conv => whnf); try dsimp only [List.set_cons_zero, List.set_cons_succ]); refine ⟨_, Fgt.refl _, (b + W + ps.length - (at_ + 1)).toNat, by omega, at_ + 1, left - paceF ps [] at_, rfl, by omega, by omega, by omega, (fun _ => ?_), rfl⟩
        rw [show at_ + 1 - 1 = at_ by omega]
        omega
      · have g' : ¬ 0 < left := g
        have gt : b + W < at_ := by
          refine Classical.byContradiction fun z => ?_
          have e : at_ = b + W := by omega
          rw [e, base] at hlft
          omega
        ((conv => whnf); try dsimp only [List.set_cons_zero, List.set_cons_succ]); exact hq at_ (.inr ⟨by omega, by omega, by omega, h3 gt⟩)
theorem ok_end_of_weeks {Γ : Wd} (T : Tx Γ) : FnE Γ 1 "end_of_weeks" [false, false, false] c_end_of_weeks :=
  fnE_of T.d_end_of_weeks sc_end_of_weeks (by intro _ _ _ _ _ _ _ _ us hl; exact match us, hl with | [_, _, _], _ => rfl) T.bn rfl (tr_end_of_weeks T) law_end_of_weeks



/-! the sums moment by moment, plain -/
theorem stepSum_add (ps : List Int) (ms : List (Int × Int)) (b : Int) (i : Nat) : ∀ j : Nat, stepSum ps ms b (i + j) = stepSum ps ms b i + stepSum ps ms (b + i) j
  | 0 => by show _ = _ + 0; rw [Int.add_zero]; rfl
  | j + 1 => by
    have ih := stepSum_add ps ms b i j
    show stepSum ps ms b (i + j) + paceF ps ms (b + ((i + j : Nat) : Int)) = _ + (stepSum ps ms (b + i) j + paceF ps ms (b + i + j))
    rw [ih, show b + ((i + j : Nat) : Int) = b + i + j by omega]
    omega
theorem paceF_bd {ps : List Int} {a : Int} (wk : Week ps) (hl : 0 < ps.length) : ∀ {ms : List (Int × Int)}, (∀ m ∈ ms, 0 ≤ m.2 ∧ m.2 ≤ 3) → 0 ≤ paceF ps ms a ∧ paceF ps ms a ≤ 3
  | [], _ => by
    have h1 := Int.emod_nonneg a (show (ps.length : Int) ≠ 0 by omega)
    have h2 := Int.emod_lt_of_pos a (show (0 : Int) < ps.length by omega)
    have h3 : (a % (ps.length : Int)).toNat < ps.length := by omega
    unfold paceF
    rw [List.getElem?_eq_getElem h3]
    exact wk.bd _ (List.getElem_mem h3)
  | m :: ms, h => by
    show 0 ≤ (if m.1 = a then m.2 else paceF ps ms a) ∧ (if m.1 = a then m.2 else paceF ps ms a) ≤ 3
    by_cases e : m.1 = a
    · rw [if_pos e]; exact h m (by simp)
    · rw [if_neg e]; exact paceF_bd wk hl fun r hr => h r (by simp [hr])
theorem stepSum_bd {ps : List Int} (wk : Week ps) (hl : 0 < ps.length) {ms : List (Int × Int)} (mk : Marks ms) (b : Int) : ∀ k : Nat, 0 ≤ stepSum ps ms b k ∧ stepSum ps ms b k ≤ 3 * k
  | 0 => ⟨by show (0 : Int) ≤ 0; decide, by show (0 : Int) ≤ 3 * ((0 : Nat) : Int); decide⟩
  | k + 1 => by
    have ih := stepSum_bd wk hl mk b k
    have p := paceF_bd (a := b + k) wk hl mk.bd
    show 0 ≤ stepSum ps ms b k + paceF ps ms (b + k) ∧ stepSum ps ms b k + paceF ps ms (b + k) ≤ _
    omega
/-- the sum from one moment to another one -/
def spanSum (ps : List Int) (ms : List (Int × Int)) (b e : Int) : Int := stepSum ps ms b (e - b).toNat
theorem spanSum_self (ps : List Int) (ms : List (Int × Int)) (b : Int) : spanSum ps ms b b = 0 := by
  unfold spanSum
  rw [Int.sub_self]; rfl
theorem spanSum_add (ps : List Int) (ms : List (Int × Int)) {b c e : Int} (h1 : b ≤ c) (h2 : c ≤ e) : spanSum ps ms b e = spanSum ps ms b c + spanSum ps ms c e := by
  unfold spanSum
  have k := stepSum_add ps ms b (c - b).toNat (e - c).toNat
  rw [show (c - b).toNat + (e - c).toNat = (e - b).toNat by omega, show b + ((c - b).toNat : Int) = c by omega] at k
  exact k
theorem spanSum_one (ps : List Int) (ms : List (Int × Int)) (b : Int) : spanSum ps ms b (b + 1) = paceF ps ms b := by
  unfold spanSum
  rw [show (b + 1 - b).toNat = 0 + 1 by omega]
  show (0 : Int) + paceF ps ms (b + ((0 : Nat) : Int)) = _
  rw [show b + ((0 : Nat) : Int) = b by omega]; omega
theorem spanSum_real {ps : List Int} {ms : List (Int × Int)} (mk : Marks ms) (b e : Int) : spanSum ps (realOf ps ms) b e = spanSum ps ms b e := stepSum_real mk b _
theorem spanSum_pos {ps : List Int} (wk : Week ps) (hl : 0 < ps.length) {ms : List (Int × Int)} (mk : Marks ms) (b e : Int) : 0 ≤ spanSum ps ms b e := (stepSum_bd wk hl mk b _).1
theorem spanSum_flat {ps : List Int} (h : 0 < ps.length) {rs : List (Int × Int)} (up : rs.Pairwise fun x y => x.1 < y.1) {b e : Int} (be : b ≤ e) (no : ∀ m ∈ rs, ¬ (b ≤ m.1 ∧ m.1 < e)) : spanSum ps rs b e = weekSum ps b e := by
  unfold spanSum
  have k := work_steps h up b (e - b).toNat
  rw [show b + ((e - b).toNat : Int) = e by omega, adjS_none no] at k
  omega
theorem weekSum_mono {ps : List Int} (wk : Week ps) (h : 0 < ps.length) (b : Int) {e e' : Int} (he : e ≤ e') : weekSum ps b e ≤ weekSum ps b e' := by
  have key : ∀ k : Nat, weekSum ps b e ≤ weekSum ps b (e + k) := fun k => by
    induction k with
    | zero => rw [show e + ((0 : Nat) : Int) = e by omega]; omega
    | succ k ih =>
      have := weekSum_step wk h b (e + k)
      rw [show e + ((k + 1 : Nat) : Int) = e + k + 1 by omega]
      omega
  have := key (e' - e).toNat
  rw [show e + ((e' - e).toNat : Int) = e' by omega] at this
  exact this
theorem paceF_at {ps : List Int} {m : Int × Int} : ∀ {rs : List (Int × Int)}, (rs.Pairwise fun x y => x.1 < y.1) → m ∈ rs → paceF ps rs m.1 = m.2
  | [], _, h => nomatch h
  | r :: rs, up, h => by
    show (if r.1 = m.1 then r.2 else paceF ps rs m.1) = _
    rcases List.mem_cons.mp h with e | h
    · subst e; rw [if_pos rfl]
    · have := (List.pairwise_cons.mp up).1 m h
      rw [if_neg (by omega)]
      exact paceF_at (List.pairwise_cons.mp up).2 h

theorem sum_le3 : ∀ {qs : List Int}, (∀ y ∈ qs, 0 ≤ y ∧ y ≤ 3) → qs.sum ≤ 3 * qs.length
  | [], _ => by simp
  | q :: qs, bd => by
    have := sum_le3 (qs := qs) fun y hy => bd y (by simp [hy])
    have := bd q (by simp)
    simp only [List.sum_cons, List.length_cons]
    omega
theorem weekSum_tele (ps : List Int) (b c e : Int) : weekSum ps b e = weekSum ps b c + weekSum ps c e := by
  unfold weekSum
  have : (e / (ps.length : Int) - b / ps.length) * ps.sum = (c / ps.length - b / ps.length) * ps.sum + (e / ps.length - c / ps.length) * ps.sum := by rw [← Int.add_mul]; congr 1; omega
  omega
theorem weekSum_one {ps : List Int} (h : 0 < ps.length) (b : Int) : weekSum ps b (b + 1) = paceF ps [] b := by
  rw [weekSum_succ h, weekSum_self]; omega
theorem weekSum_back {ps : List Int} (h : 0 < ps.length) (b e k : Int) : weekSum ps (b - k * ps.length) e = k * ps.sum + weekSum ps b e := by
  have t := weekSum_tele ps (b - k * ps.length) b e
  have w := weekSum_weeks h (b - k * ps.length) (b - k * ps.length) k
  rw [weekSum_self, show b - k * (ps.length : Int) + k * ps.length = b by omega] at w
  omega
theorem weekSum_antimono {ps : List Int} (wk : Week ps) (h : 0 < ps.length) {b b' : Int} (e : Int) (hb : b ≤ b') : weekSum ps b' e ≤ weekSum ps b e := by
  have t := weekSum_tele ps b b' e
  have m := weekSum_mono wk h b hb
  rw [weekSum_self] at m
  omega
/-- by the week alone, the amount begun at b is done at e, and none that is begun later -/
def BegW (ps : List Int) (e a b : Int) : Prop := (a = 0 ∧ b = e) ∨ (0 < a ∧ b < e ∧ a ≤ weekSum ps b e ∧ weekSum ps (b + 1) e < a)
def c_begin_of_weeks : Con := fun svs Q _ => ∃ (ps : List Int) (e a : Int), svs = [.d (.lst (ps.map D.int)), .d (.int e), .d (.int a)] ∧ Week ps ∧ 0 < ps.length ∧ ps.length ≤ 12 ∧ 0 ≤ a ∧ ∀ b, BegW ps e a b → Q (.d (.int b)) svs
/-! begin_of_weeks: speeds 0, end 1, amount 2, weeks 3, left 4, at 5 -/
theorem sc_begin_of_weeks : FnScope N_begin_of_weeks ["speeds", "end", "amount"] (defScope st_begin_of_weeks) := ⟨rfl, rfl, rfl, by decide +kernel, rfl, by decide +kernel, by decide +kernel⟩
abbrev w_begin_of_weeks_1 : WS := wAugA 4 (· - ·) (w2 kIdx (wVar 0) (w2 kMod (wVar 5) (wB kLen (wCons (wVar 0) (wNil)))))
abbrev w_begin_of_weeks_2 : WS := wSeq (wAugA 5 (· - ·) (wC (.int 1))) w_begin_of_weeks_1
abbrev w_begin_of_weeks_3 : WS := wRetF (wVar 5)
abbrev w_begin_of_weeks_4 : WS := wSeq (wWh (wTst (w2 kGt (wVar 4) (wC (.int 0)))) w_begin_of_weeks_2) w_begin_of_weeks_3
abbrev w_begin_of_weeks_5 : WS := wSeq (wAsg 5 (w2 kSub (wVar 1) (w2 kMul (wVar 3) (wB kLen (wCons (wVar 0) (wNil)))))) w_begin_of_weeks_4
abbrev w_begin_of_weeks_6 : WS := wSeq (wAsg 4 (w2 kSub (wVar 2) (w2 kMul (wVar 3) (wB kSum (wCons (wVar 0) (wNil)))))) w_begin_of_weeks_5
abbrev w_begin_of_weeks_7 : WS := wSeq (wAsg 3 (w2 kFdiv (w2 kSub (wVar 2) (wC (.int 1))) (wB kSum (wCons (wVar 0) (wNil))))) w_begin_of_weeks_6
def w_begin_of_weeks : WS :=
  wSeq (wIf (wTst (w2 kEq (wVar 2) (wC (.int 0)))) (wRetF (wVar 1)) (wNext)) w_begin_of_weeks_7
theorem tr_begin_of_weeks {Γ : Wd} (T : Tx Γ) (X : Cx) (C : Ctx Γ X N_begin_of_weeks (defScope st_begin_of_weeks) (fun _ => true) 0) (P : Own X) (dc : DefCx X) : SSs Γ [] X (defBody st_begin_of_weeks) w_begin_of_weeks :=
  sss_cons (ss_if (st_eq C (se_var C 2) (se_int)) (sss_one (ss_retF (se_var C 1))) (sss_nil))
  (sss_cons (ss_asg C 3 (se_fdiv (se_sub (se_var C 2) (se_int)) (se_sum C (sa_cons (se_var C 0) (sa_nil)))))
  (sss_cons (ss_asg C 4 (se_sub (se_var C 2) (se_mul (se_var C 3) (se_sum C (sa_cons (se_var C 0) (sa_nil))))))
  (sss_cons (ss_asg C 5 (se_sub (se_var C 1) (se_mul (se_var C 3) (se_len C (sa_cons (se_var C 0) (sa_nil))))))
  (sss_cons (ss_while P (st_gt  (se_var C 4) (se_int)) (sss_cons (ss_aug C 5 ip_sub (se_int))
  (sss_one (ss_aug C 4 ip_sub (se_idx C (fun _ _ => rfl) (se_var C 0) (se_mod (se_var C 5) (se_len C (sa_cons (se_var C 0) (sa_nil)))))))))
  (sss_one (ss_retF (se_var C 5)))))))

theorem law_begin_of_weeks : LawOf N_begin_of_weeks [false, false, false] c_begin_of_weeks w_begin_of_weeks := by
  rintro svs Q E - ⟨ps, b, a, rfl, wk, hl, h12, ha, hq⟩
  have lenD : (((ps.map D.int).length : Nat) : Int) = ps.length := by rw [List.length_map]
  have sp := sum_pos wk
  have sb := sum_bd' wk.bd
  have s36 := sum_le3 wk.bd
  ((conv => whnf); try dsimp only [List.set_cons_zero, List.set_cons_succ]); refine Br.of (fun h => ?_) (fun h => ?_)
  · ((conv => whnf); try dsimp only [List.set_cons_zero, List.set_cons_succ]); exact hq b (.inl ⟨h, rfl⟩)
  · have h' : ¬ a = 0 := h
    ((conv => whnf); try dsimp only [List.set_cons_zero, List.set_cons_succ]); refine ⟨ps, rfl, ?_⟩
    ((conv => whnf); try dsimp only [List.set_cons_zero, List.set_cons_succ]); refine ⟨cdv sp (by omega), ?_⟩
    ((conv => whnf); try dsimp only [List.set_cons_zero, List.set_cons_succ]); refine ⟨ps, rfl, ?_⟩
    ((conv => whnf); try dsimp only [List.set_cons_zero, List.set_cons_succ]); refine ⟨cmr (by omega) (by omega), ?_⟩
    ((conv => whnf); try dsimp only [List.set_cons_zero, List.set_cons_succ]); refine ⟨cmr (by show _ < (((ps.map D.int).length : Nat) : Int); omega) (by show (((ps.map D.int).length : Nat) : Int) < _; omega), ?_⟩
    have w0 : 0 ≤ (a - 1) / ps.sum := Int.ediv_nonneg (by omega) (by omega)
    have wq := Int.mul_ediv_add_emod (a - 1) ps.sum
    have wr0 := Int.emod_nonneg (a - 1) (show ps.sum ≠ 0 by omega)
    have wr1 := Int.emod_lt_of_pos (a - 1) sp
    have base : weekSum ps (b - (a - 1) / ps.sum * ps.length) b = (a - 1) / ps.sum * ps.sum := by rw [weekSum_back hl, weekSum_self]; omega
    have one := weekSum_back hl (b - (a - 1) / ps.sum * ps.length) b 1
    rw [base] at one
    have comm : ps.sum * ((a - 1) / ps.sum) = (a - 1) / ps.sum * ps.sum := Int.mul_comm ..
    have nn : 0 ≤ (a - 1) / ps.sum * ps.length := Int.mul_nonneg w0 (by omega)
    generalize ew : (a - 1) / ps.sum * (ps.length : Int) = W at base one nn
    have ew2 : (a - 1) / ps.sum * (((ps.map D.int).length : Nat) : Int) = W := by rw [lenD]; exact ew
    ((conv => whnf); try dsimp only [List.set_cons_zero, List.set_cons_succ])
    refine ⟨fun m ρ => ∃ at_ left : Int, m = (at_ - (b - W - ps.length)).toNat ∧ b - W - ps.length ≤ at_ ∧ at_ ≤ b - W ∧ left = a - weekSum ps at_ b ∧ (at_ < b - W → weekSum ps (at_ + 1) b < a) ∧
      ρ = [some (.d (.lst (ps.map D.int))), some (.d (.int b)), some (.d (.int a)), some (.d (.int ((a - 1) / ps.sum))), some (.d (.int left)), some (.d (.int at_))], ⟨_, b - W, _, rfl, by omega, by omega, rfl, (fun h => by omega), ?_⟩, ?_⟩
    · rw [base, ← ew2]; rfl
    · rintro m ρ ⟨at_, left, rfl, h1, h2, hlft, h3, rfl⟩
      have k := at_week hl (at_ - 1)
      have sc := weekSum_tele ps (at_ - 1) at_ b
      have s1 := weekSum_one hl (at_ - 1)
      rw [show at_ - 1 + 1 = at_ by omega] at s1
      ((conv => whnf); try dsimp only [List.set_cons_zero, List.set_cons_succ]); refine Br.of (fun g => ?_) (fun g => ?_)
      · have g' : 0 < left := g
        have lt : b - W - ps.length < at_ := by
          refine Classical.byContradiction fun z => ?_
          have e : at_ = b - W - 1 * ps.length := by omega
          rw [e] at hlft
          omega
        ((conv => whnf); try dsimp only [List.set_cons_zero, List.set_cons_succ]); refine ⟨rfl, ?_⟩
        ((conv => whnf); try dsimp only [List.set_cons_zero, List.set_cons_succ]); refine ⟨rfl, ?_⟩
        ((conv => whnf); try dsimp only [List.set_cons_zero, List.set_cons_succ]); refine ⟨by show (0 : Int) < ((ps.map D.int).length : Nat); omega, ?_⟩
        ((conv => whnf); try dsimp only [List.set_cons_zero, List.set_cons_succ]); refine ⟨_, (by rw [← lenD] at k; exact k), ?_⟩
        ((conv => whnf); try dsimp only [List.set_cons_zero, List.set_cons_succ]); refine ⟨_, Fgt.refl _, (at_ - 1 - (b - W - ps.length)).toNat, by omega, at_ - 1, left - paceF ps [] (at_ - 1), rfl, by omega, by omega, by omega, (fun _ => ?_), rfl⟩
        rw [show at_ - 1 + 1 = at_ by omega]
        omega
      · have g' : ¬ 0 < left := g
        have gt : at_ < b - W := by
          refine Classical.byContradiction fun z => ?_
          have e : at_ = b - W := by omega
          rw [e, base] at hlft
          omega
        ((conv => whnf); try dsimp only [List.set_cons_zero, List.set_cons_succ]); exact hq at_ (.inr ⟨by omega, by omega, by omega, h3 gt⟩)
theorem ok_begin_of_weeks {Γ : Wd} (T : Tx Γ) : FnE Γ 1 "begin_of_weeks" [false, false, false] c_begin_of_weeks :=
  fnE_of T.d_begin_of_weeks sc_begin_of_weeks (by intro _ _ _ _ _ _ _ _ us hl; exact match us, hl with | [_, _, _], _ => rfl) T.bn rfl (tr_begin_of_weeks T) law_begin_of_weeks


def c_law_total : Con := fun svs Q _ => ∃ (ps : List Int) (ms : List (Int × Int)) (a b : Int), svs = [.d (.lst (ps.map D.int)), .d (.lst (ms.map mkD)), .d (.int a), .d (.int b)] ∧ Week ps ∧ 0 < ps.length ∧ ps.length ≤ 12 ∧ Marks ms ∧ a ≤ b ∧ Q (.d (.int (spanSum ps ms a b))) svs
/-! _law_total: paces 0, marks 1, low 2, high 3, weeks 4, found 5, at 6, spot 7, pace 8 -/
theorem sc_law_total : FnScope N_law_total ["paces", "marks", "low", "high"] (defScope st_law_total) := ⟨rfl, rfl, rfl, by decide +kernel, rfl, by decide +kernel, by decide +kernel⟩
abbrev w_law_total_1 : WS := wAsg 5 (w2 kAdd (wVar 5) (w2 kIdx (wVar 0) (w2 kMod (wB kInt (wCons (w2 kAdd (wVar 2) (wVar 6)) (wNil))) (wB kLen (wCons (wVar 0) (wNil))))))
abbrev w_law_total_2 : WS := wIf (wTst (wChain gLe gLt (wVar 2) (wVar 7) (wVar 3))) (wAsg 5 (w2 kSub (w2 kAdd (wVar 5) (wVar 8)) (w2 kIdx (wVar 0) (w2 kMod (wB kInt (wCons (wVar 7) (wNil))) (wB kLen (wCons (wVar 0) (wNil))))))) (wNext)
abbrev w_law_total_3 : WS := wRetF (wVar 5)
abbrev w_law_total_4 : WS := wSeq (wFor (wIt (wVar 1)) (gTp 2 (gsCons (gNm 7) (gsCons (gNm 8) (gsNil)))) w_law_total_2) w_law_total_3
abbrev w_law_total_5 : WS := wSeq (wFor (wRng1 (wCons (w2 kSub (w2 kSub (wVar 3) (wVar 2)) (w2 kMul (wVar 4) (wB kLen (wCons (wVar 0) (wNil))))) (wNil))) (gNm 6) w_law_total_1) w_law_total_4
abbrev w_law_total_6 : WS := wSeq (wAsg 5 (w2 kMul (wVar 4) (wB kSum (wCons (wVar 0) (wNil))))) w_law_total_5
def w_law_total : WS :=
  wSeq (wAsg 4 (w2 kFdiv (w2 kSub (wVar 3) (wVar 2)) (wB kLen (wCons (wVar 0) (wNil))))) w_law_total_6
theorem tr_law_total {Γ : Wd} (T : Tx Γ) (X : Cx) (C : Ctx Γ X N_law_total (defScope st_law_total) (fun _ => true) 0) (P : Own X) (dc : DefCx X) : SSs Γ [] X (defBody st_law_total) w_law_total :=
  sss_cons (ss_asg C 4 (se_fdiv (se_sub (se_var C 3) (se_var C 2)) (se_len C (sa_cons (se_var C 0) (sa_nil)))))
  (sss_cons (ss_asg C 5 (se_mul (se_var C 4) (se_sum C (sa_cons (se_var C 0) (sa_nil)))))
  (sss_cons (ss_for C P (is := [6]) (si_range1 C (sa_cons (se_sub (se_sub (se_var C 3) (se_var C 2)) (se_mul (se_var C 4) (se_len C (sa_cons (se_var C 0) (sa_nil))))) (sa_nil))) (sg_name C 6) (sss_one (ss_asg C 5 (se_add (se_var C 5) (se_idx C (fun _ _ => rfl) (se_var C 0) (se_mod (se_intc C (sa_cons (se_add (se_var C 2) (se_var C 6)) (sa_nil))) (se_len C (sa_cons (se_var C 0) (sa_nil)))))))))
  (sss_cons (ss_for C P (is := [7, 8]) (si_seq (se_var C 1)) (sg_tup C (sgs_cons (sg_name C 7) (sgs_cons (sg_name C 8) (sgs_nil)))) (sss_one (ss_if (st_chain op_leB op_ltB (se_var C 2) (se_var C 7) (se_var C 3)) (sss_one (ss_asg C 5 (se_sub (se_add (se_var C 5) (se_var C 8)) (se_idx C (fun _ _ => rfl) (se_var C 0) (se_mod (se_intc C (sa_cons (se_var C 7) (sa_nil))) (se_len C (sa_cons (se_var C 0) (sa_nil)))))))) (sss_nil))))
  (sss_one (ss_retF (se_var C 5))))))

theorem law_law_total : LawOf N_law_total [false, false, false, false] c_law_total w_law_total := by
  rintro svs Q E - ⟨ps, ms, a, b, rfl, wk, hl, h12, mk, hab, hq⟩
  have lenD : (((ps.map D.int).length : Nat) : Int) = ps.length := by rw [List.length_map]
  have s0 := sum_bd' wk.bd
  have s3 := sum_le3 wk.bd
  have n1 : (0 : Int) < ps.length := by omega
  have w0 : 0 ≤ (b - a) / (ps.length : Int) := Int.ediv_nonneg (by omega) (by omega)
  have q := Int.mul_ediv_add_emod (b - a) ps.length
  have r0 := Int.emod_nonneg (b - a) (show (ps.length : Int) ≠ 0 by omega)
  have r1 := Int.emod_lt_of_pos (b - a) n1
  have cm : (ps.length : Int) * ((b - a) / ps.length) = (b - a) / ps.length * ps.length := Int.mul_comm ..
  generalize eW : (b - a) / (ps.length : Int) = W at w0 q cm
  have eW' : (b - a) / (((ps.map D.int).length : Nat) : Int) = W := by rw [lenD]; exact eW
  generalize eR : (b - a) % (ps.length : Int) = R at q r0 r1
  have eR2 : b - a - W * (((ps.map D.int).length : Nat) : Int) = R := by rw [lenD]; omega
  have tot : weekSum ps a b = weekSum ps a (a + R) + W * ps.sum := by
    rw [← weekSum_weeks hl, show a + R + W * ps.length = b by omega]
  have all_ := work_steps hl mk.up a (b - a).toNat
  rw [show a + ((b - a).toNat : Int) = b by omega] at all_
  show w_law_total [some (.d (.lst (ps.map D.int))), some (.d (.lst (ms.map mkD))), some (.d (.int a)), some (.d (.int b)), none, none, none, none, none] _ _
  ((conv => whnf); try dsimp only [List.set_cons_zero, List.set_cons_succ]); refine ⟨cdv (by show (0 : Int) < ((ps.map D.int).length : Nat); omega) (by show (((ps.map D.int).length : Nat) : Int) < _; omega), ?_⟩
  rw [eW']
  ((conv => whnf); try dsimp only [List.set_cons_zero, List.set_cons_succ]); refine ⟨ps, rfl, ?_⟩
  ((conv => whnf); try dsimp only [List.set_cons_zero, List.set_cons_succ]); refine ⟨cmr (by omega) (by omega), ?_⟩
  ((conv => whnf); try dsimp only [List.set_cons_zero, List.set_cons_succ]); refine ⟨cmr (by show _ < (((ps.map D.int).length : Nat) : Int); omega) (by show (((ps.map D.int).length : Nat) : Int) < _; omega), ?_⟩
  ((conv => whnf); try dsimp only [List.set_cons_zero, List.set_cons_succ]); rw [eR2]
  refine ⟨by omega, by omega, ?_⟩
  rw [show rngD 0 R.toNat = (List.range' 0 R.toNat).map fun (i : Nat) => D.int (0 + (i : Int)) by unfold rngD; rw [List.range_eq_range']]
  refine forL_ind (fun ds ρ => ∃ (i k : Nat) (x : Option SV), i + k = R.toNat ∧ ds = (List.range' i k).map (fun (i : Nat) => D.int (0 + (i : Int))) ∧
    ρ = [some (.d (.lst (ps.map D.int))), some (.d (.lst (ms.map mkD))), some (.d (.int a)), some (.d (.int b)), some (.d (.int W)), some (.d (.int (W * ps.sum + weekSum ps a (a + i)))), x, none, none]) ?_ ?_ _ _ ⟨0, R.toNat, none, by omega, rfl, by rw [show a + ((0 : Nat) : Int) = a by omega, weekSum_self, Int.add_zero]⟩
  · rintro ρ ⟨i, k, x, hik, e, rfl⟩
    obtain rfl : k = 0 := by cases k with
      | zero => rfl
      | succ k => rw [List.range'_succ] at e; cases e
    have e2 : W * ps.sum + weekSum ps a (a + i) = weekSum ps a b := by rw [tot, show (i : Int) = R by omega]; omega
    rw [e2]
    ((conv => whnf); try dsimp only [List.set_cons_zero, List.set_cons_succ])
    refine forL_ind (fun ds ρ => ∃ (rs : List (Int × Int)) (f : Int) (y z : Option SV), ds = rs.map mkD ∧ f + adjS ps rs a b = weekSum ps a b + adjS ps ms a b ∧
      ρ = [some (.d (.lst (ps.map D.int))), some (.d (.lst (ms.map mkD))), some (.d (.int a)), some (.d (.int b)), some (.d (.int W)), some (.d (.int f)), x, y, z]) ?_ ?_ _ _ ⟨ms, weekSum ps a b, none, none, rfl, rfl, rfl⟩
    · rintro ρ ⟨rs, f, y, z, e, hf, rfl⟩
      obtain rfl : rs = [] := by cases rs with
        | nil => rfl
        | cons _ _ => cases e
      have ef : f = spanSum ps ms a b := by
        have : adjS ps [] a b = 0 := rfl
        show f = stepSum ps ms a (b - a).toNat
        omega
      rw [ef]
      ((conv => whnf); try dsimp only [List.set_cons_zero, List.set_cons_succ]); exact hq
    · rintro d ds ρ ⟨rs, f, y, z, e, hf, rfl⟩ ih
      cases rs with
      | nil => cases e
      | cons r rs =>
        cases e
        have k := at_week hl r.1
        have un : adjS ps (r :: rs) a b = (if a ≤ r.1 ∧ r.1 < b then r.2 - paceF ps [] r.1 else 0) + adjS ps rs a b := rfl
        rw [un] at hf
        ((conv => whnf); try dsimp only [List.set_cons_zero, List.set_cons_succ]); refine ⟨rfl, ?_⟩
        ((conv => whnf); try dsimp only [List.set_cons_zero, List.set_cons_succ]); refine Br.of (fun h1 => ?_) (fun h1 => ?_)
        · have h1' : a ≤ r.1 := h1
          ((conv => whnf); try dsimp only [List.set_cons_zero, List.set_cons_succ]); refine Br.of (fun h2 => ?_) (fun h2 => ?_)
          · have h2' : r.1 < b := h2
            rw [if_pos ⟨h1', h2'⟩] at hf
            ((conv => whnf); try dsimp only [List.set_cons_zero, List.set_cons_succ]); refine ⟨by show (0 : Int) < ((ps.map D.int).length : Nat); omega, ?_⟩
            ((conv => whnf); try dsimp only [List.set_cons_zero, List.set_cons_succ]); refine ⟨_, (by rw [← lenD] at k; exact k), ?_⟩
            exact ⟨_, Fgt.refl _, ih _ ⟨rs, f + r.2 - paceF ps [] r.1, _, _, rfl, by omega, rfl⟩⟩
          · have h2' : ¬ r.1 < b := h2
            rw [if_neg (by omega)] at hf
            exact ⟨_, Fgt.refl _, ih _ ⟨rs, f, _, _, rfl, by omega, rfl⟩⟩
        · have h1' : ¬ a ≤ r.1 := h1
          rw [if_neg (by omega)] at hf
          ((conv => whnf); try dsimp only [List.set_cons_zero, List.set_cons_succ]); refine Br.ff ?_
          exact ⟨_, Fgt.refl _, ih _ ⟨rs, f, _, _, rfl, by omega, rfl⟩⟩
  · rintro d ds ρ ⟨i, k, x, hik, e, rfl⟩ ih
    cases k with
    | zero => cases e
    | succ k =>
      rw [List.range'_succ, List.map_cons] at e
      cases e
      have kk := at_week hl (a + (0 + (i : Int)))
      have sc := weekSum_succ hl a (a + i)
      ((conv => whnf); try dsimp only [List.set_cons_zero, List.set_cons_succ]); refine ⟨by show (0 : Int) < ((ps.map D.int).length : Nat); omega, ?_⟩
      ((conv => whnf); try dsimp only [List.set_cons_zero, List.set_cons_succ]); refine ⟨_, (by rw [← lenD] at kk; exact kk), ?_⟩
      have e3 : W * ps.sum + weekSum ps a (a + i) + paceF ps [] (a + (0 + (i : Int))) = W * ps.sum + weekSum ps a (a + ((i + 1 : Nat) : Int)) := by
        rw [show a + ((i + 1 : Nat) : Int) = a + i + 1 by omega, sc, Int.zero_add]; omega
      ((conv => whnf); try dsimp only [List.set_cons_zero, List.set_cons_succ]); rw [e3]
      exact ⟨_, Fgt.refl _, ih _ ⟨i + 1, k, _, by omega, rfl, rfl⟩⟩
theorem ok_law_total {Γ : Wd} (T : Tx Γ) : FnE Γ 1 "_law_total" [false, false, false, false] c_law_total :=
  fnE_of T.d_law_total sc_law_total (by intro _ _ _ _ _ _ _ _ us hl; exact match us, hl with | [_, _, _, _], _ => rfl) T.bn rfl (tr_law_total T) law_law_total


def c_check_span : Con := fun svs Q _ => ∃ b e : Int, svs = [.d (.int b), .d (.int e)] ∧ b ≤ e ∧ Q (.d .non) svs
/-! check_span: begin 0, end 1 -/
theorem sc_check_span : FnScope N_check_span ["begin", "end"] (defScope st_check_span) := ⟨rfl, rfl, rfl, by decide +kernel, rfl, by decide +kernel, by decide +kernel⟩
def w_check_span : WS :=
  wIf (wTst (w2 kLt (wVar 1) (wVar 0))) (wBad) (wNext)
theorem tr_check_span {Γ : Wd} (T : Tx Γ) (X : Cx) (C : Ctx Γ X N_check_span (defScope st_check_span) (fun _ => true) 0) (P : Own X) (dc : DefCx X) : SSs Γ [] X (defBody st_check_span) w_check_span :=
  sss_one (ss_if (st_lt  (se_var C 1) (se_var C 0)) (sss_one (ss_bad)) (sss_nil))

theorem law_check_span : LawOf N_check_span [false, false] c_check_span w_check_span := by
  rintro svs Q E - ⟨b, e, rfl, h, hq⟩
  ((conv => whnf); try dsimp only [List.set_cons_zero, List.set_cons_succ]); refine Br.of (fun g => absurd g (by omega)) (fun _ => ?_)
  ((conv => whnf); try dsimp only [List.set_cons_zero, List.set_cons_succ]); exact hq
theorem ok_check_span {Γ : Wd} (T : Tx Γ) : FnE Γ 1 "check_span" [false, false] c_check_span :=
  fnE_of T.d_check_span sc_check_span (by intro _ _ _ _ _ _ _ _ us hl; exact match us, hl with | [_, _], _ => rfl) T.bn rfl (tr_check_span T) law_check_span

theorem sum_bd : ∀ {ps : List Int}, (∀ x ∈ ps, 0 ≤ x ∧ x ≤ 3) → 0 ≤ ps.sum ∧ ps.sum ≤ 3 * ps.length
  | [], _ => by simp
  | p :: ps, h => by
    have := sum_bd (ps := ps) fun x hx => h x (by simp [hx])
    have := h p (by simp)
    simp only [List.sum_cons, List.length_cons]
    omega
def c_work : Con := fun svs Q _ => ∃ (ps : List Int) (ms : List (Int × Int)) (b e : Int), svs = [.d (calD ps ms), .d (.int b), .d (.int e)] ∧ Week ps ∧ 0 < ps.length ∧ ps.length ≤ 12 ∧ Marks ms ∧ b ≤ e ∧ Q (.d (.int (stepSum ps ms b (e - b).toNat))) svs
/-! work: calendar 0, begin 1, end 2, speeds 3, found 4, moment 5, speed 6 -/
theorem sc_work : FnScope N_work ["calendar", "begin", "end"] (defScope st_work) := ⟨rfl, rfl, rfl, by decide +kernel, rfl, by decide +kernel, by decide +kernel⟩
abbrev w_work_1 : WS := wIf (wTst (wChain gLe gLt (wVar 1) (wVar 5) (wVar 2))) (wAugA 4 (· + ·) (w2 kSub (wVar 6) (w2 kIdx (wVar 3) (w2 kMod (wVar 5) (wB kLen (wCons (wVar 3) (wNil))))))) (wNext)
abbrev w_work_2 : WS := wRetF (wVar 4)
abbrev w_work_3 : WS := wSeq (wFor (wIt (wProp 0 [false] c_Calendar_changes (wVar 0))) (gTp 2 (gsCons (gNm 5) (gsCons (gNm 6) (gsNil)))) w_work_1) w_work_2
abbrev w_work_4 : WS := wSeq (wAsg 4 (wCall [false, false, false] c_work_of_weeks (wCons (wVar 3) (wCons (wVar 1) (wCons (wVar 2) (wNil)))))) w_work_3
abbrev w_work_5 : WS := wSeq (wAsg 3 (wProp 0 [false] c_Calendar_speeds (wVar 0))) w_work_4
def w_work : WS :=
  wSeq (wExp (wCall [false, false] c_check_span (wCons (wVar 1) (wCons (wVar 2) (wNil))))) w_work_5
theorem tr_work {Γ : Wd} (T : Tx Γ) (X : Cx) (C : Ctx Γ X N_work (defScope st_work) (fun _ => true) 2) (P : Own X) (dc : DefCx X) : SSs Γ [] X (defBody st_work) w_work :=
  sss_cons (ss_exp (se_call C (FnE.mono (ok_check_span T) (by decide)) (sa_cons (se_var C 1) (sa_cons (se_var C 2) (sa_nil)))))
  (sss_cons (ss_asg C 3 (se_prop C T.K_0 (PrE.mono (ok_Calendar_speeds T) (by decide)) (se_var C 0)))
  (sss_cons (ss_asg C 4 (se_call C (FnE.mono (ok_work_of_weeks T) (by decide)) (sa_cons (se_var C 3) (sa_cons (se_var C 1) (sa_cons (se_var C 2) (sa_nil))))))
  (sss_cons (ss_for C P (is := [5, 6]) (si_seq (se_prop C T.K_0 (PrE.mono (ok_Calendar_changes T) (by decide)) (se_var C 0))) (sg_tup C (sgs_cons (sg_name C 5) (sgs_cons (sg_name C 6) (sgs_nil)))) (sss_one (ss_if (st_chain op_leB op_ltB (se_var C 1) (se_var C 5) (se_var C 2)) (sss_one (ss_aug C 4 ip_add (se_sub (se_var C 6) (se_idx C (fun _ _ => rfl) (se_var C 3) (se_mod (se_var C 5) (se_len C (sa_cons (se_var C 3) (sa_nil)))))))) (sss_nil))))
  (sss_one (ss_retF (se_var C 4))))))

theorem law_work : LawOf N_work [false, false, false] c_work w_work := by
  rintro svs Q E - ⟨ps, ms, b, e, rfl, wk, hl, h12, mk, hbe, hq⟩
  have sb := sum_bd wk.bd
  have tot := work_steps hl (real_up (ps := ps) mk) b (e - b).toNat
  rw [show b + (((e - b).toNat : Nat) : Int) = e by omega, stepSum_real mk] at tot
  ((conv => whnf); try dsimp only [List.set_cons_zero, List.set_cons_succ]); refine ⟨b, e, rfl, hbe, ?_⟩
  ((conv => whnf); try dsimp only [List.set_cons_zero, List.set_cons_succ]); refine ⟨rfl, ?_⟩
  ((conv => whnf); try dsimp only [List.set_cons_zero, List.set_cons_succ]); refine ⟨ps, ms, rfl, ?_⟩
  ((conv => whnf); try dsimp only [List.set_cons_zero, List.set_cons_succ]); refine ⟨ps, b, e, rfl, hl, h12, by omega, by omega, ?_⟩
  ((conv => whnf); try dsimp only [List.set_cons_zero, List.set_cons_succ]); refine ⟨rfl, ?_⟩
  ((conv => whnf); try dsimp only [List.set_cons_zero, List.set_cons_succ]); refine ⟨ps, ms, rfl, ?_⟩
  ((conv => whnf); try dsimp only [List.set_cons_zero, List.set_cons_succ])
  refine forL_ind (fun ds ρ => ∃ (rs : List (Int × Int)) (f : Int) (x y : Option SV), ds = rs.map mkD ∧ f + adjS ps rs b e = stepSum ps ms b (e - b).toNat ∧
    ρ = [some (.d (calD ps ms)), some (.d (.int b)), some (.d (.int e)), some (.d (.lst (ps.map D.int))), some (.d (.int f)), x, y]) ?_ ?_ _ _ ⟨realOf ps ms, weekSum ps b e, none, none, rfl, tot, rfl⟩
  · rintro ρ ⟨rs, f, x, y, e1, e2, rfl⟩
    obtain rfl : rs = [] := by cases rs with
      | nil => rfl
      | cons _ _ => cases e1
    have e3 : f = stepSum ps ms b (e - b).toNat := by rw [← e2]; show f = f + 0; omega
    subst e3
    ((conv => whnf); try dsimp only [List.set_cons_zero, List.set_cons_succ]); exact hq
  · rintro d ds ρ ⟨rs, f, x, y, e1, e2, rfl⟩ ih
    cases rs with
    | nil => cases e1
    | cons r rs =>
      cases e1
      have e2' : f + ((if b ≤ r.1 ∧ r.1 < e then r.2 - paceF ps [] r.1 else 0) + adjS ps rs b e) = stepSum ps ms b (e - b).toNat := e2
      have k := at_week hl r.1
      have lenD : (((ps.map D.int).length : Nat) : Int) = ps.length := by rw [List.length_map]
      ((conv => whnf); try dsimp only [List.set_cons_zero, List.set_cons_succ]); refine ⟨rfl, ?_⟩
      ((conv => whnf); try dsimp only [List.set_cons_zero, List.set_cons_succ]); refine Br.of (fun h1 => ?_) (fun h1 => ?_)
      · ((conv => whnf); try dsimp only [List.set_cons_zero, List.set_cons_succ]); refine Br.of (fun h2 => ?_) (fun h2 => ?_)
        · ((conv => whnf); try dsimp only [List.set_cons_zero, List.set_cons_succ]); refine ⟨rfl, ?_⟩
          ((conv => whnf); try dsimp only [List.set_cons_zero, List.set_cons_succ]); refine ⟨by show (0 : Int) < ((ps.map D.int).length : Nat); omega, ?_⟩
          ((conv => whnf); try dsimp only [List.set_cons_zero, List.set_cons_succ]); refine ⟨_, (by rw [← lenD] at k; exact k), ?_⟩
          have h1' : b ≤ r.1 := h1
          have h2' : r.1 < e := h2
          rw [if_pos ⟨h1', h2'⟩] at e2'
          ((conv => whnf); try dsimp only [List.set_cons_zero, List.set_cons_succ]); exact ⟨_, Fgt.refl _, ih _ ⟨rs, f + (r.2 - paceF ps [] r.1), _, _, rfl, by omega, rfl⟩⟩
        · have h2' : ¬ r.1 < e := h2
          rw [if_neg (fun z => h2' z.2)] at e2'
          exact ⟨_, Fgt.refl _, ih _ ⟨rs, f, _, _, rfl, by omega, rfl⟩⟩
      · have h1' : ¬ b ≤ r.1 := h1
        rw [if_neg (fun z => h1' z.1)] at e2'
        ((conv => whnf); try dsimp only [List.set_cons_zero, List.set_cons_succ]); exact Br.ff ⟨_, Fgt.refl _, ih _ ⟨rs, f, _, _, rfl, by omega, rfl⟩⟩
theorem ok_work {Γ : Wd} (T : Tx Γ) : FnE Γ 3 "work" [false, false, false] c_work :=
  fnE_of T.d_work sc_work (by intro _ _ _ _ _ _ _ _ us hl; exact match us, hl with | [_, _, _], _ => rfl) T.bn rfl (tr_work T) law_work


/-- gone moment by moment, the amount is done at e and not ahead of it -/
structure DueW (ps : List Int) (ms : List (Int × Int)) (m a e : Int) : Prop where
  le : m ≤ e
  done : a ≤ spanSum ps ms m e
  soon : m < e → spanSum ps ms m (e - 1) < a
theorem due_fin {ps : List Int} {ms : List (Int × Int)} (mk : Marks ms) (h : 0 < ps.length) {m a at_ left e : Int} (mat : m ≤ at_) (S : spanSum ps (realOf ps ms) m at_ + left = a) (z : left = 0 → at_ = m)
    (E : EndW ps at_ left e) (no : 0 < left → ∀ c ∈ realOf ps ms, ¬ (at_ ≤ c.1 ∧ c.1 < e)) : DueW ps ms m a e := by
  have up := real_up (ps := ps) mk
  rcases E with ⟨l0, rfl⟩ | ⟨l0, lt, e1, e2⟩
  · have := z l0
    subst this
    rw [spanSum_self] at S
    exact ⟨by omega, by rw [spanSum_self]; omega, fun h => absurd h (by omega)⟩
  · have f1 := spanSum_flat h up (show at_ ≤ e by omega) (no l0)
    have f2 := spanSum_flat h up (show at_ ≤ e - 1 by omega) (fun c hc => by have := no l0 c hc; omega)
    have a1 := spanSum_add ps (realOf ps ms) mat (show at_ ≤ e by omega)
    have a2 := spanSum_add ps (realOf ps ms) mat (show at_ ≤ e - 1 by omega)
    rw [spanSum_real mk] at a1 a2
    exact ⟨by omega, by omega, fun _ => by omega⟩
def c_due : Con := fun svs Q _ => ∃ (ps : List Int) (ms : List (Int × Int)) (m a : Int), svs = [.d (calD ps ms), .d (.int m), .d (.int a)] ∧ Week ps ∧ 0 < ps.length ∧ ps.length ≤ 12 ∧ Marks ms ∧ 0 ≤ a ∧ ∀ e, DueW ps ms m a e → Q (.d (.int e)) svs
/-! due: calendar 0, moment 1, amount 2, speeds 3, at 4, left 5, place 6, speed 7, done 8 -/
theorem sc_due : FnScope N_due ["calendar", "moment", "amount"] (defScope st_due) := ⟨rfl, rfl, rfl, by decide +kernel, rfl, by decide +kernel, by decide +kernel⟩
abbrev w_due_1 : WS := wPar2 4 5 (wCons (w2 kAdd (wVar 6) (wC (.int 1))) (wCons (w2 kSub (w2 kSub (wVar 5) (wVar 8)) (wVar 7)) (wNil)))
abbrev w_due_2 : WS := wSeq (wIf (wTst (w2 kGe (w2 kAdd (wVar 8) (wVar 7)) (wVar 5))) (wRetF (w2 kAdd (wVar 6) (wC (.int 1)))) (wNext)) w_due_1
abbrev w_due_3 : WS := wSeq (wIf (wTst (w2 kGe (wVar 8) (wVar 5))) (wBreak) (wNext)) w_due_2
abbrev w_due_4 : WS := wSeq (wAsg 8 (wCall [false, false, false] c_work_of_weeks (wCons (wVar 3) (wCons (wVar 4) (wCons (wVar 6) (wNil)))))) w_due_3
abbrev w_due_5 : WS := wSeq (wIf (wOrT (wTst (w2 kLt (wVar 6) (wVar 4))) (wTst (w2 kEq (wVar 5) (wC (.int 0))))) (wCont) (wNext)) w_due_4
abbrev w_due_6 : WS := wRetF (wCall [false, false, false] c_end_of_weeks (wCons (wVar 3) (wCons (wVar 4) (wCons (wVar 5) (wNil)))))
abbrev w_due_7 : WS := wSeq (wFor (wIt (wProp 0 [false] c_Calendar_changes (wVar 0))) (gTp 2 (gsCons (gNm 6) (gsCons (gNm 7) (gsNil)))) w_due_5) w_due_6
abbrev w_due_8 : WS := wSeq (wPar3 3 4 5 (wCons (wProp 0 [false] c_Calendar_speeds (wVar 0)) (wCons (wVar 1) (wCons (wVar 2) (wNil))))) w_due_7
def w_due : WS :=
  wSeq (wExp (wCall [false] c_check_amount (wCons (wVar 2) (wNil)))) w_due_8
theorem tr_due {Γ : Wd} (T : Tx Γ) (X : Cx) (C : Ctx Γ X N_due (defScope st_due) (fun _ => true) 2) (P : Own X) (dc : DefCx X) : SSs Γ [] X (defBody st_due) w_due :=
  sss_cons (ss_exp (se_call C (FnE.mono (ok_check_amount T) (by decide)) (sa_cons (se_var C 2) (sa_nil))))
  (sss_cons (ss_par3 C 3 4 5 (sa_cons (se_prop C T.K_0 (PrE.mono (ok_Calendar_speeds T) (by decide)) (se_var C 0)) (sa_cons (se_var C 1) (sa_cons (se_var C 2) (sa_nil)))))
  (sss_cons (ss_for C P (is := [6, 7]) (si_seq (se_prop C T.K_0 (PrE.mono (ok_Calendar_changes T) (by decide)) (se_var C 0))) (sg_tup C (sgs_cons (sg_name C 6) (sgs_cons (sg_name C 7) (sgs_nil)))) (sss_cons (ss_if (SW.st (sw_or (st_lt  (se_var C 6) (se_var C 4)) (sw_or1 (st_eq C (se_var C 5) (se_int))))) (sss_one (ss_cont)) (sss_nil))
  (sss_cons (ss_asg C 8 (se_call C (FnE.mono (ok_work_of_weeks T) (by decide)) (sa_cons (se_var C 3) (sa_cons (se_var C 4) (sa_cons (se_var C 6) (sa_nil))))))
  (sss_cons (ss_if (st_ge  (se_var C 8) (se_var C 5)) (sss_one (ss_break)) (sss_nil))
  (sss_cons (ss_if (st_ge  (se_add (se_var C 8) (se_var C 7)) (se_var C 5)) (sss_one (ss_retF (se_add (se_var C 6) (se_int)))) (sss_nil))
  (sss_one (ss_par2 C 4 5 (sa_cons (se_add (se_var C 6) (se_int)) (sa_cons (se_sub (se_sub (se_var C 5) (se_var C 8)) (se_var C 7)) (sa_nil))))))))))
  (sss_one (ss_retF (se_call C (FnE.mono (ok_end_of_weeks T) (by decide)) (sa_cons (se_var C 3) (sa_cons (se_var C 4) (sa_cons (se_var C 5) (sa_nil)))))))))

theorem law_due : LawOf N_due [false, false, false] c_due w_due := by
  rintro svs Q E - ⟨ps, ms, m, a, rfl, wk, hl, h12, mk, ha, hq⟩
  have lenD : (((ps.map D.int).length : Nat) : Int) = ps.length := by rw [List.length_map]
  have up := real_up (ps := ps) mk
  have sp := sum_pos wk
  have s36 : ps.sum ≤ 36 := by
    have key : ∀ {qs : List Int}, (∀ y ∈ qs, 0 ≤ y ∧ y ≤ 3) → qs.sum ≤ 3 * qs.length := fun {qs} => by
      induction qs with
      | nil => intro _; simp
      | cons q qs ih =>
        intro bd
        have := ih fun y hy => bd y (by simp [hy])
        have := bd q (by simp)
        simp only [List.sum_cons, List.length_cons]
        omega
    have := key wk.bd
    omega
  show w_due [some (.d (calD ps ms)), some (.d (.int m)), some (.d (.int a)), none, none, none, none, none, none] _ _
  ((conv => whnf); try dsimp only [List.set_cons_zero, List.set_cons_succ]); refine ⟨a, rfl, ha, ?_⟩
  ((conv => whnf); try dsimp only [List.set_cons_zero, List.set_cons_succ]); refine ⟨rfl, ps, ms, rfl, ?_⟩
  ((conv => whnf); try dsimp only [List.set_cons_zero, List.set_cons_succ]); refine ⟨rfl, ps, ms, rfl, ?_⟩
  ((conv => whnf); try dsimp only [List.set_cons_zero, List.set_cons_succ])
  refine forL_ind (fun ds ρ => ∃ (as rs : List (Int × Int)) (at_ left : Int) (x y z : Option SV), realOf ps ms = as ++ rs ∧ ds = rs.map mkD ∧ m ≤ at_ ∧ 0 ≤ left ∧ spanSum ps (realOf ps ms) m at_ + left = a ∧ (left = 0 → at_ = m) ∧ (0 < left → ∀ c ∈ as, c.1 < at_) ∧
    ρ = [some (.d (calD ps ms)), some (.d (.int m)), some (.d (.int a)), some (.d (.lst (ps.map D.int))), some (.d (.int at_)), some (.d (.int left)), x, y, z]) ?_ ?_ _ _
    ⟨[], realOf ps ms, m, a, none, none, none, rfl, rfl, by omega, ha, by rw [spanSum_self]; omega, fun _ => rfl, (fun _ c hc => nomatch hc), rfl⟩
  · rintro ρ ⟨as, rs, at_, left, x, y, z, e, e2, mat, l0, S, zz, past, rfl⟩
    obtain rfl : rs = [] := by cases rs with
      | nil => rfl
      | cons _ _ => cases e2
    rw [List.append_nil] at e
    ((conv => whnf); try dsimp only [List.set_cons_zero, List.set_cons_succ]); refine ⟨ps, at_, left, rfl, wk, hl, h12, l0, fun end_ he => ?_⟩
    ((conv => whnf); try dsimp only [List.set_cons_zero, List.set_cons_succ]); exact hq end_ (due_fin mk hl mat S zz he fun lp c hc => by rw [e] at hc; have := past lp c hc; omega)
  · rintro d ds ρ ⟨as, rs, at_, left, x, y, z, e, e2, mat, l0, S, zz, past, rfl⟩ ih
    cases rs with
    | nil => cases e2
    | cons r rs =>
      cases e2
      have rup := up
      rw [e] at rup
      have rup2 := (List.pairwise_append.mp rup)
      have r1 := (List.pairwise_cons.mp rup2.2.1).1
      have rin : r ∈ realOf ps ms := by rw [e]; simp
      have cont := fun (hh : r.1 < at_ ∨ left = 0) (z2 : Option SV) => ih [some (.d (calD ps ms)), some (.d (.int m)), some (.d (.int a)), some (.d (.lst (ps.map D.int))), some (.d (.int at_)), some (.d (.int left)), some (.d (.int r.1)), some (.d (.int r.2)), z2] ⟨as ++ [r], rs, at_, left, _, _, _, by rw [e]; simp, rfl, mat, l0, S, zz, fun lp c hc => by
        rcases List.mem_append.mp hc with q | q
        · exact past lp c q
        · simp at q; subst q; omega, rfl⟩
      ((conv => whnf); try dsimp only [List.set_cons_zero, List.set_cons_succ]); refine ⟨rfl, ?_⟩
      ((conv => whnf); try dsimp only [List.set_cons_zero, List.set_cons_succ]); refine Br.of (fun h => ?_) (fun h => ?_)
      · ((conv => whnf); try dsimp only [List.set_cons_zero, List.set_cons_succ]); refine Br.tt ?_
        ((conv => whnf); try dsimp only [List.set_cons_zero, List.set_cons_succ]); exact ⟨_, Fgt.refl _, cont (.inl h) _⟩
      · ((conv => whnf); try dsimp only [List.set_cons_zero, List.set_cons_succ]); refine Br.of (fun h2 => ?_) (fun h2 => ?_)
        · ((conv => whnf); try dsimp only [List.set_cons_zero, List.set_cons_succ]); exact ⟨_, Fgt.refl _, cont (.inr h2) _⟩
        · have h' : ¬ r.1 < at_ := h
          have h2' : ¬ left = 0 := h2
          have flat := spanSum_flat hl up (show at_ ≤ r.1 by omega) (fun c hc => by
            rw [e] at hc
            rcases List.mem_append.mp hc with q | q
            · have := past (by omega) c q; omega
            · rcases List.mem_cons.mp q with q | q
              · subst q; omega
              · have := r1 c q; omega)
          have add1 := spanSum_add ps (realOf ps ms) mat (show at_ ≤ r.1 by omega)
          have add2 := spanSum_add ps (realOf ps ms) (show m ≤ r.1 by omega) (show r.1 ≤ r.1 + 1 by omega)
          rw [spanSum_one, paceF_at up rin] at add2
          have rbd := mk.bd r (List.mem_filter.mp rin).1
          ((conv => whnf); try dsimp only [List.set_cons_zero, List.set_cons_succ]); refine ⟨ps, at_, r.1, rfl, hl, h12, by omega, by omega, ?_⟩
          ((conv => whnf); try dsimp only [List.set_cons_zero, List.set_cons_succ]); refine Br.of (fun h3 => ?_) (fun h3 => ?_)
          · have h3' : left ≤ weekSum ps at_ r.1 := h3
            ((conv => whnf); try dsimp only [List.set_cons_zero, List.set_cons_succ]); refine ⟨ps, at_, left, rfl, wk, hl, h12, l0, fun end_ he => ?_⟩
            ((conv => whnf); try dsimp only [List.set_cons_zero, List.set_cons_succ]); refine hq end_ (due_fin mk hl mat S zz he fun lp c hc => ?_)
            have le : end_ ≤ r.1 := by
              rcases he with ⟨l1, _⟩ | ⟨_, lt, e1, e3⟩
              · omega
              · refine Classical.byContradiction fun z => ?_
                have := weekSum_mono wk hl at_ (show r.1 ≤ end_ - 1 by omega)
                omega
            rw [e] at hc
            rcases List.mem_append.mp hc with q | q
            · have := past (by omega) c q; omega
            · rcases List.mem_cons.mp q with q | q
              · subst q; omega
              · have := r1 c q; omega
          · have h3' : ¬ left ≤ weekSum ps at_ r.1 := h3
            ((conv => whnf); try dsimp only [List.set_cons_zero, List.set_cons_succ]); refine Br.of (fun h4 => ?_) (fun h4 => ?_)
            · have h4' : left ≤ weekSum ps at_ r.1 + r.2 := h4
              ((conv => whnf); try dsimp only [List.set_cons_zero, List.set_cons_succ]); refine hq (r.1 + 1) ⟨by omega, ?_, fun _ => ?_⟩
              · rw [← spanSum_real mk]; omega
              · rw [← spanSum_real mk, show r.1 + 1 - 1 = r.1 by omega]; omega
            · have h4' : ¬ left ≤ weekSum ps at_ r.1 + r.2 := h4
              ((conv => whnf); try dsimp only [List.set_cons_zero, List.set_cons_succ])
              refine ⟨_, Fgt.refl _, ih _ ⟨as ++ [r], rs, r.1 + 1, left - weekSum ps at_ r.1 - r.2, _, _, _, by rw [e]; simp, rfl, by omega, by omega, by omega, fun _ => by omega, fun _ c hc => ?_, rfl⟩⟩
              rcases List.mem_append.mp hc with q | q
              · have := past (by omega) c q; omega
              · simp at q; subst q; omega
theorem ok_due {Γ : Wd} (T : Tx Γ) : FnE Γ 3 "due" [false, false, false] c_due :=
  fnE_of T.d_due sc_due (by intro _ _ _ _ _ _ _ _ us hl; exact match us, hl with | [_, _, _], _ => rfl) T.bn rfl (tr_due T) law_due


/-- gone moment by moment, the amount begun at b is done at m, and none that is begun later -/
structure LatW (ps : List Int) (ms : List (Int × Int)) (m a b : Int) : Prop where
  le : b ≤ m
  done : a ≤ spanSum ps ms b m
  soon : b < m → spanSum ps ms (b + 1) m < a
theorem lat_fin {ps : List Int} {ms : List (Int × Int)} (mk : Marks ms) (h : 0 < ps.length) {m a at_ left b : Int} (mat : at_ ≤ m) (S : spanSum ps (realOf ps ms) at_ m + left = a) (z : left = 0 → at_ = m)
    (B : BegW ps at_ left b) (no : 0 < left → ∀ c ∈ realOf ps ms, ¬ (b ≤ c.1 ∧ c.1 < at_)) : LatW ps ms m a b := by
  have up := real_up (ps := ps) mk
  rcases B with ⟨l0, rfl⟩ | ⟨l0, lt, e1, e2⟩
  · have := z l0
    subst this
    rw [spanSum_self] at S
    exact ⟨by omega, by rw [spanSum_self]; omega, fun h => absurd h (by omega)⟩
  · have f1 := spanSum_flat h up (show b ≤ at_ by omega) (no l0)
    have f2 := spanSum_flat h up (show b + 1 ≤ at_ by omega) (fun c hc => by have := no l0 c hc; omega)
    have a1 := spanSum_add ps (realOf ps ms) (show b ≤ at_ by omega) mat
    have a2 := spanSum_add ps (realOf ps ms) (show b + 1 ≤ at_ by omega) mat
    rw [spanSum_real mk] at a1 a2
    exact ⟨by omega, by omega, fun _ => by omega⟩
def c_latest : Con := fun svs Q _ => ∃ (ps : List Int) (ms : List (Int × Int)) (m a : Int), svs = [.d (calD ps ms), .d (.int m), .d (.int a)] ∧ Week ps ∧ 0 < ps.length ∧ ps.length ≤ 12 ∧ Marks ms ∧ 0 ≤ a ∧ ∀ b, LatW ps ms m a b → Q (.d (.int b)) svs
/-! latest: calendar 0, moment 1, amount 2, speeds 3, at 4, left 5, place 6, speed 7, done 8 -/
theorem sc_latest : FnScope N_latest ["calendar", "moment", "amount"] (defScope st_latest) := ⟨rfl, rfl, rfl, by decide +kernel, rfl, by decide +kernel, by decide +kernel⟩
abbrev w_latest_1 : WS := wPar2 4 5 (wCons (wVar 6) (wCons (w2 kSub (w2 kSub (wVar 5) (wVar 8)) (wVar 7)) (wNil)))
abbrev w_latest_2 : WS := wSeq (wIf (wTst (w2 kGe (w2 kAdd (wVar 8) (wVar 7)) (wVar 5))) (wRetF (wVar 6)) (wNext)) w_latest_1
abbrev w_latest_3 : WS := wSeq (wIf (wTst (w2 kGe (wVar 8) (wVar 5))) (wBreak) (wNext)) w_latest_2
abbrev w_latest_4 : WS := wSeq (wAsg 8 (wCall [false, false, false] c_work_of_weeks (wCons (wVar 3) (wCons (w2 kAdd (wVar 6) (wC (.int 1))) (wCons (wVar 4) (wNil)))))) w_latest_3
abbrev w_latest_5 : WS := wSeq (wIf (wOrT (wTst (w2 kGe (wVar 6) (wVar 4))) (wTst (w2 kEq (wVar 5) (wC (.int 0))))) (wCont) (wNext)) w_latest_4
abbrev w_latest_6 : WS := wRetF (wCall [false, false, false] c_begin_of_weeks (wCons (wVar 3) (wCons (wVar 4) (wCons (wVar 5) (wNil)))))
abbrev w_latest_7 : WS := wSeq (wFor (wIt (wRev (wProp 0 [false] c_Calendar_changes (wVar 0)))) (gTp 2 (gsCons (gNm 6) (gsCons (gNm 7) (gsNil)))) w_latest_5) w_latest_6
abbrev w_latest_8 : WS := wSeq (wPar3 3 4 5 (wCons (wProp 0 [false] c_Calendar_speeds (wVar 0)) (wCons (wVar 1) (wCons (wVar 2) (wNil))))) w_latest_7
def w_latest : WS :=
  wSeq (wExp (wCall [false] c_check_amount (wCons (wVar 2) (wNil)))) w_latest_8
theorem tr_latest {Γ : Wd} (T : Tx Γ) (X : Cx) (C : Ctx Γ X N_latest (defScope st_latest) (fun _ => true) 2) (P : Own X) (dc : DefCx X) : SSs Γ [] X (defBody st_latest) w_latest :=
  sss_cons (ss_exp (se_call C (FnE.mono (ok_check_amount T) (by decide)) (sa_cons (se_var C 2) (sa_nil))))
  (sss_cons (ss_par3 C 3 4 5 (sa_cons (se_prop C T.K_0 (PrE.mono (ok_Calendar_speeds T) (by decide)) (se_var C 0)) (sa_cons (se_var C 1) (sa_cons (se_var C 2) (sa_nil)))))
  (sss_cons (ss_for C P (is := [6, 7]) (si_seq (se_rev (se_prop C T.K_0 (PrE.mono (ok_Calendar_changes T) (by decide)) (se_var C 0)))) (sg_tup C (sgs_cons (sg_name C 6) (sgs_cons (sg_name C 7) (sgs_nil)))) (sss_cons (ss_if (SW.st (sw_or (st_ge  (se_var C 6) (se_var C 4)) (sw_or1 (st_eq C (se_var C 5) (se_int))))) (sss_one (ss_cont)) (sss_nil))
  (sss_cons (ss_asg C 8 (se_call C (FnE.mono (ok_work_of_weeks T) (by decide)) (sa_cons (se_var C 3) (sa_cons (se_add (se_var C 6) (se_int)) (sa_cons (se_var C 4) (sa_nil))))))
  (sss_cons (ss_if (st_ge  (se_var C 8) (se_var C 5)) (sss_one (ss_break)) (sss_nil))
  (sss_cons (ss_if (st_ge  (se_add (se_var C 8) (se_var C 7)) (se_var C 5)) (sss_one (ss_retF (se_var C 6))) (sss_nil))
  (sss_one (ss_par2 C 4 5 (sa_cons (se_var C 6) (sa_cons (se_sub (se_sub (se_var C 5) (se_var C 8)) (se_var C 7)) (sa_nil))))))))))
  (sss_one (ss_retF (se_call C (FnE.mono (ok_begin_of_weeks T) (by decide)) (sa_cons (se_var C 3) (sa_cons (se_var C 4) (sa_cons (se_var C 5) (sa_nil)))))))))

theorem law_latest : LawOf N_latest [false, false, false] c_latest w_latest := by
  rintro svs Q E - ⟨ps, ms, m, a, rfl, wk, hl, h12, mk, ha, hq⟩
  have lenD : (((ps.map D.int).length : Nat) : Int) = ps.length := by rw [List.length_map]
  have up := real_up (ps := ps) mk
  have sp := sum_pos wk
  have s36 := sum_le3 wk.bd
  show w_latest [some (.d (calD ps ms)), some (.d (.int m)), some (.d (.int a)), none, none, none, none, none, none] _ _
  ((conv => whnf); try dsimp only [List.set_cons_zero, List.set_cons_succ]); refine ⟨a, rfl, ha, ?_⟩
  ((conv => whnf); try dsimp only [List.set_cons_zero, List.set_cons_succ]); refine ⟨rfl, ps, ms, rfl, ?_⟩
  ((conv => whnf); try dsimp only [List.set_cons_zero, List.set_cons_succ]); refine ⟨rfl, ps, ms, rfl, ?_⟩
  ((conv => whnf); try dsimp only [List.set_cons_zero, List.set_cons_succ])
  refine forL_ind (fun ds ρ => ∃ (rs as : List (Int × Int)) (at_ left : Int) (x y z : Option SV), realOf ps ms = rs.reverse ++ as ∧ ds = rs.map mkD ∧ at_ ≤ m ∧ 0 ≤ left ∧ spanSum ps (realOf ps ms) at_ m + left = a ∧ (left = 0 → at_ = m) ∧ (0 < left → ∀ c ∈ as, at_ ≤ c.1) ∧
    ρ = [some (.d (calD ps ms)), some (.d (.int m)), some (.d (.int a)), some (.d (.lst (ps.map D.int))), some (.d (.int at_)), some (.d (.int left)), x, y, z]) ?_ ?_ _ _
    ⟨(realOf ps ms).reverse, [], m, a, none, none, none, by simp, by rw [List.map_reverse], by omega, ha, by rw [spanSum_self]; omega, fun _ => rfl, (fun _ c hc => nomatch hc), rfl⟩
  · rintro ρ ⟨rs, as, at_, left, x, y, z, e, e2, mat, l0, S, zz, past, rfl⟩
    obtain rfl : rs = [] := by cases rs with
      | nil => rfl
      | cons _ _ => cases e2
    rw [List.reverse_nil, List.nil_append] at e
    ((conv => whnf); try dsimp only [List.set_cons_zero, List.set_cons_succ]); refine ⟨ps, at_, left, rfl, wk, hl, h12, l0, fun end_ he => ?_⟩
    ((conv => whnf); try dsimp only [List.set_cons_zero, List.set_cons_succ]); exact hq end_ (lat_fin mk hl mat S zz he fun lp c hc => by rw [e] at hc; have := past lp c hc; omega)
  · rintro d ds ρ ⟨rs, as, at_, left, x, y, z, e, e2, mat, l0, S, zz, past, rfl⟩ ih
    cases rs with
    | nil => cases e2
    | cons r rs =>
      cases e2
      rw [List.reverse_cons, List.append_assoc] at e
      have rup := up
      rw [e] at rup
      have rup2 := (List.pairwise_append.mp rup)
      have r1 : ∀ c ∈ rs.reverse, c.1 < r.1 := fun c hc => rup2.2.2 c hc r (by simp)
      have rin : r ∈ realOf ps ms := by rw [e]; simp
      have cont := fun (hh : at_ ≤ r.1 ∨ left = 0) (z2 : Option SV) => ih [some (.d (calD ps ms)), some (.d (.int m)), some (.d (.int a)), some (.d (.lst (ps.map D.int))), some (.d (.int at_)), some (.d (.int left)), some (.d (.int r.1)), some (.d (.int r.2)), z2] ⟨rs, r :: as, at_, left, _, _, _, e, rfl, mat, l0, S, zz, fun lp c hc => by
        rcases List.mem_cons.mp hc with q | q
        · subst q; omega
        · exact past lp c q, rfl⟩
      ((conv => whnf); try dsimp only [List.set_cons_zero, List.set_cons_succ]); refine ⟨rfl, ?_⟩
      ((conv => whnf); try dsimp only [List.set_cons_zero, List.set_cons_succ]); refine Br.of (fun h => ?_) (fun h => ?_)
      · ((conv => whnf); try dsimp only [List.set_cons_zero, List.set_cons_succ]); refine Br.tt ?_
        ((conv => whnf); try dsimp only [List.set_cons_zero, List.set_cons_succ]); exact ⟨_, Fgt.refl _, cont (.inl h) _⟩
      · ((conv => whnf); try dsimp only [List.set_cons_zero, List.set_cons_succ]); refine Br.of (fun h2 => ?_) (fun h2 => ?_)
        · ((conv => whnf); try dsimp only [List.set_cons_zero, List.set_cons_succ]); exact ⟨_, Fgt.refl _, cont (.inr h2) _⟩
        · have h' : ¬ at_ ≤ r.1 := h
          have h2' : ¬ left = 0 := h2
          have flat := spanSum_flat hl up (show r.1 + 1 ≤ at_ by omega) (fun c hc => by
            rw [e] at hc
            rcases List.mem_append.mp hc with q | q
            · have := r1 c q; omega
            · rcases List.mem_cons.mp q with q | q
              · subst q; omega
              · have := past (by omega) c q; omega)
          have add1 := spanSum_add ps (realOf ps ms) (show r.1 + 1 ≤ at_ by omega) mat
          have add2 := spanSum_add ps (realOf ps ms) (show r.1 ≤ r.1 + 1 by omega) (show r.1 + 1 ≤ m by omega)
          rw [spanSum_one, paceF_at up rin] at add2
          have rbd := mk.bd r (List.mem_filter.mp rin).1
          ((conv => whnf); try dsimp only [List.set_cons_zero, List.set_cons_succ]); refine ⟨ps, r.1 + 1, at_, rfl, hl, h12, by omega, by omega, ?_⟩
          ((conv => whnf); try dsimp only [List.set_cons_zero, List.set_cons_succ]); refine Br.of (fun h3 => ?_) (fun h3 => ?_)
          · have h3' : left ≤ weekSum ps (r.1 + 1) at_ := h3
            ((conv => whnf); try dsimp only [List.set_cons_zero, List.set_cons_succ]); refine ⟨ps, at_, left, rfl, wk, hl, h12, l0, fun end_ he => ?_⟩
            ((conv => whnf); try dsimp only [List.set_cons_zero, List.set_cons_succ]); refine hq end_ (lat_fin mk hl mat S zz he fun lp c hc => ?_)
            have le : r.1 + 1 ≤ end_ := by
              rcases he with ⟨l1, _⟩ | ⟨_, lt, e1, e3⟩
              · omega
              · refine Classical.byContradiction fun z => ?_
                have := weekSum_antimono wk hl at_ (show end_ + 1 ≤ r.1 + 1 by omega)
                omega
            rw [e] at hc
            rcases List.mem_append.mp hc with q | q
            · have := r1 c q; omega
            · rcases List.mem_cons.mp q with q | q
              · subst q; omega
              · have := past (by omega) c q; omega
          · have h3' : ¬ left ≤ weekSum ps (r.1 + 1) at_ := h3
            ((conv => whnf); try dsimp only [List.set_cons_zero, List.set_cons_succ]); refine Br.of (fun h4 => ?_) (fun h4 => ?_)
            · have h4' : left ≤ weekSum ps (r.1 + 1) at_ + r.2 := h4
              ((conv => whnf); try dsimp only [List.set_cons_zero, List.set_cons_succ]); refine hq r.1 ⟨by omega, ?_, fun _ => ?_⟩
              · rw [← spanSum_real mk]; omega
              · rw [← spanSum_real mk]; omega
            · have h4' : ¬ left ≤ weekSum ps (r.1 + 1) at_ + r.2 := h4
              ((conv => whnf); try dsimp only [List.set_cons_zero, List.set_cons_succ])
              refine ⟨_, Fgt.refl _, ih _ ⟨rs, r :: as, r.1, left - weekSum ps (r.1 + 1) at_ - r.2, _, _, _, e, rfl, by omega, by omega, by omega, fun _ => by omega, fun _ c hc => ?_, rfl⟩⟩
              rcases List.mem_cons.mp hc with q | q
              · subst q; omega
              · have := past (by omega) c q; omega
theorem ok_latest {Γ : Wd} (T : Tx Γ) : FnE Γ 3 "latest" [false, false, false] c_latest :=
  fnE_of T.d_latest sc_latest (by intro _ _ _ _ _ _ _ _ us hl; exact match us, hl with | [_, _, _], _ => rfl) T.bn rfl (tr_latest T) law_latest


def c_law_is_end : Con := fun svs Q _ => ∃ (ps : List Int) (ms : List (Int × Int)) (lo l hi : Int), svs = [.d (.lst (ps.map D.int)), .d (.lst (ms.map mkD)), .d (.int lo), .d (.int l), .d (.int hi)] ∧ Week ps ∧ 0 < ps.length ∧ ps.length ≤ 12 ∧ Marks ms ∧ 0 ≤ l ∧ DueW ps ms lo l hi ∧ Q (.d (.bl true)) svs
/-! _law_is_end: paces 0, marks 1, low 2, load 3, high 4 -/
theorem sc_law_is_end : FnScope N_law_is_end ["paces", "marks", "low", "load", "high"] (defScope st_law_is_end) := ⟨rfl, rfl, rfl, by decide +kernel, rfl, by decide +kernel, by decide +kernel⟩
abbrev w_law_is_end_1 : WS := wRetF (wAndE (w2 kGe (wCall [false, false, false, false] c_law_total (wCons (wVar 0) (wCons (wVar 1) (wCons (wVar 2) (wCons (wVar 4) (wNil)))))) (wVar 3)) (wAndE (w2 kGt (wVar 4) (wVar 2)) (w2 kLt (wCall [false, false, false, false] c_law_total (wCons (wVar 0) (wCons (wVar 1) (wCons (wVar 2) (wCons (w2 kSub (wVar 4) (wC (.int 1))) (wNil)))))) (wVar 3))))
abbrev w_law_is_end_2 : WS := wSeq (wIf (wTst (w2 kEq (wVar 3) (wC (.int 0)))) (wRetF (w2 kEq (wVar 4) (wVar 2))) (wNext)) w_law_is_end_1
def w_law_is_end : WS :=
  wSeq (wIf (wOrT (wTst (wIsi 1 (wVar 4))) (wOrT (wNotT (wTst (wIsi 0 (wVar 4)))) (wTst (w2 kLt (wVar 4) (wVar 2))))) (wRetF (wC (.bl false))) (wNext)) w_law_is_end_2
theorem tr_law_is_end {Γ : Wd} (T : Tx Γ) (X : Cx) (C : Ctx Γ X N_law_is_end (defScope st_law_is_end) (fun _ => true) 1) (P : Own X) (dc : DefCx X) : SSs Γ [] X (defBody st_law_is_end) w_law_is_end :=
  sss_cons (ss_if (SW.st (sw_or (st_val (se_isi C 1 (se_var C 4) (C.bn _ (by decide +kernel)))) (sw_or (st_not (st_val (se_isi C 0 (se_var C 4) (C.bn _ (by decide +kernel))))) (sw_or1 (st_lt  (se_var C 4) (se_var C 2)))))) (sss_one (ss_retF (se_bl))) (sss_nil))
  (sss_cons (ss_if (st_eq C (se_var C 3) (se_int)) (sss_one (ss_retF (se_eq C (se_var C 4) (se_var C 2)))) (sss_nil))
  (sss_one (ss_retF (se_and (se_ge  (se_call C (FnE.mono (ok_law_total T) (by decide)) (sa_cons (se_var C 0) (sa_cons (se_var C 1) (sa_cons (se_var C 2) (sa_cons (se_var C 4) (sa_nil)))))) (se_var C 3)) (se_and (se_gt  (se_var C 4) (se_var C 2)) (se_one (se_lt  (se_call C (FnE.mono (ok_law_total T) (by decide)) (sa_cons (se_var C 0) (sa_cons (se_var C 1) (sa_cons (se_var C 2) (sa_cons (se_sub (se_var C 4) (se_int)) (sa_nil)))))) (se_var C 3))))))))

theorem law_law_is_end : LawOf N_law_is_end [false, false, false, false, false] c_law_is_end w_law_is_end := by
  rintro svs Q E - ⟨ps, ms, lo, l, hi, rfl, wk, hl, h12, mk, l0, ⟨le, done, soon⟩, hq⟩
  ((conv => whnf); try dsimp only [List.set_cons_zero, List.set_cons_succ]); refine Br.ff ?_
  ((conv => whnf); try dsimp only [List.set_cons_zero, List.set_cons_succ]); refine Br.ff ?_
  ((conv => whnf); try dsimp only [List.set_cons_zero, List.set_cons_succ]); refine Br.of (fun h => absurd h (by omega)) (fun _ => ?_)
  ((conv => whnf); try dsimp only [List.set_cons_zero, List.set_cons_succ]); refine Br.of (fun h => ?_) (fun h => ?_)
  · have h' : l = 0 := h
    have e : hi = lo := Classical.byContradiction fun z => by
      have := soon (by omega)
      have := spanSum_pos wk hl mk lo (hi - 1)
      omega
    rw [← decide_eq_true e] at hq
    ((conv => whnf); try dsimp only [List.set_cons_zero, List.set_cons_succ]); exact hq
  · have h' : ¬ l = 0 := h
    have lt : lo < hi := Classical.byContradiction fun z => by
      obtain rfl : lo = hi := by omega
      rw [spanSum_self] at done
      omega
    ((conv => whnf); try dsimp only [List.set_cons_zero, List.set_cons_succ]); refine ⟨ps, ms, lo, hi, rfl, wk, hl, h12, mk, le, ?_⟩
    ((conv => whnf); try dsimp only [List.set_cons_zero, List.set_cons_succ]); refine Br.of (fun _ => ?_) (fun h => absurd done h)
    ((conv => whnf); try dsimp only [List.set_cons_zero, List.set_cons_succ]); refine Br.of (fun _ => ?_) (fun h => absurd lt h)
    ((conv => whnf); try dsimp only [List.set_cons_zero, List.set_cons_succ]); refine ⟨ps, ms, lo, hi - 1, rfl, wk, hl, h12, mk, by omega, ?_⟩
    rw [← decide_eq_true (soon lt)] at hq
    ((conv => whnf); try dsimp only [List.set_cons_zero, List.set_cons_succ]); exact hq
theorem ok_law_is_end {Γ : Wd} (T : Tx Γ) : FnE Γ 2 "_law_is_end" [false, false, false, false, false] c_law_is_end :=
  fnE_of T.d_law_is_end sc_law_is_end (by intro _ _ _ _ _ _ _ _ us hl; exact match us, hl with | [_, _, _, _, _], _ => rfl) T.bn rfl (tr_law_is_end T) law_law_is_end


/-! moved calendars -/
def movP (ps : List Int) (s : Int) : List Int := (List.range ps.length).map fun (i : Nat) => paceF ps [] ((i : Int) - s)
def movM (ms : List (Int × Int)) (s : Int) : List (Int × Int) := ms.map fun m => (m.1 + s, m.2)
theorem movP_length (ps : List Int) (s : Int) : (movP ps s).length = ps.length := by unfold movP; rw [List.length_map, List.length_range]
theorem movM_length (ms : List (Int × Int)) (s : Int) : (movM ms s).length = ms.length := List.length_map ..
theorem paceF_mod {ps : List Int} {a b : Int} (h : a % (ps.length : Int) = b % ps.length) : paceF ps [] a = paceF ps [] b := by
  unfold paceF; rw [h]
theorem paceF_movP {ps : List Int} (hl : 0 < ps.length) (s a : Int) : paceF (movP ps s) [] a = paceF ps [] (a - s) := by
  have h1 := Int.emod_nonneg a (show (ps.length : Int) ≠ 0 by omega)
  have h2 := Int.emod_lt_of_pos a (show (0 : Int) < ps.length by omega)
  have q := Int.mul_ediv_add_emod a ps.length
  have e : paceF (movP ps s) [] a = paceF ps [] (a % ps.length - s) := by
    have h3 : (a % (ps.length : Int)).toNat < ps.length := by omega
    show ((movP ps s)[(a % ((movP ps s).length : Int)).toNat]?).getD 0 = _
    rw [movP_length]
    unfold movP
    rw [List.getElem?_map, List.getElem?_range h3]
    show paceF ps [] ((((a % (ps.length : Int)).toNat : Nat) : Int) - s) = _
    rw [Int.toNat_of_nonneg h1]
  rw [e]
  refine paceF_mod ?_
  rw [show a - s = a % (ps.length : Int) - s + ps.length * (a / ps.length) by omega, Int.add_mul_emod_self_left]
theorem paceF_mov {ps : List Int} (hl : 0 < ps.length) (s a : Int) : ∀ ms : List (Int × Int), paceF (movP ps s) (movM ms s) a = paceF ps ms (a - s)
  | [] => paceF_movP hl s a
  | m :: ms => by
    show (if m.1 + s = a then m.2 else paceF (movP ps s) (movM ms s) a) = (if m.1 = a - s then m.2 else paceF ps ms (a - s))
    rw [paceF_mov hl s a ms]
    by_cases h : m.1 = a - s
    · rw [if_pos h, if_pos (by omega)]
    · rw [if_neg h, if_neg (by omega)]
theorem week_mov {ps : List Int} (wk : Week ps) (hl : 0 < ps.length) (s : Int) : Week (movP ps s) := by
  have mem : ∀ x ∈ movP ps s, ∃ a, x = paceF ps [] a := fun x hx => by
    obtain ⟨i, _, rfl⟩ := List.mem_map.mp hx
    exact ⟨_, rfl⟩
  refine ⟨?_, fun x hx => ?_⟩
  · obtain ⟨x, hx, x0⟩ := wk.pos
    obtain ⟨i, hi, rfl⟩ := List.getElem_of_mem hx
    have hn : (ps.length : Int) ≠ 0 := by omega
    have r0 := Int.emod_nonneg (i + s) hn
    have r1 := Int.emod_lt_of_pos (i + s) (show (0 : Int) < ps.length by omega)
    have q := Int.mul_ediv_add_emod (i + s) ps.length
    refine ⟨_, List.mem_map.mpr ⟨((i + s) % (ps.length : Int)).toNat, List.mem_range.mpr (by omega), rfl⟩, ?_⟩
    have e : paceF ps [] ((((i + s) % (ps.length : Int)).toNat : Nat) - s) = ps[i] := by
      rw [paceF_mod (b := i) (by
        rw [Int.toNat_of_nonneg r0, show (i + s) % (ps.length : Int) - s = i + ps.length * (-((i + s) / ps.length)) by rw [Int.mul_neg]; omega, Int.add_mul_emod_self_left])]
      unfold paceF
      rw [Int.emod_eq_of_lt (by omega) (by omega), Int.toNat_natCast, List.getElem?_eq_getElem hi]
      rfl
    rw [e]; exact x0
  · obtain ⟨a, rfl⟩ := mem x hx
    have h1 := Int.emod_nonneg a (show (ps.length : Int) ≠ 0 by omega)
    have h2 := Int.emod_lt_of_pos a (show (0 : Int) < ps.length by omega)
    have h3 : (a % (ps.length : Int)).toNat < ps.length := by omega
    unfold paceF
    rw [List.getElem?_eq_getElem h3]
    exact wk.bd _ (List.getElem_mem h3)
theorem marks_mov {ms : List (Int × Int)} (mk : Marks ms) (s : Int) : Marks (movM ms s) := by
  refine ⟨mk.up.map _ fun a b h => by show a.1 + s < b.1 + s; omega, fun m hm => ?_⟩
  obtain ⟨r, hr, rfl⟩ := List.mem_map.mp hm
  exact mk.bd r hr
theorem marks_real {ps : List Int} {ms : List (Int × Int)} (mk : Marks ms) : Marks (realOf ps ms) := ⟨real_up mk, fun m hm => mk.bd m (List.mem_filter.mp hm).1⟩
theorem real_real (ps : List Int) (ms : List (Int × Int)) : realOf ps (realOf ps ms) = realOf ps ms := by
  unfold realOf
  rw [List.filter_filter]
  simp
theorem real_mov {ps : List Int} (hl : 0 < ps.length) (ms : List (Int × Int)) (s : Int) : realOf (movP ps s) (movM ms s) = movM (realOf ps ms) s := by
  unfold realOf movM
  rw [List.filter_map]
  congr 1
  refine List.filter_congr fun m _ => ?_
  show (!decide (paceF (movP ps s) [] (m.1 + s) = m.2)) = _
  rw [paceF_movP hl, show m.1 + s - s = m.1 by omega]
theorem calD_mov {ps : List Int} (hl : 0 < ps.length) (ms : List (Int × Int)) (s : Int) : calD (movP ps s) (movM (realOf ps ms) s) = calD (movP ps s) (movM ms s) := by
  unfold calD
  rw [real_mov hl, real_mov hl, real_real]
def c_Calendar_moved : Con := fun svs Q _ => ∃ (ps : List Int) (ms : List (Int × Int)) (s : Int), svs = [.d (calD ps ms), .d (.int s)] ∧ Week ps ∧ 0 < ps.length ∧ ps.length ≤ 12 ∧ Marks ms ∧ ms.length ≤ 1000 ∧ Q (.d (calD (movP ps s) (movM ms s))) svs
/-! Calendar.moved: self 0, number 1, week 2, speeds 3, at 4, speed 5 -/
theorem sc_Calendar_moved : FnScope N_Calendar_moved ["self", "number"] (defScope st_Calendar_moved) := ⟨rfl, rfl, rfl, by decide +kernel, rfl, by decide +kernel, by decide +kernel⟩
abbrev w_Calendar_moved_1 : WS := wRetF (wMake 0 [false, false] c_Calendar_init (wCons (wVar 3) (wCons (wLc (wIt (wFld 0 1 (wVar 0))) (gTp 2 (gsCons (gNm 4) (gsCons (gNm 5) (gsNil)))) (wYes) (wTup (wCons (w2 kAdd (wVar 4) (wVar 1)) (wCons (wVar 5) (wNil)))) [4, 5]) (wNil))))
abbrev w_Calendar_moved_2 : WS := wSeq (wAsg 3 (wLc (wRng1 (wCons (wVar 2) (wNil))) (gNm 4) (wYes) (w2 kIdx (wFld 0 0 (wVar 0)) (w2 kMod (w2 kSub (wVar 4) (wVar 1)) (wVar 2))) [4])) w_Calendar_moved_1
def w_Calendar_moved : WS :=
  wSeq (wAsg 2 (wB kLen (wCons (wFld 0 0 (wVar 0)) (wNil)))) w_Calendar_moved_2
theorem tr_Calendar_moved {Γ : Wd} (T : Tx Γ) (X : Cx) (C : Ctx Γ X N_Calendar_moved (defScope st_Calendar_moved) (fun _ => true) 3) (P : Own X) (dc : DefCx X) : SSs Γ [] X (defBody st_Calendar_moved) w_Calendar_moved :=
  sss_cons (ss_asg C 2 (se_len C (sa_cons (se_fld C T.K_0 (by rw [T.F_0]; rfl) (se_var C 0)) (sa_nil))))
  (sss_cons (ss_asgLc C 3 (own := [("at", 4)]) (is := [4]) rfl rfl rfl rfl (by decide +kernel) (by decide +kernel) (by decide +kernel) (si_range1 C (sa_cons (se_var C 2) (sa_nil))) (fun _ hX => sg_name hX.1 4) (fun _ hX => sts_nil) (fun _ hX => se_idx hX.1 (fun _ _ => rfl) (se_fld hX.1 T.K_0 (by rw [T.F_0]; rfl) (se_var hX.1 0)) (se_mod (se_sub (se_var hX.1 4) (se_var hX.1 1)) (se_var hX.1 2))))
  (sss_one (ss_retF (se_make C (MkE.mono (ok_Calendar_init T) (by decide)) (sa_cons (se_var C 3) (sa_cons (se_lc C (own := [("at", 4), ("speed", 5)]) (is := [4, 5]) (by decide +kernel) (by decide +kernel) (si_seq (se_fld C T.K_0 (by rw [T.F_0]; rfl) (se_var C 0))) (fun _ hX => sg_tup hX.1 (sgs_cons (sg_name hX.1 4) (sgs_cons (sg_name hX.1 5) (sgs_nil)))) (fun _ hX => sts_nil) (fun _ hX => se_tup (sa_cons (se_add (se_var hX.1 4) (se_var hX.1 1)) (sa_cons (se_var hX.1 5) (sa_nil))))) (sa_nil)))))))

theorem law_Calendar_moved : LawOf N_Calendar_moved [false, false] c_Calendar_moved w_Calendar_moved := by
  rintro svs Q E - ⟨ps, ms, s, rfl, wk, hl, h12, mk, hm, hq⟩
  have lenD : (((ps.map D.int).length : Nat) : Int) = ps.length := by rw [List.length_map]
  have la : (realOf ps ms).length ≤ ms.length := List.length_filter_le _ _
  ((conv => whnf); try dsimp only [List.set_cons_zero, List.set_cons_succ]); refine ⟨rfl, ?_⟩
  ((conv => whnf); try dsimp only [List.set_cons_zero, List.set_cons_succ]); rw [lenD]; refine ⟨by omega, by omega, ?_⟩
  rw [show rngD 0 (ps.length : Int).toNat = (List.range' 0 ps.length).map fun (i : Nat) => D.int (0 + (i : Int)) by unfold rngD; rw [List.range_eq_range']; rfl]
  refine compL_ind (fun ds acc ρ => ∃ (i k : Nat), i + k = ps.length ∧ ds = (List.range' i k).map (fun (i : Nat) => D.int (0 + (i : Int))) ∧ acc = ((List.range i).map fun (i : Nat) => paceF ps [] ((i : Int) - s)).map D.int ∧
    ρ = [some (.d (calD ps ms)), some (.d (.int s)), some (.d (.int ps.length)), none, none, none]) ?_ ?_ _ _ _ ⟨0, ps.length, by omega, rfl, rfl, rfl⟩
  · rintro acc ρ ⟨i, k, hik, e, rfl, rfl⟩
    obtain rfl : k = 0 := by cases k with
      | zero => rfl
      | succ k => rw [List.range'_succ] at e; cases e
    obtain rfl : i = ps.length := by omega
    ((conv => whnf); try dsimp only [List.set_cons_zero, List.set_cons_succ]); refine ⟨rfl, ?_⟩
    ((conv => whnf); try dsimp only [List.set_cons_zero, List.set_cons_succ])
    refine compL_ind (fun ds acc ρ => ∃ (as rs : List (Int × Int)), realOf ps ms = as ++ rs ∧ ds = rs.map mkD ∧ acc = (movM as s).map mkD ∧
      ρ = [some (.d (calD ps ms)), some (.d (.int s)), some (.d (.int ps.length)), some (.lst ((movP ps s).map D.int)), none, none]) ?_ ?_ _ _ _ ⟨[], realOf ps ms, rfl, rfl, rfl, rfl⟩
    · rintro acc ρ ⟨as, rs, e, e2, rfl, rfl⟩
      obtain rfl : rs = [] := by cases rs with
        | nil => rfl
        | cons _ _ => cases e2
      rw [List.append_nil] at e
      subst e
      ((conv => whnf); try dsimp only [List.set_cons_zero, List.set_cons_succ]); refine ⟨movP ps s, movM (realOf ps ms) s, rfl, week_mov wk hl s, by rw [movP_length]; omega, by rw [movP_length]; omega, marks_mov (marks_real mk) s, by rw [movM_length]; omega, rfl, _, _, rfl, ?_⟩
      rw [← calD_mov hl ms s] at hq
      ((conv => whnf); try dsimp only [List.set_cons_zero, List.set_cons_succ]); exact hq
    · rintro d ds acc ρ ⟨as, rs, e, e2, rfl, rfl⟩ ih
      cases rs with
      | nil => cases e2
      | cons r rs =>
        cases e2
        have lm : as.length ≤ (realOf ps ms).length := by rw [e]; simp
        ((conv => whnf); try dsimp only [List.set_cons_zero, List.set_cons_succ]); refine ⟨rfl, ?_⟩
        ((conv => whnf); try dsimp only [List.set_cons_zero, List.set_cons_succ]); refine Br.tt ?_
        ((conv => whnf); try dsimp only [List.set_cons_zero, List.set_cons_succ]); refine ⟨few3 (by show 2 ≤ 1000; decide), ?_⟩
        ((conv => whnf); try dsimp only [List.set_cons_zero, List.set_cons_succ]); refine ⟨by rw [List.length_map, movM_length]; omega, ?_⟩
        exact ih _ _ ⟨as ++ [r], rs, by rw [e]; simp, rfl, by unfold movM; simp; rfl, rfl⟩
  · rintro d ds acc ρ ⟨i, k, hik, e, rfl, rfl⟩ ih
    cases k with
    | zero => cases e
    | succ k =>
      rw [List.range'_succ, List.map_cons] at e
      cases e
      have kk := at_week hl (0 + (i : Int) - s)
      ((conv => whnf); try dsimp only [List.set_cons_zero, List.set_cons_succ]); refine Br.tt ?_
      ((conv => whnf); try dsimp only [List.set_cons_zero, List.set_cons_succ]); refine ⟨rfl, ?_⟩
      ((conv => whnf); try dsimp only [List.set_cons_zero, List.set_cons_succ]); refine ⟨by omega, ?_⟩
      ((conv => whnf); try dsimp only [List.set_cons_zero, List.set_cons_succ]); refine ⟨_, kk, ?_⟩
      ((conv => whnf); try dsimp only [List.set_cons_zero, List.set_cons_succ]); refine ⟨by simp; omega, ?_⟩
      exact ih _ _ ⟨i + 1, k, by omega, rfl, by rw [List.range_succ]; simp, rfl⟩
theorem ok_Calendar_moved {Γ : Wd} (T : Tx Γ) : MtE Γ 4 0 "moved" [false, false] c_Calendar_moved :=
  mtE_of T.d_Calendar_moved sc_Calendar_moved (by intro _ _ _ _ _ _ _ _ us hl; exact match us, hl with | [_, _], _ => rfl) T.bn rfl (tr_Calendar_moved T) law_Calendar_moved


theorem eqv_marks : ∀ ms ns : List (Int × Int), PyData.eqvAll (pyL (ms.map mkD)) (pyL (ns.map mkD)) = decide (ms = ns)
  | [], [] => rfl
  | [], _ :: _ => rfl
  | _ :: _, [] => rfl
  | (a, b) :: ms, (c, d) :: ns => by
    show (((a == c) && ((b == d) && true)) && PyData.eqvAll (pyL (ms.map mkD)) (pyL (ns.map mkD))) = _
    rw [eqv_marks ms ns, Bool.eq_iff_iff]
    simp
theorem deq_tmarks (ms ns : List (Int × Int)) : deq (.tup (ms.map mkD)) (.tup (ns.map mkD)) = decide (ms = ns) := eqv_marks ms ns
theorem deq_lmarks (ms ns : List (Int × Int)) : deq (.lst (ms.map mkD)) (.lst (ns.map mkD)) = decide (ms = ns) := eqv_marks ms ns
theorem shp_tmarks (ms : List (Int × Int)) : Shp (.tup (ms.map mkD)) := shp_of (bareL_marks ms).1 (by have := (bareL_marks ms).2; show deepL _ + 1 ≤ 64; omega)
def c_Calendar_eq : Con := fun svs Q _ => ∃ (ps qs : List Int) (ms ns : List (Int × Int)), svs = [.d (calD ps ms), .d (calD qs ns)] ∧ Q (.d (.bl (decide (ps = qs) && decide (realOf ps ms = realOf qs ns)))) svs
/-! Calendar.__eq__: self 0, other 1 -/
theorem sc_Calendar_eq : FnScope N_Calendar_eq ["self", "other"] (defScope st_Calendar_eq) := ⟨rfl, rfl, rfl, by decide +kernel, rfl, by decide +kernel, by decide +kernel⟩
abbrev w_Calendar_eq_1 : WS := wRetF (wAndE (w2 kEq (wFld 0 0 (wVar 0)) (wFld 0 0 (wVar 1))) (w2 kEq (wFld 0 1 (wVar 0)) (wFld 0 1 (wVar 1))))
def w_Calendar_eq : WS :=
  wSeq (wIf (wNotT (wTst (wIsiO 0 (wVar 1)))) (wRetF (wC (.bl false))) (wNext)) w_Calendar_eq_1
theorem tr_Calendar_eq {Γ : Wd} (T : Tx Γ) (X : Cx) (C : Ctx Γ X N_Calendar_eq (defScope st_Calendar_eq) (fun _ => true) 0) (P : Own X) (dc : DefCx X) : SSs Γ [] X (defBody st_Calendar_eq) w_Calendar_eq :=
  sss_cons (ss_if (st_not (st_val (se_isiO C T.I_0 (se_var C 1)))) (sss_one (ss_retF (se_bl))) (sss_nil))
  (sss_one (ss_retF (se_and (se_eq C (se_fld C T.K_0 (by rw [T.F_0]; rfl) (se_var C 0)) (se_fld C T.K_0 (by rw [T.F_0]; rfl) (se_var C 1))) (se_one (se_eq C (se_fld C T.K_0 (by rw [T.F_0]; rfl) (se_var C 0)) (se_fld C T.K_0 (by rw [T.F_0]; rfl) (se_var C 1)))))))

theorem law_Calendar_eq : LawOf N_Calendar_eq [false, false] c_Calendar_eq w_Calendar_eq := by
  rintro svs Q E - ⟨ps, qs, ms, ns, rfl, hq⟩
  ((conv => whnf); try dsimp only [List.set_cons_zero, List.set_cons_succ]); refine Br.ff ?_
  ((conv => whnf); try dsimp only [List.set_cons_zero, List.set_cons_succ]); refine ⟨rfl, ?_⟩
  ((conv => whnf); try dsimp only [List.set_cons_zero, List.set_cons_succ]); refine ⟨rfl, ?_⟩
  ((conv => whnf); try dsimp only [List.set_cons_zero, List.set_cons_succ]); refine ⟨⟨shp_tints ps, shp_tints qs⟩, ?_⟩
  ((conv => whnf); try dsimp only [List.set_cons_zero, List.set_cons_succ]); rw [deq_ltups]
  refine Br.of (fun h => ?_) (fun h => ?_)
  · rw [decide_eq_true h, Bool.true_and] at hq
    ((conv => whnf); try dsimp only [List.set_cons_zero, List.set_cons_succ]); refine ⟨rfl, ?_⟩
    ((conv => whnf); try dsimp only [List.set_cons_zero, List.set_cons_succ]); refine ⟨rfl, ?_⟩
    ((conv => whnf); try dsimp only [List.set_cons_zero, List.set_cons_succ]); refine ⟨⟨shp_tmarks _, shp_tmarks _⟩, ?_⟩
    ((conv => whnf); try dsimp only [List.set_cons_zero, List.set_cons_succ]); rw [deq_tmarks]; exact hq
  · rw [decide_eq_false h, Bool.false_and] at hq
    ((conv => whnf); try dsimp only [List.set_cons_zero, List.set_cons_succ]); exact hq
theorem ok_Calendar_eq {Γ : Wd} (T : Tx Γ) : OpE Γ 1 0 "__eq__" [false, false] c_Calendar_eq :=
  opE_of T.d_Calendar_eq sc_Calendar_eq (by intro _ _ _ _ _ _ _ _ us hl; exact match us, hl with | [_, _], _ => rfl) T.bn rfl (tr_Calendar_eq T) law_Calendar_eq


/-! ascending lists, each once -/
def insU (x : Int) : List Int → List Int
  | [] => [x]
  | y :: ys => if x < y then x :: y :: ys else if x = y then y :: ys else y :: insU x ys
def ups : List Int → List Int
  | [] => []
  | x :: xs => insU x (ups xs)
theorem mem_insU {x a : Int} : ∀ {ys : List Int}, a ∈ insU x ys ↔ a = x ∨ a ∈ ys
  | [] => by simp [insU]
  | y :: ys => by
    unfold insU
    split
    · simp
    · split
      · rename_i h; subst h; simp
      · rw [List.mem_cons, mem_insU, List.mem_cons]
        exact ⟨fun h => h.elim (fun q => .inr (.inl q)) (fun q => q.elim .inl fun q => .inr (.inr q)), fun h => h.elim (fun q => .inr (.inl q)) fun q => q.elim .inl fun q => .inr (.inr q)⟩
theorem up_insU {x : Int} : ∀ {ys : List Int}, ys.Pairwise (· < ·) → (insU x ys).Pairwise (· < ·)
  | [], _ => by simp [insU]
  | y :: ys, h => by
    obtain ⟨h1, h2⟩ := List.pairwise_cons.mp h
    unfold insU
    split
    · rename_i q
      refine List.pairwise_cons.mpr ⟨fun a ha => ?_, h⟩
      rcases List.mem_cons.mp ha with e | e
      · omega
      · have := h1 a e; omega
    · split
      · exact h
      · refine List.pairwise_cons.mpr ⟨fun a ha => ?_, up_insU h2⟩
        rcases mem_insU.mp ha with e | e
        · omega
        · exact h1 a e
theorem len_insU (x : Int) : ∀ ys : List Int, (insU x ys).length ≤ ys.length + 1
  | [] => by simp [insU]
  | y :: ys => by
    unfold insU
    have := len_insU x ys
    split
    · simp
    · split <;> simp <;> omega
theorem mem_ups {a : Int} : ∀ {xs : List Int}, a ∈ ups xs ↔ a ∈ xs
  | [] => by simp [ups]
  | x :: xs => by unfold ups; rw [mem_insU, mem_ups, List.mem_cons]
theorem up_ups : ∀ xs : List Int, (ups xs).Pairwise (· < ·)
  | [] => .nil
  | x :: xs => up_insU (up_ups xs)
theorem len_ups : ∀ xs : List Int, (ups xs).length ≤ xs.length
  | [] => Nat.le_refl _
  | x :: xs => by
    have := len_ups xs
    have := len_insU x (ups xs)
    show (insU x (ups xs)).length ≤ _
    simp only [List.length_cons]
    omega
theorem up_ext {α : Type} (f : α → Int) : ∀ {xs ys : List α}, (xs.Pairwise fun x y => f x < f y) → (ys.Pairwise fun x y => f x < f y) → (∀ a, a ∈ xs ↔ a ∈ ys) → xs = ys
  | [], [], _, _, _ => rfl
  | [], y :: ys, _, _, h => absurd ((h y).mpr (by simp)) (by simp)
  | x :: xs, [], _, _, h => absurd ((h x).mp (by simp)) (by simp)
  | x :: xs, y :: ys, hx, hy, h => by
    obtain ⟨x1, x2⟩ := List.pairwise_cons.mp hx
    obtain ⟨y1, y2⟩ := List.pairwise_cons.mp hy
    have e : x = y := by
      rcases List.mem_cons.mp ((h x).mp (by simp)) with q | q
      · exact q
      · rcases List.mem_cons.mp ((h y).mpr (by simp)) with p | p
        · exact p.symm
        · have := y1 x q; have := x1 y p; omega
    subst e
    congr 1
    refine up_ext f x2 y2 fun a => ⟨fun m => ?_, fun m => ?_⟩
    · rcases List.mem_cons.mp ((h a).mp (by simp [m])) with q | q
      · subst q; have := x1 a m; omega
      · exact q
    · rcases List.mem_cons.mp ((h a).mpr (by simp [m])) with q | q
      · subst q; have := y1 a m; omega
      · exact q
theorem ups_is {xs ns : List Int} (up : ns.Pairwise (· < ·)) (mem : ∀ k, k ∈ ns ↔ k ∈ xs) : ns = ups xs := up_ext id up (up_ups xs) fun a => by rw [mem a, mem_ups]

/-! joined calendars -/
def mx (i j : Int) : Int := if j > i then j else i
def mn (i j : Int) : Int := if j < i then j else i
def joinP (op : Int → Int → Int) (ps qs : List Int) : List Int := List.zipWith op ps qs
def joinM (op : Int → Int → Int) (ps : List Int) (ms : List (Int × Int)) (qs : List Int) (ns : List (Int × Int)) : List (Int × Int) := (ups ((ms ++ ns).map Prod.fst)).map fun a => (a, op (paceF ps ms a) (paceF qs ns a))
theorem joinP_length {op : Int → Int → Int} {ps qs : List Int} (e : ps.length = qs.length) : (joinP op ps qs).length = ps.length := by unfold joinP; rw [List.length_zipWith]; omega
theorem joinP_get {op : Int → Int → Int} {ps qs : List Int} {i : Nat} (h : i < (joinP op ps qs).length) (h1 : i < ps.length) (h2 : i < qs.length) : (joinP op ps qs)[i]'h = op ps[i] qs[i] := by
  unfold joinP at h ⊢
  exact List.getElem_zipWith
theorem joinM_length (op : Int → Int → Int) (ps : List Int) (ms : List (Int × Int)) (qs : List Int) (ns : List (Int × Int)) : (joinM op ps ms qs ns).length ≤ ms.length + ns.length := by
  unfold joinM
  have := len_ups ((ms ++ ns).map Prod.fst)
  simp only [List.length_map, List.length_append] at this ⊢
  omega
theorem week_at {ps : List Int} (hl : 0 < ps.length) (a : Int) : ∃ h : (a % (ps.length : Int)).toNat < ps.length, paceF ps [] a = ps[(a % (ps.length : Int)).toNat]'h := by
  have h1 := Int.emod_nonneg a (show (ps.length : Int) ≠ 0 by omega)
  have h2 := Int.emod_lt_of_pos a (show (0 : Int) < ps.length by omega)
  have h3 : (a % (ps.length : Int)).toNat < ps.length := by omega
  exact ⟨h3, by unfold paceF; rw [List.getElem?_eq_getElem h3]; rfl⟩
theorem paceF_joinP {op : Int → Int → Int} {ps qs : List Int} (hl : 0 < ps.length) (e : ps.length = qs.length) (a : Int) : paceF (joinP op ps qs) [] a = op (paceF ps [] a) (paceF qs [] a) := by
  obtain ⟨h1, e1⟩ := week_at hl a
  obtain ⟨h2, e2⟩ := week_at (show 0 < qs.length by omega) a
  obtain ⟨h3, e3⟩ := week_at (ps := joinP op ps qs) (by rw [joinP_length e]; exact hl) a
  rw [e1, e2, e3]
  have i1 : (a % ((joinP op ps qs).length : Int)).toNat = (a % (ps.length : Int)).toNat := by rw [joinP_length e]
  have i2 : (a % (qs.length : Int)).toNat = (a % (ps.length : Int)).toNat := by rw [e]
  simp only [i1, i2]
  rw [joinP_get _ h1 (by omega)]
theorem paceF_off {ps : List Int} (f : Int → Int) (a : Int) : ∀ L : List Int, paceF ps (L.map fun x => (x, f x)) a = if a ∈ L then f a else paceF ps [] a
  | [] => by simp
  | x :: L => by
    show (if x = a then f x else paceF ps (L.map fun x => (x, f x)) a) = _
    rw [paceF_off f a L]
    by_cases h : x = a
    · subst h; simp
    · rw [if_neg h]
      by_cases q : a ∈ L
      · rw [if_pos q, if_pos (by simp [q])]
      · rw [if_neg q, if_neg (by simp [q, Ne.symm h])]
theorem paceF_join {op : Int → Int → Int} {ps qs : List Int} (hl : 0 < ps.length) (e : ps.length = qs.length) (ms ns : List (Int × Int)) (a : Int) : paceF (joinP op ps qs) (joinM op ps ms qs ns) a = op (paceF ps ms a) (paceF qs ns a) := by
  unfold joinM
  rw [paceF_off]
  split
  · rfl
  · rename_i h
    rw [paceF_joinP hl e]
    have z : ∀ m ∈ ms ++ ns, m.1 ≠ a := fun m hm q => h (mem_ups.mpr (by rw [← q]; exact List.mem_map_of_mem hm))
    rw [paceF_none (rs := ms) fun m hm => z m (by simp [hm]), paceF_none (rs := ns) fun m hm => z m (by simp [hm])]
theorem mem_real {ps : List Int} {ms : List (Int × Int)} (mk : Marks ms) (m : Int × Int) : m ∈ realOf ps ms ↔ paceF ps ms m.1 = m.2 ∧ paceF ps [] m.1 ≠ m.2 := by
  constructor
  · intro h
    obtain ⟨h1, h2⟩ := List.mem_filter.mp h
    exact ⟨paceF_at mk.up h1, by simpa using h2⟩
  · rintro ⟨h1, h2⟩
    refine List.mem_filter.mpr ⟨?_, by simpa using h2⟩
    refine Classical.byContradiction fun z => h2 ?_
    rw [← h1]
    refine (paceF_none fun r hr q => z ?_).symm
    have := paceF_at (ps := ps) mk.up hr
    rw [q, h1] at this
    have e : r = m := Prod.ext q this.symm
    rw [← e]; exact hr
theorem real_ext {ps : List Int} {ms ns : List (Int × Int)} (mk : Marks ms) (nk : Marks ns) (h : ∀ a, paceF ps ms a = paceF ps ns a) : realOf ps ms = realOf ps ns :=
  up_ext Prod.fst (real_up mk) (real_up nk) fun m => by rw [mem_real mk, mem_real nk, h]
theorem marks_join {op : Int → Int → Int} (hop : ∀ i j, 0 ≤ i ∧ i ≤ 3 → 0 ≤ j ∧ j ≤ 3 → 0 ≤ op i j ∧ op i j ≤ 3) {ps qs : List Int} {ms ns : List (Int × Int)} (wk : Week ps) (wq : Week qs) (hl : 0 < ps.length) (hq : 0 < qs.length) (mk : Marks ms) (nk : Marks ns) : Marks (joinM op ps ms qs ns) := by
  refine ⟨(up_ups _).map _ fun a b h => h, fun m hm => ?_⟩
  obtain ⟨a, _, rfl⟩ := List.mem_map.mp hm
  exact hop _ _ (paceF_bd wk hl mk.bd) (paceF_bd wq hq nk.bd)
theorem mx_bd : ∀ i j : Int, 0 ≤ i ∧ i ≤ 3 → 0 ≤ j ∧ j ≤ 3 → 0 ≤ mx i j ∧ mx i j ≤ 3 := fun i j hi hj => by unfold mx; split <;> omega
theorem mn_bd : ∀ i j : Int, 0 ≤ i ∧ i ≤ 3 → 0 ≤ j ∧ j ≤ 3 → 0 ≤ mn i j ∧ mn i j ≤ 3 := fun i j hi hj => by unfold mn; split <;> omega
theorem week_mx {ps qs : List Int} (wk : Week ps) (wq : Week qs) (e : ps.length = qs.length) : Week (joinP mx ps qs) := by
  refine ⟨?_, fun x hx => ?_⟩
  · obtain ⟨x, hx, x0⟩ := wk.pos
    obtain ⟨i, hi, rfl⟩ := List.getElem_of_mem hx
    refine ⟨mx ps[i] (qs[i]'(by omega)), ?_, by unfold mx; split <;> omega⟩
    have h : i < (joinP mx ps qs).length := by rw [joinP_length e]; exact hi
    have := List.getElem_mem h
    rw [joinP_get h hi (by omega)] at this
    exact this
  · obtain ⟨i, hi, rfl⟩ := List.getElem_of_mem hx
    have h1 : i < ps.length := by rw [joinP_length e] at hi; exact hi
    rw [joinP_get hi h1 (by omega)]
    exact mx_bd _ _ (wk.bd _ (List.getElem_mem h1)) (wq.bd _ (List.getElem_mem _))
theorem calD_join {op : Int → Int → Int} (hop : ∀ i j, 0 ≤ i ∧ i ≤ 3 → 0 ≤ j ∧ j ≤ 3 → 0 ≤ op i j ∧ op i j ≤ 3) {ps qs : List Int} {ms ns : List (Int × Int)} (wk : Week ps) (wq : Week qs) (hl : 0 < ps.length) (e : ps.length = qs.length) (mk : Marks ms) (nk : Marks ns) :
    calD (joinP op ps qs) (joinM op ps (realOf ps ms) qs (realOf qs ns)) = calD (joinP op ps qs) (joinM op ps ms qs ns) := by
  have mr : Marks (realOf ps ms) := ⟨real_up mk, fun m hm => mk.bd m (List.mem_filter.mp hm).1⟩
  have nr : Marks (realOf qs ns) := ⟨real_up nk, fun m hm => nk.bd m (List.mem_filter.mp hm).1⟩
  have hq : 0 < qs.length := by omega
  unfold calD
  rw [real_ext (marks_join hop wk wq hl hq mr nr) (marks_join hop wk wq hl hq mk nk) fun a => by rw [paceF_join hl e, paceF_join hl e, paceF_real mk.up, paceF_real nk.up]]
theorem zip_map (op : Int → Int → Int) : ∀ (ps qs : List Int), joinP op ps qs = (ps.zip qs).map fun x => op x.1 x.2
  | [], _ => by simp [joinP]
  | _ :: _, [] => by simp [joinP]
  | p :: ps, q :: qs => by
    have := zip_map op ps qs
    unfold joinP at this ⊢
    simp [this]
theorem zipD_ints : ∀ (ps qs : List Int), zipD (ps.map D.int) (qs.map D.int) = (ps.zip qs).map mkD
  | [], _ => rfl
  | _ :: _, [] => rfl
  | p :: ps, q :: qs => by
    have := zipD_ints ps qs
    show _ :: zipD (ps.map D.int) (qs.map D.int) = _
    rw [this]; rfl
def c_check_weeks : Con := fun svs Q _ => ∃ a b : Int, svs = [.d (.int a), .d (.int b)] ∧ a = b ∧ Q (.d .non) svs
/-! check_weeks: week 0, twin 1 -/
theorem sc_check_weeks : FnScope N_check_weeks ["week", "twin"] (defScope st_check_weeks) := ⟨rfl, rfl, rfl, by decide +kernel, rfl, by decide +kernel, by decide +kernel⟩
def w_check_weeks : WS :=
  wIf (wTst (w2 kNe (wVar 0) (wVar 1))) (wBad) (wNext)
theorem tr_check_weeks {Γ : Wd} (T : Tx Γ) (X : Cx) (C : Ctx Γ X N_check_weeks (defScope st_check_weeks) (fun _ => true) 0) (P : Own X) (dc : DefCx X) : SSs Γ [] X (defBody st_check_weeks) w_check_weeks :=
  sss_one (ss_if (st_ne C (se_var C 0) (se_var C 1)) (sss_one (ss_bad)) (sss_nil))

theorem law_check_weeks : LawOf N_check_weeks [false, false] c_check_weeks w_check_weeks := by
  rintro svs Q E - ⟨a, b, rfl, h, hq⟩
  ((conv => whnf); try dsimp only [List.set_cons_zero, List.set_cons_succ]); refine Br.ofN (fun g => absurd h g) (fun _ => ?_)
  ((conv => whnf); try dsimp only [List.set_cons_zero, List.set_cons_succ]); exact hq
theorem ok_check_weeks {Γ : Wd} (T : Tx Γ) : FnE Γ 1 "check_weeks" [false, false] c_check_weeks :=
  fnE_of T.d_check_weeks sc_check_weeks (by intro _ _ _ _ _ _ _ _ us hl; exact match us, hl with | [_, _], _ => rfl) T.bn rfl (tr_check_weeks T) law_check_weeks


def c_speed_at : Con := fun svs Q _ => ∃ (ps : List Int) (ms : List (Int × Int)) (a : Int), svs = [.d (.tup (ps.map D.int)), .d (.tup (ms.map mkD)), .d (.int a)] ∧ 0 < ps.length ∧ Q (.d (.int (paceF ps ms a))) svs
/-! speed_at: speeds 0, changes 1, moment 2, place 3, speed 4 -/
theorem sc_speed_at : FnScope N_speed_at ["speeds", "changes", "moment"] (defScope st_speed_at) := ⟨rfl, rfl, rfl, by decide +kernel, rfl, by decide +kernel, by decide +kernel⟩
abbrev w_speed_at_1 : WS := wIf (wTst (w2 kEq (wVar 3) (wVar 2))) (wRetF (wVar 4)) (wNext)
abbrev w_speed_at_2 : WS := wRetF (w2 kIdx (wVar 0) (w2 kMod (wVar 2) (wB kLen (wCons (wVar 0) (wNil)))))
def w_speed_at : WS :=
  wSeq (wFor (wIt (wVar 1)) (gTp 2 (gsCons (gNm 3) (gsCons (gNm 4) (gsNil)))) w_speed_at_1) w_speed_at_2
theorem tr_speed_at {Γ : Wd} (T : Tx Γ) (X : Cx) (C : Ctx Γ X N_speed_at (defScope st_speed_at) (fun _ => true) 0) (P : Own X) (dc : DefCx X) : SSs Γ [] X (defBody st_speed_at) w_speed_at :=
  sss_cons (ss_for C P (is := [3, 4]) (si_seq (se_var C 1)) (sg_tup C (sgs_cons (sg_name C 3) (sgs_cons (sg_name C 4) (sgs_nil)))) (sss_one (ss_if (st_eq C (se_var C 3) (se_var C 2)) (sss_one (ss_retF (se_var C 4))) (sss_nil))))
  (sss_one (ss_retF (se_idx C (fun _ _ => rfl) (se_var C 0) (se_mod (se_var C 2) (se_len C (sa_cons (se_var C 0) (sa_nil)))))))

theorem law_speed_at : LawOf N_speed_at [false, false, false] c_speed_at w_speed_at := by
  rintro svs Q E - ⟨ps, ms, a, rfl, hl, hq⟩
  ((conv => whnf); try dsimp only [List.set_cons_zero, List.set_cons_succ])
  refine forL_ind (fun ds ρ => ∃ (rs : List (Int × Int)) (x y : Option SV), ds = rs.map mkD ∧ paceF ps ms a = paceF ps rs a ∧ ρ = [some (.d (.tup (ps.map D.int))), some (.d (.tup (ms.map mkD))), some (.d (.int a)), x, y]) ?_ ?_ _ _ ⟨ms, none, none, rfl, rfl, rfl⟩
  · rintro ρ ⟨rs, x, y, e, ep, rfl⟩
    obtain rfl : rs = [] := by cases rs with
      | nil => rfl
      | cons _ _ => cases e
    ((conv => whnf); try dsimp only [List.set_cons_zero, List.set_cons_succ]); refine ⟨by simp; omega, ?_⟩
    have k := at_week hl a
    rw [← ep] at k
    ((conv => whnf); try dsimp only [List.set_cons_zero, List.set_cons_succ]); refine ⟨_, (by simpa using k), ?_⟩
    ((conv => whnf); try dsimp only [List.set_cons_zero, List.set_cons_succ]); exact hq
  · rintro d ds ρ ⟨rs, x, y, e, ep, rfl⟩ ih
    cases rs with
    | nil => cases e
    | cons r rs =>
      cases e
      ((conv => whnf); try dsimp only [List.set_cons_zero, List.set_cons_succ]); refine ⟨rfl, ?_⟩
      ((conv => whnf); try dsimp only [List.set_cons_zero, List.set_cons_succ]); refine Br.of (fun h => ?_) (fun h => ?_)
      · ((conv => whnf); try dsimp only [List.set_cons_zero, List.set_cons_succ])
        have e2 : paceF ps ms a = r.2 := by rw [ep]; exact if_pos h
        rw [e2] at hq
        exact hq
      · refine ⟨_, Fgt.refl _, ih _ ⟨rs, _, _, rfl, ?_, rfl⟩⟩
        rw [ep]; exact if_neg h
theorem ok_speed_at {Γ : Wd} (T : Tx Γ) : FnE Γ 1 "speed_at" [false, false, false] c_speed_at :=
  fnE_of T.d_speed_at sc_speed_at (by intro _ _ _ _ _ _ _ _ us hl; exact match us, hl with | [_, _, _], _ => rfl) T.bn rfl (tr_speed_at T) law_speed_at


def c_Calendar_or : Con := fun svs Q _ => ∃ (ps qs : List Int) (ms ns : List (Int × Int)), svs = [.d (calD ps ms), .d (calD qs ns)] ∧ Week ps ∧ Week qs ∧ 0 < ps.length ∧ ps.length ≤ 12 ∧ ps.length = qs.length ∧ Marks ms ∧ Marks ns ∧ ms.length ≤ 400 ∧ ns.length ≤ 400 ∧ Q (.d (calD (joinP mx ps qs) (joinM mx ps ms qs ns))) svs
/-! Calendar.__or__: self 0, other 1, speeds 2, found 3, at 4, speed 5, twin 6 -/
theorem sc_Calendar_or : FnScope N_Calendar_or ["self", "other"] (defScope st_Calendar_or) := ⟨rfl, rfl, rfl, by decide +kernel, rfl, by decide +kernel, by decide +kernel⟩
abbrev w_Calendar_or_1 : WS := wApp 3 (wTup (wCons (wVar 4) (wCons (wB kMax (wCons (wVar 5) (wCons (wCall [false, false, false] c_speed_at (wCons (wFld 0 0 (wVar 1)) (wCons (wFld 0 1 (wVar 1)) (wCons (wVar 4) (wNil))))) (wNil)))) (wNil))))
abbrev w_Calendar_or_2 : WS := wSeq (wAsg 5 (wCall [false, false, false] c_speed_at (wCons (wFld 0 0 (wVar 0)) (wCons (wFld 0 1 (wVar 0)) (wCons (wVar 4) (wNil)))))) w_Calendar_or_1
abbrev w_Calendar_or_3 : WS := wRetF (wMake 0 [false, false] c_Calendar_init (wCons (wVar 2) (wCons (wVar 3) (wNil))))
abbrev w_Calendar_or_4 : WS := wSeq (wFor (wIt (wSortC (wIt (w2 kAdd (wFld 0 1 (wVar 0)) (wFld 0 1 (wVar 1)))) (gTp 2 (gsCons (gNm 4) (gsCons (gNm 5) (gsNil)))) (wYes) (wVar 4) [4, 5])) (gNm 4) w_Calendar_or_2) w_Calendar_or_3
abbrev w_Calendar_or_5 : WS := wSeq (wAsg 3 (wLst (wNil))) w_Calendar_or_4
abbrev w_Calendar_or_6 : WS := wSeq (wAsg 2 (wLc (wZip (wCons (wFld 0 0 (wVar 0)) (wCons (wFld 0 0 (wVar 1)) (wNil)))) (gTp 2 (gsCons (gNm 5) (gsCons (gNm 6) (gsNil)))) (wYes) (wB kMax (wCons (wVar 5) (wCons (wVar 6) (wNil)))) [5, 6])) w_Calendar_or_5
def w_Calendar_or : WS :=
  wSeq (wExp (wCall [false, false] c_check_weeks (wCons (wB kLen (wCons (wFld 0 0 (wVar 0)) (wNil))) (wCons (wB kLen (wCons (wFld 0 0 (wVar 1)) (wNil))) (wNil))))) w_Calendar_or_6
theorem tr_Calendar_or {Γ : Wd} (T : Tx Γ) (X : Cx) (C : Ctx Γ X N_Calendar_or (defScope st_Calendar_or) (fun _ => true) 3) (P : Own X) (dc : DefCx X) : SSs Γ [] X (defBody st_Calendar_or) w_Calendar_or :=
  sss_cons (ss_exp (se_call C (FnE.mono (ok_check_weeks T) (by decide)) (sa_cons (se_len C (sa_cons (se_fld C T.K_0 (by rw [T.F_0]; rfl) (se_var C 0)) (sa_nil))) (sa_cons (se_len C (sa_cons (se_fld C T.K_0 (by rw [T.F_0]; rfl) (se_var C 1)) (sa_nil))) (sa_nil)))))
  (sss_cons (ss_asgLc C 2 (own := [("speed", 5), ("twin", 6)]) (is := [5, 6]) rfl rfl rfl rfl (by decide +kernel) (by decide +kernel) (by decide +kernel) (si_zip C (sa_cons (se_fld C T.K_0 (by rw [T.F_0]; rfl) (se_var C 0)) (sa_cons (se_fld C T.K_0 (by rw [T.F_0]; rfl) (se_var C 1)) (sa_nil)))) (fun _ hX => sg_tup hX.1 (sgs_cons (sg_name hX.1 5) (sgs_cons (sg_name hX.1 6) (sgs_nil)))) (fun _ hX => sts_nil) (fun _ hX => se_max hX.1 (sa_cons (se_var hX.1 5) (sa_cons (se_var hX.1 6) (sa_nil)))))
  (sss_cons (ss_asg C 3 (se_lst (sa_nil)))
  (sss_cons (ss_for C P (is := [4]) (si_seq (se_sortC C (own := [("at", 4), ("speed", 5)]) (is := [4, 5]) (by decide +kernel) (by decide +kernel) (si_seq (se_add (se_fld C T.K_0 (by rw [T.F_0]; rfl) (se_var C 0)) (se_fld C T.K_0 (by rw [T.F_0]; rfl) (se_var C 1)))) (fun _ hX => sg_tup hX.1 (sgs_cons (sg_name hX.1 4) (sgs_cons (sg_name hX.1 5) (sgs_nil)))) (fun _ hX => sts_nil) (fun _ hX => se_var hX.1 4))) (sg_name C 4) (sss_cons (ss_asg C 5 (se_call C (FnE.mono (ok_speed_at T) (by decide)) (sa_cons (se_fld C T.K_0 (by rw [T.F_0]; rfl) (se_var C 0)) (sa_cons (se_fld C T.K_0 (by rw [T.F_0]; rfl) (se_var C 0)) (sa_cons (se_var C 4) (sa_nil))))))
  (sss_one (ss_app C 3 (se_tup (sa_cons (se_var C 4) (sa_cons (se_max C (sa_cons (se_var C 5) (sa_cons (se_call C (FnE.mono (ok_speed_at T) (by decide)) (sa_cons (se_fld C T.K_0 (by rw [T.F_0]; rfl) (se_var C 1)) (sa_cons (se_fld C T.K_0 (by rw [T.F_0]; rfl) (se_var C 1)) (sa_cons (se_var C 4) (sa_nil))))) (sa_nil)))) (sa_nil))))))))
  (sss_one (ss_retF (se_make C (MkE.mono (ok_Calendar_init T) (by decide)) (sa_cons (se_var C 2) (sa_cons (se_var C 3) (sa_nil)))))))))

theorem law_Calendar_or : LawOf N_Calendar_or [false, false] c_Calendar_or w_Calendar_or := by
  rintro svs Q E - ⟨ps, qs, ms, ns, rfl, wk, wq, hl, h12, e, mk, nk, lm, ln, hq⟩
  have lenP : (((ps.map D.int).length : Nat) : Int) = ps.length := by rw [List.length_map]
  have lenQ : (((qs.map D.int).length : Nat) : Int) = qs.length := by rw [List.length_map]
  have rm : (realOf ps ms).length ≤ ms.length := List.length_filter_le _ _
  have rn : (realOf qs ns).length ≤ ns.length := List.length_filter_le _ _
  have mr : Marks (realOf ps ms) := ⟨real_up mk, fun m hm => mk.bd m (List.mem_filter.mp hm).1⟩
  have nr : Marks (realOf qs ns) := ⟨real_up nk, fun m hm => nk.bd m (List.mem_filter.mp hm).1⟩
  ((conv => whnf); try dsimp only [List.set_cons_zero, List.set_cons_succ]); refine ⟨rfl, ?_⟩
  ((conv => whnf); try dsimp only [List.set_cons_zero, List.set_cons_succ]); refine ⟨rfl, ?_⟩
  ((conv => whnf); try dsimp only [List.set_cons_zero, List.set_cons_succ]); refine ⟨_, _, rfl, by rw [lenP, lenQ]; omega, ?_⟩
  ((conv => whnf); try dsimp only [List.set_cons_zero, List.set_cons_succ]); refine ⟨rfl, ?_⟩
  ((conv => whnf); try dsimp only [List.set_cons_zero, List.set_cons_succ]); refine ⟨rfl, ?_⟩
  ((conv => whnf); try dsimp only [List.set_cons_zero, List.set_cons_succ]); rw [zipD_ints]
  refine compL_ind (fun ds acc ρ => ∃ (as rs : List (Int × Int)), ps.zip qs = as ++ rs ∧ ds = rs.map mkD ∧ acc = (as.map fun x => mx x.1 x.2).map D.int ∧ ρ = [some (.d (calD ps ms)), some (.d (calD qs ns)), none, none, none, none, none]) ?_ ?_ _ _ _ ⟨[], ps.zip qs, rfl, rfl, rfl, rfl⟩
  · rintro acc ρ ⟨as, rs, e1, e2, rfl, rfl⟩
    obtain rfl : rs = [] := by cases rs with
      | nil => rfl
      | cons _ _ => cases e2
    rw [List.append_nil] at e1
    subst e1
    rw [← zip_map]
    ((conv => whnf); try dsimp only [List.set_cons_zero, List.set_cons_succ]); refine ⟨few3 (by show 0 ≤ 1000; decide), ?_⟩
    ((conv => whnf); try dsimp only [List.set_cons_zero, List.set_cons_succ]); refine ⟨rfl, ?_⟩
    ((conv => whnf); try dsimp only [List.set_cons_zero, List.set_cons_succ]); refine ⟨rfl, ?_⟩
    ((conv => whnf); try dsimp only [List.set_cons_zero, List.set_cons_succ]); refine ⟨by simp; omega, ?_⟩
    ((conv => whnf); try dsimp only [List.set_cons_zero, List.set_cons_succ]); rw [← List.map_append]
    refine compI_ind (fun ds acc ρ => ∃ (as rs : List (Int × Int)), realOf ps ms ++ realOf qs ns = as ++ rs ∧ ds = rs.map mkD ∧ acc = as.map Prod.fst ∧ ρ = [some (.d (calD ps ms)), some (.d (calD qs ns)), some (.lst ((joinP mx ps qs).map D.int)), some (.lst []), none, none, none]) ?_ ?_ _ _ _ ⟨[], _, rfl, rfl, rfl, rfl⟩
    · rintro acc ρ ⟨as, rs, e1, e2, rfl, rfl⟩ us up mem
      obtain rfl : rs = [] := by cases rs with
        | nil => rfl
        | cons _ _ => cases e2
      rw [List.append_nil] at e1
      rw [← e1] at mem
      obtain rfl := ups_is up mem
      ((conv => whnf); try dsimp only [List.set_cons_zero, List.set_cons_succ])
      refine forL_ind (fun ds ρ => ∃ (as rs : List Int) (x y : Option SV), ups ((realOf ps ms ++ realOf qs ns).map Prod.fst) = as ++ rs ∧ ds = rs.map D.int ∧
        ρ = [some (.d (calD ps ms)), some (.d (calD qs ns)), some (.lst ((joinP mx ps qs).map D.int)), some (.lst ((as.map fun a => (a, mx (paceF ps (realOf ps ms) a) (paceF qs (realOf qs ns) a))).map mkD)), x, y, none]) ?_ ?_ _ _ ⟨[], _, none, none, rfl, rfl, rfl⟩
      · rintro ρ ⟨as, rs, x, y, e3, e4, rfl⟩
        obtain rfl : rs = [] := by cases rs with
          | nil => rfl
          | cons _ _ => cases e4
        rw [List.append_nil] at e3
        rw [← e3]
        have lj := joinM_length mx ps (realOf ps ms) qs (realOf qs ns)
        ((conv => whnf); try dsimp only [List.set_cons_zero, List.set_cons_succ]); refine ⟨joinP mx ps qs, joinM mx ps (realOf ps ms) qs (realOf qs ns), rfl, week_mx wk wq e, by rw [joinP_length e]; omega, by rw [joinP_length e]; omega, marks_join mx_bd wk wq hl (by omega) mr nr, by omega, rfl, _, _, rfl, ?_⟩
        rw [← calD_join mx_bd wk wq hl e mk nk] at hq
        ((conv => whnf); try dsimp only [List.set_cons_zero, List.set_cons_succ]); exact hq
      · rintro d ds ρ ⟨as, rs, x, y, e3, e4, rfl⟩ ih
        cases rs with
        | nil => cases e4
        | cons r rs =>
          cases e4
          have la : as.length ≤ ms.length + ns.length := by
            have := len_ups ((realOf ps ms ++ realOf qs ns).map Prod.fst)
            have q := congrArg List.length e3
            simp only [List.length_map, List.length_append, List.length_cons] at this q
            omega
          ((conv => whnf); try dsimp only [List.set_cons_zero, List.set_cons_succ]); refine ⟨rfl, ?_⟩
          ((conv => whnf); try dsimp only [List.set_cons_zero, List.set_cons_succ]); refine ⟨rfl, ?_⟩
          ((conv => whnf); try dsimp only [List.set_cons_zero, List.set_cons_succ]); refine ⟨ps, realOf ps ms, r, rfl, hl, ?_⟩
          ((conv => whnf); try dsimp only [List.set_cons_zero, List.set_cons_succ]); refine ⟨rfl, ?_⟩
          ((conv => whnf); try dsimp only [List.set_cons_zero, List.set_cons_succ]); refine ⟨rfl, ?_⟩
          ((conv => whnf); try dsimp only [List.set_cons_zero, List.set_cons_succ]); refine ⟨qs, realOf qs ns, r, rfl, by omega, ?_⟩
          ((conv => whnf); try dsimp only [List.set_cons_zero, List.set_cons_succ]); refine ⟨few3 (by show 2 ≤ 1000; decide), ?_⟩
          ((conv => whnf); try dsimp only [List.set_cons_zero, List.set_cons_succ]); refine ⟨by simp; omega, ?_⟩
          exact ⟨_, Fgt.refl _, ih _ ⟨as ++ [r], rs, _, _, by rw [e3]; simp, rfl, by rw [List.map_append, List.map_append]; rfl⟩⟩
    · rintro d ds acc ρ ⟨as, rs, e1, e2, rfl, rfl⟩ ih
      cases rs with
      | nil => cases e2
      | cons r rs =>
        cases e2
        have la : as.length ≤ ms.length + ns.length := by
          have q := congrArg List.length e1
          simp only [List.length_append, List.length_cons] at q
          omega
        ((conv => whnf); try dsimp only [List.set_cons_zero, List.set_cons_succ]); refine ⟨rfl, ?_⟩
        ((conv => whnf); try dsimp only [List.set_cons_zero, List.set_cons_succ]); refine Br.tt ?_
        ((conv => whnf); try dsimp only [List.set_cons_zero, List.set_cons_succ]); refine ⟨by simp; omega, ?_⟩
        exact ih _ _ ⟨as ++ [r], rs, by rw [e1]; simp, rfl, by simp, rfl⟩
  · rintro d ds acc ρ ⟨as, rs, e1, e2, rfl, rfl⟩ ih
    cases rs with
    | nil => cases e2
    | cons r rs =>
      cases e2
      have la : as.length ≤ 12 := by
        have q := congrArg List.length e1
        simp only [List.length_append, List.length_cons, List.length_zip] at q
        omega
      ((conv => whnf); try dsimp only [List.set_cons_zero, List.set_cons_succ]); refine ⟨rfl, ?_⟩
      ((conv => whnf); try dsimp only [List.set_cons_zero, List.set_cons_succ]); refine Br.tt ?_
      ((conv => whnf); try dsimp only [List.set_cons_zero, List.set_cons_succ]); refine ⟨by simp; omega, ?_⟩
      exact ih _ _ ⟨as ++ [r], rs, by rw [e1]; simp, rfl, by simp; rfl, rfl⟩
theorem ok_Calendar_or {Γ : Wd} (T : Tx Γ) : OpE Γ 4 0 "__or__" [false, false] c_Calendar_or :=
  opE_of T.d_Calendar_or sc_Calendar_or (by intro _ _ _ _ _ _ _ _ us hl; exact match us, hl with | [_, _], _ => rfl) T.bn rfl (tr_Calendar_or T) law_Calendar_or


def c_Calendar_and : Con := fun svs Q _ => ∃ (ps qs : List Int) (ms ns : List (Int × Int)), svs = [.d (calD ps ms), .d (calD qs ns)] ∧ Week ps ∧ Week qs ∧ 0 < ps.length ∧ ps.length ≤ 12 ∧ ps.length = qs.length ∧ Marks ms ∧ Marks ns ∧ ms.length ≤ 400 ∧ ns.length ≤ 400 ∧ Week (joinP mn ps qs) ∧ Q (.d (calD (joinP mn ps qs) (joinM mn ps ms qs ns))) svs
/-! Calendar.__and__: self 0, other 1, speeds 2, found 3, at 4, speed 5, twin 6 -/
theorem sc_Calendar_and : FnScope N_Calendar_and ["self", "other"] (defScope st_Calendar_and) := ⟨rfl, rfl, rfl, by decide +kernel, rfl, by decide +kernel, by decide +kernel⟩
abbrev w_Calendar_and_1 : WS := wApp 3 (wTup (wCons (wVar 4) (wCons (wB kMin (wCons (wVar 5) (wCons (wCall [false, false, false] c_speed_at (wCons (wFld 0 0 (wVar 1)) (wCons (wFld 0 1 (wVar 1)) (wCons (wVar 4) (wNil))))) (wNil)))) (wNil))))
abbrev w_Calendar_and_2 : WS := wSeq (wAsg 5 (wCall [false, false, false] c_speed_at (wCons (wFld 0 0 (wVar 0)) (wCons (wFld 0 1 (wVar 0)) (wCons (wVar 4) (wNil)))))) w_Calendar_and_1
abbrev w_Calendar_and_3 : WS := wRetF (wMake 0 [false, false] c_Calendar_init (wCons (wVar 2) (wCons (wVar 3) (wNil))))
abbrev w_Calendar_and_4 : WS := wSeq (wFor (wIt (wSortC (wIt (w2 kAdd (wFld 0 1 (wVar 0)) (wFld 0 1 (wVar 1)))) (gTp 2 (gsCons (gNm 4) (gsCons (gNm 5) (gsNil)))) (wYes) (wVar 4) [4, 5])) (gNm 4) w_Calendar_and_2) w_Calendar_and_3
abbrev w_Calendar_and_5 : WS := wSeq (wAsg 3 (wLst (wNil))) w_Calendar_and_4
abbrev w_Calendar_and_6 : WS := wSeq (wAsg 2 (wLc (wZip (wCons (wFld 0 0 (wVar 0)) (wCons (wFld 0 0 (wVar 1)) (wNil)))) (gTp 2 (gsCons (gNm 5) (gsCons (gNm 6) (gsNil)))) (wYes) (wB kMin (wCons (wVar 5) (wCons (wVar 6) (wNil)))) [5, 6])) w_Calendar_and_5
def w_Calendar_and : WS :=
  wSeq (wExp (wCall [false, false] c_check_weeks (wCons (wB kLen (wCons (wFld 0 0 (wVar 0)) (wNil))) (wCons (wB kLen (wCons (wFld 0 0 (wVar 1)) (wNil))) (wNil))))) w_Calendar_and_6
theorem tr_Calendar_and {Γ : Wd} (T : Tx Γ) (X : Cx) (C : Ctx Γ X N_Calendar_and (defScope st_Calendar_and) (fun _ => true) 3) (P : Own X) (dc : DefCx X) : SSs Γ [] X (defBody st_Calendar_and) w_Calendar_and :=
  sss_cons (ss_exp (se_call C (FnE.mono (ok_check_weeks T) (by decide)) (sa_cons (se_len C (sa_cons (se_fld C T.K_0 (by rw [T.F_0]; rfl) (se_var C 0)) (sa_nil))) (sa_cons (se_len C (sa_cons (se_fld C T.K_0 (by rw [T.F_0]; rfl) (se_var C 1)) (sa_nil))) (sa_nil)))))
  (sss_cons (ss_asgLc C 2 (own := [("speed", 5), ("twin", 6)]) (is := [5, 6]) rfl rfl rfl rfl (by decide +kernel) (by decide +kernel) (by decide +kernel) (si_zip C (sa_cons (se_fld C T.K_0 (by rw [T.F_0]; rfl) (se_var C 0)) (sa_cons (se_fld C T.K_0 (by rw [T.F_0]; rfl) (se_var C 1)) (sa_nil)))) (fun _ hX => sg_tup hX.1 (sgs_cons (sg_name hX.1 5) (sgs_cons (sg_name hX.1 6) (sgs_nil)))) (fun _ hX => sts_nil) (fun _ hX => se_min hX.1 (sa_cons (se_var hX.1 5) (sa_cons (se_var hX.1 6) (sa_nil)))))
  (sss_cons (ss_asg C 3 (se_lst (sa_nil)))
  (sss_cons (ss_for C P (is := [4]) (si_seq (se_sortC C (own := [("at", 4), ("speed", 5)]) (is := [4, 5]) (by decide +kernel) (by decide +kernel) (si_seq (se_add (se_fld C T.K_0 (by rw [T.F_0]; rfl) (se_var C 0)) (se_fld C T.K_0 (by rw [T.F_0]; rfl) (se_var C 1)))) (fun _ hX => sg_tup hX.1 (sgs_cons (sg_name hX.1 4) (sgs_cons (sg_name hX.1 5) (sgs_nil)))) (fun _ hX => sts_nil) (fun _ hX => se_var hX.1 4))) (sg_name C 4) (sss_cons (ss_asg C 5 (se_call C (FnE.mono (ok_speed_at T) (by decide)) (sa_cons (se_fld C T.K_0 (by rw [T.F_0]; rfl) (se_var C 0)) (sa_cons (se_fld C T.K_0 (by rw [T.F_0]; rfl) (se_var C 0)) (sa_cons (se_var C 4) (sa_nil))))))
  (sss_one (ss_app C 3 (se_tup (sa_cons (se_var C 4) (sa_cons (se_min C (sa_cons (se_var C 5) (sa_cons (se_call C (FnE.mono (ok_speed_at T) (by decide)) (sa_cons (se_fld C T.K_0 (by rw [T.F_0]; rfl) (se_var C 1)) (sa_cons (se_fld C T.K_0 (by rw [T.F_0]; rfl) (se_var C 1)) (sa_cons (se_var C 4) (sa_nil))))) (sa_nil)))) (sa_nil))))))))
  (sss_one (ss_retF (se_make C (MkE.mono (ok_Calendar_init T) (by decide)) (sa_cons (se_var C 2) (sa_cons (se_var C 3) (sa_nil)))))))))

theorem law_Calendar_and : LawOf N_Calendar_and [false, false] c_Calendar_and w_Calendar_and := by
  rintro svs Q E - ⟨ps, qs, ms, ns, rfl, wk, wq, hl, h12, e, mk, nk, lm, ln, wj, hq⟩
  have lenP : (((ps.map D.int).length : Nat) : Int) = ps.length := by rw [List.length_map]
  have lenQ : (((qs.map D.int).length : Nat) : Int) = qs.length := by rw [List.length_map]
  have rm : (realOf ps ms).length ≤ ms.length := List.length_filter_le _ _
  have rn : (realOf qs ns).length ≤ ns.length := List.length_filter_le _ _
  have mr : Marks (realOf ps ms) := ⟨real_up mk, fun m hm => mk.bd m (List.mem_filter.mp hm).1⟩
  have nr : Marks (realOf qs ns) := ⟨real_up nk, fun m hm => nk.bd m (List.mem_filter.mp hm).1⟩
  ((conv => whnf); try dsimp only [List.set_cons_zero, List.set_cons_succ]); refine ⟨rfl, ?_⟩
  ((conv => whnf); try dsimp only [List.set_cons_zero, List.set_cons_succ]); refine ⟨rfl, ?_⟩
  ((conv => whnf); try dsimp only [List.set_cons_zero, List.set_cons_succ]); refine ⟨_, _, rfl, by rw [lenP, lenQ]; omega, ?_⟩
  ((conv => whnf); try dsimp only [List.set_cons_zero, List.set_cons_succ]); refine ⟨rfl, ?_⟩
  ((conv => whnf); try dsimp only [List.set_cons_zero, List.set_cons_succ]); refine ⟨rfl, ?_⟩
  ((conv => whnf); try dsimp only [List.set_cons_zero, List.set_cons_succ]); rw [zipD_ints]
  refine compL_ind (fun ds acc ρ => ∃ (as rs : List (Int × Int)), ps.zip qs = as ++ rs ∧ ds = rs.map mkD ∧ acc = (as.map fun x => mn x.1 x.2).map D.int ∧ ρ = [some (.d (calD ps ms)), some (.d (calD qs ns)), none, none, none, none, none]) ?_ ?_ _ _ _ ⟨[], ps.zip qs, rfl, rfl, rfl, rfl⟩
  · rintro acc ρ ⟨as, rs, e1, e2, rfl, rfl⟩
    obtain rfl : rs = [] := by cases rs with
      | nil => rfl
      | cons _ _ => cases e2
    rw [List.append_nil] at e1
    subst e1
    rw [← zip_map]
    ((conv => whnf); try dsimp only [List.set_cons_zero, List.set_cons_succ]); refine ⟨few3 (by show 0 ≤ 1000; decide), ?_⟩
    ((conv => whnf); try dsimp only [List.set_cons_zero, List.set_cons_succ]); refine ⟨rfl, ?_⟩
    ((conv => whnf); try dsimp only [List.set_cons_zero, List.set_cons_succ]); refine ⟨rfl, ?_⟩
    ((conv => whnf); try dsimp only [List.set_cons_zero, List.set_cons_succ]); refine ⟨by simp; omega, ?_⟩
    ((conv => whnf); try dsimp only [List.set_cons_zero, List.set_cons_succ]); rw [← List.map_append]
    refine compI_ind (fun ds acc ρ => ∃ (as rs : List (Int × Int)), realOf ps ms ++ realOf qs ns = as ++ rs ∧ ds = rs.map mkD ∧ acc = as.map Prod.fst ∧ ρ = [some (.d (calD ps ms)), some (.d (calD qs ns)), some (.lst ((joinP mn ps qs).map D.int)), some (.lst []), none, none, none]) ?_ ?_ _ _ _ ⟨[], _, rfl, rfl, rfl, rfl⟩
    · rintro acc ρ ⟨as, rs, e1, e2, rfl, rfl⟩ us up mem
      obtain rfl : rs = [] := by cases rs with
        | nil => rfl
        | cons _ _ => cases e2
      rw [List.append_nil] at e1
      rw [← e1] at mem
      obtain rfl := ups_is up mem
      ((conv => whnf); try dsimp only [List.set_cons_zero, List.set_cons_succ])
      refine forL_ind (fun ds ρ => ∃ (as rs : List Int) (x y : Option SV), ups ((realOf ps ms ++ realOf qs ns).map Prod.fst) = as ++ rs ∧ ds = rs.map D.int ∧
        ρ = [some (.d (calD ps ms)), some (.d (calD qs ns)), some (.lst ((joinP mn ps qs).map D.int)), some (.lst ((as.map fun a => (a, mn (paceF ps (realOf ps ms) a) (paceF qs (realOf qs ns) a))).map mkD)), x, y, none]) ?_ ?_ _ _ ⟨[], _, none, none, rfl, rfl, rfl⟩
      · rintro ρ ⟨as, rs, x, y, e3, e4, rfl⟩
        obtain rfl : rs = [] := by cases rs with
          | nil => rfl
          | cons _ _ => cases e4
        rw [List.append_nil] at e3
        rw [← e3]
        have lj := joinM_length mn ps (realOf ps ms) qs (realOf qs ns)
        ((conv => whnf); try dsimp only [List.set_cons_zero, List.set_cons_succ]); refine ⟨joinP mn ps qs, joinM mn ps (realOf ps ms) qs (realOf qs ns), rfl, wj, by rw [joinP_length e]; omega, by rw [joinP_length e]; omega, marks_join mn_bd wk wq hl (by omega) mr nr, by omega, rfl, _, _, rfl, ?_⟩
        rw [← calD_join mn_bd wk wq hl e mk nk] at hq
        ((conv => whnf); try dsimp only [List.set_cons_zero, List.set_cons_succ]); exact hq
      · rintro d ds ρ ⟨as, rs, x, y, e3, e4, rfl⟩ ih
        cases rs with
        | nil => cases e4
        | cons r rs =>
          cases e4
          have la : as.length ≤ ms.length + ns.length := by
            have := len_ups ((realOf ps ms ++ realOf qs ns).map Prod.fst)
            have q := congrArg List.length e3
            simp only [List.length_map, List.length_append, List.length_cons] at this q
            omega
          ((conv => whnf); try dsimp only [List.set_cons_zero, List.set_cons_succ]); refine ⟨rfl, ?_⟩
          ((conv => whnf); try dsimp only [List.set_cons_zero, List.set_cons_succ]); refine ⟨rfl, ?_⟩
          ((conv => whnf); try dsimp only [List.set_cons_zero, List.set_cons_succ]); refine ⟨ps, realOf ps ms, r, rfl, hl, ?_⟩
          ((conv => whnf); try dsimp only [List.set_cons_zero, List.set_cons_succ]); refine ⟨rfl, ?_⟩
          ((conv => whnf); try dsimp only [List.set_cons_zero, List.set_cons_succ]); refine ⟨rfl, ?_⟩
          ((conv => whnf); try dsimp only [List.set_cons_zero, List.set_cons_succ]); refine ⟨qs, realOf qs ns, r, rfl, by omega, ?_⟩
          ((conv => whnf); try dsimp only [List.set_cons_zero, List.set_cons_succ]); refine ⟨few3 (by show 2 ≤ 1000; decide), ?_⟩
          ((conv => whnf); try dsimp only [List.set_cons_zero, List.set_cons_succ]); refine ⟨by simp; omega, ?_⟩
          exact ⟨_, Fgt.refl _, ih _ ⟨as ++ [r], rs, _, _, by rw [e3]; simp, rfl, by rw [List.map_append, List.map_append]; rfl⟩⟩
    · rintro d ds acc ρ ⟨as, rs, e1, e2, rfl, rfl⟩ ih
      cases rs with
      | nil => cases e2
      | cons r rs =>
        cases e2
        have la : as.length ≤ ms.length + ns.length := by
          have q := congrArg List.length e1
          simp only [List.length_append, List.length_cons] at q
          omega
        ((conv => whnf); try dsimp only [List.set_cons_zero, List.set_cons_succ]); refine ⟨rfl, ?_⟩
        ((conv => whnf); try dsimp only [List.set_cons_zero, List.set_cons_succ]); refine Br.tt ?_
        ((conv => whnf); try dsimp only [List.set_cons_zero, List.set_cons_succ]); refine ⟨by simp; omega, ?_⟩
        exact ih _ _ ⟨as ++ [r], rs, by rw [e1]; simp, rfl, by simp, rfl⟩
  · rintro d ds acc ρ ⟨as, rs, e1, e2, rfl, rfl⟩ ih
    cases rs with
    | nil => cases e2
    | cons r rs =>
      cases e2
      have la : as.length ≤ 12 := by
        have q := congrArg List.length e1
        simp only [List.length_append, List.length_cons, List.length_zip] at q
        omega
      ((conv => whnf); try dsimp only [List.set_cons_zero, List.set_cons_succ]); refine ⟨rfl, ?_⟩
      ((conv => whnf); try dsimp only [List.set_cons_zero, List.set_cons_succ]); refine Br.tt ?_
      ((conv => whnf); try dsimp only [List.set_cons_zero, List.set_cons_succ]); refine ⟨by simp; omega, ?_⟩
      exact ih _ _ ⟨as ++ [r], rs, by rw [e1]; simp, rfl, by simp; rfl, rfl⟩
theorem ok_Calendar_and {Γ : Wd} (T : Tx Γ) : OpE Γ 4 0 "__and__" [false, false] c_Calendar_and :=
  opE_of T.d_Calendar_and sc_Calendar_and (by intro _ _ _ _ _ _ _ _ us hl; exact match us, hl with | [_, _], _ => rfl) T.bn rfl (tr_Calendar_and T) law_Calendar_and


/-! joined and moved calendars as maps of moments -/
theorem paceF_week {P : List Int} {i : Nat} (h : i < P.length) : paceF P [] (i : Int) = P[i] := by
  unfold paceF
  rw [Int.emod_eq_of_lt (by omega) (by omega), Int.toNat_natCast, List.getElem?_eq_getElem h]
  rfl
theorem week_ext {P P' : List Int} (l : P.length = P'.length) (h : ∀ a, paceF P [] a = paceF P' [] a) : P = P' := by
  refine List.ext_getElem l fun i h1 h2 => ?_
  rw [← paceF_week h1, ← paceF_week h2, h]
structure Is (n c : Nat) (P : List Int) (M : List (Int × Int)) (f0 f : Int → Int) : Prop where
  wk : Week P
  len : P.length = n
  pos : 0 < P.length
  le : P.length ≤ 12
  mks : Marks M
  few : M.length ≤ c
  p0 : ∀ a, paceF P [] a = f0 a
  p : ∀ a, paceF P M a = f a
theorem Is.same {n c c' : Nat} {P P' M M'} {f0 f g0 g : Int → Int} (p : Is n c P M f0 f) (q : Is n c' P' M' g0 g) (h0 : ∀ a, f0 a = g0 a) (h : ∀ a, f a = g a) : P = P' ∧ realOf P M = realOf P' M' := by
  obtain rfl := week_ext (p.len.trans q.len.symm) fun a => by rw [p.p0, q.p0, h0]
  exact ⟨rfl, real_ext p.mks q.mks fun a => by rw [p.p, q.p, h]⟩
theorem Is.eqT {n c c' : Nat} {P P' M M'} {f0 f g0 g : Int → Int} (p : Is n c P M f0 f) (q : Is n c' P' M' g0 g) (h0 : ∀ a, f0 a = g0 a) (h : ∀ a, f a = g a) : (decide (P = P') && decide (realOf P M = realOf P' M')) = true := by
  obtain ⟨h1, h2⟩ := p.same q h0 h
  rw [decide_eq_true h1, decide_eq_true h2]; rfl
theorem Is.or {n c d : Nat} {P Q M N} {f0 f g0 g : Int → Int} (p : Is n c P M f0 f) (q : Is n d Q N g0 g) : Is n (c + d) (joinP mx P Q) (joinM mx P M Q N) (fun a => mx (f0 a) (g0 a)) (fun a => mx (f a) (g a)) := by
  have e := p.len.trans q.len.symm
  exact ⟨week_mx p.wk q.wk e, by rw [joinP_length e, p.len], by rw [joinP_length e]; exact p.pos, by rw [joinP_length e]; exact p.le, marks_join mx_bd p.wk q.wk p.pos q.pos p.mks q.mks, by
    have := joinM_length mx P M Q N
    have := p.few
    have := q.few
    omega, fun a => by rw [paceF_joinP p.pos e, p.p0, q.p0], fun a => by rw [paceF_join p.pos e, p.p, q.p]⟩
theorem Is.and {n c d : Nat} {P Q M N} {f0 f g0 g : Int → Int} (p : Is n c P M f0 f) (q : Is n d Q N g0 g) (w : Week (joinP mn P Q)) : Is n (c + d) (joinP mn P Q) (joinM mn P M Q N) (fun a => mn (f0 a) (g0 a)) (fun a => mn (f a) (g a)) := by
  have e := p.len.trans q.len.symm
  exact ⟨w, by rw [joinP_length e, p.len], by rw [joinP_length e]; exact p.pos, by rw [joinP_length e]; exact p.le, marks_join mn_bd p.wk q.wk p.pos q.pos p.mks q.mks, by
    have := joinM_length mn P M Q N
    have := p.few
    have := q.few
    omega, fun a => by rw [paceF_joinP p.pos e, p.p0, q.p0], fun a => by rw [paceF_join p.pos e, p.p, q.p]⟩
/-- the lesser week has an open moment, since a calendar with that week stands -/
theorem Is.opn {n c d e : Nat} {P Q R M N K} {f0 f g0 g r0 r : Int → Int} (p : Is n c P M f0 f) (q : Is n d Q N g0 g) (s : Is n e R K r0 r) (h : ∀ a, mn (f0 a) (g0 a) = r0 a) : Week (joinP mn P Q) := by
  have l := p.len.trans q.len.symm
  rw [week_ext (P := joinP mn P Q) (P' := R) (by rw [joinP_length l, p.len, s.len]) fun a => by rw [paceF_joinP p.pos l, p.p0, q.p0, s.p0, h]]
  exact s.wk
theorem Is.mov {n c : Nat} {P M} {f0 f : Int → Int} (p : Is n c P M f0 f) (s : Int) : Is n c (movP P s) (movM M s) (fun a => f0 (a - s)) (fun a => f (a - s)) :=
  ⟨week_mov p.wk p.pos s, by rw [movP_length, p.len], by rw [movP_length]; exact p.pos, by rw [movP_length]; exact p.le, marks_mov p.mks s, by rw [movM_length]; exact p.few, fun a => by rw [paceF_movP p.pos, p.p0], fun a => by rw [paceF_mov p.pos, p.p]⟩
theorem Is.few4 {n c : Nat} {P M} {f0 f : Int → Int} (p : Is n c P M f0 f) (h : c ≤ 400 := by decide) : M.length ≤ 400 := Nat.le_trans p.few h
theorem Is.bd {n c : Nat} {P M} {f0 f : Int → Int} (p : Is n c P M f0 f) (a : Int) : 0 ≤ f a ∧ f a ≤ 3 := by
  rw [← p.p]
  exact paceF_bd p.wk p.pos p.mks.bd

/-! tickets: what is left, the methods -/
structure CalOk (ps : List Int) (ms : List (Int × Int)) : Prop where
  wk : Week ps
  pos : 0 < ps.length
  le : ps.length ≤ 12
  mks : Marks ms
def stD (ps : List Int) (ms : List (Int × Int)) (l b : Int) (p : Bool) : D := .tup [calD ps ms, .int l, .int b, .bl p]
def lft (ps : List Int) (ms : List (Int × Int)) (l b : Int) (p : Bool) (m : Int) : Int := if p then l else (if l - spanSum ps ms b m > 0 then l - spanSum ps ms b m else 0)
theorem lft_bd {ps : List Int} {ms : List (Int × Int)} (o : CalOk ps ms) {l b m : Int} {p : Bool} (l0 : 0 ≤ l) : 0 ≤ lft ps ms l b p m ∧ lft ps ms l b p m ≤ l := by
  have := spanSum_pos o.wk o.pos o.mks b m
  unfold lft
  split
  · omega
  · split <;> omega
abbrev tkS (a mo : D) (cs ss : List D) : SV := .ins 1 [.d a, .d mo, .lst cs, .lst ss]
theorem at_last {α : Type} (ss : List α) (x : α) : atI (ss ++ [x]) (-1) = some x := by
  unfold atI
  have : ixN (ss ++ [x]).length (-1) = some ss.length := by
    unfold ixN
    simp
    omega
  rw [this]
  simp
def c_left_of : Con := fun svs Q _ => ∃ (ps : List Int) (ms : List (Int × Int)) (l b : Int) (p : Bool) (m : Int), svs = [.d (stD ps ms l b p), .d (.int m)] ∧ CalOk ps ms ∧ b ≤ m ∧ Q (.d (.int (lft ps ms l b p m))) svs
/-! left_of: state 0, moment 1, calendar 2, left 3, begin 4, paused 5 -/
theorem sc_left_of : FnScope N_left_of ["state", "moment"] (defScope st_left_of) := ⟨rfl, rfl, rfl, by decide +kernel, rfl, by decide +kernel, by decide +kernel⟩
abbrev w_left_of_1 : WS := wRetF (wB kMax (wCons (wC (.int 0)) (wCons (w2 kSub (wVar 3) (wCall [false, false, false] c_work (wCons (wVar 2) (wCons (wVar 4) (wCons (wVar 1) (wNil)))))) (wNil))))
abbrev w_left_of_2 : WS := wSeq (wIf (wTst (wVar 5)) (wRetF (wVar 3)) (wNext)) w_left_of_1
def w_left_of : WS :=
  wSeq (wUnp (wVar 0) (gTp 4 (gsCons (gNm 2) (gsCons (gNm 3) (gsCons (gNm 4) (gsCons (gNm 5) (gsNil))))))) w_left_of_2
theorem tr_left_of {Γ : Wd} (T : Tx Γ) (X : Cx) (C : Ctx Γ X N_left_of (defScope st_left_of) (fun _ => true) 3) (P : Own X) (dc : DefCx X) : SSs Γ [] X (defBody st_left_of) w_left_of :=
  sss_cons (ss_unp (is := [2, 3, 4, 5]) (se_var C 0) (sg_tup C (sgs_cons (sg_name C 2) (sgs_cons (sg_name C 3) (sgs_cons (sg_name C 4) (sgs_cons (sg_name C 5) (sgs_nil)))))))
  (sss_cons (ss_if (st_val (se_var C 5)) (sss_one (ss_retF (se_var C 3))) (sss_nil))
  (sss_one (ss_retF (se_max C (sa_cons (se_int) (sa_cons (se_sub (se_var C 3) (se_call C (FnE.mono (ok_work T) (by decide)) (sa_cons (se_var C 2) (sa_cons (se_var C 4) (sa_cons (se_var C 1) (sa_nil)))))) (sa_nil)))))))

theorem law_left_of : LawOf N_left_of [false, false] c_left_of w_left_of := by
  rintro svs Q E - ⟨ps, ms, l, b, p, m, rfl, o, h, hq⟩
  ((conv => whnf); try dsimp only [List.set_cons_zero, List.set_cons_succ]); refine ⟨rfl, ?_⟩
  cases p with
  | true => ((conv => whnf); try dsimp only [List.set_cons_zero, List.set_cons_succ]); refine Br.tt ?_; ((conv => whnf); try dsimp only [List.set_cons_zero, List.set_cons_succ]); exact hq
  | false =>
    ((conv => whnf); try dsimp only [List.set_cons_zero, List.set_cons_succ]); refine Br.ff ?_
    ((conv => whnf); try dsimp only [List.set_cons_zero, List.set_cons_succ]); refine ⟨ps, ms, b, m, rfl, o.wk, o.pos, o.le, o.mks, h, ?_⟩
    ((conv => whnf); try dsimp only [List.set_cons_zero, List.set_cons_succ]); exact hq
theorem ok_left_of {Γ : Wd} (T : Tx Γ) : FnE Γ 4 "left_of" [false, false] c_left_of :=
  fnE_of T.d_left_of sc_left_of (by intro _ _ _ _ _ _ _ _ us hl; exact match us, hl with | [_, _], _ => rfl) T.bn rfl (tr_left_of T) law_left_of

def c_Ticket_init : Con := fun svs Q _ => ∃ (ps : List Int) (ms : List (Int × Int)) (l b : Int), svs = [.ins 1 [], .d (calD ps ms), .d (.int l), .d (.int b)] ∧ 0 ≤ l ∧ Q (.d .non) [tkS (.tup [calD ps ms, .int l, .int b]) .non [] [stD ps ms l b false], .d (calD ps ms), .d (.int l), .d (.int b)]
/-! Ticket.__init__: self 0, calendar 1, amount 2, moment 3 -/
theorem sc_Ticket_init : FnScope N_Ticket_init ["self", "calendar", "amount", "moment"] (defScope st_Ticket_init) := ⟨rfl, rfl, rfl, by decide +kernel, rfl, by decide +kernel, by decide +kernel⟩
abbrev w_Ticket_init_1 : WS := wFldO 1 0 3 (wLst (wCons (wTup (wCons (wVar 1) (wCons (wVar 2) (wCons (wVar 3) (wCons (wC (.bl false)) (wNil)))))) (wNil)))
abbrev w_Ticket_init_2 : WS := wSeq (wFldO 1 0 2 (wLst (wNil))) w_Ticket_init_1
abbrev w_Ticket_init_3 : WS := wSeq (wFldS 1 0 1 (wC .non)) w_Ticket_init_2
abbrev w_Ticket_init_4 : WS := wSeq (wFldS 1 0 0 (wTup (wCons (wVar 1) (wCons (wVar 2) (wCons (wVar 3) (wNil)))))) w_Ticket_init_3
def w_Ticket_init : WS :=
  wSeq (wIf (wTst (w2 kLt (wVar 2) (wC (.int 0)))) (wBad) (wNext)) w_Ticket_init_4
theorem tr_Ticket_init {Γ : Wd} (T : Tx Γ) (X : Cx) (C : Ctx Γ X N_Ticket_init (defScope st_Ticket_init) (fun _ => true) 0) (P : Own X) (dc : DefCx X) : SSs Γ [0] X (defBody st_Ticket_init) w_Ticket_init :=
  sss_cons (ss_if (st_lt  (se_var C 2) (se_int)) (sss_one (ss_bad)) (sss_nil))
  (sss_cons (ss_flds C 0 T.K_1 (by rw [T.F_1]; rfl) (se_tup (sa_cons (se_var C 1) (sa_cons (se_var C 2) (sa_cons (se_var C 3) (sa_nil))))))
  (sss_cons (ss_flds C 0 T.K_1 (by rw [T.F_1]; rfl) (se_non))
  (sss_cons (ss_fldo C 0 T.K_1 (by rw [T.F_1]; rfl) (se_lst (sa_nil)))
  (sss_one (ss_fldo C 0 T.K_1 (by rw [T.F_1]; rfl) (se_lst (sa_cons (se_tup (sa_cons (se_var C 1) (sa_cons (se_var C 2) (sa_cons (se_var C 3) (sa_cons (se_bl) (sa_nil)))))) (sa_nil))))))))

theorem law_Ticket_init : LawOf N_Ticket_init [true, false, false, false] c_Ticket_init w_Ticket_init := by
  rintro svs Q E - ⟨ps, ms, l, b, rfl, h, hq⟩
  ((conv => whnf); try dsimp only [List.set_cons_zero, List.set_cons_succ]); refine Br.of (fun z => absurd z (by omega)) (fun _ => ?_)
  ((conv => whnf); try dsimp only [List.set_cons_zero, List.set_cons_succ]); refine ⟨few3 (by show 3 ≤ 1000; decide), rfl, .inl rfl, ?_⟩
  ((conv => whnf); try dsimp only [List.set_cons_zero, List.set_cons_succ]); refine ⟨rfl, .inl rfl, ?_⟩
  ((conv => whnf); try dsimp only [List.set_cons_zero, List.set_cons_succ]); refine ⟨few3 (by show 0 ≤ 1000; decide), rfl, rfl, ?_⟩
  ((conv => whnf); try dsimp only [List.set_cons_zero, List.set_cons_succ]); refine ⟨few3 (by show 4 ≤ 1000; decide), few3 (by show 1 ≤ 1000; decide), rfl, rfl, ?_⟩
  ((conv => whnf); try dsimp only [List.set_cons_zero, List.set_cons_succ]); exact hq
theorem ok_Ticket_init {Γ : Wd} (T : Tx Γ) : MkE Γ 1 1 "Ticket" [false, false, false] c_Ticket_init :=
  mkE_of T.d_Ticket_init sc_Ticket_init (by intro _ _ _ _ _ _ _ _ us hl; exact match us, hl with | [_, _, _, _], _ => rfl) T.bn rfl (tr_Ticket_init T) law_Ticket_init

def c_Ticket_moment : Con := fun svs Q _ => ∃ (a mo : D) (cs ss : List D) (ps : List Int) (ms : List (Int × Int)) (l b : Int) (p : Bool), svs = [tkS a mo cs (ss ++ [stD ps ms l b p])] ∧ Q (.d (.int b)) svs
/-! Ticket.moment: self 0 -/
theorem sc_Ticket_moment : FnScope N_Ticket_moment ["self"] (defScope st_Ticket_moment) := ⟨rfl, rfl, rfl, by decide +kernel, rfl, by decide +kernel, by decide +kernel⟩
def w_Ticket_moment : WS :=
  wRetF (w2 kIdx (wFlLast 1 0 3) (wC (.int 2)))
theorem tr_Ticket_moment {Γ : Wd} (T : Tx Γ) (X : Cx) (C : Ctx Γ X N_Ticket_moment (defScope st_Ticket_moment) (fun _ => true) 0) (P : Own X) (dc : DefCx X) : SSs Γ [0] X (defBody st_Ticket_moment) w_Ticket_moment :=
  sss_one (ss_retF (se_idx C (fun _ _ => rfl) (se_fllast C 0 T.K_1 (by rw [T.F_1]; rfl) (fun _ _ => rfl)) (se_int)))

theorem law_Ticket_moment : LawOf N_Ticket_moment [true] c_Ticket_moment w_Ticket_moment := by
  rintro svs Q E - ⟨a, mo, cs, ss, ps, ms, l, b, p, rfl, hq⟩
  ((conv => whnf); try dsimp only [List.set_cons_zero, List.set_cons_succ]); refine ⟨rfl, _, at_last _ _, ?_⟩
  ((conv => whnf); try dsimp only [List.set_cons_zero, List.set_cons_succ]); refine ⟨_, rfl, ?_⟩
  ((conv => whnf); try dsimp only [List.set_cons_zero, List.set_cons_succ]); exact hq
theorem ok_Ticket_moment {Γ : Wd} (T : Tx Γ) : PrE Γ 1 1 "moment" [true] c_Ticket_moment :=
  prE_of T.d_Ticket_moment sc_Ticket_moment (by intro _ _ _ _ _ _ _ _ us hl; exact match us, hl with | [_], _ => rfl) T.bn rfl (tr_Ticket_moment T) law_Ticket_moment

def c_Ticket_left : Con := fun svs Q _ => ∃ (a mo : D) (cs ss : List D) (ps : List Int) (ms : List (Int × Int)) (l b : Int) (p : Bool), svs = [tkS a mo cs (ss ++ [stD ps ms l b p])] ∧ Q (.d (.int l)) svs
/-! Ticket.left: self 0 -/
theorem sc_Ticket_left : FnScope N_Ticket_left ["self"] (defScope st_Ticket_left) := ⟨rfl, rfl, rfl, by decide +kernel, rfl, by decide +kernel, by decide +kernel⟩
def w_Ticket_left : WS :=
  wRetF (w2 kIdx (wFlLast 1 0 3) (wC (.int 1)))
theorem tr_Ticket_left {Γ : Wd} (T : Tx Γ) (X : Cx) (C : Ctx Γ X N_Ticket_left (defScope st_Ticket_left) (fun _ => true) 0) (P : Own X) (dc : DefCx X) : SSs Γ [0] X (defBody st_Ticket_left) w_Ticket_left :=
  sss_one (ss_retF (se_idx C (fun _ _ => rfl) (se_fllast C 0 T.K_1 (by rw [T.F_1]; rfl) (fun _ _ => rfl)) (se_int)))

theorem law_Ticket_left : LawOf N_Ticket_left [true] c_Ticket_left w_Ticket_left := by
  rintro svs Q E - ⟨a, mo, cs, ss, ps, ms, l, b, p, rfl, hq⟩
  ((conv => whnf); try dsimp only [List.set_cons_zero, List.set_cons_succ]); refine ⟨rfl, _, at_last _ _, ?_⟩
  ((conv => whnf); try dsimp only [List.set_cons_zero, List.set_cons_succ]); refine ⟨_, rfl, ?_⟩
  ((conv => whnf); try dsimp only [List.set_cons_zero, List.set_cons_succ]); exact hq
theorem ok_Ticket_left {Γ : Wd} (T : Tx Γ) : PrE Γ 1 1 "left" [true] c_Ticket_left :=
  prE_of T.d_Ticket_left sc_Ticket_left (by intro _ _ _ _ _ _ _ _ us hl; exact match us, hl with | [_], _ => rfl) T.bn rfl (tr_Ticket_left T) law_Ticket_left

def c_Ticket_is_paused : Con := fun svs Q _ => ∃ (a mo : D) (cs ss : List D) (ps : List Int) (ms : List (Int × Int)) (l b : Int) (p : Bool), svs = [tkS a mo cs (ss ++ [stD ps ms l b p])] ∧ Q (.d (.bl p)) svs
/-! Ticket.is_paused: self 0 -/
theorem sc_Ticket_is_paused : FnScope N_Ticket_is_paused ["self"] (defScope st_Ticket_is_paused) := ⟨rfl, rfl, rfl, by decide +kernel, rfl, by decide +kernel, by decide +kernel⟩
def w_Ticket_is_paused : WS :=
  wRetF (w2 kIdx (wFlLast 1 0 3) (wC (.int 3)))
theorem tr_Ticket_is_paused {Γ : Wd} (T : Tx Γ) (X : Cx) (C : Ctx Γ X N_Ticket_is_paused (defScope st_Ticket_is_paused) (fun _ => true) 0) (P : Own X) (dc : DefCx X) : SSs Γ [0] X (defBody st_Ticket_is_paused) w_Ticket_is_paused :=
  sss_one (ss_retF (se_idx C (fun _ _ => rfl) (se_fllast C 0 T.K_1 (by rw [T.F_1]; rfl) (fun _ _ => rfl)) (se_int)))

theorem law_Ticket_is_paused : LawOf N_Ticket_is_paused [true] c_Ticket_is_paused w_Ticket_is_paused := by
  rintro svs Q E - ⟨a, mo, cs, ss, ps, ms, l, b, p, rfl, hq⟩
  ((conv => whnf); try dsimp only [List.set_cons_zero, List.set_cons_succ]); refine ⟨rfl, _, at_last _ _, ?_⟩
  ((conv => whnf); try dsimp only [List.set_cons_zero, List.set_cons_succ]); refine ⟨_, rfl, ?_⟩
  ((conv => whnf); try dsimp only [List.set_cons_zero, List.set_cons_succ]); exact hq
theorem ok_Ticket_is_paused {Γ : Wd} (T : Tx Γ) : PrE Γ 1 1 "is_paused" [true] c_Ticket_is_paused :=
  prE_of T.d_Ticket_is_paused sc_Ticket_is_paused (by intro _ _ _ _ _ _ _ _ us hl; exact match us, hl with | [_], _ => rfl) T.bn rfl (tr_Ticket_is_paused T) law_Ticket_is_paused

def c_Ticket_left_at : Con := fun svs Q _ => ∃ (a mo : D) (cs ss : List D) (ps : List Int) (ms : List (Int × Int)) (l b : Int) (p : Bool) (m : Int), svs = [tkS a mo cs (ss ++ [stD ps ms l b p]), .d (.int m)] ∧ CalOk ps ms ∧ b ≤ m ∧ Q (.d (.int (lft ps ms l b p m))) svs
/-! Ticket.left_at: self 0, moment 1 -/
theorem sc_Ticket_left_at : FnScope N_Ticket_left_at ["self", "moment"] (defScope st_Ticket_left_at) := ⟨rfl, rfl, rfl, by decide +kernel, rfl, by decide +kernel, by decide +kernel⟩
abbrev w_Ticket_left_at_1 : WS := wRetF (wCall [false, false] c_left_of (wCons (wFlLast 1 0 3) (wCons (wVar 1) (wNil))))
def w_Ticket_left_at : WS :=
  wSeq (wIf (wTst (w2 kLt (wVar 1) (w2 kIdx (wFlLast 1 0 3) (wC (.int 2))))) (wBad) (wNext)) w_Ticket_left_at_1
theorem tr_Ticket_left_at {Γ : Wd} (T : Tx Γ) (X : Cx) (C : Ctx Γ X N_Ticket_left_at (defScope st_Ticket_left_at) (fun _ => true) 4) (P : Own X) (dc : DefCx X) : SSs Γ [0] X (defBody st_Ticket_left_at) w_Ticket_left_at :=
  sss_cons (ss_if (st_lt  (se_var C 1) (se_idx C (fun _ _ => rfl) (se_fllast C 0 T.K_1 (by rw [T.F_1]; rfl) (fun _ _ => rfl)) (se_int))) (sss_one (ss_bad)) (sss_nil))
  (sss_one (ss_retF (se_call C (FnE.mono (ok_left_of T) (by decide)) (sa_cons (se_fllast C 0 T.K_1 (by rw [T.F_1]; rfl) (fun _ _ => rfl)) (sa_cons (se_var C 1) (sa_nil))))))

theorem law_Ticket_left_at : LawOf N_Ticket_left_at [true, false] c_Ticket_left_at w_Ticket_left_at := by
  rintro svs Q E - ⟨a, mo, cs, ss, ps, ms, l, b, p, m, rfl, o, h, hq⟩
  ((conv => whnf); try dsimp only [List.set_cons_zero, List.set_cons_succ]); refine ⟨rfl, _, at_last _ _, ?_⟩
  ((conv => whnf); try dsimp only [List.set_cons_zero, List.set_cons_succ]); refine ⟨_, rfl, ?_⟩
  ((conv => whnf); try dsimp only [List.set_cons_zero, List.set_cons_succ]); refine Br.of (fun z => absurd (show m < b from z) (by omega)) (fun _ => ?_)
  ((conv => whnf); try dsimp only [List.set_cons_zero, List.set_cons_succ]); refine ⟨rfl, _, at_last _ _, ?_⟩
  ((conv => whnf); try dsimp only [List.set_cons_zero, List.set_cons_succ]); refine ⟨ps, ms, l, b, p, m, rfl, o, h, ?_⟩
  ((conv => whnf); try dsimp only [List.set_cons_zero, List.set_cons_succ]); exact hq
theorem ok_Ticket_left_at {Γ : Wd} (T : Tx Γ) : MtE Γ 5 1 "left_at" [true, false] c_Ticket_left_at :=
  mtE_of T.d_Ticket_left_at sc_Ticket_left_at (by intro _ _ _ _ _ _ _ _ us hl; exact match us, hl with | [_, _], _ => rfl) T.bn rfl (tr_Ticket_left_at T) law_Ticket_left_at

def c_Ticket_done_at : Con := fun svs Q _ => ∃ (a mo : D) (cs ss : List D) (ps : List Int) (ms : List (Int × Int)) (l b : Int) (p : Bool), svs = [tkS a mo cs (ss ++ [stD ps ms l b p])] ∧ CalOk ps ms ∧ 0 ≤ l ∧
  (p = true → Q (.d .non) svs) ∧ (p = false → ∀ e, DueW ps ms b l e → Q (.d (.int e)) svs)
/-! Ticket.done_at: self 0, calendar 1, left 2, begin 3, paused 4 -/
theorem sc_Ticket_done_at : FnScope N_Ticket_done_at ["self"] (defScope st_Ticket_done_at) := ⟨rfl, rfl, rfl, by decide +kernel, rfl, by decide +kernel, by decide +kernel⟩
abbrev w_Ticket_done_at_1 : WS := wRetF (wCall [false, false, false] c_due (wCons (wVar 1) (wCons (wVar 3) (wCons (wVar 2) (wNil)))))
abbrev w_Ticket_done_at_2 : WS := wSeq (wIf (wTst (wVar 4)) (wRetF (wC .non)) (wNext)) w_Ticket_done_at_1
def w_Ticket_done_at : WS :=
  wSeq (wUnp (wFlLast 1 0 3) (gTp 4 (gsCons (gNm 1) (gsCons (gNm 2) (gsCons (gNm 3) (gsCons (gNm 4) (gsNil))))))) w_Ticket_done_at_2
theorem tr_Ticket_done_at {Γ : Wd} (T : Tx Γ) (X : Cx) (C : Ctx Γ X N_Ticket_done_at (defScope st_Ticket_done_at) (fun _ => true) 3) (P : Own X) (dc : DefCx X) : SSs Γ [0] X (defBody st_Ticket_done_at) w_Ticket_done_at :=
  sss_cons (ss_unp (is := [1, 2, 3, 4]) (se_fllast C 0 T.K_1 (by rw [T.F_1]; rfl) (fun _ _ => rfl)) (sg_tup C (sgs_cons (sg_name C 1) (sgs_cons (sg_name C 2) (sgs_cons (sg_name C 3) (sgs_cons (sg_name C 4) (sgs_nil)))))))
  (sss_cons (ss_if (st_val (se_var C 4)) (sss_one (ss_retF (se_non))) (sss_nil))
  (sss_one (ss_retF (se_call C (FnE.mono (ok_due T) (by decide)) (sa_cons (se_var C 1) (sa_cons (se_var C 3) (sa_cons (se_var C 2) (sa_nil))))))))

theorem law_Ticket_done_at : LawOf N_Ticket_done_at [true] c_Ticket_done_at w_Ticket_done_at := by
  rintro svs Q E - ⟨a, mo, cs, ss, ps, ms, l, b, p, rfl, o, l0, h1, h2⟩
  ((conv => whnf); try dsimp only [List.set_cons_zero, List.set_cons_succ]); refine ⟨rfl, _, at_last _ _, ?_⟩
  ((conv => whnf); try dsimp only [List.set_cons_zero, List.set_cons_succ]); refine ⟨rfl, ?_⟩
  cases p with
  | true => ((conv => whnf); try dsimp only [List.set_cons_zero, List.set_cons_succ]); refine Br.tt ?_; ((conv => whnf); try dsimp only [List.set_cons_zero, List.set_cons_succ]); exact h1 rfl
  | false =>
    ((conv => whnf); try dsimp only [List.set_cons_zero, List.set_cons_succ]); refine Br.ff ?_
    ((conv => whnf); try dsimp only [List.set_cons_zero, List.set_cons_succ]); refine ⟨ps, ms, b, l, rfl, o.wk, o.pos, o.le, o.mks, l0, fun e he => ?_⟩
    ((conv => whnf); try dsimp only [List.set_cons_zero, List.set_cons_succ]); exact h2 rfl e he
theorem ok_Ticket_done_at {Γ : Wd} (T : Tx Γ) : MtE Γ 4 1 "done_at" [true] c_Ticket_done_at :=
  mtE_of T.d_Ticket_done_at sc_Ticket_done_at (by intro _ _ _ _ _ _ _ _ us hl; exact match us, hl with | [_], _ => rfl) T.bn rfl (tr_Ticket_done_at T) law_Ticket_done_at

def c_Ticket_note : Con := fun svs Q _ => ∃ (a mo : D) (cs ss : List D) (c s : D), svs = [tkS a mo cs ss, .d c, .d s] ∧ cs.length ≤ 1000 ∧ ss.length ≤ 1000 ∧ Q (.d .non) [tkS a mo (cs ++ [c]) (ss ++ [s]), .d c, .d s]
/-! Ticket.note: self 0, call 1, state 2 -/
theorem sc_Ticket_note : FnScope N_Ticket_note ["self", "call", "state"] (defScope st_Ticket_note) := ⟨rfl, rfl, rfl, by decide +kernel, rfl, by decide +kernel, by decide +kernel⟩
abbrev w_Ticket_note_1 : WS := wFlApp 1 0 3 2
def w_Ticket_note : WS :=
  wSeq (wFlApp 1 0 2 1) w_Ticket_note_1
theorem tr_Ticket_note {Γ : Wd} (T : Tx Γ) (X : Cx) (C : Ctx Γ X N_Ticket_note (defScope st_Ticket_note) (fun _ => true) 0) (P : Own X) (dc : DefCx X) : SSs Γ [0] X (defBody st_Ticket_note) w_Ticket_note :=
  sss_cons (ss_flapp C 0 1 T.K_1 (by rw [T.F_1]; rfl))
  (sss_one (ss_flapp C 0 2 T.K_1 (by rw [T.F_1]; rfl)))

theorem law_Ticket_note : LawOf N_Ticket_note [true, false, false] c_Ticket_note w_Ticket_note := by
  rintro svs Q E - ⟨a, mo, cs, ss, c, s, rfl, h1, h2, hq⟩
  ((conv => whnf); try dsimp only [List.set_cons_zero, List.set_cons_succ]); refine ⟨rfl, by omega, ?_⟩
  ((conv => whnf); try dsimp only [List.set_cons_zero, List.set_cons_succ]); refine ⟨rfl, by omega, ?_⟩
  ((conv => whnf); try dsimp only [List.set_cons_zero, List.set_cons_succ]); exact hq
theorem ok_Ticket_note {Γ : Wd} (T : Tx Γ) : MtE Γ 1 1 "note" [true, false, false] c_Ticket_note :=
  mtE_of T.d_Ticket_note sc_Ticket_note (by intro _ _ _ _ _ _ _ _ us hl; exact match us, hl with | [_, _, _], _ => rfl) T.bn rfl (tr_Ticket_note T) law_Ticket_note

def c_Ticket_pause : Con := fun svs Q _ => ∃ (a mo : D) (cs ss : List D) (ps : List Int) (ms : List (Int × Int)) (l b m : Int), svs = [tkS a mo cs (ss ++ [stD ps ms l b false]), .d (.int m)] ∧ CalOk ps ms ∧ b ≤ m ∧ lft ps ms l b false m ≠ 0 ∧ cs.length ≤ 900 ∧ ss.length ≤ 900 ∧
  Q (.d .non) [tkS a mo (cs ++ [.tup [.str "pause", .int m]]) ((ss ++ [stD ps ms l b false]) ++ [stD ps ms (lft ps ms l b false m) m true]), .d (.int m)]
/-! Ticket.pause: self 0, moment 1, left 2 -/
theorem sc_Ticket_pause : FnScope N_Ticket_pause ["self", "moment"] (defScope st_Ticket_pause) := ⟨rfl, rfl, rfl, by decide +kernel, rfl, by decide +kernel, by decide +kernel⟩
abbrev w_Ticket_pause_1 : WS := wExp (wMeth 1 [true, false, false] c_Ticket_note (wRef 0) (wCons (wTup (wCons (wC (.str "pause")) (wCons (wVar 1) (wNil)))) (wCons (wTup (wCons (w2 kIdx (wFlLast 1 0 3) (wC (.int 0))) (wCons (wVar 2) (wCons (wVar 1) (wCons (wC (.bl true)) (wNil)))))) (wNil))))
abbrev w_Ticket_pause_2 : WS := wSeq (wIf (wOrT (wTst (w2 kEq (wVar 2) (wC (.int 0)))) (wTst (w2 kIdx (wFlLast 1 0 3) (wC (.int 3))))) (wBad) (wNext)) w_Ticket_pause_1
def w_Ticket_pause : WS :=
  wSeq (wAsg 2 (wMeth 1 [true, false] c_Ticket_left_at (wRef 0) (wCons (wVar 1) (wNil)))) w_Ticket_pause_2
theorem tr_Ticket_pause {Γ : Wd} (T : Tx Γ) (X : Cx) (C : Ctx Γ X N_Ticket_pause (defScope st_Ticket_pause) (fun _ => true) 5) (P : Own X) (dc : DefCx X) : SSs Γ [0] X (defBody st_Ticket_pause) w_Ticket_pause :=
  sss_cons (ss_asg C 2 (se_meth C T.K_1 (MtE.mono (ok_Ticket_left_at T) (by decide)) (se_ref C 0) (sa_cons (se_var C 1) (sa_nil))))
  (sss_cons (ss_if (SW.st (sw_or (st_eq C (se_var C 2) (se_int)) (sw_or1 (st_val (se_idx C (fun _ _ => rfl) (se_fllast C 0 T.K_1 (by rw [T.F_1]; rfl) (fun _ _ => rfl)) (se_int)))))) (sss_one (ss_bad)) (sss_nil))
  (sss_one (ss_exp (se_meth C T.K_1 (MtE.mono (ok_Ticket_note T) (by decide)) (se_ref C 0) (sa_cons (se_tup (sa_cons (se_str) (sa_cons (se_var C 1) (sa_nil)))) (sa_cons (se_tup (sa_cons (se_idx C (fun _ _ => rfl) (se_fllast C 0 T.K_1 (by rw [T.F_1]; rfl) (fun _ _ => rfl)) (se_int)) (sa_cons (se_var C 2) (sa_cons (se_var C 1) (sa_cons (se_bl) (sa_nil)))))) (sa_nil)))))))

theorem law_Ticket_pause : LawOf N_Ticket_pause [true, false] c_Ticket_pause w_Ticket_pause := by
  rintro svs Q E - ⟨a, mo, cs, ss, ps, ms, l, b, m, rfl, o, h, h0, h1, h2, hq⟩
  ((conv => whnf); try dsimp only [List.set_cons_zero, List.set_cons_succ]); refine ⟨rfl, ?_⟩
  ((conv => whnf); try dsimp only [List.set_cons_zero, List.set_cons_succ]); refine ⟨rfl, ?_⟩
  ((conv => whnf); try dsimp only [List.set_cons_zero, List.set_cons_succ]); refine ⟨a, mo, cs, ss, ps, ms, l, b, false, m, rfl, o, h, ?_⟩
  ((conv => whnf); try dsimp only [List.set_cons_zero, List.set_cons_succ]); refine Br.of (fun z => absurd z h0) (fun _ => ?_)
  ((conv => whnf); try dsimp only [List.set_cons_zero, List.set_cons_succ]); refine ⟨rfl, _, at_last _ _, ?_⟩
  ((conv => whnf); try dsimp only [List.set_cons_zero, List.set_cons_succ]); refine ⟨_, rfl, ?_⟩
  ((conv => whnf); try dsimp only [List.set_cons_zero, List.set_cons_succ]); refine Br.ff ?_
  ((conv => whnf); try dsimp only [List.set_cons_zero, List.set_cons_succ]); refine ⟨rfl, ?_⟩
  ((conv => whnf); try dsimp only [List.set_cons_zero, List.set_cons_succ]); refine ⟨rfl, ?_⟩
  ((conv => whnf); try dsimp only [List.set_cons_zero, List.set_cons_succ]); refine ⟨few3 (by show 2 ≤ 1000; decide), ?_⟩
  ((conv => whnf); try dsimp only [List.set_cons_zero, List.set_cons_succ]); refine ⟨rfl, _, at_last _ _, ?_⟩
  ((conv => whnf); try dsimp only [List.set_cons_zero, List.set_cons_succ]); refine ⟨_, rfl, ?_⟩
  ((conv => whnf); try dsimp only [List.set_cons_zero, List.set_cons_succ]); refine ⟨few3 (by show 4 ≤ 1000; decide), ?_⟩
  ((conv => whnf); try dsimp only [List.set_cons_zero, List.set_cons_succ]); refine ⟨a, mo, cs, _, _, _, rfl, by omega, by simp; omega, ?_⟩
  ((conv => whnf); try dsimp only [List.set_cons_zero, List.set_cons_succ]); exact hq
theorem ok_Ticket_pause {Γ : Wd} (T : Tx Γ) : MtE Γ 6 1 "pause" [true, false] c_Ticket_pause :=
  mtE_of T.d_Ticket_pause sc_Ticket_pause (by intro _ _ _ _ _ _ _ _ us hl; exact match us, hl with | [_, _], _ => rfl) T.bn rfl (tr_Ticket_pause T) law_Ticket_pause


def c_Ticket_switch : Con := fun svs Q _ => ∃ (a mo : D) (cs ss : List D) (ps : List Int) (ms : List (Int × Int)) (qs : List Int) (ns : List (Int × Int)) (l b : Int) (p : Bool) (m : Int), svs = [tkS a mo cs (ss ++ [stD ps ms l b p]), .d (calD qs ns), .d (.int m)] ∧ CalOk ps ms ∧ b ≤ m ∧ lft ps ms l b p m ≠ 0 ∧ cs.length ≤ 900 ∧ ss.length ≤ 900 ∧
  Q (.d .non) [tkS a mo (cs ++ [.tup [.str "switch", calD qs ns, .int m]]) ((ss ++ [stD ps ms l b p]) ++ [stD qs ns (lft ps ms l b p m) m p]), .d (calD qs ns), .d (.int m)]
/-! Ticket.switch: self 0, calendar 1, moment 2, left 3 -/
theorem sc_Ticket_switch : FnScope N_Ticket_switch ["self", "calendar", "moment"] (defScope st_Ticket_switch) := ⟨rfl, rfl, rfl, by decide +kernel, rfl, by decide +kernel, by decide +kernel⟩
abbrev w_Ticket_switch_1 : WS := wExp (wMeth 1 [true, false, false] c_Ticket_note (wRef 0) (wCons (wTup (wCons (wC (.str "switch")) (wCons (wVar 1) (wCons (wVar 2) (wNil))))) (wCons (wTup (wCons (wVar 1) (wCons (wVar 3) (wCons (wVar 2) (wCons (w2 kIdx (wFlLast 1 0 3) (wC (.int 3))) (wNil)))))) (wNil))))
abbrev w_Ticket_switch_2 : WS := wSeq (wIf (wTst (w2 kEq (wVar 3) (wC (.int 0)))) (wBad) (wNext)) w_Ticket_switch_1
def w_Ticket_switch : WS :=
  wSeq (wAsg 3 (wMeth 1 [true, false] c_Ticket_left_at (wRef 0) (wCons (wVar 2) (wNil)))) w_Ticket_switch_2
theorem tr_Ticket_switch {Γ : Wd} (T : Tx Γ) (X : Cx) (C : Ctx Γ X N_Ticket_switch (defScope st_Ticket_switch) (fun _ => true) 5) (P : Own X) (dc : DefCx X) : SSs Γ [0] X (defBody st_Ticket_switch) w_Ticket_switch :=
  sss_cons (ss_asg C 3 (se_meth C T.K_1 (MtE.mono (ok_Ticket_left_at T) (by decide)) (se_ref C 0) (sa_cons (se_var C 2) (sa_nil))))
  (sss_cons (ss_if (st_eq C (se_var C 3) (se_int)) (sss_one (ss_bad)) (sss_nil))
  (sss_one (ss_exp (se_meth C T.K_1 (MtE.mono (ok_Ticket_note T) (by decide)) (se_ref C 0) (sa_cons (se_tup (sa_cons (se_str) (sa_cons (se_var C 1) (sa_cons (se_var C 2) (sa_nil))))) (sa_cons (se_tup (sa_cons (se_var C 1) (sa_cons (se_var C 3) (sa_cons (se_var C 2) (sa_cons (se_idx C (fun _ _ => rfl) (se_fllast C 0 T.K_1 (by rw [T.F_1]; rfl) (fun _ _ => rfl)) (se_int)) (sa_nil)))))) (sa_nil)))))))

theorem law_Ticket_switch : LawOf N_Ticket_switch [true, false, false] c_Ticket_switch w_Ticket_switch := by
  rintro svs Q E - ⟨a, mo, cs, ss, ps, ms, qs, ns, l, b, p, m, rfl, o, h, h0, h1, h2, hq⟩
  show w_Ticket_switch [some (tkS a mo cs (ss ++ [stD ps ms l b p])), some (.d (calD qs ns)), some (.d (.int m)), none] _ _
  ((conv => whnf); try dsimp only [List.set_cons_zero, List.set_cons_succ]); refine ⟨rfl, ?_⟩
  ((conv => whnf); try dsimp only [List.set_cons_zero, List.set_cons_succ]); refine ⟨rfl, ?_⟩
  ((conv => whnf); try dsimp only [List.set_cons_zero, List.set_cons_succ]); refine ⟨a, mo, cs, ss, ps, ms, l, b, p, m, rfl, o, h, ?_⟩
  ((conv => whnf); try dsimp only [List.set_cons_zero, List.set_cons_succ]); refine Br.of (fun z => absurd z h0) (fun _ => ?_)
  ((conv => whnf); try dsimp only [List.set_cons_zero, List.set_cons_succ]); refine ⟨rfl, ?_⟩
  ((conv => whnf); try dsimp only [List.set_cons_zero, List.set_cons_succ]); refine ⟨rfl, ?_⟩
  ((conv => whnf); try dsimp only [List.set_cons_zero, List.set_cons_succ]); refine ⟨few3 (by show 3 ≤ 1000; decide), ?_⟩
  ((conv => whnf); try dsimp only [List.set_cons_zero, List.set_cons_succ]); refine ⟨rfl, _, at_last _ _, ?_⟩
  ((conv => whnf); try dsimp only [List.set_cons_zero, List.set_cons_succ]); refine ⟨_, rfl, ?_⟩
  ((conv => whnf); try dsimp only [List.set_cons_zero, List.set_cons_succ]); refine ⟨few3 (by show 4 ≤ 1000; decide), ?_⟩
  ((conv => whnf); try dsimp only [List.set_cons_zero, List.set_cons_succ]); refine ⟨a, mo, cs, _, _, _, rfl, by omega, by simp; omega, ?_⟩
  ((conv => whnf); try dsimp only [List.set_cons_zero, List.set_cons_succ]); exact hq
theorem ok_Ticket_switch {Γ : Wd} (T : Tx Γ) : MtE Γ 6 1 "switch" [true, false, false] c_Ticket_switch :=
  mtE_of T.d_Ticket_switch sc_Ticket_switch (by intro _ _ _ _ _ _ _ _ us hl; exact match us, hl with | [_, _, _], _ => rfl) T.bn rfl (tr_Ticket_switch T) law_Ticket_switch
theorem okm_Ticket_switch {Γ : Wd} (T : Tx Γ) : MtX Γ 6 1 "switch" st_Ticket_switch ["self", "calendar", "moment"] [true, false, false] c_Ticket_switch :=
  mtX_of T.d_Ticket_switch sc_Ticket_switch T.bn rfl (tr_Ticket_switch T) law_Ticket_switch

def c_Ticket_enlarge : Con := fun svs Q _ => ∃ (a mo : D) (cs ss : List D) (ps : List Int) (ms : List (Int × Int)) (l b : Int) (p : Bool) (k m : Int), svs = [tkS a mo cs (ss ++ [stD ps ms l b p]), .d (.int k), .d (.int m)] ∧ CalOk ps ms ∧ 0 ≤ k ∧ b ≤ m ∧ lft ps ms l b p m ≠ 0 ∧ cs.length ≤ 900 ∧ ss.length ≤ 900 ∧
  Q (.d .non) [tkS a mo (cs ++ [.tup [.str "enlarge", .int k, .int m]]) ((ss ++ [stD ps ms l b p]) ++ [stD ps ms (lft ps ms l b p m + k) m p]), .d (.int k), .d (.int m)]
/-! Ticket.enlarge: self 0, amount 1, moment 2, left 3, calendar 4, before 5, begin 6, paused 7 -/
theorem sc_Ticket_enlarge : FnScope N_Ticket_enlarge ["self", "amount", "moment"] (defScope st_Ticket_enlarge) := ⟨rfl, rfl, rfl, by decide +kernel, rfl, by decide +kernel, by decide +kernel⟩
abbrev w_Ticket_enlarge_1 : WS := wExp (wMeth 1 [true, false, false] c_Ticket_note (wRef 0) (wCons (wTup (wCons (wC (.str "enlarge")) (wCons (wVar 1) (wCons (wVar 2) (wNil))))) (wCons (wTup (wCons (wVar 4) (wCons (w2 kAdd (wVar 3) (wVar 1)) (wCons (wVar 2) (wCons (wVar 7) (wNil)))))) (wNil))))
abbrev w_Ticket_enlarge_2 : WS := wSeq (wUnp (wFlLast 1 0 3) (gTp 4 (gsCons (gNm 4) (gsCons (gNm 5) (gsCons (gNm 6) (gsCons (gNm 7) (gsNil))))))) w_Ticket_enlarge_1
abbrev w_Ticket_enlarge_3 : WS := wSeq (wIf (wTst (w2 kEq (wVar 3) (wC (.int 0)))) (wBad) (wNext)) w_Ticket_enlarge_2
abbrev w_Ticket_enlarge_4 : WS := wSeq (wIf (wTst (w2 kLt (wVar 1) (wC (.int 0)))) (wBad) (wNext)) w_Ticket_enlarge_3
def w_Ticket_enlarge : WS :=
  wSeq (wAsg 3 (wMeth 1 [true, false] c_Ticket_left_at (wRef 0) (wCons (wVar 2) (wNil)))) w_Ticket_enlarge_4
theorem tr_Ticket_enlarge {Γ : Wd} (T : Tx Γ) (X : Cx) (C : Ctx Γ X N_Ticket_enlarge (defScope st_Ticket_enlarge) (fun _ => true) 5) (P : Own X) (dc : DefCx X) : SSs Γ [0] X (defBody st_Ticket_enlarge) w_Ticket_enlarge :=
  sss_cons (ss_asg C 3 (se_meth C T.K_1 (MtE.mono (ok_Ticket_left_at T) (by decide)) (se_ref C 0) (sa_cons (se_var C 2) (sa_nil))))
  (sss_cons (ss_if (st_lt  (se_var C 1) (se_int)) (sss_one (ss_bad)) (sss_nil))
  (sss_cons (ss_if (st_eq C (se_var C 3) (se_int)) (sss_one (ss_bad)) (sss_nil))
  (sss_cons (ss_unp (is := [4, 5, 6, 7]) (se_fllast C 0 T.K_1 (by rw [T.F_1]; rfl) (fun _ _ => rfl)) (sg_tup C (sgs_cons (sg_name C 4) (sgs_cons (sg_name C 5) (sgs_cons (sg_name C 6) (sgs_cons (sg_name C 7) (sgs_nil)))))))
  (sss_one (ss_exp (se_meth C T.K_1 (MtE.mono (ok_Ticket_note T) (by decide)) (se_ref C 0) (sa_cons (se_tup (sa_cons (se_str) (sa_cons (se_var C 1) (sa_cons (se_var C 2) (sa_nil))))) (sa_cons (se_tup (sa_cons (se_var C 4) (sa_cons (se_add (se_var C 3) (se_var C 1)) (sa_cons (se_var C 2) (sa_cons (se_var C 7) (sa_nil)))))) (sa_nil)))))))))

theorem law_Ticket_enlarge : LawOf N_Ticket_enlarge [true, false, false] c_Ticket_enlarge w_Ticket_enlarge := by
  rintro svs Q E - ⟨a, mo, cs, ss, ps, ms, l, b, p, k, m, rfl, o, k0, h, h0, h1, h2, hq⟩
  show w_Ticket_enlarge [some (tkS a mo cs (ss ++ [stD ps ms l b p])), some (.d (.int k)), some (.d (.int m)), none, none, none, none, none] _ _
  ((conv => whnf); try dsimp only [List.set_cons_zero, List.set_cons_succ]); refine ⟨rfl, ?_⟩
  ((conv => whnf); try dsimp only [List.set_cons_zero, List.set_cons_succ]); refine ⟨rfl, ?_⟩
  ((conv => whnf); try dsimp only [List.set_cons_zero, List.set_cons_succ]); refine ⟨a, mo, cs, ss, ps, ms, l, b, p, m, rfl, o, h, ?_⟩
  ((conv => whnf); try dsimp only [List.set_cons_zero, List.set_cons_succ]); refine Br.of (fun z => absurd (show k < 0 from z) (by omega)) (fun _ => ?_)
  ((conv => whnf); try dsimp only [List.set_cons_zero, List.set_cons_succ]); refine Br.of (fun z => absurd z h0) (fun _ => ?_)
  ((conv => whnf); try dsimp only [List.set_cons_zero, List.set_cons_succ]); refine ⟨rfl, _, at_last _ _, ?_⟩
  ((conv => whnf); try dsimp only [List.set_cons_zero, List.set_cons_succ]); refine ⟨rfl, ?_⟩
  ((conv => whnf); try dsimp only [List.set_cons_zero, List.set_cons_succ]); refine ⟨rfl, ?_⟩
  ((conv => whnf); try dsimp only [List.set_cons_zero, List.set_cons_succ]); refine ⟨rfl, ?_⟩
  ((conv => whnf); try dsimp only [List.set_cons_zero, List.set_cons_succ]); refine ⟨few3 (by show 3 ≤ 1000; decide), ?_⟩
  ((conv => whnf); try dsimp only [List.set_cons_zero, List.set_cons_succ]); refine ⟨few3 (by show 4 ≤ 1000; decide), ?_⟩
  ((conv => whnf); try dsimp only [List.set_cons_zero, List.set_cons_succ]); refine ⟨a, mo, cs, _, _, _, rfl, by omega, by simp; omega, ?_⟩
  ((conv => whnf); try dsimp only [List.set_cons_zero, List.set_cons_succ]); exact hq
theorem ok_Ticket_enlarge {Γ : Wd} (T : Tx Γ) : MtE Γ 6 1 "enlarge" [true, false, false] c_Ticket_enlarge :=
  mtE_of T.d_Ticket_enlarge sc_Ticket_enlarge (by intro _ _ _ _ _ _ _ _ us hl; exact match us, hl with | [_, _, _], _ => rfl) T.bn rfl (tr_Ticket_enlarge T) law_Ticket_enlarge
theorem okm_Ticket_enlarge {Γ : Wd} (T : Tx Γ) : MtX Γ 6 1 "enlarge" st_Ticket_enlarge ["self", "amount", "moment"] [true, false, false] c_Ticket_enlarge :=
  mtX_of T.d_Ticket_enlarge sc_Ticket_enlarge T.bn rfl (tr_Ticket_enlarge T) law_Ticket_enlarge


/-- the greatest moment from which an amount is done at a limit, none ahead of the begin -/
def WaitR (ps : List Int) (ms : List (Int × Int)) (b l hi : Int) (r : D) : Prop := (hi < b ∧ r = .non) ∨ (b ≤ hi ∧ ∃ s, LatW ps ms hi l s ∧ r = if s < b then .non else .int s)
def c_Ticket_can_wait : Con := fun svs Q _ => ∃ (a mo : D) (cs ss : List D) (ps : List Int) (ms : List (Int × Int)) (l b : Int) (p : Bool) (m : Int), svs = [tkS a mo cs (ss ++ [stD ps ms l b p]), .d (.int m)] ∧ CalOk ps ms ∧ 0 ≤ l ∧ ∀ r, WaitR ps ms b l m r → Q (.d r) svs
/-! Ticket.can_wait: self 0, limit 1, calendar 2, left 3, begin 4, paused 5, start 6 -/
theorem sc_Ticket_can_wait : FnScope N_Ticket_can_wait ["self", "limit"] (defScope st_Ticket_can_wait) := ⟨rfl, rfl, rfl, by decide +kernel, rfl, by decide +kernel, by decide +kernel⟩
abbrev w_Ticket_can_wait_1 : WS := wRetF (wVar 6)
abbrev w_Ticket_can_wait_2 : WS := wSeq (wIf (wTst (w2 kLt (wVar 6) (wVar 4))) (wRetF (wC .non)) (wNext)) w_Ticket_can_wait_1
abbrev w_Ticket_can_wait_3 : WS := wSeq (wAsg 6 (wCall [false, false, false] c_latest (wCons (wVar 2) (wCons (wVar 1) (wCons (wVar 3) (wNil)))))) w_Ticket_can_wait_2
abbrev w_Ticket_can_wait_4 : WS := wSeq (wIf (wTst (w2 kLt (wVar 1) (wVar 4))) (wRetF (wC .non)) (wNext)) w_Ticket_can_wait_3
def w_Ticket_can_wait : WS :=
  wSeq (wUnp (wFlLast 1 0 3) (gTp 4 (gsCons (gNm 2) (gsCons (gNm 3) (gsCons (gNm 4) (gsCons (gNm 5) (gsNil))))))) w_Ticket_can_wait_4
theorem tr_Ticket_can_wait {Γ : Wd} (T : Tx Γ) (X : Cx) (C : Ctx Γ X N_Ticket_can_wait (defScope st_Ticket_can_wait) (fun _ => true) 3) (P : Own X) (dc : DefCx X) : SSs Γ [0] X (defBody st_Ticket_can_wait) w_Ticket_can_wait :=
  sss_cons (ss_unp (is := [2, 3, 4, 5]) (se_fllast C 0 T.K_1 (by rw [T.F_1]; rfl) (fun _ _ => rfl)) (sg_tup C (sgs_cons (sg_name C 2) (sgs_cons (sg_name C 3) (sgs_cons (sg_name C 4) (sgs_cons (sg_name C 5) (sgs_nil)))))))
  (sss_cons (ss_if (st_lt  (se_var C 1) (se_var C 4)) (sss_one (ss_retF (se_non))) (sss_nil))
  (sss_cons (ss_asg C 6 (se_call C (FnE.mono (ok_latest T) (by decide)) (sa_cons (se_var C 2) (sa_cons (se_var C 1) (sa_cons (se_var C 3) (sa_nil))))))
  (sss_cons (ss_if (st_lt  (se_var C 6) (se_var C 4)) (sss_one (ss_retF (se_non))) (sss_nil))
  (sss_one (ss_retF (se_var C 6))))))

theorem law_Ticket_can_wait : LawOf N_Ticket_can_wait [true, false] c_Ticket_can_wait w_Ticket_can_wait := by
  rintro svs Q E - ⟨a, mo, cs, ss, ps, ms, l, b, p, m, rfl, o, l0, hq⟩
  ((conv => whnf); try dsimp only [List.set_cons_zero, List.set_cons_succ]); refine ⟨rfl, _, at_last _ _, ?_⟩
  ((conv => whnf); try dsimp only [List.set_cons_zero, List.set_cons_succ]); refine ⟨rfl, ?_⟩
  ((conv => whnf); try dsimp only [List.set_cons_zero, List.set_cons_succ]); refine Br.of (fun z => ?_) (fun z => ?_)
  · ((conv => whnf); try dsimp only [List.set_cons_zero, List.set_cons_succ]); exact hq _ (.inl ⟨z, rfl⟩)
  · have z' : ¬ m < b := z
    ((conv => whnf); try dsimp only [List.set_cons_zero, List.set_cons_succ]); refine ⟨ps, ms, m, l, rfl, o.wk, o.pos, o.le, o.mks, l0, fun s hs => ?_⟩
    ((conv => whnf); try dsimp only [List.set_cons_zero, List.set_cons_succ]); refine Br.of (fun y => ?_) (fun y => ?_)
    · have y' : s < b := y
      have g := hq _ (.inr ⟨by omega, s, hs, rfl⟩)
      rw [if_pos y'] at g
      ((conv => whnf); try dsimp only [List.set_cons_zero, List.set_cons_succ]); exact g
    · have y' : ¬ s < b := y
      have g := hq _ (.inr ⟨by omega, s, hs, rfl⟩)
      rw [if_neg y'] at g
      ((conv => whnf); try dsimp only [List.set_cons_zero, List.set_cons_succ]); exact g
theorem ok_Ticket_can_wait {Γ : Wd} (T : Tx Γ) : MtE Γ 4 1 "can_wait" [true, false] c_Ticket_can_wait :=
  mtE_of T.d_Ticket_can_wait sc_Ticket_can_wait (by intro _ _ _ _ _ _ _ _ us hl; exact match us, hl with | [_, _], _ => rfl) T.bn rfl (tr_Ticket_can_wait T) law_Ticket_can_wait


def c_law_gap : Con := fun svs Q _ => ∃ (n : Nat) (p : SV) (m : Int), svs = [p, .d (.int m)] ∧ Pool n p ∧ n < 10 ^ 7 ∧ 0 < m ∧ m ≤ 1000 ∧ ∀ z p', 0 ≤ z → z < 10 ^ 30 → Pool (n + 5) p' → Q (.d (.int z)) [p', .d (.int m)]
/-! _law_gap: well 0, span 1 -/
theorem sc_law_gap : FnScope N_law_gap ["well", "span"] (defScope st_law_gap) := ⟨rfl, rfl, rfl, by decide +kernel, rfl, by decide +kernel, by decide +kernel⟩
abbrev w_law_gap_1 : WS := wRetF (wB kAbs (wCons (wCall [true] c_law_number (wCons (wRef 0) (wNil))) (wNil)))
def w_law_gap : WS :=
  wSeq (wIf (wTst (w2 kGt (wCall [true, false] c_law_take (wCons (wRef 0) (wCons (wC (.int 4)) (wNil)))) (wC (.int 0)))) (wRetF (wCall [true, false] c_law_take (wCons (wRef 0) (wCons (wVar 1) (wNil))))) (wNext)) w_law_gap_1
theorem tr_law_gap {Γ : Wd} (T : Tx Γ) (X : Cx) (C : Ctx Γ X N_law_gap (defScope st_law_gap) (fun _ => true) 2) (P : Own X) (dc : DefCx X) : SSs Γ [0] X (defBody st_law_gap) w_law_gap :=
  sss_cons (ss_if (st_gt  (se_call C (FnE.mono (ok_law_take T) (by decide)) (sa_cons (se_ref C 0) (sa_cons (se_int) (sa_nil)))) (se_int)) (sss_one (ss_retF (se_call C (FnE.mono (ok_law_take T) (by decide)) (sa_cons (se_ref C 0) (sa_cons (se_var C 1) (sa_nil)))))) (sss_nil))
  (sss_one (ss_retF (se_abs C (sa_cons (se_call C (FnE.mono (ok_law_number T) (by decide)) (sa_cons (se_ref C 0) (sa_nil))) (sa_nil)))))

theorem law_law_gap : LawOf N_law_gap [true, false] c_law_gap w_law_gap := by
  rintro svs Q E - ⟨n, p, m, rfl, hp, hn, m0, m1, hq⟩
  ((conv => whnf); try dsimp only [List.set_cons_zero, List.set_cons_succ]); refine ⟨rfl, ?_⟩
  ((conv => whnf); try dsimp only [List.set_cons_zero, List.set_cons_succ]); refine ⟨n, _, _, rfl, hp, by omega, (by show (0 : Int) < _; decide), by decide, fun w p1 w0 w1 hp1 => ?_⟩
  ((conv => whnf); try dsimp only [List.set_cons_zero, List.set_cons_succ]); refine Br.of (fun h => ?_) (fun h => ?_)
  · ((conv => whnf); try dsimp only [List.set_cons_zero, List.set_cons_succ]); refine ⟨rfl, ?_⟩
    ((conv => whnf); try dsimp only [List.set_cons_zero, List.set_cons_succ]); refine ⟨n + 1, _, _, rfl, hp1, by omega, m0, by omega, fun z p2 z0 z1 hp2 => ?_⟩
    have z1' : z < m := z1
    ((conv => whnf); try dsimp only [List.set_cons_zero, List.set_cons_succ]); exact hq z _ z0 (by omega) (hp2.mono (by omega))
  · ((conv => whnf); try dsimp only [List.set_cons_zero, List.set_cons_succ]); refine ⟨rfl, ?_⟩
    ((conv => whnf); try dsimp only [List.set_cons_zero, List.set_cons_succ]); refine ⟨n + 1, _, rfl, hp1, by omega, fun z p2 z0 z1 hp2 => ?_⟩
    ((conv => whnf); try dsimp only [List.set_cons_zero, List.set_cons_succ]); exact hq _ _ (by split <;> omega) (by split <;> omega) (hp2.mono (by omega))
theorem ok_law_gap {Γ : Wd} (T : Tx Γ) : FnE Γ 3 "_law_gap" [true, false] c_law_gap :=
  fnE_of T.d_law_gap sc_law_gap (by intro _ _ _ _ _ _ _ _ us hl; exact match us, hl with | [_, _], _ => rfl) T.bn rfl (tr_law_gap T) law_law_gap

def c_law_left : Con := fun svs Q _ => ∃ (sv : SV) (ps : List Int) (ms : List (Int × Int)) (l b : Int) (p : Bool) (m : Int), svs = [sv, .d (.int m)] ∧ (sv = .lst [.lst (ps.map D.int), .lst (ms.map mkD), .int l, .int b, .bl p] ∨ sv = .d (.lst [.lst (ps.map D.int), .lst (ms.map mkD), .int l, .int b, .bl p])) ∧ CalOk ps ms ∧ b ≤ m ∧ Q (.d (.int (lft ps ms l b p m))) svs
/-! _law_left: state 0, at 1 -/
theorem sc_law_left : FnScope N_law_left ["state", "at"] (defScope st_law_left) := ⟨rfl, rfl, rfl, by decide +kernel, rfl, by decide +kernel, by decide +kernel⟩
abbrev w_law_left_1 : WS := wRetF (wB kMax (wCons (wC (.int 0)) (wCons (w2 kSub (w2 kIdx (wVar 0) (wC (.int 2))) (wCall [false, false, false, false] c_law_total (wCons (w2 kIdx (wVar 0) (wC (.int 0))) (wCons (w2 kIdx (wVar 0) (wC (.int 1))) (wCons (w2 kIdx (wVar 0) (wC (.int 3))) (wCons (wVar 1) (wNil))))))) (wNil))))
def w_law_left : WS :=
  wSeq (wIf (wTst (w2 kIdx (wVar 0) (wC (.int 4)))) (wRetF (w2 kIdx (wVar 0) (wC (.int 2)))) (wNext)) w_law_left_1
theorem tr_law_left {Γ : Wd} (T : Tx Γ) (X : Cx) (C : Ctx Γ X N_law_left (defScope st_law_left) (fun _ => true) 1) (P : Own X) (dc : DefCx X) : SSs Γ [0] X (defBody st_law_left) w_law_left :=
  sss_cons (ss_if (st_val (se_idx C (fun _ _ => rfl) (se_var C 0) (se_int))) (sss_one (ss_retF (se_idx C (fun _ _ => rfl) (se_var C 0) (se_int)))) (sss_nil))
  (sss_one (ss_retF (se_max C (sa_cons (se_int) (sa_cons (se_sub (se_idx C (fun _ _ => rfl) (se_var C 0) (se_int)) (se_call C (FnE.mono (ok_law_total T) (by decide)) (sa_cons (se_idx C (fun _ _ => rfl) (se_var C 0) (se_int)) (sa_cons (se_idx C (fun _ _ => rfl) (se_var C 0) (se_int)) (sa_cons (se_idx C (fun _ _ => rfl) (se_var C 0) (se_int)) (sa_cons (se_var C 1) (sa_nil))))))) (sa_nil))))))

theorem law_law_left : LawOf N_law_left [true, false] c_law_left w_law_left := by
  rintro svs Q E - ⟨sv, ps, ms, l, b, p, m, rfl, h, o, hb, hq⟩
  rcases h with rfl | rfl <;> cases p
  all_goals
    ((conv => whnf); try dsimp only [List.set_cons_zero, List.set_cons_succ]); refine ⟨_, rfl, ?_⟩
    first
    | (((conv => whnf); try dsimp only [List.set_cons_zero, List.set_cons_succ]); refine Br.tt ?_; ((conv => whnf); try dsimp only [List.set_cons_zero, List.set_cons_succ]); refine ⟨_, rfl, ?_⟩; ((conv => whnf); try dsimp only [List.set_cons_zero, List.set_cons_succ]); exact hq)
    | (((conv => whnf); try dsimp only [List.set_cons_zero, List.set_cons_succ]); refine Br.ff ?_
       ((conv => whnf); try dsimp only [List.set_cons_zero, List.set_cons_succ]); refine ⟨_, rfl, ?_⟩
       ((conv => whnf); try dsimp only [List.set_cons_zero, List.set_cons_succ]); refine ⟨_, rfl, ?_⟩
       ((conv => whnf); try dsimp only [List.set_cons_zero, List.set_cons_succ]); refine ⟨_, rfl, ?_⟩
       ((conv => whnf); try dsimp only [List.set_cons_zero, List.set_cons_succ]); refine ⟨_, rfl, ?_⟩
       ((conv => whnf); try dsimp only [List.set_cons_zero, List.set_cons_succ]); refine ⟨ps, ms, b, m, rfl, o.wk, o.pos, o.le, o.mks, hb, ?_⟩
       ((conv => whnf); try dsimp only [List.set_cons_zero, List.set_cons_succ]); exact hq)
theorem ok_law_left {Γ : Wd} (T : Tx Γ) : FnE Γ 2 "_law_left" [true, false] c_law_left :=
  fnE_of T.d_law_left sc_law_left (by intro _ _ _ _ _ _ _ _ us hl; exact match us, hl with | [_, _], _ => rfl) T.bn rfl (tr_law_left T) law_law_left

def c_law_told : Con := fun svs Q _ => ∃ (a mo : D) (cs ss : List D) (ps : List Int) (ms : List (Int × Int)) (l b : Int) (p : Bool), svs = [tkS a mo cs (ss ++ [stD ps ms l b p])] ∧ Q (.lst [.int b, .int l, .bl p]) svs
/-! _law_told: ticket 0 -/
theorem sc_law_told : FnScope N_law_told ["ticket"] (defScope st_law_told) := ⟨rfl, rfl, rfl, by decide +kernel, rfl, by decide +kernel, by decide +kernel⟩
def w_law_told : WS :=
  wRet (wLst (wCons (wProp 1 [true] c_Ticket_moment (wVar 0)) (wCons (wProp 1 [true] c_Ticket_left (wVar 0)) (wCons (wProp 1 [true] c_Ticket_is_paused (wVar 0)) (wNil)))))
theorem tr_law_told {Γ : Wd} (T : Tx Γ) (X : Cx) (C : Ctx Γ X N_law_told (defScope st_law_told) (fun _ => true) 2) (P : Own X) (dc : DefCx X) : SSs Γ [0] X (defBody st_law_told) w_law_told :=
  sss_one (ss_ret (se_lst (sa_cons (se_prop C T.K_1 (PrE.mono (ok_Ticket_moment T) (by decide)) (se_var C 0)) (sa_cons (se_prop C T.K_1 (PrE.mono (ok_Ticket_left T) (by decide)) (se_var C 0)) (sa_cons (se_prop C T.K_1 (PrE.mono (ok_Ticket_is_paused T) (by decide)) (se_var C 0)) (sa_nil))))))

theorem law_law_told : LawOf N_law_told [true] c_law_told w_law_told := by
  rintro svs Q E - ⟨a, mo, cs, ss, ps, ms, l, b, p, rfl, hq⟩
  ((conv => whnf); try dsimp only [List.set_cons_zero, List.set_cons_succ]); refine ⟨rfl, ?_⟩
  ((conv => whnf); try dsimp only [List.set_cons_zero, List.set_cons_succ]); refine ⟨a, mo, cs, ss, ps, ms, l, b, p, rfl, ?_⟩
  ((conv => whnf); try dsimp only [List.set_cons_zero, List.set_cons_succ]); refine ⟨rfl, ?_⟩
  ((conv => whnf); try dsimp only [List.set_cons_zero, List.set_cons_succ]); refine ⟨a, mo, cs, ss, ps, ms, l, b, p, rfl, ?_⟩
  ((conv => whnf); try dsimp only [List.set_cons_zero, List.set_cons_succ]); refine ⟨rfl, ?_⟩
  ((conv => whnf); try dsimp only [List.set_cons_zero, List.set_cons_succ]); refine ⟨a, mo, cs, ss, ps, ms, l, b, p, rfl, ?_⟩
  ((conv => whnf); try dsimp only [List.set_cons_zero, List.set_cons_succ]); refine ⟨few3 (by show 3 ≤ 1000; decide), ?_⟩
  ((conv => whnf); try dsimp only [List.set_cons_zero, List.set_cons_succ]); exact hq
theorem ok_law_told {Γ : Wd} (T : Tx Γ) : FnE Γ 3 "_law_told" [true] c_law_told :=
  fnE_of T.d_law_told sc_law_told (by intro _ _ _ _ _ _ _ _ us hl; exact match us, hl with | [_], _ => rfl) T.bn rfl (tr_law_told T) law_law_told


theorem adjS_ge {ps : List Int} (wk : Week ps) (hl : 0 < ps.length) {b e : Int} : ∀ {rs : List (Int × Int)}, (∀ m ∈ rs, 0 ≤ m.2 ∧ m.2 ≤ 3) → -(3 * (rs.length : Int)) ≤ adjS ps rs b e
  | [], _ => by show _ ≤ (0 : Int); simp
  | r :: rs, h => by
    have ih := adjS_ge wk hl (b := b) (e := e) (rs := rs) fun m hm => h m (by simp [hm])
    have h1 := h r (by simp)
    have h2 := (paceF_bd (a := r.1) wk hl (ms := []) (fun m hm => nomatch hm)).2
    have un : adjS ps (r :: rs) b e = (if b ≤ r.1 ∧ r.1 < e then r.2 - paceF ps [] r.1 else 0) + adjS ps rs b e := rfl
    rw [un, List.length_cons]
    split <;> omega
theorem span_weeks {ps : List Int} {ms : List (Int × Int)} (wk : Week ps) (hl : 0 < ps.length) (mk : Marks ms) (b : Int) {k : Int} (k0 : 0 ≤ k) : k - 3 * ms.length ≤ spanSum ps ms b (b + k * ps.length) := by
  have nn : 0 ≤ k * (ps.length : Int) := Int.mul_nonneg k0 (by omega)
  have w := work_steps hl mk.up b (k * (ps.length : Int)).toNat
  rw [show (((k * (ps.length : Int)).toNat : Nat) : Int) = k * ps.length by omega, weekSum_weeks hl, weekSum_self] at w
  have a := adjS_ge wk hl (b := b) (e := b + k * ps.length) mk.bd
  have s := sum_pos wk
  have ks : k ≤ k * ps.sum := by
    have := Int.mul_le_mul_of_nonneg_left (show (1 : Int) ≤ ps.sum by omega) k0
    omega
  show _ ≤ stepSum ps ms b (b + k * (ps.length : Int) - b).toNat
  rw [show (b + k * (ps.length : Int) - b) = k * ps.length by omega]
  omega
theorem due_bd {ps : List Int} {ms : List (Int × Int)} (wk : Week ps) (hl : 0 < ps.length) (h12 : ps.length ≤ 12) (mk : Marks ms) (h3 : ms.length ≤ 100) {b l e : Int} (l0 : 0 ≤ l) (d : DueW ps ms b l e) : e ≤ b + 12 * l + 4000 := by
  refine Int.not_lt.mp fun lt => ?_
  have k := span_weeks wk hl mk b (k := l + 3 * ms.length) (by omega)
  have up : (l + 3 * (ms.length : Int)) * ps.length ≤ (l + 3 * (ms.length : Int)) * 12 := Int.mul_le_mul_of_nonneg_left (by omega) (by omega)
  have nn : 0 ≤ (l + 3 * (ms.length : Int)) * (ps.length : Int) := Int.mul_nonneg (by omega) (by omega)
  generalize (l + 3 * (ms.length : Int)) * (ps.length : Int) = z at k up nn
  have s := d.soon (by omega)
  have a := spanSum_add ps ms (show b ≤ b + z by omega) (show b + z ≤ e - 1 by omega)
  have p := spanSum_pos wk hl mk (b + z) (e - 1)
  omega

theorem rpr1 {a : Int} (ha : -(10 ^ 40) < a ∧ a < 10 ^ 40) : Rpr (.int a) := rpr_of (small_of (by omega) (by omega)) (by show 0 ≤ 50; decide) (by show 1921 ≤ 16777216; decide)
theorem rpr2 {a b : Int} (ha : -(10 ^ 40) < a ∧ a < 10 ^ 40) (hb : -(10 ^ 40) < b ∧ b < 10 ^ 40) : Rpr (.lst [.int a, .int b]) := rpr_of ⟨small_of (by omega) (by omega), small_of (by omega) (by omega), trivial⟩ (by show 1 ≤ 50; decide) (by show 1921 + 2 + (1921 + 2 + 0) + 8 ≤ 16777216; decide)
theorem rpr_non : Rpr .non := ⟨by decide +kernel, by decide +kernel, by decide +kernel, by decide +kernel⟩
theorem rpr_state {b l : Int} (p : Bool) (hb : -(10 ^ 40) < b ∧ b < 10 ^ 40) (hl : -(10 ^ 40) < l ∧ l < 10 ^ 40) : Rpr (.lst [.int b, .int l, .bl p]) :=
  rpr_of ⟨small_of (by omega) (by omega), small_of (by omega) (by omega), trivial, trivial⟩ (by show 1 ≤ 50; decide) (by show 1921 + 2 + (1921 + 2 + (1921 + 2 + 0)) + 8 ≤ 16777216; decide)

/-! calendars drawn as joined and moved: a row tells how -/
structure RowC where
  week : List Int
  parts : List (List (Int × Int))
  s : Int
  sh : Int
def opS (s : Int) : Int → Int → Int := if s = 0 then mx else mn
def fold1 (s : Int) : List Int → Int
  | [] => 0
  | x :: xs => xs.foldl (opS s) x
/-- the speed at a moment, of all parts -/
def RowC.g (r : RowC) (a : Int) : Int := fold1 r.s (r.parts.map fun ms => paceF r.week ms a)
def RowC.fnd (r : RowC) : List (Int × Int) := (ups (r.parts.flatMap fun ms => ms.map Prod.fst)).map fun a => (a, r.g a)
def RowC.P (r : RowC) : List Int := movP r.week r.sh
def RowC.M (r : RowC) : List (Int × Int) := movM r.fnd r.sh
/-- the changes as joined, part by part -/
def RowC.jn (r : RowC) : List (Int × Int) := match r.parts with
  | [] => []
  | m :: ps => ps.foldl (fun M ms => joinM (opS r.s) r.week M r.week ms) m
def RowC.B (r : RowC) : List (Int × Int) := movM r.jn r.sh
def RowC.l (r : RowC) : List D := [.lst (r.P.map D.int), .lst (r.M.map mkD), .lst (r.week.map D.int), .lst (r.parts.map fun ms => D.lst (ms.map mkD)), .int r.s, .int r.sh]
def RowC.d (r : RowC) : D := .lst r.l
structure RowC.Ok (r : RowC) : Prop where
  wk : Week r.week
  pos : 0 < r.week.length
  le : r.week.length ≤ 12
  ne : r.parts ≠ []
  few : r.parts.length ≤ 4
  mks : ∀ ms ∈ r.parts, Marks ms
  len : ∀ ms ∈ r.parts, ms.length ≤ 3
  bd : ∀ ms ∈ r.parts, ∀ m ∈ ms, -(10 ^ 31) < m.1 ∧ m.1 < 10 ^ 31
  sg : r.s = 0 ∨ r.s = 1
  shb : -(10 ^ 31) < r.sh ∧ r.sh < 10 ^ 31
theorem opS_bd (s : Int) : ∀ i j : Int, 0 ≤ i ∧ i ≤ 3 → 0 ≤ j ∧ j ≤ 3 → 0 ≤ opS s i j ∧ opS s i j ≤ 3 := by
  unfold opS
  split
  · exact mx_bd
  · exact mn_bd
theorem opS_self (s i : Int) : opS s i i = i := by unfold opS; split <;> simp only [mx, mn] <;> split <;> rfl
theorem fold_bd (s : Int) : ∀ (xs : List Int) (x : Int), 0 ≤ x ∧ x ≤ 3 → (∀ y ∈ xs, 0 ≤ y ∧ y ≤ 3) → 0 ≤ xs.foldl (opS s) x ∧ xs.foldl (opS s) x ≤ 3
  | [], x, h, _ => h
  | y :: ys, x, h, k => fold_bd s ys _ (opS_bd s x y h (k y (by simp))) fun z hz => k z (by simp [hz])
theorem RowC.Ok.gbd {r : RowC} (o : r.Ok) (a : Int) : 0 ≤ r.g a ∧ r.g a ≤ 3 := by
  have k : ∀ ms ∈ r.parts, 0 ≤ paceF r.week ms a ∧ paceF r.week ms a ≤ 3 := fun ms h => paceF_bd o.wk o.pos (o.mks ms h).bd
  have ne := o.ne
  unfold RowC.g
  cases e : r.parts with
  | nil => exact absurd e ne
  | cons m ps =>
    rw [e] at k
    exact fold_bd r.s _ _ (k m (by simp)) fun y hy => by
      obtain ⟨ms, h, rfl⟩ := List.mem_map.mp hy
      exact k ms (by simp [h])
theorem RowC.Ok.mark {r : RowC} (o : r.Ok) : Marks r.fnd := by
  refine ⟨?_, fun m hm => ?_⟩
  · unfold RowC.fnd
    rw [List.pairwise_map]
    exact up_ups _
  · obtain ⟨a, _, rfl⟩ := List.mem_map.mp hm
    exact o.gbd a
theorem flat_len : ∀ {ps : List (List (Int × Int))}, (∀ ms ∈ ps, ms.length ≤ 3) → (ps.flatMap fun ms => ms.map Prod.fst).length ≤ 3 * ps.length
  | [], _ => by simp
  | m :: ps, h => by
    have ih := flat_len (ps := ps) fun ms hm => h ms (by simp [hm])
    have := h m (by simp)
    simp only [List.flatMap_cons, List.length_append, List.length_map, List.length_cons]
    omega
theorem RowC.Ok.flen {r : RowC} (o : r.Ok) : r.fnd.length ≤ 12 := by
  unfold RowC.fnd
  rw [List.length_map]
  have := len_ups (r.parts.flatMap fun ms => ms.map Prod.fst)
  have := flat_len o.len
  have := o.few
  omega
theorem RowC.Ok.fbd {r : RowC} (o : r.Ok) : ∀ m ∈ r.fnd, -(10 ^ 31) < m.1 ∧ m.1 < 10 ^ 31 := fun m hm => by
  obtain ⟨a, ha, rfl⟩ := List.mem_map.mp hm
  obtain ⟨ms, h1, h2⟩ := List.mem_flatMap.mp (mem_ups.mp ha)
  obtain ⟨q, h3, rfl⟩ := List.mem_map.mp h2
  exact o.bd ms h1 q h3
/-- away from all changes a part is the week -/
theorem paceF_away {ps : List Int} {a : Int} : ∀ {ms : List (Int × Int)}, a ∉ ms.map Prod.fst → paceF ps ms a = paceF ps [] a
  | [], _ => rfl
  | m :: ms, h => by
    have h1 : ¬ m.1 = a := fun e => h (by simp [e])
    have h2 : a ∉ ms.map Prod.fst := fun e => h (by simp only [List.map_cons, List.mem_cons]; exact .inr e)
    show (if m.1 = a then m.2 else paceF ps ms a) = _
    rw [if_neg h1, paceF_away h2]
theorem fold_const (s x : Int) : ∀ xs : List Int, (∀ y ∈ xs, y = x) → xs.foldl (opS s) x = x
  | [], _ => rfl
  | y :: ys, h => by
    rw [List.foldl_cons, h y (by simp), opS_self]
    exact fold_const s x ys fun z hz => h z (by simp [hz])
theorem RowC.Ok.out {r : RowC} (o : r.Ok) {a : Int} (h : a ∉ r.parts.flatMap fun ms => ms.map Prod.fst) : r.g a = paceF r.week [] a := by
  have k : ∀ ms ∈ r.parts, paceF r.week ms a = paceF r.week [] a := fun ms hm => paceF_away fun q => h (List.mem_flatMap.mpr ⟨ms, hm, q⟩)
  have ne := o.ne
  unfold RowC.g
  cases e : r.parts with
  | nil => exact absurd e ne
  | cons m ps =>
    rw [e] at k
    show (ps.map fun ms => paceF r.week ms a).foldl (opS r.s) (paceF r.week m a) = _
    rw [k m (by simp)]
    refine fold_const _ _ _ fun y hy => ?_
    obtain ⟨ms, hm, rfl⟩ := List.mem_map.mp hy
    exact k ms (by simp [hm])
theorem paceF_map {ps : List Int} {g : Int → Int} {a : Int} : ∀ xs : List Int, paceF ps (xs.map fun x => (x, g x)) a = if a ∈ xs then g a else paceF ps [] a
  | [] => rfl
  | x :: xs => by
    show (if x = a then g x else paceF ps (xs.map fun x => (x, g x)) a) = _
    rw [paceF_map xs]
    by_cases e : x = a
    · subst e; rw [if_pos rfl, if_pos (by simp)]
    · rw [if_neg e]
      by_cases m : a ∈ xs
      · rw [if_pos m, if_pos (by simp [m])]
      · rw [if_neg m, if_neg (by simp only [List.mem_cons]; exact fun q => q.elim (fun w => e w.symm) m)]
theorem RowC.Ok.pf {r : RowC} (o : r.Ok) (a : Int) : paceF r.week r.fnd a = r.g a := by
  unfold RowC.fnd
  rw [paceF_map]
  split
  · rfl
  · rename_i h
    exact (o.out fun q => h (mem_ups.mpr q)).symm
theorem joinP_self (s : Int) {W : List Int} (hl : 0 < W.length) : joinP (opS s) W W = W :=
  week_ext (joinP_length rfl) fun a => by rw [paceF_joinP hl rfl, opS_self]
theorem foldJ {s : Int} {W : List Int} (wk : Week W) (hl : 0 < W.length) : ∀ (ps : List (List (Int × Int))) (M : List (Int × Int)) (c : Nat), Marks M → M.length ≤ c → (∀ ms ∈ ps, Marks ms) → (∀ ms ∈ ps, ms.length ≤ 3) →
    Marks (ps.foldl (fun M ms => joinM (opS s) W M W ms) M) ∧ (ps.foldl (fun M ms => joinM (opS s) W M W ms) M).length ≤ c + 3 * ps.length ∧ ∀ a, paceF W (ps.foldl (fun M ms => joinM (opS s) W M W ms) M) a = (ps.map fun ms => paceF W ms a).foldl (opS s) (paceF W M a)
  | [], M, c, mk, lc, _, _ => ⟨mk, by simpa using lc, fun _ => rfl⟩
  | m :: ps, M, c, mk, lc, hm, hl3 => by
    have jl := joinM_length (opS s) W M W m
    have l3 := hl3 m (by simp)
    obtain ⟨h1, h2, h3⟩ := foldJ wk hl ps (joinM (opS s) W M W m) (c + 3) (marks_join (opS_bd s) wk wk hl hl mk (hm m (by simp))) (by omega) (fun ms h => hm ms (by simp [h])) (fun ms h => hl3 ms (by simp [h]))
    refine ⟨h1, by rw [List.length_cons]; simp only [List.foldl_cons]; omega, fun a => ?_⟩
    rw [List.foldl_cons, h3 a, List.map_cons, List.foldl_cons]
    congr 1
    have := paceF_join (op := opS s) hl (rfl : W.length = W.length) M m a
    rw [joinP_self s hl] at this
    exact this
theorem RowC.Ok.jn {r : RowC} (o : r.Ok) : Marks r.jn ∧ r.jn.length ≤ 12 ∧ ∀ a, paceF r.week r.jn a = r.g a := by
  have mks := o.mks
  have len := o.len
  have few := o.few
  have ne := o.ne
  unfold RowC.jn RowC.g
  cases e : r.parts with
  | nil => exact absurd e ne
  | cons m ps =>
    rw [e] at mks len few
    have l3 := len m (by simp)
    obtain ⟨h1, h2, h3⟩ := foldJ (s := r.s) o.wk o.pos ps m 3 (mks m (by simp)) l3 (fun ms h => mks ms (by simp [h])) (fun ms h => len ms (by simp [h]))
    simp only [List.length_cons] at few
    exact ⟨h1, Nat.le_trans h2 (by omega), h3⟩

theorem ext_mx (x : Int) (xs : List Int) : xs.foldl (opS 0) x ∈ x :: xs ∧ ∀ y ∈ x :: xs, y ≤ xs.foldl (opS 0) x := by
  have e : opS 0 = mx := if_pos rfl
  rw [e]
  induction xs generalizing x with
  | nil => simp
  | cons y ys ih =>
    obtain ⟨h1, h2⟩ := ih (mx x y)
    rw [List.foldl_cons]
    have hm : mx x y = x ∧ y ≤ x ∨ mx x y = y ∧ x ≤ y := by unfold mx; split <;> omega
    have h3 := h2 (mx x y) (by simp)
    refine ⟨?_, fun z hz => ?_⟩
    · rcases List.mem_cons.mp h1 with q | q
      · rcases hm with ⟨w, _⟩ | ⟨w, _⟩ <;> rw [q, w] <;> simp
      · simp [q]
    · rcases List.mem_cons.mp hz with rfl | hz
      · omega
      · rcases List.mem_cons.mp hz with rfl | hz
        · omega
        · exact h2 z (by simp [hz])
theorem ext_mn {s : Int} (h : s ≠ 0) (x : Int) (xs : List Int) : xs.foldl (opS s) x ∈ x :: xs ∧ ∀ y ∈ x :: xs, xs.foldl (opS s) x ≤ y := by
  have e : opS s = mn := if_neg h
  rw [e]
  induction xs generalizing x with
  | nil => simp
  | cons y ys ih =>
    obtain ⟨h1, h2⟩ := ih (mn x y)
    rw [List.foldl_cons]
    have hm : mn x y = x ∧ x ≤ y ∨ mn x y = y ∧ y ≤ x := by unfold mn; split <;> omega
    have h3 := h2 (mn x y) (by simp)
    refine ⟨?_, fun z hz => ?_⟩
    · rcases List.mem_cons.mp h1 with q | q
      · rcases hm with ⟨w, _⟩ | ⟨w, _⟩ <;> rw [q, w] <;> simp
      · simp [q]
    · rcases List.mem_cons.mp hz with rfl | hz
      · omega
      · rcases List.mem_cons.mp hz with rfl | hz
        · omega
        · exact h2 z (by simp [hz])
def c_law_lists : Con := fun svs Q _ => ∃ (n : Nat) (w : SV), svs = [w] ∧ Pool n w ∧ n ≤ 900000 ∧ ∀ w' r, Pool (n + 700) w' → RowC.Ok r → Q (.d r.d) [w']
/-! _law_lists: well 0, size 1, sign 2, shift 3, found 4, week 5, parts 6, spots 7, marks 8, at 9, tries 10, turn 11, pace 12 -/
theorem sc_law_lists : FnScope N_law_lists ["well"] (defScope st_law_lists) := ⟨rfl, rfl, rfl, by decide +kernel, rfl, by decide +kernel, by decide +kernel⟩
abbrev w_law_lists_1 : WS := wAsg 7 (w2 kAdd (wVar 7) (wLc (wIt (wVar 8)) (gTp 2 (gsCons (gNm 9) (gsCons (gNm 12) (gsNil)))) (wYes) (wVar 9) [9, 12]))
abbrev w_law_lists_2 : WS := wApp 4 (wTup (wCons (w2 kAdd (wVar 9) (wVar 3)) (wCons (wIfE (wTst (w2 kEq (wVar 2) (wC (.int 0)))) (wB kMax (wCons (wVar 10) (wNil))) (wB kMin (wCons (wVar 10) (wNil)))) (wNil))))
abbrev w_law_lists_3 : WS := wSeq (wAsg 10 (wLc (wIt (wVar 6)) (gNm 8) (wYes) (wCall [false, false, false] c_law_pace (wCons (wVar 5) (wCons (wVar 8) (wCons (wVar 9) (wNil))))) [8])) w_law_lists_2
abbrev w_law_lists_4 : WS := wRetF (wLst (wCons (wLc (wRng1 (wCons (wVar 1) (wNil))) (gNm 9) (wYes) (w2 kIdx (wVar 5) (w2 kMod (wB kInt (wCons (w2 kSub (wVar 9) (wVar 3)) (wNil))) (wVar 1))) [9]) (wCons (wVar 4) (wCons (wVar 5) (wCons (wVar 6) (wCons (wVar 2) (wCons (wVar 3) (wNil))))))))
abbrev w_law_lists_5 : WS := wSeq (wFor (wIt (wSortS (wVar 7))) (gNm 9) w_law_lists_3) w_law_lists_4
abbrev w_law_lists_6 : WS := wSeq (wFor (wIt (wVar 6)) (gNm 8) w_law_lists_1) w_law_lists_5
abbrev w_law_lists_7 : WS := wSeq (wAsg 7 (wLst (wNil))) w_law_lists_6
abbrev w_law_lists_8 : WS := wSeq (wIf (wTst (w2 kEq (wCall [true, false] c_law_take (wCons (wRef 0) (wCons (wC (.int 3)) (wNil)))) (wC (.int 0)))) (wAsg 3 (wCall [true] c_law_number (wCons (wRef 0) (wNil)))) (wNext)) w_law_lists_7
abbrev w_law_lists_9 : WS := wSeq (wAsg 6 (wLc (wRng1 (wCons (w2 kAdd (wC (.int 1)) (wCall [true, false] c_law_take (wCons (wRef 0) (wCons (wC (.int 4)) (wNil))))) (wNil))) (gNm 11) (wYes) (wCall [true, false, false] c_law_marks (wCons (wRef 0) (wCons (wVar 1) (wCons (wC (.int 3)) (wNil))))) [11])) w_law_lists_8
abbrev w_law_lists_10 : WS := wSeq (wAsg 5 (wCall [true, false] c_law_paces (wCons (wRef 0) (wCons (wVar 1) (wNil))))) w_law_lists_9
def w_law_lists : WS :=
  wSeq (wParL [1, 2, 3, 4] (wCons (w2 kAdd (wC (.int 1)) (wCall [true, false] c_law_take (wCons (wRef 0) (wCons (wC (.int 12)) (wNil))))) (wCons (wCall [true, false] c_law_take (wCons (wRef 0) (wCons (wC (.int 2)) (wNil)))) (wCons (wC (.int 0)) (wCons (wLst (wNil)) (wNil)))))) w_law_lists_10
theorem tr_law_lists {Γ : Wd} (T : Tx Γ) (X : Cx) (C : Ctx Γ X N_law_lists (defScope st_law_lists) (fun _ => true) 3) (P : Own X) (dc : DefCx X) : SSs Γ [0] X (defBody st_law_lists) w_law_lists :=
  sss_cons (ss_parL C (sa_cons (se_add (se_int) (se_call C (FnE.mono (ok_law_take T) (by decide)) (sa_cons (se_ref C 0) (sa_cons (se_int) (sa_nil))))) (sa_cons (se_call C (FnE.mono (ok_law_take T) (by decide)) (sa_cons (se_ref C 0) (sa_cons (se_int) (sa_nil)))) (sa_cons (se_int) (sa_cons (se_lst (sa_nil)) (sa_nil))))) (ngs_cons C 1 (ngs_cons C 2 (ngs_cons C 3 (ngs_cons C 4 (ngs_nil))))))
  (sss_cons (ss_asg C 5 (se_call C (FnE.mono (ok_law_paces T) (by decide)) (sa_cons (se_ref C 0) (sa_cons (se_var C 1) (sa_nil)))))
  (sss_cons (ss_asgLc C 6 (own := [("turn", 11)]) (is := [11]) rfl rfl rfl rfl (by decide +kernel) (by decide +kernel) (by decide +kernel) (si_range1 C (sa_cons (se_add (se_int) (se_call C (FnE.mono (ok_law_take T) (by decide)) (sa_cons (se_ref C 0) (sa_cons (se_int) (sa_nil))))) (sa_nil))) (fun _ hX => sg_name hX.1 11) (fun _ hX => sts_nil) (fun _ hX => se_call hX.1 (FnE.mono (ok_law_marks T) (by decide)) (sa_cons (se_ref hX.1 0) (sa_cons (se_var hX.1 1) (sa_cons (se_int) (sa_nil))))))
  (sss_cons (ss_if (st_eq C (se_call C (FnE.mono (ok_law_take T) (by decide)) (sa_cons (se_ref C 0) (sa_cons (se_int) (sa_nil)))) (se_int)) (sss_one (ss_asg C 3 (se_call C (FnE.mono (ok_law_number T) (by decide)) (sa_cons (se_ref C 0) (sa_nil))))) (sss_nil))
  (sss_cons (ss_asg C 7 (se_lst (sa_nil)))
  (sss_cons (ss_for C P (is := [8]) (si_seq (se_var C 6)) (sg_name C 8) (sss_one (ss_asg C 7 (se_add (se_var C 7) (se_lc C (own := [("at", 9), ("pace", 12)]) (is := [9, 12]) (by decide +kernel) (by decide +kernel) (si_seq (se_var C 8)) (fun _ hX => sg_tup hX.1 (sgs_cons (sg_name hX.1 9) (sgs_cons (sg_name hX.1 12) (sgs_nil)))) (fun _ hX => sts_nil) (fun _ hX => se_var hX.1 9))))))
  (sss_cons (ss_for C P (is := [9]) (si_seq (se_sortS C (se_var C 7))) (sg_name C 9) (sss_cons (ss_asgLc C 10 (own := [("marks", 8)]) (is := [8]) rfl rfl rfl rfl (by decide +kernel) (by decide +kernel) (by decide +kernel) (si_seq (se_var C 6)) (fun _ hX => sg_name hX.1 8) (fun _ hX => sts_nil) (fun _ hX => se_call hX.1 (FnE.mono (ok_law_pace T) (by decide)) (sa_cons (se_var hX.1 5) (sa_cons (se_var hX.1 8) (sa_cons (se_var hX.1 9) (sa_nil))))))
  (sss_one (ss_app C 4 (se_tup (sa_cons (se_add (se_var C 9) (se_var C 3)) (sa_cons (se_if (st_eq C (se_var C 2) (se_int)) (se_max C (sa_cons (se_var C 10) (sa_nil))) (se_min C (sa_cons (se_var C 10) (sa_nil)))) (sa_nil))))))))
  (sss_one (ss_retF (se_lst (sa_cons (se_lc C (own := [("at", 9)]) (is := [9]) (by decide +kernel) (by decide +kernel) (si_range1 C (sa_cons (se_var C 1) (sa_nil))) (fun _ hX => sg_name hX.1 9) (fun _ hX => sts_nil) (fun _ hX => se_idx hX.1 (fun _ _ => rfl) (se_var hX.1 5) (se_mod (se_intc hX.1 (sa_cons (se_sub (se_var hX.1 9) (se_var hX.1 3)) (sa_nil))) (se_var hX.1 1)))) (sa_cons (se_var C 4) (sa_cons (se_var C 5) (sa_cons (se_var C 6) (sa_cons (se_var C 2) (sa_cons (se_var C 3) (sa_nil))))))))))))))))

theorem lists_found {r : RowC} (o : r.Ok) {w : SV} {n : Nat} {size : Int} {z8 : Option SV} {DD : Nd} {E : EK} (ls : size = r.week.length) (fin : ∀ σ : Rho, DD.rt (.d r.d) (some w :: σ)) :
    w_law_lists_5 [some w, some (.d (.int size)), some (.d (.int r.s)), some (.d (.int r.sh)), some (.lst []), some (.lst (r.week.map D.int)), some (.d (.lst (r.parts.map fun ms => D.lst (ms.map mkD)))), some (.lst ((r.parts.flatMap fun ms => ms.map Prod.fst).map D.int)), z8, none, none, none, none] DD E := by
  have fl := flat_len o.len
  have few := o.few
  have le := o.le
  have sb := o.shb
  ((conv => whnf); try dsimp only [List.set_cons_zero, List.set_cons_succ]); refine ⟨_, rfl, by omega, fun ns' up mem => ?_⟩
  obtain rfl : ns' = ups (r.parts.flatMap fun ms => ms.map Prod.fst) := up_ext id up (up_ups _) fun a => (mem a).trans mem_ups.symm
  ((conv => whnf); try dsimp only [List.set_cons_zero, List.set_cons_succ])
  refine forL_ind (fun ds ρ => ∃ (as rs : List Int) (z8 z9 z10 z5 : Option SV), ups (r.parts.flatMap fun ms => ms.map Prod.fst) = as ++ rs ∧ ds = rs.map D.int ∧ (z5 = some (.lst (r.week.map D.int)) ∨ z5 = some (.d (.lst (r.week.map D.int)))) ∧
    ρ = [some w, some (.d (.int size)), some (.d (.int r.s)), some (.d (.int r.sh)), some (.lst ((movM (as.map fun a => (a, r.g a)) r.sh).map mkD)), z5, some (.d (.lst (r.parts.map fun ms => D.lst (ms.map mkD)))), some (.lst ((r.parts.flatMap fun ms => ms.map Prod.fst).map D.int)), z8, z9, z10, none, none]) ?_ ?_ _ _ ⟨[], _, z8, none, none, _, rfl, rfl, .inl rfl, rfl⟩
  · rintro ρ ⟨as, rs, z8, z9, z10, z5, e1, e2, h5, rfl⟩
    obtain rfl : rs = [] := by cases rs with
      | nil => rfl
      | cons _ _ => cases e2
    rw [List.append_nil] at e1
    subst e1
    have pos := o.pos
    have fin' : ∀ z5 : Option SV, (z5 = some (.lst (r.week.map D.int)) ∨ z5 = some (.d (.lst (r.week.map D.int)))) → w_law_lists_4 [some w, some (.d (.int size)), some (.d (.int r.s)), some (.d (.int r.sh)), some (.lst ((movM r.fnd r.sh).map mkD)), z5, some (.d (.lst (r.parts.map fun ms => D.lst (ms.map mkD)))), some (.lst ((r.parts.flatMap fun ms => ms.map Prod.fst).map D.int)), z8, z9, z10, none, none] DD E := fun z5 h5 => by
      rcases h5 with rfl | rfl
      all_goals
        ((conv => whnf); try dsimp only [List.set_cons_zero, List.set_cons_succ]); refine ⟨by omega, by omega, ?_⟩
        rw [show rngD 0 size.toNat = (List.range' 0 r.week.length).map fun (i : Nat) => D.int (0 + (i : Int)) by rw [show size.toNat = r.week.length by omega]; unfold rngD; rw [List.range_eq_range']]
      · refine compL_ind (fun ds acc ρ => ∃ (i k : Nat), i + k = r.week.length ∧ ds = (List.range' i k).map (fun (i : Nat) => D.int (0 + (i : Int))) ∧ acc = ((List.range i).map fun (i : Nat) => paceF r.week [] ((i : Int) - r.sh)).map D.int ∧
          ρ = [some w, some (.d (.int size)), some (.d (.int r.s)), some (.d (.int r.sh)), some (.lst ((movM r.fnd r.sh).map mkD)), some (.lst (r.week.map D.int)), some (.d (.lst (r.parts.map fun ms => D.lst (ms.map mkD)))), some (.lst ((r.parts.flatMap fun ms => ms.map Prod.fst).map D.int)), z8, none, z10, none, none]) ?_ ?_ _ _ _ ⟨0, r.week.length, by omega, rfl, rfl, rfl⟩
        · rintro acc ρ ⟨i, k, hik, e, rfl, rfl⟩
          obtain rfl : k = 0 := by cases k with
            | zero => rfl
            | succ k => rw [List.range'_succ] at e; cases e
          obtain rfl : i = r.week.length := by omega
          ((conv => whnf); try dsimp only [List.set_cons_zero, List.set_cons_succ]); refine ⟨few3 (by show 6 ≤ 1000; decide), ?_⟩
          ((conv => whnf); try dsimp only [List.set_cons_zero, List.set_cons_succ]); exact fin _
        · rintro d ds acc ρ ⟨i, k, hik, e, rfl, rfl⟩ ih
          cases k with
          | zero => cases e
          | succ k =>
            rw [List.range'_succ, List.map_cons] at e
            cases e
            have kk := at_week pos (0 + (i : Int) - r.sh)
            rw [← ls] at kk
            ((conv => whnf); try dsimp only [List.set_cons_zero, List.set_cons_succ]); refine Br.tt ?_
            ((conv => whnf); try dsimp only [List.set_cons_zero, List.set_cons_succ]); refine ⟨by omega, ?_⟩
            ((conv => whnf); try dsimp only [List.set_cons_zero, List.set_cons_succ]); refine ⟨_, kk, ?_⟩
            ((conv => whnf); try dsimp only [List.set_cons_zero, List.set_cons_succ]); refine ⟨by simp; omega, ?_⟩
            exact ih _ _ ⟨i + 1, k, by omega, rfl, by rw [List.range_succ]; simp, rfl⟩
      · refine compL_ind (fun ds acc ρ => ∃ (i k : Nat), i + k = r.week.length ∧ ds = (List.range' i k).map (fun (i : Nat) => D.int (0 + (i : Int))) ∧ acc = ((List.range i).map fun (i : Nat) => paceF r.week [] ((i : Int) - r.sh)).map D.int ∧
          ρ = [some w, some (.d (.int size)), some (.d (.int r.s)), some (.d (.int r.sh)), some (.lst ((movM r.fnd r.sh).map mkD)), some (.d (.lst (r.week.map D.int))), some (.d (.lst (r.parts.map fun ms => D.lst (ms.map mkD)))), some (.lst ((r.parts.flatMap fun ms => ms.map Prod.fst).map D.int)), z8, none, z10, none, none]) ?_ ?_ _ _ _ ⟨0, r.week.length, by omega, rfl, rfl, rfl⟩
        · rintro acc ρ ⟨i, k, hik, e, rfl, rfl⟩
          obtain rfl : k = 0 := by cases k with
            | zero => rfl
            | succ k => rw [List.range'_succ] at e; cases e
          obtain rfl : i = r.week.length := by omega
          ((conv => whnf); try dsimp only [List.set_cons_zero, List.set_cons_succ]); refine ⟨few3 (by show 6 ≤ 1000; decide), ?_⟩
          ((conv => whnf); try dsimp only [List.set_cons_zero, List.set_cons_succ]); exact fin _
        · rintro d ds acc ρ ⟨i, k, hik, e, rfl, rfl⟩ ih
          cases k with
          | zero => cases e
          | succ k =>
            rw [List.range'_succ, List.map_cons] at e
            cases e
            have kk := at_week pos (0 + (i : Int) - r.sh)
            rw [← ls] at kk
            ((conv => whnf); try dsimp only [List.set_cons_zero, List.set_cons_succ]); refine Br.tt ?_
            ((conv => whnf); try dsimp only [List.set_cons_zero, List.set_cons_succ]); refine ⟨by omega, ?_⟩
            ((conv => whnf); try dsimp only [List.set_cons_zero, List.set_cons_succ]); refine ⟨_, kk, ?_⟩
            ((conv => whnf); try dsimp only [List.set_cons_zero, List.set_cons_succ]); refine ⟨by simp; omega, ?_⟩
            exact ih _ _ ⟨i + 1, k, by omega, rfl, by rw [List.range_succ]; simp, rfl⟩
    exact fin' z5 h5
  · rintro d ds ρ ⟨as, rs, z8, z9, z10, z5, e1, e2, h5, rfl⟩ ih
    cases rs with
    | nil => cases e2
    | cons a rs =>
      cases e2
      have la : as.length ≤ (ups (r.parts.flatMap fun ms => ms.map Prod.fst)).length := by rw [e1]; simp
      have lu := len_ups (r.parts.flatMap fun ms => ms.map Prod.fst)
      have comp : ∀ (z5 : Option SV), (z5 = some (.lst (r.week.map D.int)) ∨ z5 = some (.d (.lst (r.week.map D.int)))) → w_law_lists_3 [some w, some (.d (.int size)), some (.d (.int r.s)), some (.d (.int r.sh)), some (.lst ((movM (as.map fun a => (a, r.g a)) r.sh).map mkD)), z5, some (.d (.lst (r.parts.map fun ms => D.lst (ms.map mkD)))), some (.lst ((r.parts.flatMap fun ms => ms.map Prod.fst).map D.int)), z8, some (.d (.int a)), z10, none, none] { nx := fun ρ2 => Nxt ρ2 fun ρ3 => forL (gNm 9) w_law_lists_3 (rs.map D.int) ρ3 ⟨fun ρ1 => w_law_lists_4 ρ1 DD E, DD.rt, DD.bk, DD.ct⟩ E, rt := DD.rt, bk := fun ρ1 => w_law_lists_4 ρ1 DD E, ct := fun ρ2 => Nxt ρ2 fun ρ3 => forL (gNm 9) w_law_lists_3 (rs.map D.int) ρ3 ⟨fun ρ1 => w_law_lists_4 ρ1 DD E, DD.rt, DD.bk, DD.ct⟩ E } E := fun z5 h5 => by
        have app : ∀ (z5 : Option SV) (x : Int), x = r.g a → ∀ (z8 : Option SV), ∃ ρ', Fgt [some w, some (.d (.int size)), some (.d (.int r.s)), some (.d (.int r.sh)), some (.lst ((movM (as.map fun a => (a, r.g a)) r.sh).map mkD ++ [.tup [.int (a + r.sh), .int x]])), z5, some (.d (.lst (r.parts.map fun ms => D.lst (ms.map mkD)))), some (.lst ((r.parts.flatMap fun ms => ms.map Prod.fst).map D.int)), z8, some (.d (.int a)), some (.lst ((r.parts.map fun ms => paceF r.week ms a).map D.int)), none, none] ρ' ∧ ((z5 = some (.lst (r.week.map D.int)) ∨ z5 = some (.d (.lst (r.week.map D.int)))) → forL (gNm 9) w_law_lists_3 (rs.map D.int) ρ' ⟨fun ρ1 => w_law_lists_4 ρ1 DD E, DD.rt, DD.bk, DD.ct⟩ E) := fun z5 x hx z8 => by
          subst hx
          exact ⟨_, Fgt.refl _, fun h5 => ih _ ⟨as ++ [a], rs, z8, some (.d (.int a)), some (.lst ((r.parts.map fun ms => paceF r.week ms a).map D.int)), z5, by rw [e1]; simp, rfl, h5, by unfold movM; simp; rfl⟩⟩
        ((conv => whnf); try dsimp only [List.set_cons_zero, List.set_cons_succ])
        refine compL_ind (fun ds acc ρ => ∃ (ps qs : List (List (Int × Int))) (z5 : Option SV), r.parts = ps ++ qs ∧ ds = qs.map (fun ms => D.lst (ms.map mkD)) ∧ acc = (ps.map fun ms => paceF r.week ms a).map D.int ∧ (z5 = some (.lst (r.week.map D.int)) ∨ z5 = some (.d (.lst (r.week.map D.int)))) ∧
          ρ = [some w, some (.d (.int size)), some (.d (.int r.s)), some (.d (.int r.sh)), some (.lst ((movM (as.map fun a => (a, r.g a)) r.sh).map mkD)), z5, some (.d (.lst (r.parts.map fun ms => D.lst (ms.map mkD)))), some (.lst ((r.parts.flatMap fun ms => ms.map Prod.fst).map D.int)), none, some (.d (.int a)), z10, none, none]) ?_ ?_ _ _ _ ⟨[], r.parts, z5, rfl, rfl, rfl, h5, rfl⟩
        · rintro acc ρ ⟨ps, qs, z5, e3, e4, rfl, h5, rfl⟩
          obtain rfl : qs = [] := by cases qs with
            | nil => rfl
            | cons _ _ => cases e4
          rw [List.append_nil] at e3
          subst e3
          have ne := o.ne
          obtain ⟨x, xs, ex⟩ : ∃ x xs, (r.parts.map fun ms => paceF r.week ms a) = x :: xs := by
            cases e : r.parts with
            | nil => exact absurd e ne
            | cons m ps => exact ⟨_, _, rfl⟩
          have eg : r.g a = xs.foldl (opS r.s) x := by unfold RowC.g; rw [ex]; rfl
          have lt2 : ((movM (as.map fun a => (a, r.g a)) r.sh).map mkD).length < 16777216 := by
            unfold movM; simp; omega
          ((conv => whnf); try dsimp only [List.set_cons_zero, List.set_cons_succ]); refine Br.of (fun z => ?_) (fun z => ?_)
          · have z' : r.s = 0 := z
            ((conv => whnf); try dsimp only [List.set_cons_zero, List.set_cons_succ]); refine ⟨_, rfl, by rw [ex]; simp, fun m hm ub => ?_⟩
            obtain ⟨h1, h2⟩ := ext_mx x xs
            rw [← z', ← eg, ← ex] at h1 h2
            have em : m = r.g a := by
              have := ub _ h1
              have := h2 m hm
              omega
            ((conv => whnf); try dsimp only [List.set_cons_zero, List.set_cons_succ]); refine ⟨few3 (by show 2 ≤ 1000; decide), ?_⟩
            ((conv => whnf); try dsimp only [List.set_cons_zero, List.set_cons_succ]); refine ⟨lt2, ?_⟩
            obtain ⟨ρ', f, k⟩ := app z5 m em none
            exact ⟨ρ', f, k h5⟩
          · have z' : ¬ r.s = 0 := z
            ((conv => whnf); try dsimp only [List.set_cons_zero, List.set_cons_succ]); refine ⟨_, rfl, by rw [ex]; simp, fun m hm ub => ?_⟩
            obtain ⟨h1, h2⟩ := ext_mn z' x xs
            rw [← eg, ← ex] at h1 h2
            have em : m = r.g a := by
              have := ub _ h1
              have := h2 m hm
              omega
            ((conv => whnf); try dsimp only [List.set_cons_zero, List.set_cons_succ]); refine ⟨few3 (by show 2 ≤ 1000; decide), ?_⟩
            ((conv => whnf); try dsimp only [List.set_cons_zero, List.set_cons_succ]); refine ⟨lt2, ?_⟩
            obtain ⟨ρ', f, k⟩ := app z5 m em none
            exact ⟨ρ', f, k h5⟩
        · rintro d ds acc ρ ⟨ps, qs, z5, e3, e4, rfl, h5, rfl⟩ ih2
          cases qs with
          | nil => cases e4
          | cons ms qs =>
            cases e4
            have lp : ps.length ≤ r.parts.length := by rw [e3]; simp
            rcases h5 with rfl | rfl
            all_goals
              ((conv => whnf); try dsimp only [List.set_cons_zero, List.set_cons_succ]); refine Br.tt ?_
              ((conv => whnf); try dsimp only [List.set_cons_zero, List.set_cons_succ]); refine ⟨r.week, ms, a, rfl, o.pos, ?_⟩
              ((conv => whnf); try dsimp only [List.set_cons_zero, List.set_cons_succ]); refine ⟨by simp; omega, ?_⟩
              exact ih2 _ _ ⟨ps ++ [ms], qs, _, by rw [e3]; simp, rfl, by simp, .inr rfl, rfl⟩
      exact comp z5 h5
theorem lists_spots {r : RowC} (o : r.Ok) {w : SV} {size : Int} {DD : Nd} {E : EK} (ls : size = r.week.length) (fin : ∀ σ : Rho, DD.rt (.d r.d) (some w :: σ)) :
    w_law_lists_7 [some w, some (.d (.int size)), some (.d (.int r.s)), some (.d (.int r.sh)), some (.lst []), some (.lst (r.week.map D.int)), some (.lst (r.parts.map fun ms => D.lst (ms.map mkD))), none, none, none, none, none, none] DD E := by
  have few := o.few
  ((conv => whnf); try dsimp only [List.set_cons_zero, List.set_cons_succ]); refine ⟨few3 (by show 0 ≤ 1000; decide), ?_⟩
  refine forL_ind (fun ds ρ => ∃ (ps qs : List (List (Int × Int))) (z8 : Option SV), r.parts = ps ++ qs ∧ ds = qs.map (fun ms => D.lst (ms.map mkD)) ∧
    ρ = [some w, some (.d (.int size)), some (.d (.int r.s)), some (.d (.int r.sh)), some (.lst []), some (.lst (r.week.map D.int)), some (.d (.lst (r.parts.map fun ms => D.lst (ms.map mkD)))), some (.lst ((ps.flatMap fun ms => ms.map Prod.fst).map D.int)), z8, none, none, none, none]) ?_ ?_ _ _ ⟨[], r.parts, none, rfl, rfl, rfl⟩
  · rintro ρ ⟨ps, qs, z8, e3, e4, rfl⟩
    obtain rfl : qs = [] := by cases qs with
      | nil => rfl
      | cons _ _ => cases e4
    rw [List.append_nil] at e3
    subst e3
    exact lists_found (n := 0) o ls fin
  · rintro d ds ρ ⟨ps, qs, z8, e3, e4, rfl⟩ ih
    cases qs with
    | nil => cases e4
    | cons ms qs =>
      cases e4
      have l3 := o.len ms (by rw [e3]; simp)
      have lp : ps.length ≤ 4 := by
        have : ps.length ≤ r.parts.length := by rw [e3]; simp
        omega
      have lf := flat_len (ps := ps) fun m h => o.len m (by rw [e3]; simp [h])
      ((conv => whnf); try dsimp only [List.set_cons_zero, List.set_cons_succ])
      refine compL_ind (fun ds acc ρ => ∃ (as rs : List (Int × Int)), ms = as ++ rs ∧ ds = rs.map mkD ∧ acc = (as.map Prod.fst).map D.int ∧
        ρ = [some w, some (.d (.int size)), some (.d (.int r.s)), some (.d (.int r.sh)), some (.lst []), some (.lst (r.week.map D.int)), some (.d (.lst (r.parts.map fun ms => D.lst (ms.map mkD)))), some (.lst ((ps.flatMap fun ms => ms.map Prod.fst).map D.int)), some (.d (.lst (ms.map mkD))), none, none, none, none]) ?_ ?_ _ _ _ ⟨[], ms, rfl, rfl, rfl, rfl⟩
      · rintro acc ρ ⟨as, rs, e5, e6, rfl, rfl⟩
        obtain rfl : rs = [] := by cases rs with
          | nil => rfl
          | cons _ _ => cases e6
        rw [List.append_nil] at e5
        subst e5
        ((conv => whnf); try dsimp only [List.set_cons_zero, List.set_cons_succ]); refine ⟨by simp only [List.length_map] at *; omega, ?_⟩
        exact ⟨_, Fgt.refl _, ih _ ⟨ps ++ [ms], qs, _, by rw [e3]; simp, rfl, by simp; rfl⟩⟩
      · rintro d ds acc ρ ⟨as, rs, e5, e6, rfl, rfl⟩ ih2
        cases rs with
        | nil => cases e6
        | cons m rs =>
          cases e6
          have la : as.length ≤ ms.length := by rw [e5]; simp
          ((conv => whnf); try dsimp only [List.set_cons_zero, List.set_cons_succ]); refine ⟨rfl, ?_⟩
          ((conv => whnf); try dsimp only [List.set_cons_zero, List.set_cons_succ]); refine Br.tt ?_
          ((conv => whnf); try dsimp only [List.set_cons_zero, List.set_cons_succ]); refine ⟨by simp; omega, ?_⟩
          exact ih2 _ _ ⟨as ++ [m], rs, by rw [e5]; simp, rfl, by simp, rfl⟩
theorem law_law_lists : LawOf N_law_lists [true] c_law_lists w_law_lists := by
  rintro svs Q E - ⟨n, w, rfl, hp, hn, hq⟩
  show w_law_lists [some w, none, none, none, none, none, none, none, none, none, none, none, none] _ _
  ((conv => whnf); try dsimp only [List.set_cons_zero, List.set_cons_succ]); refine ⟨rfl, ?_⟩
  ((conv => whnf); try dsimp only [List.set_cons_zero, List.set_cons_succ]); refine ⟨n, _, _, rfl, hp, by omega, (by show (0 : Int) < _; decide), by decide, fun s p1 s0 s1 hp1 => ?_⟩
  have s1' : s < 12 := s1
  ((conv => whnf); try dsimp only [List.set_cons_zero, List.set_cons_succ]); refine ⟨rfl, ?_⟩
  ((conv => whnf); try dsimp only [List.set_cons_zero, List.set_cons_succ]); refine ⟨n + 1, _, _, rfl, hp1, by omega, (by show (0 : Int) < _; decide), by decide, fun sg p2 g0 g1 hp2 => ?_⟩
  have g1' : sg < 2 := g1
  ((conv => whnf); try dsimp only [List.set_cons_zero, List.set_cons_succ]); refine ⟨few3 (by show 0 ≤ 1000; decide), ?_⟩
  ((conv => whnf); try dsimp only [List.set_cons_zero, List.set_cons_succ]); refine ⟨fun x hx => by
    simp only [List.mem_cons, List.not_mem_nil, or_false] at hx
    rcases hx with rfl | rfl | rfl | rfl <;> trivial, rfl, by show 4 ≤ 16777216; decide, ?_⟩
  ((conv => whnf); try dsimp only [List.set_cons_zero, List.set_cons_succ]); refine ⟨rfl, ?_⟩
  ((conv => whnf); try dsimp only [List.set_cons_zero, List.set_cons_succ]); refine ⟨n + 2, _, _, rfl, hp2, by omega, (by show 1 ≤ 1 + s; omega), (by show 1 + s ≤ 12; omega), fun ps p3 wk l hp3 => ?_⟩
  have l' : (ps.length : Int) = 1 + s := l
  ((conv => whnf); try dsimp only [List.set_cons_zero, List.set_cons_succ]); refine ⟨rfl, ?_⟩
  ((conv => whnf); try dsimp only [List.set_cons_zero, List.set_cons_succ]); refine ⟨n + 17, _, _, rfl, hp3, by omega, (by show (0 : Int) < _; decide), by decide, fun k p4 k0 k1 hp4 => ?_⟩
  have k1' : k < 4 := k1
  ((conv => whnf); try dsimp only [List.set_cons_zero, List.set_cons_succ]); refine ⟨by omega, by omega, ?_⟩
  refine compL_ind (fun ds acc ρ => ∃ (qs : List (List (Int × Int))) (p5 : SV), qs.length + ds.length = (1 + k).toNat ∧ acc = (qs.map fun ms => D.lst (ms.map mkD)) ∧ Pool (n + 18 + 100 * qs.length) p5 ∧ (∀ ms ∈ qs, Marks ms ∧ ms.length ≤ 3 ∧ ∀ m ∈ ms, -(10 ^ 31) < m.1 ∧ m.1 < 10 ^ 31) ∧
    ρ = [some p5, some (.d (.int (1 + s))), some (.d (.int sg)), some (.d (.int 0)), some (.lst []), some (.lst (ps.map D.int)), none, none, none, none, none, none, none]) ?_ ?_ _ _ _ ⟨[], p4, by simp [rngD], rfl, hp4, (fun _ h => nomatch h), rfl⟩
  · rintro acc ρ ⟨qs, p5, hl, rfl, hp5, hqs, rfl⟩
    simp only [List.length_nil] at hl
    have lq : qs.length ≤ 4 := by omega
    have nq : qs ≠ [] := by rintro rfl; simp at hl; omega
    have mk : ∀ sh : Int, -(10 ^ 31) < sh ∧ sh < 10 ^ 31 → RowC.Ok ⟨ps, qs, sg, sh⟩ := fun sh hs => ⟨wk, by show 0 < ps.length; omega, by show ps.length ≤ 12; omega, nq, lq, fun m h => (hqs m h).1, fun m h => (hqs m h).2.1, fun m h => (hqs m h).2.2, by show sg = 0 ∨ sg = 1; omega, hs⟩
    ((conv => whnf); try dsimp only [List.set_cons_zero, List.set_cons_succ]); refine ⟨rfl, ?_⟩
    ((conv => whnf); try dsimp only [List.set_cons_zero, List.set_cons_succ]); refine ⟨_, _, _, rfl, hp5, by omega, (by show (0 : Int) < _; decide), by decide, fun y p6 y0 y1 hp6 => ?_⟩
    ((conv => whnf); try dsimp only [List.set_cons_zero, List.set_cons_succ]); refine Br.of (fun z => ?_) (fun z => ?_)
    · ((conv => whnf); try dsimp only [List.set_cons_zero, List.set_cons_succ]); refine ⟨rfl, ?_⟩
      ((conv => whnf); try dsimp only [List.set_cons_zero, List.set_cons_succ]); refine ⟨_, _, rfl, hp6, by omega, fun sh p7 z0 z1 hp7 => ?_⟩
      have o := mk sh (by omega)
      exact lists_spots o (by show 1 + s = _; exact l'.symm) fun σ => hq p7 _ (hp7.mono (by omega)) o
    · have o := mk 0 (by decide)
      exact lists_spots o (by show 1 + s = _; exact l'.symm) fun σ => hq p6 _ (hp6.mono (by omega)) o
  · rintro d ds acc ρ ⟨qs, p5, hl, rfl, hp5, hqs, rfl⟩ ih
    simp only [List.length_cons] at hl
    have t4 : (1 + k).toNat ≤ 4 := by omega
    ((conv => whnf); try dsimp only [List.set_cons_zero, List.set_cons_succ]); refine Br.tt ?_
    ((conv => whnf); try dsimp only [List.set_cons_zero, List.set_cons_succ]); refine ⟨rfl, ?_⟩
    ((conv => whnf); try dsimp only [List.set_cons_zero, List.set_cons_succ]); refine ⟨_, _, _, _, rfl, hp5, by omega, (by show 1 ≤ 1 + s; omega), (by show 1 + s ≤ 12; omega), by decide, by decide, fun ms p6 mk lm bm hp6 => ?_⟩
    have lm' : (ms.length : Int) ≤ 3 := lm
    ((conv => whnf); try dsimp only [List.set_cons_zero, List.set_cons_succ]); refine ⟨by simp; omega, ?_⟩
    exact ih _ _ ⟨qs ++ [ms], p6, by simp; omega, by simp, hp6.mono (by simp; omega), fun m hm => by
      rcases List.mem_append.mp hm with h | h
      · exact hqs m h
      · simp at h; subst h
        exact ⟨mk, by omega, fun q hq => by have := bm q hq; omega⟩, rfl⟩
theorem ok_law_lists {Γ : Wd} (T : Tx Γ) : FnE Γ 4 "_law_lists" [true] c_law_lists :=
  fnE_of T.d_law_lists sc_law_lists (by intro _ _ _ _ _ _ _ _ us hl; exact match us, hl with | [_], _ => rfl) T.bn rfl (tr_law_lists T) law_law_lists

theorem at_head {α : Type} (x : α) (xs : List α) : atI (x :: xs) 0 = some x := by
  unfold atI
  have : ixN (x :: xs).length 0 = some 0 := by
    unfold ixN
    simp
  rw [this]
  rfl
theorem cut_tail {α : Type} (x : α) (xs : List α) : cutL (x :: xs) (some 1) none = xs := by
  unfold cutL
  have e1 : HT.sIx (x :: xs).length 0 (some 1) = 1 := by unfold HT.sIx; simp
  have e2 : HT.sIx (x :: xs).length (x :: xs).length none = xs.length + 1 := by unfold HT.sIx; simp
  rw [e1, e2]
  simp
def c_law_built : Con := fun svs Q _ => ∃ r : RowC, svs = [.d r.d] ∧ r.Ok ∧ Q (.d (calD r.P r.B)) svs
/-! _law_built: row 0, found 1, marks 2 -/
theorem sc_law_built : FnScope N_law_built ["row"] (defScope st_law_built) := ⟨rfl, rfl, rfl, by decide +kernel, rfl, by decide +kernel, by decide +kernel⟩
abbrev w_law_built_1 : WS := wIf (wTst (w2 kEq (w2 kIdx (wVar 0) (wC (.int 4))) (wC (.int 0)))) (wAsg 1 (wOp2 0 [false, false] c_Calendar_or (wVar 1) fun ρ Q E => (wMake 0 [false, false] c_Calendar_init (wCons (wB kList (wCons (w2 kIdx (wVar 0) (wC (.int 2))) (wNil))) (wCons (wB kList (wCons (wVar 2) (wNil))) (wNil)))) ρ (fun sy ρ2 => isIns 0 sy ρ2 ∧ Q sy ρ2) E)) (wAsg 1 (wOp2 0 [false, false] c_Calendar_and (wVar 1) fun ρ Q E => (wMake 0 [false, false] c_Calendar_init (wCons (wB kList (wCons (w2 kIdx (wVar 0) (wC (.int 2))) (wNil))) (wCons (wB kList (wCons (wVar 2) (wNil))) (wNil)))) ρ (fun sy ρ2 => isIns 0 sy ρ2 ∧ Q sy ρ2) E))
abbrev w_law_built_2 : WS := wRetF (wMeth 0 [false, false] c_Calendar_moved (wVar 1) (wCons (w2 kIdx (wVar 0) (wC (.int 5))) (wNil)))
abbrev w_law_built_3 : WS := wSeq (wFor (wIt (wSl (w2 kIdx (wVar 0) (wC (.int 3))) (wP (wC (.int 1))) (wNoP))) (gNm 2) w_law_built_1) w_law_built_2
def w_law_built : WS :=
  wSeq (wAsg 1 (wMake 0 [false, false] c_Calendar_init (wCons (wB kList (wCons (w2 kIdx (wVar 0) (wC (.int 2))) (wNil))) (wCons (wB kList (wCons (w2 kIdx (w2 kIdx (wVar 0) (wC (.int 3))) (wC (.int 0))) (wNil))) (wNil))))) w_law_built_3
theorem tr_law_built {Γ : Wd} (T : Tx Γ) (X : Cx) (C : Ctx Γ X N_law_built (defScope st_law_built) (fun _ => true) 4) (P : Own X) (dc : DefCx X) : SSs Γ [] X (defBody st_law_built) w_law_built :=
  sss_cons (ss_asg C 1 (se_make C (MkE.mono (ok_Calendar_init T) (by decide)) (sa_cons (se_listc C (sa_cons (se_idx C (fun _ _ => rfl) (se_var C 0) (se_int)) (sa_nil))) (sa_cons (se_listc C (sa_cons (se_idx C (fun _ _ => rfl) (se_idx C (fun _ _ => rfl) (se_var C 0) (se_int)) (se_int)) (sa_nil))) (sa_nil)))))
  (sss_cons (ss_for C P (is := [2]) (si_seq (se_slice C (se_idx C (fun _ _ => rfl) (se_var C 0) (se_int)) (so_some (se_int)) (so_none))) (sg_name C 2) (sss_one (ss_if (st_eq C (se_idx C (fun _ _ => rfl) (se_var C 0) (se_int)) (se_int)) (sss_one (ss_asg C 1 (se_binO C (OpE.mono (ok_Calendar_or T) (by decide)) T.S_0 (se_var C 1) (se_make C (MkE.mono (ok_Calendar_init T) (by decide)) (sa_cons (se_listc C (sa_cons (se_idx C (fun _ _ => rfl) (se_var C 0) (se_int)) (sa_nil))) (sa_cons (se_listc C (sa_cons (se_var C 2) (sa_nil))) (sa_nil))))))) (sss_one (ss_asg C 1 (se_binO C (OpE.mono (ok_Calendar_and T) (by decide)) T.S_0 (se_var C 1) (se_make C (MkE.mono (ok_Calendar_init T) (by decide)) (sa_cons (se_listc C (sa_cons (se_idx C (fun _ _ => rfl) (se_var C 0) (se_int)) (sa_nil))) (sa_cons (se_listc C (sa_cons (se_var C 2) (sa_nil))) (sa_nil))))))))))
  (sss_one (ss_retF (se_meth C T.K_0 (MtE.mono (ok_Calendar_moved T) (by decide)) (se_var C 1) (sa_cons (se_idx C (fun _ _ => rfl) (se_var C 0) (se_int)) (sa_nil))))))

theorem law_law_built : LawOf N_law_built [false] c_law_built w_law_built := by
  rintro svs Q E - ⟨r, rfl, o, hq⟩
  have ne := o.ne
  have mks := o.mks
  have len := o.len
  have few := o.few
  have jn := o.jn
  cases ep : r.parts with
  | nil => exact absurd ep ne
  | cons m ps =>
    rw [ep] at mks len few
    have ej : r.jn = ps.foldl (fun M ms => joinM (opS r.s) r.week M r.week ms) m := by unfold RowC.jn; rw [ep]
    simp only [List.length_cons] at few
    show w_law_built [some (.d (.lst [.lst (r.P.map D.int), .lst (r.M.map mkD), .lst (r.week.map D.int), .lst (r.parts.map fun ms => D.lst (ms.map mkD)), .int r.s, .int r.sh])), none, none] _ _
    rw [ep]
    ((conv => whnf); try dsimp only [List.set_cons_zero, List.set_cons_succ]); refine ⟨.lst (r.week.map D.int), rfl, ?_⟩
    ((conv => whnf); try dsimp only [List.set_cons_zero, List.set_cons_succ]); refine ⟨.lst ((m :: ps).map fun ms => D.lst (ms.map mkD)), rfl, ?_⟩
    ((conv => whnf); try dsimp only [List.set_cons_zero, List.set_cons_succ]); refine ⟨.lst (m.map mkD), at_head _ _, ?_⟩
    ((conv => whnf); try dsimp only [List.set_cons_zero, List.set_cons_succ]); refine ⟨r.week, m, rfl, o.wk, o.pos, o.le, mks m (by simp), by have := len m (by simp); omega, rfl, _, _, rfl, ?_⟩
    ((conv => whnf); try dsimp only [List.set_cons_zero, List.set_cons_succ]); refine ⟨.lst ((m :: ps).map fun ms => D.lst (ms.map mkD)), rfl, ?_⟩
    ((conv => whnf); try dsimp only [List.set_cons_zero, List.set_cons_succ])
    rw [show cutL (List.map (fun ms => D.lst (List.map mkD ms)) (m :: ps)) (some 1) none = ps.map (fun ms => D.lst (ms.map mkD)) from cut_tail _ _]
    refine forL_ind (fun ds ρ => ∃ (as qs : List (List (Int × Int))) (M : List (Int × Int)) (z : Option SV), ps = as ++ qs ∧ ds = qs.map (fun ms => D.lst (ms.map mkD)) ∧ M = as.foldl (fun M ms => joinM (opS r.s) r.week M r.week ms) m ∧ Marks M ∧ M.length ≤ 3 + 3 * as.length ∧
      ρ = [some (.d (.lst [.lst (r.P.map D.int), .lst (r.M.map mkD), .lst (r.week.map D.int), .lst ((m :: ps).map fun ms => D.lst (ms.map mkD)), .int r.s, .int r.sh])), some (.d (calD r.week M)), z]) ?_ ?_ _ _ ⟨[], ps, m, none, rfl, rfl, rfl, mks m (by simp), len m (by simp), rfl⟩
    · rintro ρ ⟨as, qs, M, z, e1, e2, eM, mM, lM, rfl⟩
      obtain rfl : qs = [] := by cases qs with
        | nil => rfl
        | cons _ _ => cases e2
      rw [List.append_nil] at e1
      subst e1
      ((conv => whnf); try dsimp only [List.set_cons_zero, List.set_cons_succ]); refine ⟨rfl, ?_⟩
      ((conv => whnf); try dsimp only [List.set_cons_zero, List.set_cons_succ]); refine ⟨.int r.sh, rfl, ?_⟩
      ((conv => whnf); try dsimp only [List.set_cons_zero, List.set_cons_succ]); refine ⟨r.week, M, r.sh, rfl, o.wk, o.pos, o.le, mM, by omega, ?_⟩
      have eB : calD (movP r.week r.sh) (movM M r.sh) = calD r.P r.B := by unfold RowC.P RowC.B; rw [ej, eM]
      rw [← eB] at hq
      ((conv => whnf); try dsimp only [List.set_cons_zero, List.set_cons_succ]); exact hq
    · rintro d ds ρ ⟨as, qs, M, z, e1, e2, eM, mM, lM, rfl⟩ ih
      cases qs with
      | nil => cases e2
      | cons q qs =>
        cases e2
        have la : as.length ≤ ps.length := by rw [e1]; simp
        have mq := mks q (by rw [e1]; simp)
        have lq := len q (by rw [e1]; simp)
        have jl := joinM_length (opS r.s) r.week M r.week q
        have jm := marks_join (opS_bd r.s) o.wk o.wk o.pos o.pos mM mq
        have jp := joinP_self r.s o.pos
        have next : ∀ z, ∃ ρ', Fgt [some (.d (.lst [.lst (r.P.map D.int), .lst (r.M.map mkD), .lst (r.week.map D.int), .lst ((m :: ps).map fun ms => D.lst (ms.map mkD)), .int r.s, .int r.sh])), some (.d (calD (joinP (opS r.s) r.week r.week) (joinM (opS r.s) r.week M r.week q))), z] ρ' ∧ forL (gNm 2) w_law_built_1 (qs.map fun ms => D.lst (ms.map mkD)) ρ' _ _ := fun z =>
          ⟨_, Fgt.refl _, ih _ ⟨as ++ [q], qs, joinM (opS r.s) r.week M r.week q, z, by rw [e1]; simp, rfl, by rw [eM]; simp, jm, by simp; omega, by rw [jp]⟩⟩
        ((conv => whnf); try dsimp only [List.set_cons_zero, List.set_cons_succ]); refine ⟨.int r.s, rfl, ?_⟩
        ((conv => whnf); try dsimp only [List.set_cons_zero, List.set_cons_succ]); refine Br.of (fun h => ?_) (fun h => ?_)
        · have h' : r.s = 0 := h
          have eo : opS r.s = mx := if_pos h'
          rw [eo] at next
          ((conv => whnf); try dsimp only [List.set_cons_zero, List.set_cons_succ]); refine ⟨.lst (r.week.map D.int), rfl, ?_⟩
          ((conv => whnf); try dsimp only [List.set_cons_zero, List.set_cons_succ]); refine ⟨r.week, q, rfl, o.wk, o.pos, o.le, mq, by omega, rfl, _, _, rfl, ?_⟩
          ((conv => whnf); try dsimp only [List.set_cons_zero, List.set_cons_succ]); refine ⟨rfl, rfl, ?_⟩
          ((conv => whnf); try dsimp only [List.set_cons_zero, List.set_cons_succ]); refine ⟨r.week, r.week, M, q, rfl, o.wk, o.wk, o.pos, o.le, rfl, mM, mq, by omega, by omega, ?_⟩
          exact next _
        · have h' : ¬ r.s = 0 := h
          have eo : opS r.s = mn := if_neg h'
          rw [eo] at next jp
          ((conv => whnf); try dsimp only [List.set_cons_zero, List.set_cons_succ]); refine ⟨.lst (r.week.map D.int), rfl, ?_⟩
          ((conv => whnf); try dsimp only [List.set_cons_zero, List.set_cons_succ]); refine ⟨r.week, q, rfl, o.wk, o.pos, o.le, mq, by omega, rfl, _, _, rfl, ?_⟩
          ((conv => whnf); try dsimp only [List.set_cons_zero, List.set_cons_succ]); refine ⟨rfl, rfl, ?_⟩
          ((conv => whnf); try dsimp only [List.set_cons_zero, List.set_cons_succ]); refine ⟨r.week, r.week, M, q, rfl, o.wk, o.wk, o.pos, o.le, rfl, mM, mq, by omega, by omega, by rw [jp]; exact o.wk, ?_⟩
          exact next _
theorem ok_law_built {Γ : Wd} (T : Tx Γ) : FnE Γ 5 "_law_built" [false] c_law_built :=
  fnE_of T.d_law_built sc_law_built (by intro _ _ _ _ _ _ _ _ us hl; exact match us, hl with | [_], _ => rfl) T.bn rfl (tr_law_built T) law_law_built

theorem RowC.Ok.calM {r : RowC} (o : r.Ok) : CalOk r.P r.M := ⟨week_mov o.wk o.pos r.sh, by unfold RowC.P; rw [movP_length]; exact o.pos, by unfold RowC.P; rw [movP_length]; exact o.le, marks_mov o.mark r.sh⟩
theorem RowC.Ok.calB {r : RowC} (o : r.Ok) : CalOk r.P r.B := ⟨week_mov o.wk o.pos r.sh, by unfold RowC.P; rw [movP_length]; exact o.pos, by unfold RowC.P; rw [movP_length]; exact o.le, marks_mov o.jn.1 r.sh⟩
theorem RowC.Ok.pace {r : RowC} (o : r.Ok) (a : Int) : paceF r.P r.B a = paceF r.P r.M a := by
  unfold RowC.P RowC.B RowC.M
  rw [paceF_mov o.pos, paceF_mov o.pos, o.jn.2.2, o.pf]
theorem stepSum_eq {P M N} (h : ∀ a, paceF P M a = paceF P N a) (b : Int) : ∀ k : Nat, stepSum P M b k = stepSum P N b k
  | 0 => rfl
  | k + 1 => by
    have ih := stepSum_eq h b k
    show stepSum P M b k + paceF P M (b + k) = stepSum P N b k + paceF P N (b + k)
    rw [ih, h]
theorem spanSum_eq {P M N} (h : ∀ a, paceF P M a = paceF P N a) (b e : Int) : spanSum P M b e = spanSum P N b e := stepSum_eq h b _
theorem lft_eq {P M N} (h : ∀ a, paceF P M a = paceF P N a) (l b : Int) (p : Bool) (m : Int) : lft P M l b p m = lft P N l b p m := by
  unfold lft
  rw [spanSum_eq h]
theorem due_eq {P M N} (h : ∀ a, paceF P M a = paceF P N a) {m a e : Int} (d : DueW P M m a e) : DueW P N m a e := ⟨d.le, by rw [← spanSum_eq h]; exact d.done, fun q => by rw [← spanSum_eq h]; exact d.soon q⟩
theorem lat_eq {P M N} (h : ∀ a, paceF P M a = paceF P N a) {m a e : Int} (d : LatW P M m a e) : LatW P N m a e := ⟨d.le, by rw [← spanSum_eq h]; exact d.done, fun q => by rw [← spanSum_eq h]; exact d.soon q⟩
theorem wait_eq {P M N} (h : ∀ a, paceF P M a = paceF P N a) {b l m : Int} {r : D} (w : WaitR P M b l m r) : WaitR P N b l m r := by
  rcases w with w | ⟨w, s, hs, e⟩
  · exact .inl w
  · exact .inr ⟨w, s, lat_eq h hs, e⟩
theorem cut_four {α : Type} (a b c d e : α) : cutL [a, b, c, d, e] none (some 4) = [a, b, c, d] := rfl
def c_law_is_wait : Con := fun svs Q _ => ∃ (ps : List Int) (ms : List (Int × Int)) (b l hi : Int) (p : Bool) (r : D), svs = [.lst [.lst (ps.map D.int), .lst (ms.map mkD), .int l, .int b, .bl p], .d (.int hi), .d r] ∧ CalOk ps ms ∧ WaitR ps ms b l hi r ∧ Q (.d (.bl true)) svs
/-! _law_is_wait: state 0, high 1, start 2, paces 3, marks 4, left 5, at 6 -/
theorem sc_law_is_wait : FnScope N_law_is_wait ["state", "high", "start"] (defScope st_law_is_wait) := ⟨rfl, rfl, rfl, by decide +kernel, rfl, by decide +kernel, by decide +kernel⟩
abbrev w_law_is_wait_1 : WS := wRetF (wOrE (w2 kEq (wVar 2) (wVar 1)) (w2 kLt (wCall [false, false, false, false] c_law_total (wCons (wVar 3) (wCons (wVar 4) (wCons (w2 kAdd (wVar 2) (wC (.int 1))) (wCons (wVar 1) (wNil)))))) (wVar 5)))
abbrev w_law_is_wait_2 : WS := wSeq (wIf (wTst (w2 kLt (wCall [false, false, false, false] c_law_total (wCons (wVar 3) (wCons (wVar 4) (wCons (wVar 2) (wCons (wVar 1) (wNil)))))) (wVar 5))) (wRetF (wC (.bl false))) (wNext)) w_law_is_wait_1
abbrev w_law_is_wait_3 : WS := wSeq (wIf (wOrT (wTst (wIsi 1 (wVar 2))) (wOrT (wNotT (wTst (wIsi 0 (wVar 2)))) (wOrT (wTst (w2 kLt (wVar 2) (wVar 6))) (wTst (w2 kGt (wVar 2) (wVar 1)))))) (wRetF (wC (.bl false))) (wNext)) w_law_is_wait_2
abbrev w_law_is_wait_4 : WS := wSeq (wIf (wOrT (wTst (w2 kLt (wVar 1) (wVar 6))) (wTst (w2 kLt (wCall [false, false, false, false] c_law_total (wCons (wVar 3) (wCons (wVar 4) (wCons (wVar 6) (wCons (wVar 1) (wNil)))))) (wVar 5)))) (wRetF (w2 (kIs false) (wVar 2) (wC .non))) (wNext)) w_law_is_wait_3
def w_law_is_wait : WS :=
  wSeq (wUnp (wSl (wVar 0) (wNoP) (wP (wC (.int 4)))) (gTp 4 (gsCons (gNm 3) (gsCons (gNm 4) (gsCons (gNm 5) (gsCons (gNm 6) (gsNil))))))) w_law_is_wait_4
theorem tr_law_is_wait {Γ : Wd} (T : Tx Γ) (X : Cx) (C : Ctx Γ X N_law_is_wait (defScope st_law_is_wait) (fun _ => true) 1) (P : Own X) (dc : DefCx X) : SSs Γ [0] X (defBody st_law_is_wait) w_law_is_wait :=
  sss_cons (ss_unp (is := [3, 4, 5, 6]) (se_slice C (se_var C 0) (so_none) (so_some (se_int))) (sg_tup C (sgs_cons (sg_name C 3) (sgs_cons (sg_name C 4) (sgs_cons (sg_name C 5) (sgs_cons (sg_name C 6) (sgs_nil)))))))
  (sss_cons (ss_if (SW.st (sw_or (st_lt  (se_var C 1) (se_var C 6)) (sw_or1 (st_lt  (se_call C (FnE.mono (ok_law_total T) (by decide)) (sa_cons (se_var C 3) (sa_cons (se_var C 4) (sa_cons (se_var C 6) (sa_cons (se_var C 1) (sa_nil)))))) (se_var C 5))))) (sss_one (ss_retF (se_is  (se_var C 2) (se_non)))) (sss_nil))
  (sss_cons (ss_if (SW.st (sw_or (st_val (se_isi C 1 (se_var C 2) (C.bn _ (by decide +kernel)))) (sw_or (st_not (st_val (se_isi C 0 (se_var C 2) (C.bn _ (by decide +kernel))))) (sw_or (st_lt  (se_var C 2) (se_var C 6)) (sw_or1 (st_gt  (se_var C 2) (se_var C 1))))))) (sss_one (ss_retF (se_bl))) (sss_nil))
  (sss_cons (ss_if (st_lt  (se_call C (FnE.mono (ok_law_total T) (by decide)) (sa_cons (se_var C 3) (sa_cons (se_var C 4) (sa_cons (se_var C 2) (sa_cons (se_var C 1) (sa_nil)))))) (se_var C 5)) (sss_one (ss_retF (se_bl))) (sss_nil))
  (sss_one (ss_retF (se_or (se_eq C (se_var C 2) (se_var C 1)) (se_one (se_lt  (se_call C (FnE.mono (ok_law_total T) (by decide)) (sa_cons (se_var C 3) (sa_cons (se_var C 4) (sa_cons (se_add (se_var C 2) (se_int)) (sa_cons (se_var C 1) (sa_nil)))))) (se_var C 5)))))))))

theorem law_law_is_wait : LawOf N_law_is_wait [true, false, false] c_law_is_wait w_law_is_wait := by
  rintro svs Q E - ⟨ps, ms, b, l, hi, p, r, rfl, o, hr, hq⟩
  show w_law_is_wait [some (.lst [.lst (ps.map D.int), .lst (ms.map mkD), .int l, .int b, .bl p]), some (.d (.int hi)), some (.d r), none, none, none, none] _ _
  ((conv => whnf); try dsimp only [List.set_cons_zero, List.set_cons_succ]); refine ⟨rfl, ?_⟩
  rcases hr with ⟨h, rfl⟩ | ⟨h, s, hs, rfl⟩
  · ((conv => whnf); try dsimp only [List.set_cons_zero, List.set_cons_succ]); refine Br.of (fun _ => ?_) (fun z => absurd h z)
    refine Br.tt ?_
    ((conv => whnf); try dsimp only [List.set_cons_zero, List.set_cons_succ]); exact hq
  · have le := hs.le
    ((conv => whnf); try dsimp only [List.set_cons_zero, List.set_cons_succ]); refine Br.of (fun z => absurd (show hi < b from z) (by omega)) (fun _ => ?_)
    ((conv => whnf); try dsimp only [List.set_cons_zero, List.set_cons_succ]); refine ⟨ps, ms, b, hi, rfl, o.wk, o.pos, o.le, o.mks, h, ?_⟩
    by_cases c : s < b
    · have s1 := hs.soon (by omega)
      have a1 := spanSum_add ps ms (show s + 1 ≤ b by omega) h
      have p1 := spanSum_pos o.wk o.pos o.mks (s + 1) b
      rw [if_pos c] at hq ⊢
      ((conv => whnf); try dsimp only [List.set_cons_zero, List.set_cons_succ]); refine Br.of (fun _ => ?_) (fun z => absurd (show spanSum ps ms b hi < l by omega) z)
      ((conv => whnf); try dsimp only [List.set_cons_zero, List.set_cons_succ]); exact hq
    · have d1 := hs.done
      have a1 := spanSum_add ps ms (show b ≤ s by omega) le
      have p1 := spanSum_pos o.wk o.pos o.mks b s
      rw [if_neg c] at hq ⊢
      ((conv => whnf); try dsimp only [List.set_cons_zero, List.set_cons_succ]); refine Br.of (fun z => absurd (show spanSum ps ms b hi < l from z) (by omega)) (fun _ => ?_)
      ((conv => whnf); try dsimp only [List.set_cons_zero, List.set_cons_succ]); refine Br.ff ?_
      ((conv => whnf); try dsimp only [List.set_cons_zero, List.set_cons_succ]); refine Br.ff ?_
      ((conv => whnf); try dsimp only [List.set_cons_zero, List.set_cons_succ]); refine Br.of (fun z => absurd (show s < b from z) c) (fun _ => ?_)
      ((conv => whnf); try dsimp only [List.set_cons_zero, List.set_cons_succ]); refine Br.of (fun z => absurd (show s > hi from z) (by omega)) (fun _ => ?_)
      ((conv => whnf); try dsimp only [List.set_cons_zero, List.set_cons_succ]); refine ⟨ps, ms, s, hi, rfl, o.wk, o.pos, o.le, o.mks, le, ?_⟩
      ((conv => whnf); try dsimp only [List.set_cons_zero, List.set_cons_succ]); refine Br.of (fun z => absurd (show spanSum ps ms s hi < l from z) (by omega)) (fun _ => ?_)
      ((conv => whnf); try dsimp only [List.set_cons_zero, List.set_cons_succ]); refine Br.of (fun z => ?_) (fun z => ?_)
      · ((conv => whnf); try dsimp only [List.set_cons_zero, List.set_cons_succ]); exact hq
      · have ne : ¬ s = hi := z
        ((conv => whnf); try dsimp only [List.set_cons_zero, List.set_cons_succ]); refine ⟨ps, ms, s + 1, hi, rfl, o.wk, o.pos, o.le, o.mks, by omega, ?_⟩
        rw [← decide_eq_true (hs.soon (by omega))] at hq
        ((conv => whnf); try dsimp only [List.set_cons_zero, List.set_cons_succ]); exact hq
theorem ok_law_is_wait {Γ : Wd} (T : Tx Γ) : FnE Γ 2 "_law_is_wait" [true, false, false] c_law_is_wait :=
  fnE_of T.d_law_is_wait sc_law_is_wait (by intro _ _ _ _ _ _ _ _ us hl; exact match us, hl with | [_, _, _], _ => rfl) T.bn rfl (tr_law_is_wait T) law_law_is_wait

def c_law_right : Con := fun svs Q _ => ∃ (n : Nat) (w : SV) (a mo : D) (cs ss : List D) (ps : List Int) (ms B : List (Int × Int)) (l b : Int) (p : Bool), svs = [w, tkS a mo cs (ss ++ [stD ps B l b p]), .lst [.lst (ps.map D.int), .lst (ms.map mkD), .int l, .int b, .bl p]] ∧ Pool n w ∧ n ≤ 900000 ∧ CalOk ps ms ∧ CalOk ps B ∧ (∀ a, paceF ps B a = paceF ps ms a) ∧ 0 ≤ l ∧ l < 10 ^ 36 ∧ -(10 ^ 36) < b ∧ b < 10 ^ 36 ∧
  ∀ w', Pool (n + 10) w' → Q (.d (.bl true)) [w', tkS a mo cs (ss ++ [stD ps B l b p]), .lst [.lst (ps.map D.int), .lst (ms.map mkD), .int l, .int b, .bl p]]
/-! _law_right: well 0, ticket 1, state 2, later 3, high 4 -/
theorem sc_law_right : FnScope N_law_right ["well", "ticket", "state"] (defScope st_law_right) := ⟨rfl, rfl, rfl, by decide +kernel, rfl, by decide +kernel, by decide +kernel⟩
abbrev w_law_right_1 : WS := wRetF (wCall [false, false, false, false, false] c_law_is_end (wCons (w2 kIdx (wVar 2) (wC (.int 0))) (wCons (w2 kIdx (wVar 2) (wC (.int 1))) (wCons (w2 kIdx (wVar 2) (wC (.int 3))) (wCons (w2 kIdx (wVar 2) (wC (.int 2))) (wCons (wMeth 1 [true] c_Ticket_done_at (wRef 1) (wNil)) (wNil)))))))
abbrev w_law_right_2 : WS := wSeq (wIf (wTst (w2 kIdx (wVar 2) (wC (.int 4)))) (wRetF (w2 (kIs false) (wMeth 1 [true] c_Ticket_done_at (wRef 1) (wNil)) (wC .non))) (wNext)) w_law_right_1
abbrev w_law_right_3 : WS := wSeq (wIf (wNotT (wTst (wCall [true, false, false] c_law_is_wait (wCons (wRef 2) (wCons (wVar 4) (wCons (wMeth 1 [true, false] c_Ticket_can_wait (wRef 1) (wCons (wVar 4) (wNil))) (wNil))))))) (wRetF (wC (.bl false))) (wNext)) w_law_right_2
abbrev w_law_right_4 : WS := wSeq (wAsg 4 (w2 kSub (w2 kAdd (w2 kIdx (wVar 2) (wC (.int 3))) (wCall [true, false] c_law_gap (wCons (wRef 0) (wCons (wC (.int 90)) (wNil))))) (wC (.int 2)))) w_law_right_3
abbrev w_law_right_5 : WS := wSeq (wIf (wTst (w2 kNe (wB kRepr (wCons (wMeth 1 [true, false] c_Ticket_left_at (wRef 1) (wCons (wVar 3) (wNil))) (wNil))) (wB kRepr (wCons (wCall [true, false] c_law_left (wCons (wRef 2) (wCons (wVar 3) (wNil)))) (wNil))))) (wRetF (wC (.bl false))) (wNext)) w_law_right_4
abbrev w_law_right_6 : WS := wSeq (wAsg 3 (w2 kAdd (w2 kIdx (wVar 2) (wC (.int 3))) (wCall [true, false] c_law_gap (wCons (wRef 0) (wCons (wC (.int 30)) (wNil)))))) w_law_right_5
def w_law_right : WS :=
  wSeq (wIf (wTst (w2 kNe (wB kRepr (wCons (wCall [true] c_law_told (wCons (wRef 1) (wNil))) (wNil))) (wB kRepr (wCons (wLst (wCons (w2 kIdx (wVar 2) (wC (.int 3))) (wCons (w2 kIdx (wVar 2) (wC (.int 2))) (wCons (w2 kIdx (wVar 2) (wC (.int 4))) (wNil))))) (wNil))))) (wRetF (wC (.bl false))) (wNext)) w_law_right_6
theorem tr_law_right {Γ : Wd} (T : Tx Γ) (X : Cx) (C : Ctx Γ X N_law_right (defScope st_law_right) (fun _ => true) 5) (P : Own X) (dc : DefCx X) : SSs Γ [0, 1, 2] X (defBody st_law_right) w_law_right :=
  sss_cons (ss_if (st_ne C (se_repr C (sa_cons (se_call C (FnE.mono (ok_law_told T) (by decide)) (sa_cons (se_ref C 1) (sa_nil))) (sa_nil))) (se_repr C (sa_cons (se_lst (sa_cons (se_idx C (fun _ _ => rfl) (se_var C 2) (se_int)) (sa_cons (se_idx C (fun _ _ => rfl) (se_var C 2) (se_int)) (sa_cons (se_idx C (fun _ _ => rfl) (se_var C 2) (se_int)) (sa_nil))))) (sa_nil)))) (sss_one (ss_retF (se_bl))) (sss_nil))
  (sss_cons (ss_asg C 3 (se_add (se_idx C (fun _ _ => rfl) (se_var C 2) (se_int)) (se_call C (FnE.mono (ok_law_gap T) (by decide)) (sa_cons (se_ref C 0) (sa_cons (se_int) (sa_nil))))))
  (sss_cons (ss_if (st_ne C (se_repr C (sa_cons (se_meth C T.K_1 (MtE.mono (ok_Ticket_left_at T) (by decide)) (se_ref C 1) (sa_cons (se_var C 3) (sa_nil))) (sa_nil))) (se_repr C (sa_cons (se_call C (FnE.mono (ok_law_left T) (by decide)) (sa_cons (se_ref C 2) (sa_cons (se_var C 3) (sa_nil)))) (sa_nil)))) (sss_one (ss_retF (se_bl))) (sss_nil))
  (sss_cons (ss_asg C 4 (se_sub (se_add (se_idx C (fun _ _ => rfl) (se_var C 2) (se_int)) (se_call C (FnE.mono (ok_law_gap T) (by decide)) (sa_cons (se_ref C 0) (sa_cons (se_int) (sa_nil))))) (se_int)))
  (sss_cons (ss_if (st_not (st_val (se_call C (FnE.mono (ok_law_is_wait T) (by decide)) (sa_cons (se_ref C 2) (sa_cons (se_var C 4) (sa_cons (se_meth C T.K_1 (MtE.mono (ok_Ticket_can_wait T) (by decide)) (se_ref C 1) (sa_cons (se_var C 4) (sa_nil))) (sa_nil))))))) (sss_one (ss_retF (se_bl))) (sss_nil))
  (sss_cons (ss_if (st_val (se_idx C (fun _ _ => rfl) (se_var C 2) (se_int))) (sss_one (ss_retF (se_is  (se_meth0 C T.K_1 (MtE.mono (ok_Ticket_done_at T) (by decide)) (se_ref C 1)) (se_non)))) (sss_nil))
  (sss_one (ss_retF (se_call C (FnE.mono (ok_law_is_end T) (by decide)) (sa_cons (se_idx C (fun _ _ => rfl) (se_var C 2) (se_int)) (sa_cons (se_idx C (fun _ _ => rfl) (se_var C 2) (se_int)) (sa_cons (se_idx C (fun _ _ => rfl) (se_var C 2) (se_int)) (sa_cons (se_idx C (fun _ _ => rfl) (se_var C 2) (se_int)) (sa_cons (se_meth0 C T.K_1 (MtE.mono (ok_Ticket_done_at T) (by decide)) (se_ref C 1)) (sa_nil))))))))))))))

theorem law_law_right : LawOf N_law_right [true, true, true] c_law_right w_law_right := by
  rintro svs Q E - ⟨n, w, a, mo, cs, ss, ps, ms, B, l, b, p, rfl, hp, hn, o, oB, pe, l0, l1, b0, b1, hq⟩
  have rs := rpr_state (b := b) (l := l) p (by omega) (by omega)
  show w_law_right [some w, some (tkS a mo cs (ss ++ [stD ps B l b p])), some (.lst [.lst (ps.map D.int), .lst (ms.map mkD), .int l, .int b, .bl p]), none, none] _ _
  ((conv => whnf); try dsimp only [List.set_cons_zero, List.set_cons_succ]); refine ⟨rfl, ?_⟩
  ((conv => whnf); try dsimp only [List.set_cons_zero, List.set_cons_succ]); refine ⟨a, mo, cs, ss, ps, B, l, b, p, rfl, ?_⟩
  ((conv => whnf); try dsimp only [List.set_cons_zero, List.set_cons_succ]); refine ⟨rs, ?_⟩
  ((conv => whnf); try dsimp only [List.set_cons_zero, List.set_cons_succ]); refine ⟨_, rfl, ?_⟩
  ((conv => whnf); try dsimp only [List.set_cons_zero, List.set_cons_succ]); refine ⟨_, rfl, ?_⟩
  ((conv => whnf); try dsimp only [List.set_cons_zero, List.set_cons_succ]); refine ⟨_, rfl, ?_⟩
  ((conv => whnf); try dsimp only [List.set_cons_zero, List.set_cons_succ]); refine ⟨few3 (by show 3 ≤ 1000; decide), ?_⟩
  ((conv => whnf); try dsimp only [List.set_cons_zero, List.set_cons_succ]); refine ⟨rs, ?_⟩
  ((conv => whnf); try dsimp only [List.set_cons_zero, List.set_cons_succ]); refine Br.ofN (fun h => absurd rfl h) (fun _ => ?_)
  ((conv => whnf); try dsimp only [List.set_cons_zero, List.set_cons_succ]); refine ⟨_, rfl, ?_⟩
  ((conv => whnf); try dsimp only [List.set_cons_zero, List.set_cons_succ]); refine ⟨rfl, ?_⟩
  ((conv => whnf); try dsimp only [List.set_cons_zero, List.set_cons_succ]); refine ⟨n, _, _, rfl, hp, by omega, (by show (0 : Int) < _; decide), by decide, fun g1 p1 g10 g11 hp1 => ?_⟩
  have lb := lft_bd o (b := b) (m := b + g1) (p := p) l0
  ((conv => whnf); try dsimp only [List.set_cons_zero, List.set_cons_succ]); refine ⟨rfl, ?_⟩
  ((conv => whnf); try dsimp only [List.set_cons_zero, List.set_cons_succ]); refine ⟨rfl, ?_⟩
  ((conv => whnf); try dsimp only [List.set_cons_zero, List.set_cons_succ]); refine ⟨a, mo, cs, ss, ps, B, l, b, p, b + g1, rfl, oB, by omega, ?_⟩
  rw [lft_eq pe]
  ((conv => whnf); try dsimp only [List.set_cons_zero, List.set_cons_succ]); refine ⟨rpr1 (by omega), ?_⟩
  ((conv => whnf); try dsimp only [List.set_cons_zero, List.set_cons_succ]); refine ⟨rfl, ?_⟩
  ((conv => whnf); try dsimp only [List.set_cons_zero, List.set_cons_succ]); refine ⟨_, ps, ms, l, b, p, b + g1, rfl, .inl rfl, o, by omega, ?_⟩
  ((conv => whnf); try dsimp only [List.set_cons_zero, List.set_cons_succ]); refine ⟨rpr1 (by omega), ?_⟩
  ((conv => whnf); try dsimp only [List.set_cons_zero, List.set_cons_succ]); refine Br.ofN (fun h => absurd rfl h) (fun _ => ?_)
  ((conv => whnf); try dsimp only [List.set_cons_zero, List.set_cons_succ]); refine ⟨_, rfl, ?_⟩
  ((conv => whnf); try dsimp only [List.set_cons_zero, List.set_cons_succ]); refine ⟨rfl, ?_⟩
  ((conv => whnf); try dsimp only [List.set_cons_zero, List.set_cons_succ]); refine ⟨n + 5, _, _, rfl, hp1, by omega, (by show (0 : Int) < _; decide), by decide, fun g2 p2 g20 g21 hp2 => ?_⟩
  ((conv => whnf); try dsimp only [List.set_cons_zero, List.set_cons_succ]); refine ⟨rfl, ?_⟩
  ((conv => whnf); try dsimp only [List.set_cons_zero, List.set_cons_succ]); refine ⟨rfl, ?_⟩
  ((conv => whnf); try dsimp only [List.set_cons_zero, List.set_cons_succ]); refine ⟨rfl, ?_⟩
  ((conv => whnf); try dsimp only [List.set_cons_zero, List.set_cons_succ]); refine ⟨a, mo, cs, ss, ps, B, l, b, p, b + g2 - 2, rfl, oB, l0, fun r hr => ?_⟩
  ((conv => whnf); try dsimp only [List.set_cons_zero, List.set_cons_succ]); refine ⟨ps, ms, b, l, b + g2 - 2, p, r, rfl, o, wait_eq pe hr, ?_⟩
  ((conv => whnf); try dsimp only [List.set_cons_zero, List.set_cons_succ]); refine Br.ff ?_
  ((conv => whnf); try dsimp only [List.set_cons_zero, List.set_cons_succ]); refine ⟨_, rfl, ?_⟩
  have fin := hq p2 (hp2.mono (by omega))
  cases p with
  | true =>
    ((conv => whnf); try dsimp only [List.set_cons_zero, List.set_cons_succ]); refine Br.tt ?_
    ((conv => whnf); try dsimp only [List.set_cons_zero, List.set_cons_succ]); refine ⟨rfl, ?_⟩
    ((conv => whnf); try dsimp only [List.set_cons_zero, List.set_cons_succ]); refine ⟨rfl, ?_⟩
    ((conv => whnf); try dsimp only [List.set_cons_zero, List.set_cons_succ]); refine ⟨a, mo, cs, ss, ps, B, l, b, true, rfl, oB, l0, fun _ => ?_, fun h => nomatch h⟩
    ((conv => whnf); try dsimp only [List.set_cons_zero, List.set_cons_succ]); exact fin
  | false =>
    ((conv => whnf); try dsimp only [List.set_cons_zero, List.set_cons_succ]); refine Br.ff ?_
    ((conv => whnf); try dsimp only [List.set_cons_zero, List.set_cons_succ]); refine ⟨_, rfl, ?_⟩
    ((conv => whnf); try dsimp only [List.set_cons_zero, List.set_cons_succ]); refine ⟨_, rfl, ?_⟩
    ((conv => whnf); try dsimp only [List.set_cons_zero, List.set_cons_succ]); refine ⟨_, rfl, ?_⟩
    ((conv => whnf); try dsimp only [List.set_cons_zero, List.set_cons_succ]); refine ⟨_, rfl, ?_⟩
    ((conv => whnf); try dsimp only [List.set_cons_zero, List.set_cons_succ]); refine ⟨rfl, ?_⟩
    ((conv => whnf); try dsimp only [List.set_cons_zero, List.set_cons_succ]); refine ⟨rfl, ?_⟩
    ((conv => whnf); try dsimp only [List.set_cons_zero, List.set_cons_succ]); refine ⟨a, mo, cs, ss, ps, B, l, b, false, rfl, oB, l0, (fun h => nomatch h), fun _ e he => ?_⟩
    ((conv => whnf); try dsimp only [List.set_cons_zero, List.set_cons_succ]); refine ⟨ps, ms, b, l, e, rfl, o.wk, o.pos, o.le, o.mks, l0, due_eq pe he, ?_⟩
    ((conv => whnf); try dsimp only [List.set_cons_zero, List.set_cons_succ]); exact fin
theorem ok_law_right {Γ : Wd} (T : Tx Γ) : FnE Γ 6 "_law_right" [true, true, true] c_law_right :=
  fnE_of T.d_law_right sc_law_right (by intro _ _ _ _ _ _ _ _ us hl; exact match us, hl with | [_, _, _], _ => rfl) T.bn rfl (tr_law_right T) law_law_right

def c_law_called : Con := fun svs Q _ => ∃ (n : Nat) (w : SV) (a mo : D) (cs ss hs : List D) (ps : List Int) (ms B : List (Int × Int)) (l b m : Int) (p : Bool) (r0 r1 r2 : RowC), svs = [w, tkS a mo cs (ss ++ [stD ps B l b p]), .lst [.lst (ps.map D.int), .lst (ms.map mkD), .int l, .int b, .bl p], .d (.lst [r0.d, r1.d, r2.d]), .d (.int m), .lst hs] ∧ Pool n w ∧ n ≤ 800000 ∧ CalOk ps ms ∧ CalOk ps B ∧ (∀ a, paceF ps B a = paceF ps ms a) ∧ r0.Ok ∧ r1.Ok ∧ r2.Ok ∧ b ≤ m ∧ 0 ≤ l ∧ l < 10 ^ 35 ∧ -(10 ^ 35) < m ∧ m < 10 ^ 35 ∧ 0 < lft ps ms l b p m ∧ cs.length ≤ 500 ∧ ss.length ≤ 500 ∧ hs.length ≤ 500 ∧
  ∀ w' cs' ss' hs' ps' ms' B' l', Pool (n + 20) w' → CalOk ps' ms' → CalOk ps' B' → (∀ a, paceF ps' B' a = paceF ps' ms' a) → 0 ≤ l' → l' ≤ l + 10 ^ 32 → cs'.length ≤ cs.length + 1 → ss'.length ≤ ss.length + 1 → (hs' = hs ∨ ∃ r : RowC, r.Ok ∧ hs' = hs ++ [.lst [calD r.P r.B, r.d]]) →
    Q (.d (.bl true)) [w', tkS a mo cs' (ss' ++ [stD ps' B' l' m p]), .lst [.lst (ps'.map D.int), .lst (ms'.map mkD), .int l', .int m, .bl p], .d (.lst [r0.d, r1.d, r2.d]), .d (.int m), .lst hs']
/-! _law_called: well 0, ticket 1, state 2, lists 3, spot 4, held 5, left 6, way 7, row 8, made 9, answer 10, more 11 -/
theorem sc_law_called : FnScope N_law_called ["well", "ticket", "state", "lists", "spot", "held"] (defScope st_law_called) := ⟨rfl, rfl, rfl, by decide +kernel, rfl, by decide +kernel, by decide +kernel⟩
abbrev w_law_called_1 : WS := wSetI 2 (wVar 6) (wC (.int 2))
abbrev w_law_called_2 : WS := wSeq (wSetI 2 (w2 kIdx (wVar 8) (wC (.int 1))) (wC (.int 1))) w_law_called_1
abbrev w_law_called_3 : WS := wSeq (wSetI 2 (w2 kIdx (wVar 8) (wC (.int 0))) (wC (.int 0))) w_law_called_2
abbrev w_law_called_4 : WS := wSeq (wAsg 10 (wMethW [1, 0] 1 [true, false, false] c_Ticket_switch (wRef 1) (wCons (wVar 4) (wCons (wVar 9) (wNil))))) w_law_called_3
abbrev w_law_called_5 : WS := wSeq (wApp 5 (wLst (wCons (wVar 9) (wCons (wVar 8) (wNil))))) w_law_called_4
abbrev w_law_called_6 : WS := wSeq (wAsg 9 (wCall [false] c_law_built (wCons (wVar 8) (wNil)))) w_law_called_5
abbrev w_law_called_7 : WS := wSetI 2 (w2 kAdd (wVar 6) (wVar 11)) (wC (.int 2))
abbrev w_law_called_8 : WS := wSeq (wAsg 10 (wMethW [1, 0] 1 [true, false, false] c_Ticket_enlarge (wRef 1) (wCons (wVar 4) (wCons (wVar 11) (wNil))))) w_law_called_7
abbrev w_law_called_9 : WS := wRetF (wAndE (w2 (kIs false) (wVar 10) (wC .non)) (wCall [true, true, true] c_law_right (wCons (wRef 0) (wCons (wRef 1) (wCons (wRef 2) (wNil))))))
abbrev w_law_called_10 : WS := wSeq (wSetI 2 (wVar 4) (wC (.int 3))) w_law_called_9
abbrev w_law_called_11 : WS := wSeq (wIf (wTst (w2 kEq (wVar 7) (wC (.int 0)))) (wSeq (wAsg 8 (w2 kIdx (wVar 3) (wCall [true, false] c_law_take (wCons (wRef 0) (wCons (wC (.int 3)) (wNil)))))) w_law_called_6) (wSeq (wAsg 11 (wCall [true, false] c_law_load (wCons (wRef 0) (wCons (wC (.int 5)) (wNil))))) w_law_called_8)) w_law_called_10
def w_law_called : WS :=
  wSeq (wPar2 6 7 (wCons (wCall [true, false] c_law_left (wCons (wRef 2) (wCons (wVar 4) (wNil)))) (wCons (wCall [true, false] c_law_take (wCons (wRef 0) (wCons (wC (.int 2)) (wNil)))) (wNil)))) w_law_called_11
theorem tr_law_called {Γ : Wd} (T : Tx Γ) (X : Cx) (C : Ctx Γ X N_law_called (defScope st_law_called) (fun _ => true) 6) (P : Own X) (dc : DefCx X) : SSs Γ [0, 1, 2, 5] X (defBody st_law_called) w_law_called :=
  sss_cons (ss_par2 C 6 7 (sa_cons (se_call C (FnE.mono (ok_law_left T) (by decide)) (sa_cons (se_ref C 2) (sa_cons (se_var C 4) (sa_nil)))) (sa_cons (se_call C (FnE.mono (ok_law_take T) (by decide)) (sa_cons (se_ref C 0) (sa_cons (se_int) (sa_nil)))) (sa_nil))))
  (sss_cons (ss_if (st_eq C (se_var C 7) (se_int)) (sss_cons (ss_asg C 8 (se_idx C (fun _ _ => rfl) (se_var C 3) (se_call C (FnE.mono (ok_law_take T) (by decide)) (sa_cons (se_ref C 0) (sa_cons (se_int) (sa_nil))))))
  (sss_cons (ss_asg C 9 (se_call C (FnE.mono (ok_law_built T) (by decide)) (sa_cons (se_var C 8) (sa_nil))))
  (sss_cons (ss_app C 5 (se_lst (sa_cons (se_var C 9) (sa_cons (se_var C 8) (sa_nil)))))
  (sss_cons (ss_asg C 10 (se_methW C (js := [1, 0]) (ks := ["moment", "calendar"]) T.K_1 (MtX.mono (okm_Ticket_switch T) (by decide)) (by intro _ _ _ _ _ _ _ _ _ ws hl; exact match ws, hl with | [_, _], _ => rfl) (se_ref C 1) (sk_cons (se_var C 4) (sk_cons (se_var C 9) (sk_nil)))))
  (sss_cons (ss_seti C 2 (se_idx C (fun _ _ => rfl) (se_var C 8) (se_int)) (se_int))
  (sss_cons (ss_seti C 2 (se_idx C (fun _ _ => rfl) (se_var C 8) (se_int)) (se_int))
  (sss_one (ss_seti C 2 (se_var C 6) (se_int))))))))) (sss_cons (ss_asg C 11 (se_call C (FnE.mono (ok_law_load T) (by decide)) (sa_cons (se_ref C 0) (sa_cons (se_int) (sa_nil)))))
  (sss_cons (ss_asg C 10 (se_methW C (js := [1, 0]) (ks := ["moment", "amount"]) T.K_1 (MtX.mono (okm_Ticket_enlarge T) (by decide)) (by intro _ _ _ _ _ _ _ _ _ ws hl; exact match ws, hl with | [_, _], _ => rfl) (se_ref C 1) (sk_cons (se_var C 4) (sk_cons (se_var C 11) (sk_nil)))))
  (sss_one (ss_seti C 2 (se_add (se_var C 6) (se_var C 11)) (se_int))))))
  (sss_cons (ss_seti C 2 (se_var C 4) (se_int))
  (sss_one (ss_retF (se_and (se_is  (se_var C 10) (se_non)) (se_one (se_call C (FnE.mono (ok_law_right T) (by decide)) (sa_cons (se_ref C 0) (sa_cons (se_ref C 1) (sa_cons (se_ref C 2) (sa_nil)))))))))))

theorem law_law_called : LawOf N_law_called [true, true, true, false, false, true] c_law_called w_law_called := by
  rintro svs Q E - ⟨n, w, a, mo, cs, ss, hs, ps, ms, B, l, b, m, p, r0, r1, r2, rfl, hp, hn, o, oB, pe, k0, k1, k2, hb, l0, l1, m0, m1, pos, lc, ls, lh, hq⟩
  have lb := lft_bd o (b := b) (m := m) (p := p) l0
  have eL := lft_eq pe l b p m
  show w_law_called [some w, some (tkS a mo cs (ss ++ [stD ps B l b p])), some (.lst [.lst (ps.map D.int), .lst (ms.map mkD), .int l, .int b, .bl p]), some (.d (.lst [r0.d, r1.d, r2.d])), some (.d (.int m)), some (.lst hs), none, none, none, none, none, none] _ _
  ((conv => whnf); try dsimp only [List.set_cons_zero, List.set_cons_succ]); refine ⟨rfl, ?_⟩
  ((conv => whnf); try dsimp only [List.set_cons_zero, List.set_cons_succ]); refine ⟨_, ps, ms, l, b, p, m, rfl, .inl rfl, o, hb, ?_⟩
  ((conv => whnf); try dsimp only [List.set_cons_zero, List.set_cons_succ]); refine ⟨rfl, ?_⟩
  ((conv => whnf); try dsimp only [List.set_cons_zero, List.set_cons_succ]); refine ⟨n, _, _, rfl, hp, by omega, (by show (0 : Int) < _; decide), by decide, fun y p1 y0 y1 hp1 => ?_⟩
  ((conv => whnf); try dsimp only [List.set_cons_zero, List.set_cons_succ]); refine Br.of (fun z => ?_) (fun z => ?_)
  · ((conv => whnf); try dsimp only [List.set_cons_zero, List.set_cons_succ]); refine ⟨rfl, ?_⟩
    ((conv => whnf); try dsimp only [List.set_cons_zero, List.set_cons_succ]); refine ⟨n + 1, _, _, rfl, hp1, by omega, (by show (0 : Int) < _; decide), by decide, fun k p2 k0' k1' hp2 => ?_⟩
    have k1'' : k < 3 := k1'
    obtain ⟨r, ro, er⟩ : ∃ r : RowC, r.Ok ∧ atI [r0.d, r1.d, r2.d] k = some r.d := by
      rcases (show k = 0 ∨ k = 1 ∨ k = 2 by omega) with rfl | rfl | rfl
      · exact ⟨r0, k0, rfl⟩
      · exact ⟨r1, k1, rfl⟩
      · exact ⟨r2, k2, rfl⟩
    ((conv => whnf); try dsimp only [List.set_cons_zero, List.set_cons_succ]); refine ⟨_, er, ?_⟩
    ((conv => whnf); try dsimp only [List.set_cons_zero, List.set_cons_succ]); refine ⟨r, rfl, ro, ?_⟩
    ((conv => whnf); try dsimp only [List.set_cons_zero, List.set_cons_succ]); refine ⟨few3 (by show 2 ≤ 1000; decide), ?_⟩
    ((conv => whnf); try dsimp only [List.set_cons_zero, List.set_cons_succ]); refine ⟨by omega, ?_⟩
    ((conv => whnf); try dsimp only [List.set_cons_zero, List.set_cons_succ]); refine ⟨rfl, ?_⟩
    ((conv => whnf); try dsimp only [List.set_cons_zero, List.set_cons_succ]); refine ⟨rfl, ?_⟩
    ((conv => whnf); try dsimp only [List.set_cons_zero, List.set_cons_succ]); (refine ⟨by show List.Perm [1, 0] (List.range 2); decide, ?_⟩)
    ((conv => whnf); try dsimp only [List.set_cons_zero, List.set_cons_succ]); refine ⟨a, mo, cs, ss, ps, B, r.P, r.B, l, b, p, m, rfl, oB, hb, by rw [eL]; omega, by omega, by omega, ?_⟩
    rw [eL]
    ((conv => whnf); try dsimp only [List.set_cons_zero, List.set_cons_succ]); refine ⟨.lst (r.P.map D.int), rfl, ?_⟩
    ((conv => whnf); try dsimp only [List.set_cons_zero, List.set_cons_succ]); refine ⟨_, rfl, ?_⟩
    ((conv => whnf); try dsimp only [List.set_cons_zero, List.set_cons_succ]); refine ⟨.lst (r.M.map mkD), rfl, ?_⟩
    ((conv => whnf); try dsimp only [List.set_cons_zero, List.set_cons_succ]); refine ⟨_, rfl, ?_⟩
    ((conv => whnf); try dsimp only [List.set_cons_zero, List.set_cons_succ]); refine ⟨_, rfl, ?_⟩
    ((conv => whnf); try dsimp only [List.set_cons_zero, List.set_cons_succ]); refine ⟨_, rfl, ?_⟩
    ((conv => whnf); try dsimp only [List.set_cons_zero, List.set_cons_succ]); refine Br.tt ?_
    ((conv => whnf); try dsimp only [List.set_cons_zero, List.set_cons_succ]); refine ⟨rfl, ?_⟩
    ((conv => whnf); try dsimp only [List.set_cons_zero, List.set_cons_succ]); refine ⟨rfl, ?_⟩
    ((conv => whnf); try dsimp only [List.set_cons_zero, List.set_cons_succ]); refine ⟨rfl, ?_⟩
    ((conv => whnf); try dsimp only [List.set_cons_zero, List.set_cons_succ]); refine ⟨n + 2, _, _, _, _, _, r.P, r.M, r.B, lft ps ms l b p m, m, p, rfl, hp2, by omega, ro.calM, ro.calB, ro.pace, lb.1, by omega, by omega, by omega, fun w' hp' => ?_⟩
    ((conv => whnf); try dsimp only [List.set_cons_zero, List.set_cons_succ]); exact hq w' _ _ _ r.P r.M r.B _ (hp'.mono (by omega)) ro.calM ro.calB ro.pace lb.1 (by omega) (by simp) (by simp) (.inr ⟨r, ro, rfl⟩)
  · ((conv => whnf); try dsimp only [List.set_cons_zero, List.set_cons_succ]); refine ⟨rfl, ?_⟩
    ((conv => whnf); try dsimp only [List.set_cons_zero, List.set_cons_succ]); refine ⟨n + 1, _, _, rfl, hp1, by omega, by decide, by decide, fun k p2 k0' k1' hp2 => ?_⟩
    ((conv => whnf); try dsimp only [List.set_cons_zero, List.set_cons_succ]); refine ⟨rfl, ?_⟩
    ((conv => whnf); try dsimp only [List.set_cons_zero, List.set_cons_succ]); refine ⟨rfl, ?_⟩
    ((conv => whnf); try dsimp only [List.set_cons_zero, List.set_cons_succ]); (refine ⟨by show List.Perm [1, 0] (List.range 2); decide, ?_⟩)
    ((conv => whnf); try dsimp only [List.set_cons_zero, List.set_cons_succ]); refine ⟨a, mo, cs, ss, ps, B, l, b, p, k, m, rfl, oB, k0', hb, by rw [eL]; omega, by omega, by omega, ?_⟩
    rw [eL]
    ((conv => whnf); try dsimp only [List.set_cons_zero, List.set_cons_succ]); refine ⟨_, rfl, ?_⟩
    ((conv => whnf); try dsimp only [List.set_cons_zero, List.set_cons_succ]); refine ⟨_, rfl, ?_⟩
    ((conv => whnf); try dsimp only [List.set_cons_zero, List.set_cons_succ]); refine Br.tt ?_
    ((conv => whnf); try dsimp only [List.set_cons_zero, List.set_cons_succ]); refine ⟨rfl, ?_⟩
    ((conv => whnf); try dsimp only [List.set_cons_zero, List.set_cons_succ]); refine ⟨rfl, ?_⟩
    ((conv => whnf); try dsimp only [List.set_cons_zero, List.set_cons_succ]); refine ⟨rfl, ?_⟩
    ((conv => whnf); try dsimp only [List.set_cons_zero, List.set_cons_succ]); refine ⟨n + 4, _, _, _, _, _, ps, ms, B, lft ps ms l b p m + k, m, p, rfl, hp2, by omega, o, oB, pe, by omega, by omega, by omega, by omega, fun w' hp' => ?_⟩
    ((conv => whnf); try dsimp only [List.set_cons_zero, List.set_cons_succ]); exact hq w' _ _ _ ps ms B _ (hp'.mono (by omega)) o oB pe (by omega) (by omega) (by simp) (by simp) (.inl rfl)
theorem ok_law_called {Γ : Wd} (T : Tx Γ) : FnE Γ 7 "_law_called" [true, true, true, false, false, true] c_law_called :=
  fnE_of T.d_law_called sc_law_called (by intro _ _ _ _ _ _ _ _ us hl; exact match us, hl with | [_, _, _, _, _, _], _ => rfl) T.bn rfl (tr_law_called T) law_law_called

def c_law_fits : Con := fun svs Q _ => ∃ (n : Nat) (p : SV), svs = [p] ∧ Pool n p ∧ n ≤ 100000 ∧ ∀ p', Pool (n + 10000) p' → Q (.d (.bl true)) [p']
/-! _law_fits: well 0, lists 1, paces 2, marks 3, at 4, far 5, load 6, held 7, state 8, ticket 9, spot 10, turn 11, made 12, row 13 -/
theorem sc_law_fits : FnScope N_law_fits ["well"] (defScope st_law_fits) := ⟨rfl, rfl, rfl, by decide +kernel, rfl, by decide +kernel, by decide +kernel⟩
abbrev w_law_fits_1 : WS := wAsg 8 (wLst (wCons (wVar 2) (wCons (wVar 3) (wCons (wCall [true, false] c_law_left (wCons (wRef 8) (wCons (wVar 10) (wNil)))) (wCons (wVar 10) (wCons (wC (.bl true)) (wNil)))))))
abbrev w_law_fits_2 : WS := wAsg 10 (w2 kAdd (w2 kIdx (wVar 8) (wC (.int 3))) (wCall [true, false] c_law_gap (wCons (wRef 0) (wCons (wC (.int 12)) (wNil)))))
abbrev w_law_fits_3 : WS := wIf (wTst (w2 kGt (wCall [true, false] c_law_left (wCons (wRef 8) (wCons (wVar 10) (wNil)))) (wC (.int 0)))) (wSeq (wIf (wNotT (wTst (wCall [true, true, true, false, false, true] c_law_called (wCons (wRef 0) (wCons (wRef 9) (wCons (wRef 8) (wCons (wVar 1) (wCons (wVar 10) (wCons (wRef 7) (wNil)))))))))) (wRetF (wC (.bl false))) (wNext)) w_law_fits_2) (wNext)
abbrev w_law_fits_4 : WS := wRetF (w2 kEq (wLc (wIt (wVar 7)) (gTp 2 (gsCons (gNm 12) (gsCons (gNm 13) (gsNil)))) (wNotT (wTst (wEqO 0 [false, false] c_Calendar_eq (wVar 12) (wCall [false] c_law_built (wCons (wVar 13) (wNil)))))) (wC (.int 1)) [12, 13]) (wLst (wNil)))
abbrev w_law_fits_5 : WS := wSeq (wFor (wRng1 (wCons (wC (.int 4)) (wNil))) (gNm 11) w_law_fits_3) w_law_fits_4
abbrev w_law_fits_6 : WS := wSeq (wIf (wTst (w2 kEq (wCall [true, false] c_law_take (wCons (wRef 0) (wCons (wC (.int 3)) (wNil)))) (wC (.int 0)))) (wSeq (wExp (wMeth 1 [true, false] c_Ticket_pause (wRef 9) (wCons (wVar 10) (wNil)))) w_law_fits_1) (wNext)) w_law_fits_5
abbrev w_law_fits_7 : WS := wSeq (wPar2O 9 10 (wCons (wMakeO 1 [false, false, false] c_Ticket_init (wCons (w2 kIdx (w2 kIdx (wVar 7) (wC (.int 0))) (wC (.int 0))) (wCons (wVar 6) (wCons (wVar 4) (wNil))))) (wCons (w2 kAdd (wVar 4) (wVar 5)) (wNil)))) w_law_fits_6
abbrev w_law_fits_8 : WS := wSeq (wPar2O 7 8 (wCons (wLst (wCons (wLst (wCons (wCall [false] c_law_built (wCons (w2 kIdx (wVar 1) (wC (.int 0))) (wNil))) (wCons (w2 kIdx (wVar 1) (wC (.int 0))) (wNil)))) (wNil))) (wCons (wLst (wCons (wVar 2) (wCons (wVar 3) (wCons (wVar 6) (wCons (wVar 4) (wCons (wC (.bl false)) (wNil))))))) (wNil)))) w_law_fits_7
abbrev w_law_fits_9 : WS := wSeq (wAsg 6 (w2 kAdd (w2 kAdd (wCall [false, false, false, false] c_law_total (wCons (wVar 2) (wCons (wVar 3) (wCons (wVar 4) (wCons (w2 kAdd (wVar 4) (wVar 5)) (wNil)))))) (wC (.int 1))) (wCall [true, false] c_law_load (wCons (wRef 0) (wCons (wB kSum (wCons (wVar 2) (wNil))) (wNil)))))) w_law_fits_8
abbrev w_law_fits_10 : WS := wSeq (wPar2 4 5 (wCons (wCall [true, false, false] c_law_near (wCons (wRef 0) (wCons (wVar 3) (wCons (wC (.int 30)) (wNil))))) (wCons (wCall [true, false] c_law_gap (wCons (wRef 0) (wCons (wC (.int 40)) (wNil)))) (wNil)))) w_law_fits_9
abbrev w_law_fits_11 : WS := wSeq (wUnp (wSl (w2 kIdx (wVar 1) (wC (.int 0))) (wNoP) (wP (wC (.int 2)))) (gTp 2 (gsCons (gNm 2) (gsCons (gNm 3) (gsNil))))) w_law_fits_10
def w_law_fits : WS :=
  wSeq (wAsg 1 (wLc (wRng1 (wCons (wC (.int 3)) (wNil))) (gNm 11) (wYes) (wCall [true] c_law_lists (wCons (wRef 0) (wNil))) [11])) w_law_fits_11
theorem tr_law_fits {Γ : Wd} (T : Tx Γ) (X : Cx) (C : Ctx Γ X N_law_fits (defScope st_law_fits) (fun _ => true) 7) (P : Own X) (dc : DefCx X) : SSs Γ [0] X (defBody st_law_fits) w_law_fits :=
  sss_cons (ss_asgLc C 1 (own := [("turn", 11)]) (is := [11]) rfl rfl rfl rfl (by decide +kernel) (by decide +kernel) (by decide +kernel) (si_range1 C (sa_cons (se_int) (sa_nil))) (fun _ hX => sg_name hX.1 11) (fun _ hX => sts_nil) (fun _ hX => se_call hX.1 (FnE.mono (ok_law_lists T) (by decide)) (sa_cons (se_ref hX.1 0) (sa_nil))))
  (sss_cons (ss_unp (is := [2, 3]) (se_slice C (se_idx C (fun _ _ => rfl) (se_var C 1) (se_int)) (so_none) (so_some (se_int))) (sg_tup C (sgs_cons (sg_name C 2) (sgs_cons (sg_name C 3) (sgs_nil)))))
  (sss_cons (ss_par2 C 4 5 (sa_cons (se_call C (FnE.mono (ok_law_near T) (by decide)) (sa_cons (se_ref C 0) (sa_cons (se_var C 3) (sa_cons (se_int) (sa_nil))))) (sa_cons (se_call C (FnE.mono (ok_law_gap T) (by decide)) (sa_cons (se_ref C 0) (sa_cons (se_int) (sa_nil)))) (sa_nil))))
  (sss_cons (ss_asg C 6 (se_add (se_add (se_call C (FnE.mono (ok_law_total T) (by decide)) (sa_cons (se_var C 2) (sa_cons (se_var C 3) (sa_cons (se_var C 4) (sa_cons (se_add (se_var C 4) (se_var C 5)) (sa_nil)))))) (se_int)) (se_call C (FnE.mono (ok_law_load T) (by decide)) (sa_cons (se_ref C 0) (sa_cons (se_sum C (sa_cons (se_var C 2) (sa_nil))) (sa_nil))))))
  (sss_cons (ss_par2O C 7 8 (sa_cons (se_lst (sa_cons (se_lst (sa_cons (se_call C (FnE.mono (ok_law_built T) (by decide)) (sa_cons (se_idx C (fun _ _ => rfl) (se_var C 1) (se_int)) (sa_nil))) (sa_cons (se_idx C (fun _ _ => rfl) (se_var C 1) (se_int)) (sa_nil)))) (sa_nil))) (sa_cons (se_lst (sa_cons (se_var C 2) (sa_cons (se_var C 3) (sa_cons (se_var C 6) (sa_cons (se_var C 4) (sa_cons (se_bl) (sa_nil))))))) (sa_nil))))
  (sss_cons (ss_par2O C 9 10 (sa_cons (se_makeO C (MkE.mono (ok_Ticket_init T) (by decide)) (sa_cons (se_idx C (fun _ _ => rfl) (se_idx C (fun _ _ => rfl) (se_var C 7) (se_int)) (se_int)) (sa_cons (se_var C 6) (sa_cons (se_var C 4) (sa_nil))))) (sa_cons (se_add (se_var C 4) (se_var C 5)) (sa_nil))))
  (sss_cons (ss_if (st_eq C (se_call C (FnE.mono (ok_law_take T) (by decide)) (sa_cons (se_ref C 0) (sa_cons (se_int) (sa_nil)))) (se_int)) (sss_cons (ss_exp (se_meth C T.K_1 (MtE.mono (ok_Ticket_pause T) (by decide)) (se_ref C 9) (sa_cons (se_var C 10) (sa_nil))))
  (sss_one (ss_asg C 8 (se_lst (sa_cons (se_var C 2) (sa_cons (se_var C 3) (sa_cons (se_call C (FnE.mono (ok_law_left T) (by decide)) (sa_cons (se_ref C 8) (sa_cons (se_var C 10) (sa_nil)))) (sa_cons (se_var C 10) (sa_cons (se_bl) (sa_nil)))))))))) (sss_nil))
  (sss_cons (ss_for C P (is := [11]) (si_range1 C (sa_cons (se_int) (sa_nil))) (sg_name C 11) (sss_one (ss_if (st_gt  (se_call C (FnE.mono (ok_law_left T) (by decide)) (sa_cons (se_ref C 8) (sa_cons (se_var C 10) (sa_nil)))) (se_int)) (sss_cons (ss_if (st_not (st_val (se_call C (FnE.mono (ok_law_called T) (by decide)) (sa_cons (se_ref C 0) (sa_cons (se_ref C 9) (sa_cons (se_ref C 8) (sa_cons (se_var C 1) (sa_cons (se_var C 10) (sa_cons (se_ref C 7) (sa_nil)))))))))) (sss_one (ss_retF (se_bl))) (sss_nil))
  (sss_one (ss_asg C 10 (se_add (se_idx C (fun _ _ => rfl) (se_var C 8) (se_int)) (se_call C (FnE.mono (ok_law_gap T) (by decide)) (sa_cons (se_ref C 0) (sa_cons (se_int) (sa_nil)))))))) (sss_nil))))
  (sss_one (ss_retF (se_eq C (se_lc C (own := [("made", 12), ("row", 13)]) (is := [12, 13]) (by decide +kernel) (by decide +kernel) (si_seq (se_var C 7)) (fun _ hX => sg_tup hX.1 (sgs_cons (sg_name hX.1 12) (sgs_cons (sg_name hX.1 13) (sgs_nil)))) (fun _ hX => sts_one (st_not (st_eqO hX.1 (OpE.mono (ok_Calendar_eq T) (by decide)) (se_var hX.1 12) (se_call hX.1 (FnE.mono (ok_law_built T) (by decide)) (sa_cons (se_var hX.1 13) (sa_nil)))))) (fun _ hX => se_int)) (se_lst (sa_nil))))))))))))

def Held (hs : List D) : Prop := ∀ h ∈ hs, ∃ r : RowC, r.Ok ∧ h = .lst [calD r.P r.B, r.d]
theorem fits_end {w : SV} {x1 x2 x3 x4 x5 x6 x8 x9 x10 x11 : Option SV} {hs : List D} {DD : Nd} {E : EK} (hh : Held hs) (fin : ∀ σ : Rho, DD.rt (.d (.bl true)) (some w :: σ)) :
    w_law_fits_4 [some w, x1, x2, x3, x4, x5, x6, some (.lst hs), x8, x9, x10, x11, none, none] DD E := by
  ((conv => whnf); try dsimp only [List.set_cons_zero, List.set_cons_succ])
  refine compL_ind (fun ds acc ρ => ∃ as : List D, hs = as ++ ds ∧ acc = [] ∧ ρ = [some w, x1, x2, x3, x4, x5, x6, some (.d (.lst hs)), x8, x9, x10, x11, none, none]) ?_ ?_ _ _ _ ⟨[], rfl, rfl, rfl⟩
  · rintro acc ρ ⟨as, e, rfl, rfl⟩
    ((conv => whnf); try dsimp only [List.set_cons_zero, List.set_cons_succ]); refine ⟨few3 (by show 0 ≤ 1000; decide), ?_⟩
    ((conv => whnf); try dsimp only [List.set_cons_zero, List.set_cons_succ])
    refine ⟨⟨shp_of rfl (by decide), shp_of rfl (by decide)⟩, ?_⟩
    ((conv => whnf); try dsimp only [List.set_cons_zero, List.set_cons_succ]); exact fin _
  · rintro d ds acc ρ ⟨as, e, rfl, rfl⟩ ih
    obtain ⟨r, ro, rfl⟩ := hh d (by rw [e]; simp)
    ((conv => whnf); try dsimp only [List.set_cons_zero, List.set_cons_succ]); refine ⟨rfl, ?_⟩
    ((conv => whnf); try dsimp only [List.set_cons_zero, List.set_cons_succ]); refine ⟨r, rfl, ro, ?_⟩
    ((conv => whnf); try dsimp only [List.set_cons_zero, List.set_cons_succ]); refine ⟨rfl, rfl, ?_⟩
    ((conv => whnf); try dsimp only [List.set_cons_zero, List.set_cons_succ]); refine ⟨r.P, r.P, r.B, r.B, rfl, ?_⟩
    rw [decide_eq_true rfl, decide_eq_true rfl]
    ((conv => whnf); try dsimp only [List.set_cons_zero, List.set_cons_succ]); refine Br.ff ?_
    exact ih _ _ ⟨as ++ [.lst [calD r.P r.B, r.d]], by rw [e]; simp, rfl, rfl⟩
theorem fits_loop {r0 r1 r2 : RowC} {w : SV} {n : Nat} {x2 x3 x4 x5 x6 : Option SV} {P : List Int} {M B : List (Int × Int)} {l b sp : Int} {p : Bool} {a mo : D} {cs ss hs : List D} {DD : Nd} {E : EK} (k0 : r0.Ok) (k1 : r1.Ok) (k2 : r2.Ok) (hp : Pool n w) (hn : n ≤ 200000) (o : CalOk P M) (oB : CalOk P B) (pe : ∀ a, paceF P B a = paceF P M a) (l0 : 0 ≤ l) (l1 : l < 10 ^ 34) (hb : b ≤ sp) (s0 : -(10 ^ 33) < sp) (s1 : sp < 10 ^ 33) (lc : cs.length ≤ 10) (ls : ss.length ≤ 10) (lh : hs.length ≤ 10) (hh : Held hs)
    (fin : ∀ w' (σ : Rho), Pool (n + 200) w' → DD.rt (.d (.bl true)) (some w' :: σ)) :
    w_law_fits_5 [some w, some (.lst [r0.d, r1.d, r2.d]), x2, x3, x4, x5, x6, some (.lst hs), some (.lst [.lst (P.map D.int), .lst (M.map mkD), .int l, .int b, .bl p]), some (tkS a mo cs (ss ++ [stD P B l b p])), some (.d (.int sp)), none, none, none] DD E := by
  ((conv => whnf); try dsimp only [List.set_cons_zero, List.set_cons_succ]); refine ⟨by decide, by decide, ?_⟩
  refine forL_ind (fun ds ρ => ∃ (i : Nat) (w' : SV) (P : List Int) (M B : List (Int × Int)) (l b sp : Int) (cs ss hs : List D) (z1 x11 : Option SV), i + ds.length = 4 ∧ Pool (n + 25 * i) w' ∧ CalOk P M ∧ CalOk P B ∧ (∀ a, paceF P B a = paceF P M a) ∧ 0 ≤ l ∧ l < 10 ^ 34 + i * 10 ^ 33 ∧ b ≤ sp ∧ -(10 ^ 33) < sp ∧ sp < 10 ^ 33 + i * 10 ^ 31 ∧ cs.length ≤ 10 + i ∧ ss.length ≤ 10 + i ∧ hs.length ≤ 10 + i ∧ Held hs ∧ (z1 = some (.lst [r0.d, r1.d, r2.d]) ∨ z1 = some (.d (.lst [r0.d, r1.d, r2.d]))) ∧
    ρ = [some w', z1, x2, x3, x4, x5, x6, some (.lst hs), some (.lst [.lst (P.map D.int), .lst (M.map mkD), .int l, .int b, .bl p]), some (tkS a mo cs (ss ++ [stD P B l b p])), some (.d (.int sp)), x11, none, none]) ?_ ?_ _ _
    ⟨0, w, P, M, B, l, b, sp, cs, ss, hs, _, none, rfl, hp, o, oB, pe, l0, by omega, hb, s0, by omega, by omega, by omega, by omega, hh, .inl rfl, rfl⟩
  · rintro ρ ⟨i, w', P, M, B, l, b, sp, cs, ss, hs, z1, x11, hi, hp, o, oB, pe, l0, l1, hb, s0, s1, lc, ls, lh, hh, h1, rfl⟩
    simp only [List.length_nil] at hi
    exact fits_end hh fun σ => fin w' σ (hp.mono (by omega))
  · rintro d ds ρ ⟨i, w', P, M, B, l, b, sp, cs, ss, hs, z1, x11, hi, hp, o, oB, pe, l0, l1, hb, s0, s1, lc, ls, lh, hh, h1, rfl⟩ ih
    simp only [List.length_cons] at hi
    have lb := lft_bd o (b := b) (m := sp) (p := p) l0
    rcases h1 with rfl | rfl
    all_goals
      ((conv => whnf); try dsimp only [List.set_cons_zero, List.set_cons_succ]); refine ⟨rfl, ?_⟩
      ((conv => whnf); try dsimp only [List.set_cons_zero, List.set_cons_succ]); refine ⟨_, P, M, l, b, p, sp, rfl, .inl rfl, o, hb, ?_⟩
      ((conv => whnf); try dsimp only [List.set_cons_zero, List.set_cons_succ]); refine Br.of (fun z => ?_) (fun z => ?_)
      · have z' : 0 < lft P M l b p sp := z
        ((conv => whnf); try dsimp only [List.set_cons_zero, List.set_cons_succ]); refine ⟨rfl, ?_⟩
        ((conv => whnf); try dsimp only [List.set_cons_zero, List.set_cons_succ]); refine ⟨rfl, ?_⟩
        ((conv => whnf); try dsimp only [List.set_cons_zero, List.set_cons_succ]); refine ⟨rfl, ?_⟩
        ((conv => whnf); try dsimp only [List.set_cons_zero, List.set_cons_succ]); refine ⟨rfl, ?_⟩
        ((conv => whnf); try dsimp only [List.set_cons_zero, List.set_cons_succ]); refine ⟨_, _, a, mo, cs, ss, hs, P, M, B, l, b, sp, p, r0, r1, r2, rfl, hp, by omega, o, oB, pe, k0, k1, k2, hb, l0, by omega, by omega, by omega, z', by omega, by omega, by omega, fun w2 cs' ss' hs' P' M' B' l' hp2 o' oB' pe' l0' l1' lc' ls' hh' => ?_⟩
        have lh' : hs'.length ≤ hs.length + 1 := by rcases hh' with rfl | ⟨_, _, rfl⟩ <;> simp
        have hh2 : Held hs' := by
          rcases hh' with rfl | ⟨r, ro, rfl⟩
          · exact hh
          · intro h hm
            rcases List.mem_append.mp hm with q | q
            · exact hh h q
            · simp at q; exact ⟨r, ro, q⟩
        ((conv => whnf); try dsimp only [List.set_cons_zero, List.set_cons_succ]); refine Br.ff ?_
        ((conv => whnf); try dsimp only [List.set_cons_zero, List.set_cons_succ]); refine ⟨_, rfl, ?_⟩
        ((conv => whnf); try dsimp only [List.set_cons_zero, List.set_cons_succ]); refine ⟨rfl, ?_⟩
        ((conv => whnf); try dsimp only [List.set_cons_zero, List.set_cons_succ]); refine ⟨_, _, _, rfl, hp2, by omega, (by show (0 : Int) < _; decide), by decide, fun g w3 g0 g1 hp3 => ?_⟩
        exact ⟨_, Fgt.refl _, ih _ ⟨i + 1, w3, P', M', B', l', sp, sp + g, cs', ss', hs', _, _, by omega, hp3.mono (by omega), o', oB', pe', l0', by omega, by omega, by omega, by omega, by omega, by omega, by omega, hh2, .inr rfl, rfl⟩⟩
      · exact ⟨_, Fgt.refl _, ih _ ⟨i + 1, w', P, M, B, l, b, sp, cs, ss, hs, _, _, by omega, hp.mono (by omega), o, oB, pe, l0, by omega, hb, s0, by omega, by omega, by omega, by omega, hh, by first | exact .inl rfl | exact .inr rfl, rfl⟩⟩
theorem law_law_fits : LawOf N_law_fits [true] c_law_fits w_law_fits := by
  rintro svs Q E - ⟨n, p, rfl, hp, hn, hq⟩
  show w_law_fits [some p, none, none, none, none, none, none, none, none, none, none, none, none, none] _ _
  ((conv => whnf); try dsimp only [List.set_cons_zero, List.set_cons_succ]); refine ⟨by decide, by decide, ?_⟩
  refine compL_ind (fun ds acc ρ => ∃ (rs : List RowC) (w : SV), rs.length + ds.length = 3 ∧ acc = rs.map RowC.d ∧ (∀ r ∈ rs, r.Ok) ∧ Pool (n + 700 * rs.length) w ∧ ρ = [some w, none, none, none, none, none, none, none, none, none, none, none, none, none]) ?_ ?_ _ _ _ ⟨[], p, rfl, rfl, (fun _ h => nomatch h), hp, rfl⟩
  · rintro acc ρ ⟨rs, w, hl, rfl, ok, hp1, rfl⟩
    simp only [List.length_nil] at hl
    match rs, hl, ok, hp1 with
    | [r0, r1, r2], hl, ok, hp1 =>
      have k0 := ok r0 (by simp)
      have k1 := ok r1 (by simp)
      have k2 := ok r2 (by simp)
      have o := k0.calM
      have oB := k0.calB
      have fl := k0.flen
      have fb := k0.fbd
      have sb := k0.shb
      have s00 := sum_bd' o.wk.bd
      have s36 := sum_le3 o.wk.bd
      have le := o.le
      have lm : r0.M.length ≤ 12 := by unfold RowC.M; rw [movM_length]; exact fl
      have bm : ∀ m ∈ r0.M, -(10 ^ 32) < m.1 ∧ m.1 < 10 ^ 32 := fun m hm => by
        unfold RowC.M at hm
        obtain ⟨q, h1, rfl⟩ := List.mem_map.mp hm
        have := fb q h1
        show _ < q.1 + r0.sh ∧ q.1 + r0.sh < _
        omega
      replace hp1 : Pool (n + 2100) w := hp1
      ((conv => whnf); try dsimp only [List.set_cons_zero, List.set_cons_succ]); refine ⟨r0.d, rfl, ?_⟩
      ((conv => whnf); try dsimp only [List.set_cons_zero, List.set_cons_succ]); refine ⟨rfl, ?_⟩
      ((conv => whnf); try dsimp only [List.set_cons_zero, List.set_cons_succ]); refine ⟨rfl, ?_⟩
      ((conv => whnf); try dsimp only [List.set_cons_zero, List.set_cons_succ]); refine ⟨n + 2100, _, r0.M, _, rfl, hp1, by omega, bm, by omega, by decide, by decide, fun a p5 a0 a1 hp5 => ?_⟩
      ((conv => whnf); try dsimp only [List.set_cons_zero, List.set_cons_succ]); refine ⟨rfl, ?_⟩
      ((conv => whnf); try dsimp only [List.set_cons_zero, List.set_cons_succ]); refine ⟨n + 2106, _, _, rfl, hp5, by omega, (by show (0 : Int) < _; decide), by decide, fun f p6 f0 f1 hp6 => ?_⟩
      ((conv => whnf); try dsimp only [List.set_cons_zero, List.set_cons_succ]); refine ⟨r0.P, r0.M, a, a + f, rfl, o.wk, o.pos, o.le, o.mks, by omega, ?_⟩
      ((conv => whnf); try dsimp only [List.set_cons_zero, List.set_cons_succ]); refine ⟨rfl, ?_⟩
      ((conv => whnf); try dsimp only [List.set_cons_zero, List.set_cons_succ]); refine ⟨r0.P, rfl, ?_⟩
      ((conv => whnf); try dsimp only [List.set_cons_zero, List.set_cons_succ]); refine ⟨n + 2111, _, _, rfl, hp6, by omega, s00, by omega, fun ld p7 ld0 ld1 hp7 => ?_⟩
      have sp := stepSum_bd o.wk o.pos o.mks a (a + f - a).toNat
      have sp' : 0 ≤ spanSum r0.P r0.M a (a + f) ∧ spanSum r0.P r0.M a (a + f) ≤ 3 * f := ⟨sp.1, by have := sp.2; show stepSum r0.P r0.M a (a + f - a).toNat ≤ _; omega⟩
      obtain ⟨L, eL⟩ : ∃ L, spanSum r0.P r0.M a (a + f) + 1 + ld = L := ⟨_, rfl⟩
      have hL : 0 ≤ L ∧ L < 10 ^ 33 := by omega
      ((conv => whnf); try dsimp only [List.set_cons_zero, List.set_cons_succ]); rw [eL]
      refine ⟨r0.d, rfl, ?_⟩
      ((conv => whnf); try dsimp only [List.set_cons_zero, List.set_cons_succ]); refine ⟨r0, rfl, k0, ?_⟩
      ((conv => whnf); try dsimp only [List.set_cons_zero, List.set_cons_succ]); refine ⟨r0.d, rfl, ?_⟩
      ((conv => whnf); try dsimp only [List.set_cons_zero, List.set_cons_succ]); refine ⟨few3 (by show 2 ≤ 1000; decide), ?_⟩
      ((conv => whnf); try dsimp only [List.set_cons_zero, List.set_cons_succ]); refine ⟨few3 (by show 1 ≤ 1000; decide), ?_⟩
      ((conv => whnf); try dsimp only [List.set_cons_zero, List.set_cons_succ]); refine ⟨few3 (by show 5 ≤ 1000; decide), ?_⟩
      ((conv => whnf); try dsimp only [List.set_cons_zero, List.set_cons_succ]); refine ⟨trivial, trivial, ?_⟩
      ((conv => whnf); try dsimp only [List.set_cons_zero, List.set_cons_succ]); refine ⟨.lst [calD r0.P r0.B, r0.d], rfl, ?_⟩
      ((conv => whnf); try dsimp only [List.set_cons_zero, List.set_cons_succ]); refine ⟨calD r0.P r0.B, rfl, ?_⟩
      ((conv => whnf); try dsimp only [List.set_cons_zero, List.set_cons_succ]); refine ⟨r0.P, r0.B, L, a, rfl, hL.1, rfl, _, _, rfl, ?_⟩
      ((conv => whnf); try dsimp only [List.set_cons_zero, List.set_cons_succ]); refine ⟨trivial, trivial, ?_⟩
      ((conv => whnf); try dsimp only [List.set_cons_zero, List.set_cons_succ]); refine ⟨rfl, ?_⟩
      ((conv => whnf); try dsimp only [List.set_cons_zero, List.set_cons_succ]); refine ⟨n + 2120, _, _, rfl, hp7.mono (by omega), by omega, (by show (0 : Int) < _; decide), by decide, fun y p8 y0 y1 hp8 => ?_⟩
      have held : Held [.lst [calD r0.P r0.B, r0.d]] := fun h hm => by simp at hm; exact ⟨r0, k0, hm⟩
      ((conv => whnf); try dsimp only [List.set_cons_zero, List.set_cons_succ]); refine Br.of (fun z => ?_) (fun z => ?_)
      · have lft1 : lft r0.P r0.M L a false (a + f) = 1 + ld := by
          show (if L - spanSum r0.P r0.M a (a + f) > 0 then L - spanSum r0.P r0.M a (a + f) else 0) = _
          rw [if_pos (by omega)]; omega
        have lft2 : lft r0.P r0.B L a false (a + f) = 1 + ld := by rw [lft_eq k0.pace, lft1]
        ((conv => whnf); try dsimp only [List.set_cons_zero, List.set_cons_succ]); refine ⟨rfl, ?_⟩
        ((conv => whnf); try dsimp only [List.set_cons_zero, List.set_cons_succ]); refine ⟨rfl, ?_⟩
        ((conv => whnf); try dsimp only [List.set_cons_zero, List.set_cons_succ]); refine ⟨_, _, [], [], r0.P, r0.B, L, a, a + f, rfl, oB, by omega, by rw [lft2]; omega, (by show 0 ≤ 900; decide), (by show 0 ≤ 900; decide), ?_⟩
        rw [lft2]
        ((conv => whnf); try dsimp only [List.set_cons_zero, List.set_cons_succ]); refine ⟨rfl, ?_⟩
        ((conv => whnf); try dsimp only [List.set_cons_zero, List.set_cons_succ]); refine ⟨_, r0.P, r0.M, L, a, false, a + f, rfl, .inl rfl, o, by omega, ?_⟩
        rw [lft1]
        ((conv => whnf); try dsimp only [List.set_cons_zero, List.set_cons_succ]); refine ⟨few3 (by show 5 ≤ 1000; decide), ?_⟩
        exact fits_loop k0 k1 k2 hp8 (by omega) o oB k0.pace (by omega) (by omega) (Int.le_refl _) (by omega) (by omega) (by show 1 ≤ 10; decide) (by show 1 ≤ 10; decide) (by show 1 ≤ 10; decide) held fun w' σ h => hq w' (h.mono (by omega))
      · exact fits_loop (cs := []) (ss := []) k0 k1 k2 hp8 (by omega) o oB k0.pace hL.1 (by omega) (by omega : a ≤ a + f) (by omega) (by omega) (by show 0 ≤ 10; decide) (by show 0 ≤ 10; decide) (by show 1 ≤ 10; decide) held fun w' σ h => hq w' (h.mono (by omega))
  · rintro d ds acc ρ ⟨rs, w, hl, rfl, ok, hp1, rfl⟩ ih
    simp only [List.length_cons] at hl
    ((conv => whnf); try dsimp only [List.set_cons_zero, List.set_cons_succ]); refine Br.tt ?_
    ((conv => whnf); try dsimp only [List.set_cons_zero, List.set_cons_succ]); refine ⟨rfl, ?_⟩
    ((conv => whnf); try dsimp only [List.set_cons_zero, List.set_cons_succ]); refine ⟨_, _, rfl, hp1, by omega, fun w' r hp2 ro => ?_⟩
    ((conv => whnf); try dsimp only [List.set_cons_zero, List.set_cons_succ]); refine ⟨by simp; omega, ?_⟩
    exact ih _ _ ⟨rs ++ [r], w', by simp; omega, by simp, fun q hq => by
      rcases List.mem_append.mp hq with h | h
      · exact ok q h
      · simp at h; subst h; exact ro, hp2.mono (by simp; omega), rfl⟩
theorem ok_law_fits {Γ : Wd} (T : Tx Γ) : FnE Γ 8 "_law_fits" [true] c_law_fits :=
  fnE_of T.d_law_fits sc_law_fits (by intro _ _ _ _ _ _ _ _ us hl; exact match us, hl with | [_], _ => rfl) T.bn rfl (tr_law_fits T) law_law_fits

/-! law: script 0, place 1, well 2, turn 3 -/
theorem sc_law : FnScope N_law ["script"] (defScope st_law) := ⟨rfl, rfl, rfl, by decide +kernel, rfl, by decide +kernel, by decide +kernel⟩
abbrev w_law_1 : WS := wIf (wNotT (wTst (wCall [true] c_law_fits (wCons (wRef 2) (wNil))))) (wRetF (wC (.bl false))) (wNext)
abbrev w_law_2 : WS := wFor (wRng1 (wCons (wC (.int 1)) (wNil))) (gNm 3) w_law_1
abbrev w_law_3 : WS := wSeq (wAsg 2 (wCall [false, false] c_law_well (wCons (wVar 0) (wCons (wVar 1) (wNil))))) w_law_2
abbrev w_law_4 : WS := wRetF (wC (.bl true))
def w_law : WS :=
  wSeq (wFor (wRng1 (wCons (wB kMax (wCons (wC (.int 1)) (wCons (wB kMin (wCons (wC (.int 63)) (wCons (wB kLen (wCons (wVar 0) (wNil))) (wNil)))) (wNil)))) (wNil))) (gNm 1) w_law_3) w_law_4
theorem tr_law {Γ : Wd} (T : Tx Γ) (X : Cx) (C : Ctx Γ X N_law (defScope st_law) (fun _ => true) 8) (P : Own X) (dc : DefCx X) : SSs Γ [] X (defBody st_law) w_law :=
  sss_cons (ss_for C P (is := [1]) (si_range1 C (sa_cons (se_max C (sa_cons (se_int) (sa_cons (se_min C (sa_cons (se_int) (sa_cons (se_len C (sa_cons (se_var C 0) (sa_nil))) (sa_nil)))) (sa_nil)))) (sa_nil))) (sg_name C 1) (sss_cons (ss_asg C 2 (se_call C (FnE.mono (ok_law_well T) (by decide)) (sa_cons (se_var C 0) (sa_cons (se_var C 1) (sa_nil)))))
  (sss_one (ss_for C P (is := [3]) (si_range1 C (sa_cons (se_int) (sa_nil))) (sg_name C 3) (sss_one (ss_if (st_not (st_val (se_call C (FnE.mono (ok_law_fits T) (by decide)) (sa_cons (se_ref C 2) (sa_nil))))) (sss_one (ss_retF (se_bl))) (sss_nil)))))))
  (sss_one (ss_retF (se_bl)))

theorem law_law : LawOf N_law [false] c_law w_law := by
  rintro svs Q E - ⟨ns, rfl, few, hq⟩
  ((conv => whnf); try dsimp only [List.set_cons_zero, List.set_cons_succ])
  have hk : ∀ m : Int, m ≤ 63 → (if (if m < 63 then m else 63) > 1 then if m < 63 then m else 63 else 1) ≤ 63 ∧ 1 ≤ (if (if m < 63 then m else 63) > 1 then if m < 63 then m else 63 else 1) := fun m h => by
    split <;> split at * <;> omega
  have hk := hk ns.length (by omega)
  generalize (if (if (ns.length : Int) < 63 then (ns.length : Int) else 63) > 1 then if (ns.length : Int) < 63 then (ns.length : Int) else 63 else 1) = kk at hk ⊢
  refine ⟨by omega, by omega, ?_⟩
  refine forL_ind (fun ds ρ => ∃ (zs : List Nat) (x y z : Option SV), ds = zs.map (fun (i : Nat) => D.int (0 + (i : Int))) ∧ (∀ i ∈ zs, i < 64) ∧ ρ = [some (.d (.scr ns)), x, y, z]) ?_ ?_ _ _ ⟨List.range kk.toNat, none, none, none, rfl, fun i hi => by
    have := List.mem_range.mp hi; omega, rfl⟩
  · rintro ρ ⟨zs, x, y, z, e, hz, rfl⟩
    ((conv => whnf); try dsimp only [List.set_cons_zero, List.set_cons_succ]); exact hq
  · rintro d ds ρ ⟨zs, x, y, z, e, hz, rfl⟩ ih
    cases zs with
    | nil => cases e
    | cons i zs =>
      cases e
      have hi := hz i (by simp)
      ((conv => whnf); try dsimp only [List.set_cons_zero, List.set_cons_succ]); refine ⟨ns, 0 + (i : Int), rfl, by omega, by omega, fun p hp => ?_⟩
      obtain ⟨a, b, c, rfl, pb⟩ := id hp
      ((conv => whnf); try dsimp only [List.set_cons_zero, List.set_cons_succ]); refine ⟨by decide, by decide, ?_⟩
      refine forL_ind (fun ds ρ => ∃ (n : Nat) (p : SV) (y : Option SV), n + 10000 * ds.length ≤ 100000 ∧ Pool n p ∧ ρ = [some (.d (.scr ns)), some (.d (.int (0 + (i : Int)))), some p, y]) ?_ ?_ _ _ ⟨0, _, _, by decide, hp, rfl⟩
      · rintro ρ ⟨n, p, y, hn, hp, rfl⟩
        exact ⟨_, Fgt.refl _, ih _ ⟨zs, _, _, _, rfl, fun j hj => hz j (by simp [hj]), rfl⟩⟩
      · rintro d ds ρ ⟨n, p, y, hn, hp, rfl⟩ ih2
        ((conv => whnf); try dsimp only [List.set_cons_zero, List.set_cons_succ]); refine ⟨rfl, ?_⟩
        ((conv => whnf); try dsimp only [List.set_cons_zero, List.set_cons_succ]); refine ⟨n, _, rfl, hp, by simp at hn; omega, fun p' hp' => ?_⟩
        ((conv => whnf); try dsimp only [List.set_cons_zero, List.set_cons_succ]); refine Br.ff ?_
        exact ⟨_, Fgt.refl _, ih2 _ ⟨n + 10000, _, _, by simp at hn; omega, hp', rfl⟩⟩

theorem mem_cases_0 {f : Str} (h : f ∈ [("week_speeds" : Str), ("real_changes" : Str)]) : f = "week_speeds" ∨ f = "real_changes" := by simpa using h
theorem mem_cases_1 {f : Str} (h : f ∈ [("asked" : Str), ("most" : Str), ("calls" : Str), ("states" : Str)]) : f = "asked" ∨ f = "most" ∨ f = "calls" ∨ f = "states" := by simpa using h
def clOf (C0 C1 : Addr) : Nat → Cl := fun n => match n with | 0 => ⟨C0, ["week_speeds", "real_changes"]⟩ | 1 => ⟨C1, ["asked", "most", "calls", "states"]⟩ | _ => default
theorem all_mk {P : Program} {w : World} {K : PySem.W.Frag} {h : Heap} {mg : Str → Option Value} {fa : Addr} (X : K.In h) (G : h.Ns mainGlobals mg) (hfa : mg "law" = some (.ref fa))
    {t_LONGEST_WEEK : Tok}
    {t_FASTEST : Tok}
    {C0 : Addr}
    {C1 : Addr}
    {f_law_well : Addr} {od_law_well an_law_well : Option Addr} {sl_law_well : Array (Option Value)} {oc_law_well kV_law_well dc_law_well pm_law_well cd_law_well ct_law_well : Value}
    {f_law_take : Addr} {od_law_take an_law_take : Option Addr} {sl_law_take : Array (Option Value)} {oc_law_take kV_law_take dc_law_take pm_law_take cd_law_take ct_law_take : Value}
    {f_law_number : Addr} {od_law_number an_law_number : Option Addr} {sl_law_number : Array (Option Value)} {oc_law_number kV_law_number dc_law_number pm_law_number cd_law_number ct_law_number : Value}
    {f_law_load : Addr} {od_law_load an_law_load : Option Addr} {sl_law_load : Array (Option Value)} {oc_law_load kV_law_load dc_law_load pm_law_load cd_law_load ct_law_load : Value}
    {f_law_paces : Addr} {od_law_paces an_law_paces : Option Addr} {sl_law_paces : Array (Option Value)} {oc_law_paces kV_law_paces dc_law_paces pm_law_paces cd_law_paces ct_law_paces : Value}
    {f_law_marks : Addr} {od_law_marks an_law_marks : Option Addr} {sl_law_marks : Array (Option Value)} {oc_law_marks kV_law_marks dc_law_marks pm_law_marks cd_law_marks ct_law_marks : Value}
    {f_law_pace : Addr} {od_law_pace an_law_pace : Option Addr} {sl_law_pace : Array (Option Value)} {oc_law_pace kV_law_pace dc_law_pace pm_law_pace cd_law_pace ct_law_pace : Value}
    {f_law_near : Addr} {od_law_near an_law_near : Option Addr} {sl_law_near : Array (Option Value)} {oc_law_near kV_law_near dc_law_near pm_law_near cd_law_near ct_law_near : Value}
    {f_law_total : Addr} {od_law_total an_law_total : Option Addr} {sl_law_total : Array (Option Value)} {oc_law_total kV_law_total dc_law_total pm_law_total cd_law_total ct_law_total : Value}
    {f_law_is_end : Addr} {od_law_is_end an_law_is_end : Option Addr} {sl_law_is_end : Array (Option Value)} {oc_law_is_end kV_law_is_end dc_law_is_end pm_law_is_end cd_law_is_end ct_law_is_end : Value}
    {f_law_left : Addr} {od_law_left an_law_left : Option Addr} {sl_law_left : Array (Option Value)} {oc_law_left kV_law_left dc_law_left pm_law_left cd_law_left ct_law_left : Value}
    {f_law_gap : Addr} {od_law_gap an_law_gap : Option Addr} {sl_law_gap : Array (Option Value)} {oc_law_gap kV_law_gap dc_law_gap pm_law_gap cd_law_gap ct_law_gap : Value}
    {f_law_is_wait : Addr} {od_law_is_wait an_law_is_wait : Option Addr} {sl_law_is_wait : Array (Option Value)} {oc_law_is_wait kV_law_is_wait dc_law_is_wait pm_law_is_wait cd_law_is_wait ct_law_is_wait : Value}
    {f_law_lists : Addr} {od_law_lists an_law_lists : Option Addr} {sl_law_lists : Array (Option Value)} {oc_law_lists kV_law_lists dc_law_lists pm_law_lists cd_law_lists ct_law_lists : Value}
    {f_check_weeks : Addr} {od_check_weeks an_check_weeks : Option Addr} {sl_check_weeks : Array (Option Value)} {oc_check_weeks kV_check_weeks dc_check_weeks pm_check_weeks cd_check_weeks ct_check_weeks : Value}
    {f_check_speeds : Addr} {od_check_speeds an_check_speeds : Option Addr} {sl_check_speeds : Array (Option Value)} {oc_check_speeds kV_check_speeds dc_check_speeds pm_check_speeds cd_check_speeds ct_check_speeds : Value}
    {f_check_changes : Addr} {od_check_changes an_check_changes : Option Addr} {sl_check_changes : Array (Option Value)} {oc_check_changes kV_check_changes dc_check_changes pm_check_changes cd_check_changes ct_check_changes : Value}
    {f_speed_at : Addr} {od_speed_at an_speed_at : Option Addr} {sl_speed_at : Array (Option Value)} {oc_speed_at kV_speed_at dc_speed_at pm_speed_at cd_speed_at ct_speed_at : Value}
    {f_Calendar_init : Addr} {od_Calendar_init an_Calendar_init : Option Addr} {sl_Calendar_init : Array (Option Value)} {oc_Calendar_init kV_Calendar_init dc_Calendar_init pm_Calendar_init cd_Calendar_init ct_Calendar_init : Value}
    {f_Calendar_speeds : Addr} {od_Calendar_speeds an_Calendar_speeds : Option Addr} {sl_Calendar_speeds : Array (Option Value)} {oc_Calendar_speeds kV_Calendar_speeds dc_Calendar_speeds pm_Calendar_speeds cd_Calendar_speeds ct_Calendar_speeds : Value}
    {p_Calendar_speeds : Addr} {r_Calendar_speeds : List Value}
    {f_Calendar_changes : Addr} {od_Calendar_changes an_Calendar_changes : Option Addr} {sl_Calendar_changes : Array (Option Value)} {oc_Calendar_changes kV_Calendar_changes dc_Calendar_changes pm_Calendar_changes cd_Calendar_changes ct_Calendar_changes : Value}
    {p_Calendar_changes : Addr} {r_Calendar_changes : List Value}
    {f_Calendar_or : Addr} {od_Calendar_or an_Calendar_or : Option Addr} {sl_Calendar_or : Array (Option Value)} {oc_Calendar_or kV_Calendar_or dc_Calendar_or pm_Calendar_or cd_Calendar_or ct_Calendar_or : Value}
    {f_Calendar_and : Addr} {od_Calendar_and an_Calendar_and : Option Addr} {sl_Calendar_and : Array (Option Value)} {oc_Calendar_and kV_Calendar_and dc_Calendar_and pm_Calendar_and cd_Calendar_and ct_Calendar_and : Value}
    {f_Calendar_moved : Addr} {od_Calendar_moved an_Calendar_moved : Option Addr} {sl_Calendar_moved : Array (Option Value)} {oc_Calendar_moved kV_Calendar_moved dc_Calendar_moved pm_Calendar_moved cd_Calendar_moved ct_Calendar_moved : Value}
    {f_Calendar_eq : Addr} {od_Calendar_eq an_Calendar_eq : Option Addr} {sl_Calendar_eq : Array (Option Value)} {oc_Calendar_eq kV_Calendar_eq dc_Calendar_eq pm_Calendar_eq cd_Calendar_eq ct_Calendar_eq : Value}
    {f_check_span : Addr} {od_check_span an_check_span : Option Addr} {sl_check_span : Array (Option Value)} {oc_check_span kV_check_span dc_check_span pm_check_span cd_check_span ct_check_span : Value}
    {f_work_of_weeks : Addr} {od_work_of_weeks an_work_of_weeks : Option Addr} {sl_work_of_weeks : Array (Option Value)} {oc_work_of_weeks kV_work_of_weeks dc_work_of_weeks pm_work_of_weeks cd_work_of_weeks ct_work_of_weeks : Value}
    {f_end_of_weeks : Addr} {od_end_of_weeks an_end_of_weeks : Option Addr} {sl_end_of_weeks : Array (Option Value)} {oc_end_of_weeks kV_end_of_weeks dc_end_of_weeks pm_end_of_weeks cd_end_of_weeks ct_end_of_weeks : Value}
    {f_begin_of_weeks : Addr} {od_begin_of_weeks an_begin_of_weeks : Option Addr} {sl_begin_of_weeks : Array (Option Value)} {oc_begin_of_weeks kV_begin_of_weeks dc_begin_of_weeks pm_begin_of_weeks cd_begin_of_weeks ct_begin_of_weeks : Value}
    {f_check_amount : Addr} {od_check_amount an_check_amount : Option Addr} {sl_check_amount : Array (Option Value)} {oc_check_amount kV_check_amount dc_check_amount pm_check_amount cd_check_amount ct_check_amount : Value}
    {f_work : Addr} {od_work an_work : Option Addr} {sl_work : Array (Option Value)} {oc_work kV_work dc_work pm_work cd_work ct_work : Value}
    {f_due : Addr} {od_due an_due : Option Addr} {sl_due : Array (Option Value)} {oc_due kV_due dc_due pm_due cd_due ct_due : Value}
    {f_latest : Addr} {od_latest an_latest : Option Addr} {sl_latest : Array (Option Value)} {oc_latest kV_latest dc_latest pm_latest cd_latest ct_latest : Value}
    {f_left_of : Addr} {od_left_of an_left_of : Option Addr} {sl_left_of : Array (Option Value)} {oc_left_of kV_left_of dc_left_of pm_left_of cd_left_of ct_left_of : Value}
    {f_Ticket_init : Addr} {od_Ticket_init an_Ticket_init : Option Addr} {sl_Ticket_init : Array (Option Value)} {oc_Ticket_init kV_Ticket_init dc_Ticket_init pm_Ticket_init cd_Ticket_init ct_Ticket_init : Value}
    {f_Ticket_moment : Addr} {od_Ticket_moment an_Ticket_moment : Option Addr} {sl_Ticket_moment : Array (Option Value)} {oc_Ticket_moment kV_Ticket_moment dc_Ticket_moment pm_Ticket_moment cd_Ticket_moment ct_Ticket_moment : Value}
    {p_Ticket_moment : Addr} {r_Ticket_moment : List Value}
    {f_Ticket_left : Addr} {od_Ticket_left an_Ticket_left : Option Addr} {sl_Ticket_left : Array (Option Value)} {oc_Ticket_left kV_Ticket_left dc_Ticket_left pm_Ticket_left cd_Ticket_left ct_Ticket_left : Value}
    {p_Ticket_left : Addr} {r_Ticket_left : List Value}
    {f_Ticket_is_paused : Addr} {od_Ticket_is_paused an_Ticket_is_paused : Option Addr} {sl_Ticket_is_paused : Array (Option Value)} {oc_Ticket_is_paused kV_Ticket_is_paused dc_Ticket_is_paused pm_Ticket_is_paused cd_Ticket_is_paused ct_Ticket_is_paused : Value}
    {p_Ticket_is_paused : Addr} {r_Ticket_is_paused : List Value}
    {f_Ticket_left_at : Addr} {od_Ticket_left_at an_Ticket_left_at : Option Addr} {sl_Ticket_left_at : Array (Option Value)} {oc_Ticket_left_at kV_Ticket_left_at dc_Ticket_left_at pm_Ticket_left_at cd_Ticket_left_at ct_Ticket_left_at : Value}
    {f_Ticket_done_at : Addr} {od_Ticket_done_at an_Ticket_done_at : Option Addr} {sl_Ticket_done_at : Array (Option Value)} {oc_Ticket_done_at kV_Ticket_done_at dc_Ticket_done_at pm_Ticket_done_at cd_Ticket_done_at ct_Ticket_done_at : Value}
    {f_Ticket_can_wait : Addr} {od_Ticket_can_wait an_Ticket_can_wait : Option Addr} {sl_Ticket_can_wait : Array (Option Value)} {oc_Ticket_can_wait kV_Ticket_can_wait dc_Ticket_can_wait pm_Ticket_can_wait cd_Ticket_can_wait ct_Ticket_can_wait : Value}
    {f_Ticket_note : Addr} {od_Ticket_note an_Ticket_note : Option Addr} {sl_Ticket_note : Array (Option Value)} {oc_Ticket_note kV_Ticket_note dc_Ticket_note pm_Ticket_note cd_Ticket_note ct_Ticket_note : Value}
    {f_Ticket_pause : Addr} {od_Ticket_pause an_Ticket_pause : Option Addr} {sl_Ticket_pause : Array (Option Value)} {oc_Ticket_pause kV_Ticket_pause dc_Ticket_pause pm_Ticket_pause cd_Ticket_pause ct_Ticket_pause : Value}
    {f_Ticket_switch : Addr} {od_Ticket_switch an_Ticket_switch : Option Addr} {sl_Ticket_switch : Array (Option Value)} {oc_Ticket_switch kV_Ticket_switch dc_Ticket_switch pm_Ticket_switch cd_Ticket_switch ct_Ticket_switch : Value}
    {f_Ticket_enlarge : Addr} {od_Ticket_enlarge an_Ticket_enlarge : Option Addr} {sl_Ticket_enlarge : Array (Option Value)} {oc_Ticket_enlarge kV_Ticket_enlarge dc_Ticket_enlarge pm_Ticket_enlarge cd_Ticket_enlarge ct_Ticket_enlarge : Value}
    {f_law_told : Addr} {od_law_told an_law_told : Option Addr} {sl_law_told : Array (Option Value)} {oc_law_told kV_law_told dc_law_told pm_law_told cd_law_told ct_law_told : Value}
    {f_law_built : Addr} {od_law_built an_law_built : Option Addr} {sl_law_built : Array (Option Value)} {oc_law_built kV_law_built dc_law_built pm_law_built cd_law_built ct_law_built : Value}
    {f_law_right : Addr} {od_law_right an_law_right : Option Addr} {sl_law_right : Array (Option Value)} {oc_law_right kV_law_right dc_law_right pm_law_right cd_law_right ct_law_right : Value}
    {f_law_called : Addr} {od_law_called an_law_called : Option Addr} {sl_law_called : Array (Option Value)} {oc_law_called kV_law_called dc_law_called pm_law_called cd_law_called ct_law_called : Value}
    {f_law_fits : Addr} {od_law_fits an_law_fits : Option Addr} {sl_law_fits : Array (Option Value)} {oc_law_fits kV_law_fits dc_law_fits pm_law_fits cd_law_fits ct_law_fits : Value}
    {f_law : Addr} {od_law an_law : Option Addr} {sl_law : Array (Option Value)} {oc_law kV_law dc_law pm_law cd_law ct_law : Value}
    (bnall : ∀ x ∈ bnames, PySem.W.nsIn K mainGlobals x = some none)
    (q_LONGEST_WEEK : PySem.W.nsIn K mainGlobals "LONGEST_WEEK" = some (some (.int 12 t_LONGEST_WEEK)))
    (q_FASTEST : PySem.W.nsIn K mainGlobals "FASTEST" = some (some (.int 3 t_FASTEST)))
    (cn0 : PySem.W.nsIn K mainGlobals "Calendar" = some (some (.ref C0)))
    (pg0 : PySem.W.plainGet K C0 Str.empty = true)
    (hd0 : PySem.W.hasDictIn K C0 = true)
    (po0 : PySem.W.plainOver K C0 = true)
    (sa0 : PySem.W.findIn K (.ref C0) "__setattr__" = some (some (.builtin "object.__setattr__")))
    (no0_week_speeds : PySem.W.findIn K (.ref C0) "week_speeds" = some none)
    (no0_real_changes : PySem.W.findIn K (.ref C0) "real_changes" = some none)
    (ica0 : PySem.W.findIn K (.ref C0) "__class__" = some (some (.builtin "object.__class__")))
    (icg0 : PySem.W.specialIn K (.builtin "object.__class__") "__get__" = some (some (.builtin "getset_descriptor.__get__")))
    (ict0 : PySem.W.takesIn K (.builtin "object.__class__") = some true)
    (icm0 : PySem.W.mroIn K C0 (.type "object") = some true)
    (ik0_0 : PySem.W.kitOne K (.type "int") (.ref C0) = some false)
    (ik0_1 : PySem.W.kitOne K (.type "bool") (.ref C0) = some false)
    (ik0_2 : PySem.W.kitOne K (.type "str") (.ref C0) = some false)
    (ik0_3 : PySem.W.kitOne K (.type "list") (.ref C0) = some false)
    (ik0_4 : PySem.W.kitOne K (.type "tuple") (.ref C0) = some false)
    (ik0_5 : PySem.W.kitOne K (.type "NoneType") (.ref C0) = some false)
    (sf0 : PySem.W.selfFirst K C0 = true)
    (cn1 : PySem.W.nsIn K mainGlobals "Ticket" = some (some (.ref C1)))
    (pg1 : PySem.W.plainGet K C1 Str.empty = true)
    (hd1 : PySem.W.hasDictIn K C1 = true)
    (po1 : PySem.W.plainOver K C1 = true)
    (sa1 : PySem.W.findIn K (.ref C1) "__setattr__" = some (some (.builtin "object.__setattr__")))
    (no1_asked : PySem.W.findIn K (.ref C1) "asked" = some none)
    (no1_most : PySem.W.findIn K (.ref C1) "most" = some none)
    (no1_calls : PySem.W.findIn K (.ref C1) "calls" = some none)
    (no1_states : PySem.W.findIn K (.ref C1) "states" = some none)
    (a_law_well : PySem.W.nsIn K mainGlobals "_law_well" = some (some (.ref f_law_well)))
    (l_law_well : K.lookup f_law_well = some ⟨oc_law_well, od_law_well, .func (PySem.W.fnOf "_law_well" "_law_well" (defArgs st_law_well) (defBody st_law_well) (defScope st_law_well) .none kV_law_well dc_law_well pm_law_well an_law_well cd_law_well ct_law_well), sl_law_well⟩)
    (cc_law_well : PySem.W.codeIn K cd_law_well "_law_well" = true)
    (k_law_well : PySem.W.keepIn K (.ref f_law_well) = true)
    (a_law_take : PySem.W.nsIn K mainGlobals "_law_take" = some (some (.ref f_law_take)))
    (l_law_take : K.lookup f_law_take = some ⟨oc_law_take, od_law_take, .func (PySem.W.fnOf "_law_take" "_law_take" (defArgs st_law_take) (defBody st_law_take) (defScope st_law_take) .none kV_law_take dc_law_take pm_law_take an_law_take cd_law_take ct_law_take), sl_law_take⟩)
    (cc_law_take : PySem.W.codeIn K cd_law_take "_law_take" = true)
    (k_law_take : PySem.W.keepIn K (.ref f_law_take) = true)
    (a_law_number : PySem.W.nsIn K mainGlobals "_law_number" = some (some (.ref f_law_number)))
    (l_law_number : K.lookup f_law_number = some ⟨oc_law_number, od_law_number, .func (PySem.W.fnOf "_law_number" "_law_number" (defArgs st_law_number) (defBody st_law_number) (defScope st_law_number) .none kV_law_number dc_law_number pm_law_number an_law_number cd_law_number ct_law_number), sl_law_number⟩)
    (cc_law_number : PySem.W.codeIn K cd_law_number "_law_number" = true)
    (k_law_number : PySem.W.keepIn K (.ref f_law_number) = true)
    (a_law_load : PySem.W.nsIn K mainGlobals "_law_load" = some (some (.ref f_law_load)))
    (l_law_load : K.lookup f_law_load = some ⟨oc_law_load, od_law_load, .func (PySem.W.fnOf "_law_load" "_law_load" (defArgs st_law_load) (defBody st_law_load) (defScope st_law_load) .none kV_law_load dc_law_load pm_law_load an_law_load cd_law_load ct_law_load), sl_law_load⟩)
    (cc_law_load : PySem.W.codeIn K cd_law_load "_law_load" = true)
    (k_law_load : PySem.W.keepIn K (.ref f_law_load) = true)
    (a_law_paces : PySem.W.nsIn K mainGlobals "_law_paces" = some (some (.ref f_law_paces)))
    (l_law_paces : K.lookup f_law_paces = some ⟨oc_law_paces, od_law_paces, .func (PySem.W.fnOf "_law_paces" "_law_paces" (defArgs st_law_paces) (defBody st_law_paces) (defScope st_law_paces) .none kV_law_paces dc_law_paces pm_law_paces an_law_paces cd_law_paces ct_law_paces), sl_law_paces⟩)
    (cc_law_paces : PySem.W.codeIn K cd_law_paces "_law_paces" = true)
    (k_law_paces : PySem.W.keepIn K (.ref f_law_paces) = true)
    (a_law_marks : PySem.W.nsIn K mainGlobals "_law_marks" = some (some (.ref f_law_marks)))
    (l_law_marks : K.lookup f_law_marks = some ⟨oc_law_marks, od_law_marks, .func (PySem.W.fnOf "_law_marks" "_law_marks" (defArgs st_law_marks) (defBody st_law_marks) (defScope st_law_marks) .none kV_law_marks dc_law_marks pm_law_marks an_law_marks cd_law_marks ct_law_marks), sl_law_marks⟩)
    (cc_law_marks : PySem.W.codeIn K cd_law_marks "_law_marks" = true)
    (k_law_marks : PySem.W.keepIn K (.ref f_law_marks) = true)
    (a_law_pace : PySem.W.nsIn K mainGlobals "_law_pace" = some (some (.ref f_law_pace)))
    (l_law_pace : K.lookup f_law_pace = some ⟨oc_law_pace, od_law_pace, .func (PySem.W.fnOf "_law_pace" "_law_pace" (defArgs st_law_pace) (defBody st_law_pace) (defScope st_law_pace) .none kV_law_pace dc_law_pace pm_law_pace an_law_pace cd_law_pace ct_law_pace), sl_law_pace⟩)
    (cc_law_pace : PySem.W.codeIn K cd_law_pace "_law_pace" = true)
    (k_law_pace : PySem.W.keepIn K (.ref f_law_pace) = true)
    (a_law_near : PySem.W.nsIn K mainGlobals "_law_near" = some (some (.ref f_law_near)))
    (l_law_near : K.lookup f_law_near = some ⟨oc_law_near, od_law_near, .func (PySem.W.fnOf "_law_near" "_law_near" (defArgs st_law_near) (defBody st_law_near) (defScope st_law_near) .none kV_law_near dc_law_near pm_law_near an_law_near cd_law_near ct_law_near), sl_law_near⟩)
    (cc_law_near : PySem.W.codeIn K cd_law_near "_law_near" = true)
    (k_law_near : PySem.W.keepIn K (.ref f_law_near) = true)
    (a_law_total : PySem.W.nsIn K mainGlobals "_law_total" = some (some (.ref f_law_total)))
    (l_law_total : K.lookup f_law_total = some ⟨oc_law_total, od_law_total, .func (PySem.W.fnOf "_law_total" "_law_total" (defArgs st_law_total) (defBody st_law_total) (defScope st_law_total) .none kV_law_total dc_law_total pm_law_total an_law_total cd_law_total ct_law_total), sl_law_total⟩)
    (cc_law_total : PySem.W.codeIn K cd_law_total "_law_total" = true)
    (k_law_total : PySem.W.keepIn K (.ref f_law_total) = true)
    (a_law_is_end : PySem.W.nsIn K mainGlobals "_law_is_end" = some (some (.ref f_law_is_end)))
    (l_law_is_end : K.lookup f_law_is_end = some ⟨oc_law_is_end, od_law_is_end, .func (PySem.W.fnOf "_law_is_end" "_law_is_end" (defArgs st_law_is_end) (defBody st_law_is_end) (defScope st_law_is_end) .none kV_law_is_end dc_law_is_end pm_law_is_end an_law_is_end cd_law_is_end ct_law_is_end), sl_law_is_end⟩)
    (cc_law_is_end : PySem.W.codeIn K cd_law_is_end "_law_is_end" = true)
    (k_law_is_end : PySem.W.keepIn K (.ref f_law_is_end) = true)
    (a_law_left : PySem.W.nsIn K mainGlobals "_law_left" = some (some (.ref f_law_left)))
    (l_law_left : K.lookup f_law_left = some ⟨oc_law_left, od_law_left, .func (PySem.W.fnOf "_law_left" "_law_left" (defArgs st_law_left) (defBody st_law_left) (defScope st_law_left) .none kV_law_left dc_law_left pm_law_left an_law_left cd_law_left ct_law_left), sl_law_left⟩)
    (cc_law_left : PySem.W.codeIn K cd_law_left "_law_left" = true)
    (k_law_left : PySem.W.keepIn K (.ref f_law_left) = true)
    (a_law_gap : PySem.W.nsIn K mainGlobals "_law_gap" = some (some (.ref f_law_gap)))
    (l_law_gap : K.lookup f_law_gap = some ⟨oc_law_gap, od_law_gap, .func (PySem.W.fnOf "_law_gap" "_law_gap" (defArgs st_law_gap) (defBody st_law_gap) (defScope st_law_gap) .none kV_law_gap dc_law_gap pm_law_gap an_law_gap cd_law_gap ct_law_gap), sl_law_gap⟩)
    (cc_law_gap : PySem.W.codeIn K cd_law_gap "_law_gap" = true)
    (k_law_gap : PySem.W.keepIn K (.ref f_law_gap) = true)
    (a_law_is_wait : PySem.W.nsIn K mainGlobals "_law_is_wait" = some (some (.ref f_law_is_wait)))
    (l_law_is_wait : K.lookup f_law_is_wait = some ⟨oc_law_is_wait, od_law_is_wait, .func (PySem.W.fnOf "_law_is_wait" "_law_is_wait" (defArgs st_law_is_wait) (defBody st_law_is_wait) (defScope st_law_is_wait) .none kV_law_is_wait dc_law_is_wait pm_law_is_wait an_law_is_wait cd_law_is_wait ct_law_is_wait), sl_law_is_wait⟩)
    (cc_law_is_wait : PySem.W.codeIn K cd_law_is_wait "_law_is_wait" = true)
    (k_law_is_wait : PySem.W.keepIn K (.ref f_law_is_wait) = true)
    (a_law_lists : PySem.W.nsIn K mainGlobals "_law_lists" = some (some (.ref f_law_lists)))
    (l_law_lists : K.lookup f_law_lists = some ⟨oc_law_lists, od_law_lists, .func (PySem.W.fnOf "_law_lists" "_law_lists" (defArgs st_law_lists) (defBody st_law_lists) (defScope st_law_lists) .none kV_law_lists dc_law_lists pm_law_lists an_law_lists cd_law_lists ct_law_lists), sl_law_lists⟩)
    (cc_law_lists : PySem.W.codeIn K cd_law_lists "_law_lists" = true)
    (k_law_lists : PySem.W.keepIn K (.ref f_law_lists) = true)
    (a_check_weeks : PySem.W.nsIn K mainGlobals "check_weeks" = some (some (.ref f_check_weeks)))
    (l_check_weeks : K.lookup f_check_weeks = some ⟨oc_check_weeks, od_check_weeks, .func (PySem.W.fnOf "check_weeks" "check_weeks" (defArgs st_check_weeks) (defBody st_check_weeks) (defScope st_check_weeks) .none kV_check_weeks dc_check_weeks pm_check_weeks an_check_weeks cd_check_weeks ct_check_weeks), sl_check_weeks⟩)
    (cc_check_weeks : PySem.W.codeIn K cd_check_weeks "check_weeks" = true)
    (k_check_weeks : PySem.W.keepIn K (.ref f_check_weeks) = true)
    (a_check_speeds : PySem.W.nsIn K mainGlobals "check_speeds" = some (some (.ref f_check_speeds)))
    (l_check_speeds : K.lookup f_check_speeds = some ⟨oc_check_speeds, od_check_speeds, .func (PySem.W.fnOf "check_speeds" "check_speeds" (defArgs st_check_speeds) (defBody st_check_speeds) (defScope st_check_speeds) .none kV_check_speeds dc_check_speeds pm_check_speeds an_check_speeds cd_check_speeds ct_check_speeds), sl_check_speeds⟩)
    (cc_check_speeds : PySem.W.codeIn K cd_check_speeds "check_speeds" = true)
    (k_check_speeds : PySem.W.keepIn K (.ref f_check_speeds) = true)
    (a_check_changes : PySem.W.nsIn K mainGlobals "check_changes" = some (some (.ref f_check_changes)))
    (l_check_changes : K.lookup f_check_changes = some ⟨oc_check_changes, od_check_changes, .func (PySem.W.fnOf "check_changes" "check_changes" (defArgs st_check_changes) (defBody st_check_changes) (defScope st_check_changes) .none kV_check_changes dc_check_changes pm_check_changes an_check_changes cd_check_changes ct_check_changes), sl_check_changes⟩)
    (cc_check_changes : PySem.W.codeIn K cd_check_changes "check_changes" = true)
    (k_check_changes : PySem.W.keepIn K (.ref f_check_changes) = true)
    (a_speed_at : PySem.W.nsIn K mainGlobals "speed_at" = some (some (.ref f_speed_at)))
    (l_speed_at : K.lookup f_speed_at = some ⟨oc_speed_at, od_speed_at, .func (PySem.W.fnOf "speed_at" "speed_at" (defArgs st_speed_at) (defBody st_speed_at) (defScope st_speed_at) .none kV_speed_at dc_speed_at pm_speed_at an_speed_at cd_speed_at ct_speed_at), sl_speed_at⟩)
    (cc_speed_at : PySem.W.codeIn K cd_speed_at "speed_at" = true)
    (k_speed_at : PySem.W.keepIn K (.ref f_speed_at) = true)
    (a_Calendar_init : PySem.W.findIn K (.ref C0) "__init__" = some (some (.ref f_Calendar_init)))
    (i_Calendar_init : PySem.W.isFn K (.ref f_Calendar_init) = true)
    (mk_Calendar_init : PySem.W.makesIn K C0 = true)
    (kc_Calendar_init : PySem.W.keepIn K (.ref C0) = true)
    (l_Calendar_init : K.lookup f_Calendar_init = some ⟨oc_Calendar_init, od_Calendar_init, .func (PySem.W.fnOf "__init__" "Calendar.__init__" (defArgs st_Calendar_init) (defBody st_Calendar_init) (defScope st_Calendar_init) .none kV_Calendar_init dc_Calendar_init pm_Calendar_init an_Calendar_init cd_Calendar_init ct_Calendar_init), sl_Calendar_init⟩)
    (cc_Calendar_init : PySem.W.codeIn K cd_Calendar_init "Calendar.__init__" = true)
    (k_Calendar_init : PySem.W.keepIn K (.ref f_Calendar_init) = true)
    (a_Calendar_speeds : PySem.W.findIn K (.ref C0) "speeds" = some (some (.ref p_Calendar_speeds)))
    (pgt_Calendar_speeds : PySem.W.specialIn K (.ref p_Calendar_speeds) "__get__" = some (some (.builtin "property.__get__")))
    (ptk_Calendar_speeds : PySem.W.takesIn K (.ref p_Calendar_speeds) = some true)
    (prc_Calendar_speeds : PySem.W.recIn K p_Calendar_speeds "property" = some (.ref f_Calendar_speeds :: r_Calendar_speeds))
    (l_Calendar_speeds : K.lookup f_Calendar_speeds = some ⟨oc_Calendar_speeds, od_Calendar_speeds, .func (PySem.W.fnOf "speeds" "Calendar.speeds" (defArgs st_Calendar_speeds) (defBody st_Calendar_speeds) (defScope st_Calendar_speeds) .none kV_Calendar_speeds dc_Calendar_speeds pm_Calendar_speeds an_Calendar_speeds cd_Calendar_speeds ct_Calendar_speeds), sl_Calendar_speeds⟩)
    (cc_Calendar_speeds : PySem.W.codeIn K cd_Calendar_speeds "Calendar.speeds" = true)
    (k_Calendar_speeds : PySem.W.keepIn K (.ref f_Calendar_speeds) = true)
    (a_Calendar_changes : PySem.W.findIn K (.ref C0) "changes" = some (some (.ref p_Calendar_changes)))
    (pgt_Calendar_changes : PySem.W.specialIn K (.ref p_Calendar_changes) "__get__" = some (some (.builtin "property.__get__")))
    (ptk_Calendar_changes : PySem.W.takesIn K (.ref p_Calendar_changes) = some true)
    (prc_Calendar_changes : PySem.W.recIn K p_Calendar_changes "property" = some (.ref f_Calendar_changes :: r_Calendar_changes))
    (l_Calendar_changes : K.lookup f_Calendar_changes = some ⟨oc_Calendar_changes, od_Calendar_changes, .func (PySem.W.fnOf "changes" "Calendar.changes" (defArgs st_Calendar_changes) (defBody st_Calendar_changes) (defScope st_Calendar_changes) .none kV_Calendar_changes dc_Calendar_changes pm_Calendar_changes an_Calendar_changes cd_Calendar_changes ct_Calendar_changes), sl_Calendar_changes⟩)
    (cc_Calendar_changes : PySem.W.codeIn K cd_Calendar_changes "Calendar.changes" = true)
    (k_Calendar_changes : PySem.W.keepIn K (.ref f_Calendar_changes) = true)
    (a_Calendar_or : PySem.W.findIn K (.ref C0) "__or__" = some (some (.ref f_Calendar_or)))
    (i_Calendar_or : PySem.W.isFn K (.ref f_Calendar_or) = true)
    (fi_Calendar_or : PySem.W.fnIn K f_Calendar_or = true)
    (l_Calendar_or : K.lookup f_Calendar_or = some ⟨oc_Calendar_or, od_Calendar_or, .func (PySem.W.fnOf "__or__" "Calendar.__or__" (defArgs st_Calendar_or) (defBody st_Calendar_or) (defScope st_Calendar_or) .none kV_Calendar_or dc_Calendar_or pm_Calendar_or an_Calendar_or cd_Calendar_or ct_Calendar_or), sl_Calendar_or⟩)
    (cc_Calendar_or : PySem.W.codeIn K cd_Calendar_or "Calendar.__or__" = true)
    (k_Calendar_or : PySem.W.keepIn K (.ref f_Calendar_or) = true)
    (a_Calendar_and : PySem.W.findIn K (.ref C0) "__and__" = some (some (.ref f_Calendar_and)))
    (i_Calendar_and : PySem.W.isFn K (.ref f_Calendar_and) = true)
    (fi_Calendar_and : PySem.W.fnIn K f_Calendar_and = true)
    (l_Calendar_and : K.lookup f_Calendar_and = some ⟨oc_Calendar_and, od_Calendar_and, .func (PySem.W.fnOf "__and__" "Calendar.__and__" (defArgs st_Calendar_and) (defBody st_Calendar_and) (defScope st_Calendar_and) .none kV_Calendar_and dc_Calendar_and pm_Calendar_and an_Calendar_and cd_Calendar_and ct_Calendar_and), sl_Calendar_and⟩)
    (cc_Calendar_and : PySem.W.codeIn K cd_Calendar_and "Calendar.__and__" = true)
    (k_Calendar_and : PySem.W.keepIn K (.ref f_Calendar_and) = true)
    (a_Calendar_moved : PySem.W.findIn K (.ref C0) "moved" = some (some (.ref f_Calendar_moved)))
    (i_Calendar_moved : PySem.W.isFn K (.ref f_Calendar_moved) = true)
    (fi_Calendar_moved : PySem.W.fnIn K f_Calendar_moved = true)
    (l_Calendar_moved : K.lookup f_Calendar_moved = some ⟨oc_Calendar_moved, od_Calendar_moved, .func (PySem.W.fnOf "moved" "Calendar.moved" (defArgs st_Calendar_moved) (defBody st_Calendar_moved) (defScope st_Calendar_moved) .none kV_Calendar_moved dc_Calendar_moved pm_Calendar_moved an_Calendar_moved cd_Calendar_moved ct_Calendar_moved), sl_Calendar_moved⟩)
    (cc_Calendar_moved : PySem.W.codeIn K cd_Calendar_moved "Calendar.moved" = true)
    (k_Calendar_moved : PySem.W.keepIn K (.ref f_Calendar_moved) = true)
    (a_Calendar_eq : PySem.W.findIn K (.ref C0) "__eq__" = some (some (.ref f_Calendar_eq)))
    (i_Calendar_eq : PySem.W.isFn K (.ref f_Calendar_eq) = true)
    (fi_Calendar_eq : PySem.W.fnIn K f_Calendar_eq = true)
    (l_Calendar_eq : K.lookup f_Calendar_eq = some ⟨oc_Calendar_eq, od_Calendar_eq, .func (PySem.W.fnOf "__eq__" "Calendar.__eq__" (defArgs st_Calendar_eq) (defBody st_Calendar_eq) (defScope st_Calendar_eq) .none kV_Calendar_eq dc_Calendar_eq pm_Calendar_eq an_Calendar_eq cd_Calendar_eq ct_Calendar_eq), sl_Calendar_eq⟩)
    (cc_Calendar_eq : PySem.W.codeIn K cd_Calendar_eq "Calendar.__eq__" = true)
    (k_Calendar_eq : PySem.W.keepIn K (.ref f_Calendar_eq) = true)
    (a_check_span : PySem.W.nsIn K mainGlobals "check_span" = some (some (.ref f_check_span)))
    (l_check_span : K.lookup f_check_span = some ⟨oc_check_span, od_check_span, .func (PySem.W.fnOf "check_span" "check_span" (defArgs st_check_span) (defBody st_check_span) (defScope st_check_span) .none kV_check_span dc_check_span pm_check_span an_check_span cd_check_span ct_check_span), sl_check_span⟩)
    (cc_check_span : PySem.W.codeIn K cd_check_span "check_span" = true)
    (k_check_span : PySem.W.keepIn K (.ref f_check_span) = true)
    (a_work_of_weeks : PySem.W.nsIn K mainGlobals "work_of_weeks" = some (some (.ref f_work_of_weeks)))
    (l_work_of_weeks : K.lookup f_work_of_weeks = some ⟨oc_work_of_weeks, od_work_of_weeks, .func (PySem.W.fnOf "work_of_weeks" "work_of_weeks" (defArgs st_work_of_weeks) (defBody st_work_of_weeks) (defScope st_work_of_weeks) .none kV_work_of_weeks dc_work_of_weeks pm_work_of_weeks an_work_of_weeks cd_work_of_weeks ct_work_of_weeks), sl_work_of_weeks⟩)
    (cc_work_of_weeks : PySem.W.codeIn K cd_work_of_weeks "work_of_weeks" = true)
    (k_work_of_weeks : PySem.W.keepIn K (.ref f_work_of_weeks) = true)
    (a_end_of_weeks : PySem.W.nsIn K mainGlobals "end_of_weeks" = some (some (.ref f_end_of_weeks)))
    (l_end_of_weeks : K.lookup f_end_of_weeks = some ⟨oc_end_of_weeks, od_end_of_weeks, .func (PySem.W.fnOf "end_of_weeks" "end_of_weeks" (defArgs st_end_of_weeks) (defBody st_end_of_weeks) (defScope st_end_of_weeks) .none kV_end_of_weeks dc_end_of_weeks pm_end_of_weeks an_end_of_weeks cd_end_of_weeks ct_end_of_weeks), sl_end_of_weeks⟩)
    (cc_end_of_weeks : PySem.W.codeIn K cd_end_of_weeks "end_of_weeks" = true)
    (k_end_of_weeks : PySem.W.keepIn K (.ref f_end_of_weeks) = true)
    (a_begin_of_weeks : PySem.W.nsIn K mainGlobals "begin_of_weeks" = some (some (.ref f_begin_of_weeks)))
    (l_begin_of_weeks : K.lookup f_begin_of_weeks = some ⟨oc_begin_of_weeks, od_begin_of_weeks, .func (PySem.W.fnOf "begin_of_weeks" "begin_of_weeks" (defArgs st_begin_of_weeks) (defBody st_begin_of_weeks) (defScope st_begin_of_weeks) .none kV_begin_of_weeks dc_begin_of_weeks pm_begin_of_weeks an_begin_of_weeks cd_begin_of_weeks ct_begin_of_weeks), sl_begin_of_weeks⟩)
    (cc_begin_of_weeks : PySem.W.codeIn K cd_begin_of_weeks "begin_of_weeks" = true)
    (k_begin_of_weeks : PySem.W.keepIn K (.ref f_begin_of_weeks) = true)
    (a_check_amount : PySem.W.nsIn K mainGlobals "check_amount" = some (some (.ref f_check_amount)))
    (l_check_amount : K.lookup f_check_amount = some ⟨oc_check_amount, od_check_amount, .func (PySem.W.fnOf "check_amount" "check_amount" (defArgs st_check_amount) (defBody st_check_amount) (defScope st_check_amount) .none kV_check_amount dc_check_amount pm_check_amount an_check_amount cd_check_amount ct_check_amount), sl_check_amount⟩)
    (cc_check_amount : PySem.W.codeIn K cd_check_amount "check_amount" = true)
    (k_check_amount : PySem.W.keepIn K (.ref f_check_amount) = true)
    (a_work : PySem.W.nsIn K mainGlobals "work" = some (some (.ref f_work)))
    (l_work : K.lookup f_work = some ⟨oc_work, od_work, .func (PySem.W.fnOf "work" "work" (defArgs st_work) (defBody st_work) (defScope st_work) .none kV_work dc_work pm_work an_work cd_work ct_work), sl_work⟩)
    (cc_work : PySem.W.codeIn K cd_work "work" = true)
    (k_work : PySem.W.keepIn K (.ref f_work) = true)
    (a_due : PySem.W.nsIn K mainGlobals "due" = some (some (.ref f_due)))
    (l_due : K.lookup f_due = some ⟨oc_due, od_due, .func (PySem.W.fnOf "due" "due" (defArgs st_due) (defBody st_due) (defScope st_due) .none kV_due dc_due pm_due an_due cd_due ct_due), sl_due⟩)
    (cc_due : PySem.W.codeIn K cd_due "due" = true)
    (k_due : PySem.W.keepIn K (.ref f_due) = true)
    (a_latest : PySem.W.nsIn K mainGlobals "latest" = some (some (.ref f_latest)))
    (l_latest : K.lookup f_latest = some ⟨oc_latest, od_latest, .func (PySem.W.fnOf "latest" "latest" (defArgs st_latest) (defBody st_latest) (defScope st_latest) .none kV_latest dc_latest pm_latest an_latest cd_latest ct_latest), sl_latest⟩)
    (cc_latest : PySem.W.codeIn K cd_latest "latest" = true)
    (k_latest : PySem.W.keepIn K (.ref f_latest) = true)
    (a_left_of : PySem.W.nsIn K mainGlobals "left_of" = some (some (.ref f_left_of)))
    (l_left_of : K.lookup f_left_of = some ⟨oc_left_of, od_left_of, .func (PySem.W.fnOf "left_of" "left_of" (defArgs st_left_of) (defBody st_left_of) (defScope st_left_of) .none kV_left_of dc_left_of pm_left_of an_left_of cd_left_of ct_left_of), sl_left_of⟩)
    (cc_left_of : PySem.W.codeIn K cd_left_of "left_of" = true)
    (k_left_of : PySem.W.keepIn K (.ref f_left_of) = true)
    (a_Ticket_init : PySem.W.findIn K (.ref C1) "__init__" = some (some (.ref f_Ticket_init)))
    (i_Ticket_init : PySem.W.isFn K (.ref f_Ticket_init) = true)
    (mk_Ticket_init : PySem.W.makesIn K C1 = true)
    (kc_Ticket_init : PySem.W.keepIn K (.ref C1) = true)
    (l_Ticket_init : K.lookup f_Ticket_init = some ⟨oc_Ticket_init, od_Ticket_init, .func (PySem.W.fnOf "__init__" "Ticket.__init__" (defArgs st_Ticket_init) (defBody st_Ticket_init) (defScope st_Ticket_init) .none kV_Ticket_init dc_Ticket_init pm_Ticket_init an_Ticket_init cd_Ticket_init ct_Ticket_init), sl_Ticket_init⟩)
    (cc_Ticket_init : PySem.W.codeIn K cd_Ticket_init "Ticket.__init__" = true)
    (k_Ticket_init : PySem.W.keepIn K (.ref f_Ticket_init) = true)
    (a_Ticket_moment : PySem.W.findIn K (.ref C1) "moment" = some (some (.ref p_Ticket_moment)))
    (pgt_Ticket_moment : PySem.W.specialIn K (.ref p_Ticket_moment) "__get__" = some (some (.builtin "property.__get__")))
    (ptk_Ticket_moment : PySem.W.takesIn K (.ref p_Ticket_moment) = some true)
    (prc_Ticket_moment : PySem.W.recIn K p_Ticket_moment "property" = some (.ref f_Ticket_moment :: r_Ticket_moment))
    (l_Ticket_moment : K.lookup f_Ticket_moment = some ⟨oc_Ticket_moment, od_Ticket_moment, .func (PySem.W.fnOf "moment" "Ticket.moment" (defArgs st_Ticket_moment) (defBody st_Ticket_moment) (defScope st_Ticket_moment) .none kV_Ticket_moment dc_Ticket_moment pm_Ticket_moment an_Ticket_moment cd_Ticket_moment ct_Ticket_moment), sl_Ticket_moment⟩)
    (cc_Ticket_moment : PySem.W.codeIn K cd_Ticket_moment "Ticket.moment" = true)
    (k_Ticket_moment : PySem.W.keepIn K (.ref f_Ticket_moment) = true)
    (a_Ticket_left : PySem.W.findIn K (.ref C1) "left" = some (some (.ref p_Ticket_left)))
    (pgt_Ticket_left : PySem.W.specialIn K (.ref p_Ticket_left) "__get__" = some (some (.builtin "property.__get__")))
    (ptk_Ticket_left : PySem.W.takesIn K (.ref p_Ticket_left) = some true)
    (prc_Ticket_left : PySem.W.recIn K p_Ticket_left "property" = some (.ref f_Ticket_left :: r_Ticket_left))
    (l_Ticket_left : K.lookup f_Ticket_left = some ⟨oc_Ticket_left, od_Ticket_left, .func (PySem.W.fnOf "left" "Ticket.left" (defArgs st_Ticket_left) (defBody st_Ticket_left) (defScope st_Ticket_left) .none kV_Ticket_left dc_Ticket_left pm_Ticket_left an_Ticket_left cd_Ticket_left ct_Ticket_left), sl_Ticket_left⟩)
    (cc_Ticket_left : PySem.W.codeIn K cd_Ticket_left "Ticket.left" = true)
    (k_Ticket_left : PySem.W.keepIn K (.ref f_Ticket_left) = true)
    (a_Ticket_is_paused : PySem.W.findIn K (.ref C1) "is_paused" = some (some (.ref p_Ticket_is_paused)))
    (pgt_Ticket_is_paused : PySem.W.specialIn K (.ref p_Ticket_is_paused) "__get__" = some (some (.builtin "property.__get__")))
    (ptk_Ticket_is_paused : PySem.W.takesIn K (.ref p_Ticket_is_paused) = some true)
    (prc_Ticket_is_paused : PySem.W.recIn K p_Ticket_is_paused "property" = some (.ref f_Ticket_is_paused :: r_Ticket_is_paused))
    (l_Ticket_is_paused : K.lookup f_Ticket_is_paused = some ⟨oc_Ticket_is_paused, od_Ticket_is_paused, .func (PySem.W.fnOf "is_paused" "Ticket.is_paused" (defArgs st_Ticket_is_paused) (defBody st_Ticket_is_paused) (defScope st_Ticket_is_paused) .none kV_Ticket_is_paused dc_Ticket_is_paused pm_Ticket_is_paused an_Ticket_is_paused cd_Ticket_is_paused ct_Ticket_is_paused), sl_Ticket_is_paused⟩)
    (cc_Ticket_is_paused : PySem.W.codeIn K cd_Ticket_is_paused "Ticket.is_paused" = true)
    (k_Ticket_is_paused : PySem.W.keepIn K (.ref f_Ticket_is_paused) = true)
    (a_Ticket_left_at : PySem.W.findIn K (.ref C1) "left_at" = some (some (.ref f_Ticket_left_at)))
    (i_Ticket_left_at : PySem.W.isFn K (.ref f_Ticket_left_at) = true)
    (fi_Ticket_left_at : PySem.W.fnIn K f_Ticket_left_at = true)
    (l_Ticket_left_at : K.lookup f_Ticket_left_at = some ⟨oc_Ticket_left_at, od_Ticket_left_at, .func (PySem.W.fnOf "left_at" "Ticket.left_at" (defArgs st_Ticket_left_at) (defBody st_Ticket_left_at) (defScope st_Ticket_left_at) .none kV_Ticket_left_at dc_Ticket_left_at pm_Ticket_left_at an_Ticket_left_at cd_Ticket_left_at ct_Ticket_left_at), sl_Ticket_left_at⟩)
    (cc_Ticket_left_at : PySem.W.codeIn K cd_Ticket_left_at "Ticket.left_at" = true)
    (k_Ticket_left_at : PySem.W.keepIn K (.ref f_Ticket_left_at) = true)
    (a_Ticket_done_at : PySem.W.findIn K (.ref C1) "done_at" = some (some (.ref f_Ticket_done_at)))
    (i_Ticket_done_at : PySem.W.isFn K (.ref f_Ticket_done_at) = true)
    (fi_Ticket_done_at : PySem.W.fnIn K f_Ticket_done_at = true)
    (l_Ticket_done_at : K.lookup f_Ticket_done_at = some ⟨oc_Ticket_done_at, od_Ticket_done_at, .func (PySem.W.fnOf "done_at" "Ticket.done_at" (defArgs st_Ticket_done_at) (defBody st_Ticket_done_at) (defScope st_Ticket_done_at) .none kV_Ticket_done_at dc_Ticket_done_at pm_Ticket_done_at an_Ticket_done_at cd_Ticket_done_at ct_Ticket_done_at), sl_Ticket_done_at⟩)
    (cc_Ticket_done_at : PySem.W.codeIn K cd_Ticket_done_at "Ticket.done_at" = true)
    (k_Ticket_done_at : PySem.W.keepIn K (.ref f_Ticket_done_at) = true)
    (a_Ticket_can_wait : PySem.W.findIn K (.ref C1) "can_wait" = some (some (.ref f_Ticket_can_wait)))
    (i_Ticket_can_wait : PySem.W.isFn K (.ref f_Ticket_can_wait) = true)
    (fi_Ticket_can_wait : PySem.W.fnIn K f_Ticket_can_wait = true)
    (l_Ticket_can_wait : K.lookup f_Ticket_can_wait = some ⟨oc_Ticket_can_wait, od_Ticket_can_wait, .func (PySem.W.fnOf "can_wait" "Ticket.can_wait" (defArgs st_Ticket_can_wait) (defBody st_Ticket_can_wait) (defScope st_Ticket_can_wait) .none kV_Ticket_can_wait dc_Ticket_can_wait pm_Ticket_can_wait an_Ticket_can_wait cd_Ticket_can_wait ct_Ticket_can_wait), sl_Ticket_can_wait⟩)
    (cc_Ticket_can_wait : PySem.W.codeIn K cd_Ticket_can_wait "Ticket.can_wait" = true)
    (k_Ticket_can_wait : PySem.W.keepIn K (.ref f_Ticket_can_wait) = true)
    (a_Ticket_note : PySem.W.findIn K (.ref C1) "note" = some (some (.ref f_Ticket_note)))
    (i_Ticket_note : PySem.W.isFn K (.ref f_Ticket_note) = true)
    (fi_Ticket_note : PySem.W.fnIn K f_Ticket_note = true)
    (l_Ticket_note : K.lookup f_Ticket_note = some ⟨oc_Ticket_note, od_Ticket_note, .func (PySem.W.fnOf "note" "Ticket.note" (defArgs st_Ticket_note) (defBody st_Ticket_note) (defScope st_Ticket_note) .none kV_Ticket_note dc_Ticket_note pm_Ticket_note an_Ticket_note cd_Ticket_note ct_Ticket_note), sl_Ticket_note⟩)
    (cc_Ticket_note : PySem.W.codeIn K cd_Ticket_note "Ticket.note" = true)
    (k_Ticket_note : PySem.W.keepIn K (.ref f_Ticket_note) = true)
    (a_Ticket_pause : PySem.W.findIn K (.ref C1) "pause" = some (some (.ref f_Ticket_pause)))
    (i_Ticket_pause : PySem.W.isFn K (.ref f_Ticket_pause) = true)
    (fi_Ticket_pause : PySem.W.fnIn K f_Ticket_pause = true)
    (l_Ticket_pause : K.lookup f_Ticket_pause = some ⟨oc_Ticket_pause, od_Ticket_pause, .func (PySem.W.fnOf "pause" "Ticket.pause" (defArgs st_Ticket_pause) (defBody st_Ticket_pause) (defScope st_Ticket_pause) .none kV_Ticket_pause dc_Ticket_pause pm_Ticket_pause an_Ticket_pause cd_Ticket_pause ct_Ticket_pause), sl_Ticket_pause⟩)
    (cc_Ticket_pause : PySem.W.codeIn K cd_Ticket_pause "Ticket.pause" = true)
    (k_Ticket_pause : PySem.W.keepIn K (.ref f_Ticket_pause) = true)
    (a_Ticket_switch : PySem.W.findIn K (.ref C1) "switch" = some (some (.ref f_Ticket_switch)))
    (i_Ticket_switch : PySem.W.isFn K (.ref f_Ticket_switch) = true)
    (fi_Ticket_switch : PySem.W.fnIn K f_Ticket_switch = true)
    (l_Ticket_switch : K.lookup f_Ticket_switch = some ⟨oc_Ticket_switch, od_Ticket_switch, .func (PySem.W.fnOf "switch" "Ticket.switch" (defArgs st_Ticket_switch) (defBody st_Ticket_switch) (defScope st_Ticket_switch) .none kV_Ticket_switch dc_Ticket_switch pm_Ticket_switch an_Ticket_switch cd_Ticket_switch ct_Ticket_switch), sl_Ticket_switch⟩)
    (cc_Ticket_switch : PySem.W.codeIn K cd_Ticket_switch "Ticket.switch" = true)
    (k_Ticket_switch : PySem.W.keepIn K (.ref f_Ticket_switch) = true)
    (a_Ticket_enlarge : PySem.W.findIn K (.ref C1) "enlarge" = some (some (.ref f_Ticket_enlarge)))
    (i_Ticket_enlarge : PySem.W.isFn K (.ref f_Ticket_enlarge) = true)
    (fi_Ticket_enlarge : PySem.W.fnIn K f_Ticket_enlarge = true)
    (l_Ticket_enlarge : K.lookup f_Ticket_enlarge = some ⟨oc_Ticket_enlarge, od_Ticket_enlarge, .func (PySem.W.fnOf "enlarge" "Ticket.enlarge" (defArgs st_Ticket_enlarge) (defBody st_Ticket_enlarge) (defScope st_Ticket_enlarge) .none kV_Ticket_enlarge dc_Ticket_enlarge pm_Ticket_enlarge an_Ticket_enlarge cd_Ticket_enlarge ct_Ticket_enlarge), sl_Ticket_enlarge⟩)
    (cc_Ticket_enlarge : PySem.W.codeIn K cd_Ticket_enlarge "Ticket.enlarge" = true)
    (k_Ticket_enlarge : PySem.W.keepIn K (.ref f_Ticket_enlarge) = true)
    (a_law_told : PySem.W.nsIn K mainGlobals "_law_told" = some (some (.ref f_law_told)))
    (l_law_told : K.lookup f_law_told = some ⟨oc_law_told, od_law_told, .func (PySem.W.fnOf "_law_told" "_law_told" (defArgs st_law_told) (defBody st_law_told) (defScope st_law_told) .none kV_law_told dc_law_told pm_law_told an_law_told cd_law_told ct_law_told), sl_law_told⟩)
    (cc_law_told : PySem.W.codeIn K cd_law_told "_law_told" = true)
    (k_law_told : PySem.W.keepIn K (.ref f_law_told) = true)
    (a_law_built : PySem.W.nsIn K mainGlobals "_law_built" = some (some (.ref f_law_built)))
    (l_law_built : K.lookup f_law_built = some ⟨oc_law_built, od_law_built, .func (PySem.W.fnOf "_law_built" "_law_built" (defArgs st_law_built) (defBody st_law_built) (defScope st_law_built) .none kV_law_built dc_law_built pm_law_built an_law_built cd_law_built ct_law_built), sl_law_built⟩)
    (cc_law_built : PySem.W.codeIn K cd_law_built "_law_built" = true)
    (k_law_built : PySem.W.keepIn K (.ref f_law_built) = true)
    (a_law_right : PySem.W.nsIn K mainGlobals "_law_right" = some (some (.ref f_law_right)))
    (l_law_right : K.lookup f_law_right = some ⟨oc_law_right, od_law_right, .func (PySem.W.fnOf "_law_right" "_law_right" (defArgs st_law_right) (defBody st_law_right) (defScope st_law_right) .none kV_law_right dc_law_right pm_law_right an_law_right cd_law_right ct_law_right), sl_law_right⟩)
    (cc_law_right : PySem.W.codeIn K cd_law_right "_law_right" = true)
    (k_law_right : PySem.W.keepIn K (.ref f_law_right) = true)
    (a_law_called : PySem.W.nsIn K mainGlobals "_law_called" = some (some (.ref f_law_called)))
    (l_law_called : K.lookup f_law_called = some ⟨oc_law_called, od_law_called, .func (PySem.W.fnOf "_law_called" "_law_called" (defArgs st_law_called) (defBody st_law_called) (defScope st_law_called) .none kV_law_called dc_law_called pm_law_called an_law_called cd_law_called ct_law_called), sl_law_called⟩)
    (cc_law_called : PySem.W.codeIn K cd_law_called "_law_called" = true)
    (k_law_called : PySem.W.keepIn K (.ref f_law_called) = true)
    (a_law_fits : PySem.W.nsIn K mainGlobals "_law_fits" = some (some (.ref f_law_fits)))
    (l_law_fits : K.lookup f_law_fits = some ⟨oc_law_fits, od_law_fits, .func (PySem.W.fnOf "_law_fits" "_law_fits" (defArgs st_law_fits) (defBody st_law_fits) (defScope st_law_fits) .none kV_law_fits dc_law_fits pm_law_fits an_law_fits cd_law_fits ct_law_fits), sl_law_fits⟩)
    (cc_law_fits : PySem.W.codeIn K cd_law_fits "_law_fits" = true)
    (k_law_fits : PySem.W.keepIn K (.ref f_law_fits) = true)
    (a_law : PySem.W.nsIn K mainGlobals "law" = some (some (.ref f_law)))
    (l_law : K.lookup f_law = some ⟨oc_law, od_law, .func (PySem.W.fnOf "law" "law" (defArgs st_law) (defBody st_law) (defScope st_law) .none kV_law dc_law pm_law an_law cd_law ct_law), sl_law⟩)
    (cc_law : PySem.W.codeIn K cd_law "law" = true)
    (k_law : PySem.W.keepIn K (.ref f_law) = true) :
    ∃ (fd : FuncData) (cl : Nat → Cl) (exc : Nat → Addr), (∀ (s : Shared) (v : Value), BindsTo s fd ⟨[v], []⟩ [("script", v)]) ∧ ∀ base : Heap, K.In base → base.Ns mainGlobals mg → FnG ⟨P, w, K, mg, base, cl, exc⟩ 9 fa fd ["script"] (spC ⟨P, w, K, mg, base, cl, exc⟩ [false] c_law) := by
  have e := hfa.symm.trans (PySem.W.mg_of X G a_law)
  cases e
  refine ⟨PySem.W.fnOf "law" "law" (defArgs st_law) (defBody st_law) (defScope st_law) .none kV_law dc_law pm_law an_law cd_law ct_law, clOf C0 C1, fun _ => 0, fun s v => .of_eq rfl, fun base _ _ => ?_⟩
  have T : Tx ⟨P, w, K, mg, base, clOf C0 C1, fun _ => 0⟩ := { bn := (fun x m => PySem.W.mg_none_of X G (bnall x m)), c_LONGEST_WEEK := ⟨_, PySem.W.mg_of X G q_LONGEST_WEEK⟩, c_FASTEST := ⟨_, PySem.W.mg_of X G q_FASTEST⟩, K_0 := ⟨⟨pg0, hd0, po0, sa0⟩, by show List.Nodup (["week_speeds", "real_changes"] : List Str); decide +kernel, by intro f hf; rcases mem_cases_0 hf with rfl | rfl <;> assumption, by show List.length (["week_speeds", "real_changes"] : List Str) ≤ 100; decide⟩, F_0 := rfl, I_0 := ⟨PySem.W.mg_of X G cn0, ⟨⟨pg0, hd0, po0, sa0⟩, by show List.Nodup (["week_speeds", "real_changes"] : List Str); decide +kernel, by intro f hf; rcases mem_cases_0 hf with rfl | rfl <;> assumption, by show List.length (["week_speeds", "real_changes"] : List Str) ≤ 100; decide⟩, ica0, icg0, ict0, icm0, ik0_0, ik0_1, ik0_2, ik0_3, ik0_4, ik0_5⟩, S_0 := sf0, K_1 := ⟨⟨pg1, hd1, po1, sa1⟩, by show List.Nodup (["asked", "most", "calls", "states"] : List Str); decide +kernel, by intro f hf; rcases mem_cases_1 hf with rfl | rfl | rfl | rfl <;> assumption, by show List.length (["asked", "most", "calls", "states"] : List Str) ≤ 100; decide⟩, F_1 := rfl, d_law_well := ⟨_, _, PySem.W.mg_of X G a_law_well, fun_mk (st := st_law_well) l_law_well cc_law_well k_law_well⟩, d_law_take := ⟨_, _, PySem.W.mg_of X G a_law_take, fun_mk (st := st_law_take) l_law_take cc_law_take k_law_take⟩, d_law_number := ⟨_, _, PySem.W.mg_of X G a_law_number, fun_mk (st := st_law_number) l_law_number cc_law_number k_law_number⟩, d_law_load := ⟨_, _, PySem.W.mg_of X G a_law_load, fun_mk (st := st_law_load) l_law_load cc_law_load k_law_load⟩, d_law_paces := ⟨_, _, PySem.W.mg_of X G a_law_paces, fun_mk (st := st_law_paces) l_law_paces cc_law_paces k_law_paces⟩, d_law_marks := ⟨_, _, PySem.W.mg_of X G a_law_marks, fun_mk (st := st_law_marks) l_law_marks cc_law_marks k_law_marks⟩, d_law_pace := ⟨_, _, PySem.W.mg_of X G a_law_pace, fun_mk (st := st_law_pace) l_law_pace cc_law_pace k_law_pace⟩, d_law_near := ⟨_, _, PySem.W.mg_of X G a_law_near, fun_mk (st := st_law_near) l_law_near cc_law_near k_law_near⟩, d_law_total := ⟨_, _, PySem.W.mg_of X G a_law_total, fun_mk (st := st_law_total) l_law_total cc_law_total k_law_total⟩, d_law_is_end := ⟨_, _, PySem.W.mg_of X G a_law_is_end, fun_mk (st := st_law_is_end) l_law_is_end cc_law_is_end k_law_is_end⟩, d_law_left := ⟨_, _, PySem.W.mg_of X G a_law_left, fun_mk (st := st_law_left) l_law_left cc_law_left k_law_left⟩, d_law_gap := ⟨_, _, PySem.W.mg_of X G a_law_gap, fun_mk (st := st_law_gap) l_law_gap cc_law_gap k_law_gap⟩, d_law_is_wait := ⟨_, _, PySem.W.mg_of X G a_law_is_wait, fun_mk (st := st_law_is_wait) l_law_is_wait cc_law_is_wait k_law_is_wait⟩, d_law_lists := ⟨_, _, PySem.W.mg_of X G a_law_lists, fun_mk (st := st_law_lists) l_law_lists cc_law_lists k_law_lists⟩, d_check_weeks := ⟨_, _, PySem.W.mg_of X G a_check_weeks, fun_mk (st := st_check_weeks) l_check_weeks cc_check_weeks k_check_weeks⟩, d_check_speeds := ⟨_, _, PySem.W.mg_of X G a_check_speeds, fun_mk (st := st_check_speeds) l_check_speeds cc_check_speeds k_check_speeds⟩, d_check_changes := ⟨_, _, PySem.W.mg_of X G a_check_changes, fun_mk (st := st_check_changes) l_check_changes cc_check_changes k_check_changes⟩, d_speed_at := ⟨_, _, PySem.W.mg_of X G a_speed_at, fun_mk (st := st_speed_at) l_speed_at cc_speed_at k_speed_at⟩, d_Calendar_init := ⟨PySem.W.mg_of X G cn0, f_Calendar_init, _, ⟨mk_Calendar_init, a_Calendar_init, i_Calendar_init, kc_Calendar_init⟩, fun_mk (st := st_Calendar_init) l_Calendar_init cc_Calendar_init k_Calendar_init⟩, d_Calendar_speeds := ⟨p_Calendar_speeds, f_Calendar_speeds, _, ⟨a_Calendar_speeds, pgt_Calendar_speeds, ptk_Calendar_speeds, ⟨_, prc_Calendar_speeds⟩⟩, fun_mk (st := st_Calendar_speeds) l_Calendar_speeds cc_Calendar_speeds k_Calendar_speeds⟩, d_Calendar_changes := ⟨p_Calendar_changes, f_Calendar_changes, _, ⟨a_Calendar_changes, pgt_Calendar_changes, ptk_Calendar_changes, ⟨_, prc_Calendar_changes⟩⟩, fun_mk (st := st_Calendar_changes) l_Calendar_changes cc_Calendar_changes k_Calendar_changes⟩, d_Calendar_or := ⟨by show ¬ ("__or__" : Str) ∈ (["week_speeds", "real_changes"] : List Str); decide +kernel, f_Calendar_or, _, a_Calendar_or, i_Calendar_or, fi_Calendar_or, fun_mk (st := st_Calendar_or) l_Calendar_or cc_Calendar_or k_Calendar_or⟩, d_Calendar_and := ⟨by show ¬ ("__and__" : Str) ∈ (["week_speeds", "real_changes"] : List Str); decide +kernel, f_Calendar_and, _, a_Calendar_and, i_Calendar_and, fi_Calendar_and, fun_mk (st := st_Calendar_and) l_Calendar_and cc_Calendar_and k_Calendar_and⟩, d_Calendar_moved := ⟨by show ¬ ("moved" : Str) ∈ (["week_speeds", "real_changes"] : List Str); decide +kernel, f_Calendar_moved, _, a_Calendar_moved, i_Calendar_moved, fi_Calendar_moved, fun_mk (st := st_Calendar_moved) l_Calendar_moved cc_Calendar_moved k_Calendar_moved⟩, d_Calendar_eq := ⟨by show ¬ ("__eq__" : Str) ∈ (["week_speeds", "real_changes"] : List Str); decide +kernel, f_Calendar_eq, _, a_Calendar_eq, i_Calendar_eq, fi_Calendar_eq, fun_mk (st := st_Calendar_eq) l_Calendar_eq cc_Calendar_eq k_Calendar_eq⟩, d_check_span := ⟨_, _, PySem.W.mg_of X G a_check_span, fun_mk (st := st_check_span) l_check_span cc_check_span k_check_span⟩, d_work_of_weeks := ⟨_, _, PySem.W.mg_of X G a_work_of_weeks, fun_mk (st := st_work_of_weeks) l_work_of_weeks cc_work_of_weeks k_work_of_weeks⟩, d_end_of_weeks := ⟨_, _, PySem.W.mg_of X G a_end_of_weeks, fun_mk (st := st_end_of_weeks) l_end_of_weeks cc_end_of_weeks k_end_of_weeks⟩, d_begin_of_weeks := ⟨_, _, PySem.W.mg_of X G a_begin_of_weeks, fun_mk (st := st_begin_of_weeks) l_begin_of_weeks cc_begin_of_weeks k_begin_of_weeks⟩, d_check_amount := ⟨_, _, PySem.W.mg_of X G a_check_amount, fun_mk (st := st_check_amount) l_check_amount cc_check_amount k_check_amount⟩, d_work := ⟨_, _, PySem.W.mg_of X G a_work, fun_mk (st := st_work) l_work cc_work k_work⟩, d_due := ⟨_, _, PySem.W.mg_of X G a_due, fun_mk (st := st_due) l_due cc_due k_due⟩, d_latest := ⟨_, _, PySem.W.mg_of X G a_latest, fun_mk (st := st_latest) l_latest cc_latest k_latest⟩, d_left_of := ⟨_, _, PySem.W.mg_of X G a_left_of, fun_mk (st := st_left_of) l_left_of cc_left_of k_left_of⟩, d_Ticket_init := ⟨PySem.W.mg_of X G cn1, f_Ticket_init, _, ⟨mk_Ticket_init, a_Ticket_init, i_Ticket_init, kc_Ticket_init⟩, fun_mk (st := st_Ticket_init) l_Ticket_init cc_Ticket_init k_Ticket_init⟩, d_Ticket_moment := ⟨p_Ticket_moment, f_Ticket_moment, _, ⟨a_Ticket_moment, pgt_Ticket_moment, ptk_Ticket_moment, ⟨_, prc_Ticket_moment⟩⟩, fun_mk (st := st_Ticket_moment) l_Ticket_moment cc_Ticket_moment k_Ticket_moment⟩, d_Ticket_left := ⟨p_Ticket_left, f_Ticket_left, _, ⟨a_Ticket_left, pgt_Ticket_left, ptk_Ticket_left, ⟨_, prc_Ticket_left⟩⟩, fun_mk (st := st_Ticket_left) l_Ticket_left cc_Ticket_left k_Ticket_left⟩, d_Ticket_is_paused := ⟨p_Ticket_is_paused, f_Ticket_is_paused, _, ⟨a_Ticket_is_paused, pgt_Ticket_is_paused, ptk_Ticket_is_paused, ⟨_, prc_Ticket_is_paused⟩⟩, fun_mk (st := st_Ticket_is_paused) l_Ticket_is_paused cc_Ticket_is_paused k_Ticket_is_paused⟩, d_Ticket_left_at := ⟨by show ¬ ("left_at" : Str) ∈ (["asked", "most", "calls", "states"] : List Str); decide +kernel, f_Ticket_left_at, _, a_Ticket_left_at, i_Ticket_left_at, fi_Ticket_left_at, fun_mk (st := st_Ticket_left_at) l_Ticket_left_at cc_Ticket_left_at k_Ticket_left_at⟩, d_Ticket_done_at := ⟨by show ¬ ("done_at" : Str) ∈ (["asked", "most", "calls", "states"] : List Str); decide +kernel, f_Ticket_done_at, _, a_Ticket_done_at, i_Ticket_done_at, fi_Ticket_done_at, fun_mk (st := st_Ticket_done_at) l_Ticket_done_at cc_Ticket_done_at k_Ticket_done_at⟩, d_Ticket_can_wait := ⟨by show ¬ ("can_wait" : Str) ∈ (["asked", "most", "calls", "states"] : List Str); decide +kernel, f_Ticket_can_wait, _, a_Ticket_can_wait, i_Ticket_can_wait, fi_Ticket_can_wait, fun_mk (st := st_Ticket_can_wait) l_Ticket_can_wait cc_Ticket_can_wait k_Ticket_can_wait⟩, d_Ticket_note := ⟨by show ¬ ("note" : Str) ∈ (["asked", "most", "calls", "states"] : List Str); decide +kernel, f_Ticket_note, _, a_Ticket_note, i_Ticket_note, fi_Ticket_note, fun_mk (st := st_Ticket_note) l_Ticket_note cc_Ticket_note k_Ticket_note⟩, d_Ticket_pause := ⟨by show ¬ ("pause" : Str) ∈ (["asked", "most", "calls", "states"] : List Str); decide +kernel, f_Ticket_pause, _, a_Ticket_pause, i_Ticket_pause, fi_Ticket_pause, fun_mk (st := st_Ticket_pause) l_Ticket_pause cc_Ticket_pause k_Ticket_pause⟩, d_Ticket_switch := ⟨by show ¬ ("switch" : Str) ∈ (["asked", "most", "calls", "states"] : List Str); decide +kernel, f_Ticket_switch, _, a_Ticket_switch, i_Ticket_switch, fi_Ticket_switch, fun_mk (st := st_Ticket_switch) l_Ticket_switch cc_Ticket_switch k_Ticket_switch⟩, d_Ticket_enlarge := ⟨by show ¬ ("enlarge" : Str) ∈ (["asked", "most", "calls", "states"] : List Str); decide +kernel, f_Ticket_enlarge, _, a_Ticket_enlarge, i_Ticket_enlarge, fi_Ticket_enlarge, fun_mk (st := st_Ticket_enlarge) l_Ticket_enlarge cc_Ticket_enlarge k_Ticket_enlarge⟩, d_law_told := ⟨_, _, PySem.W.mg_of X G a_law_told, fun_mk (st := st_law_told) l_law_told cc_law_told k_law_told⟩, d_law_built := ⟨_, _, PySem.W.mg_of X G a_law_built, fun_mk (st := st_law_built) l_law_built cc_law_built k_law_built⟩, d_law_right := ⟨_, _, PySem.W.mg_of X G a_law_right, fun_mk (st := st_law_right) l_law_right cc_law_right k_law_right⟩, d_law_called := ⟨_, _, PySem.W.mg_of X G a_law_called, fun_mk (st := st_law_called) l_law_called cc_law_called k_law_called⟩, d_law_fits := ⟨_, _, PySem.W.mg_of X G a_law_fits, fun_mk (st := st_law_fits) l_law_fits cc_law_fits k_law_fits⟩, d_law := ⟨_, _, PySem.W.mg_of X G a_law, fun_mk (st := st_law) l_law cc_law k_law⟩ }
  exact fnG_of (fun_mk (st := st_law) l_law cc_law k_law) sc_law T.bn rfl (tr_law T) law_law
end Law
open PySem PySem.W PyProof.Rows
set_option maxRecDepth 100000 in
set_option maxHeartbeats 0 in
theorem PySem.Challenge.cw_dueclocks_k62_tickets_switched_and_enlar_holds : PySem.Challenge.rw_dueclocks_k62_tickets_switched_and_enlar.Holds := by
  w_on; o_law; k_head; (case hw => w_witness2)
  k_fill
  refine Dv.walk_dv (l := PySem.Challenge.rw_dueclocks_k62_tickets_switched_and_enlar) (k := 9) rfl rfl ⟨rfl, by decide, by decide⟩ (fun w h Y => PySem.W.kIn_of Y) ?F
  case F =>
    intro w mg fa h KX G hmg
    refine' Law.all_mk KX G hmg ?bnall ?q_LONGEST_WEEK ?q_FASTEST ?cn0 ?pg0 ?hd0 ?po0 ?sa0 ?no0_week_speeds ?no0_real_changes ?ica0 ?icg0 ?ict0 ?icm0 ?ik0_0 ?ik0_1 ?ik0_2 ?ik0_3 ?ik0_4 ?ik0_5 ?sf0 ?cn1 ?pg1 ?hd1 ?po1 ?sa1 ?no1_asked ?no1_most ?no1_calls ?no1_states ?a_law_well ?l_law_well ?cc_law_well ?k_law_well ?a_law_take ?l_law_take ?cc_law_take ?k_law_take ?a_law_number ?l_law_number ?cc_law_number ?k_law_number ?a_law_load ?l_law_load ?cc_law_load ?k_law_load ?a_law_paces ?l_law_paces ?cc_law_paces ?k_law_paces ?a_law_marks ?l_law_marks ?cc_law_marks ?k_law_marks ?a_law_pace ?l_law_pace ?cc_law_pace ?k_law_pace ?a_law_near ?l_law_near ?cc_law_near ?k_law_near ?a_law_total ?l_law_total ?cc_law_total ?k_law_total ?a_law_is_end ?l_law_is_end ?cc_law_is_end ?k_law_is_end ?a_law_left ?l_law_left ?cc_law_left ?k_law_left ?a_law_gap ?l_law_gap ?cc_law_gap ?k_law_gap ?a_law_is_wait ?l_law_is_wait ?cc_law_is_wait ?k_law_is_wait ?a_law_lists ?l_law_lists ?cc_law_lists ?k_law_lists ?a_check_weeks ?l_check_weeks ?cc_check_weeks ?k_check_weeks ?a_check_speeds ?l_check_speeds ?cc_check_speeds ?k_check_speeds ?a_check_changes ?l_check_changes ?cc_check_changes ?k_check_changes ?a_speed_at ?l_speed_at ?cc_speed_at ?k_speed_at ?a_Calendar_init ?i_Calendar_init ?mk_Calendar_init ?kc_Calendar_init ?l_Calendar_init ?cc_Calendar_init ?k_Calendar_init ?a_Calendar_speeds ?pgt_Calendar_speeds ?ptk_Calendar_speeds ?prc_Calendar_speeds ?l_Calendar_speeds ?cc_Calendar_speeds ?k_Calendar_speeds ?a_Calendar_changes ?pgt_Calendar_changes ?ptk_Calendar_changes ?prc_Calendar_changes ?l_Calendar_changes ?cc_Calendar_changes ?k_Calendar_changes ?a_Calendar_or ?i_Calendar_or ?fi_Calendar_or ?l_Calendar_or ?cc_Calendar_or ?k_Calendar_or ?a_Calendar_and ?i_Calendar_and ?fi_Calendar_and ?l_Calendar_and ?cc_Calendar_and ?k_Calendar_and ?a_Calendar_moved ?i_Calendar_moved ?fi_Calendar_moved ?l_Calendar_moved ?cc_Calendar_moved ?k_Calendar_moved ?a_Calendar_eq ?i_Calendar_eq ?fi_Calendar_eq ?l_Calendar_eq ?cc_Calendar_eq ?k_Calendar_eq ?a_check_span ?l_check_span ?cc_check_span ?k_check_span ?a_work_of_weeks ?l_work_of_weeks ?cc_work_of_weeks ?k_work_of_weeks ?a_end_of_weeks ?l_end_of_weeks ?cc_end_of_weeks ?k_end_of_weeks ?a_begin_of_weeks ?l_begin_of_weeks ?cc_begin_of_weeks ?k_begin_of_weeks ?a_check_amount ?l_check_amount ?cc_check_amount ?k_check_amount ?a_work ?l_work ?cc_work ?k_work ?a_due ?l_due ?cc_due ?k_due ?a_latest ?l_latest ?cc_latest ?k_latest ?a_left_of ?l_left_of ?cc_left_of ?k_left_of ?a_Ticket_init ?i_Ticket_init ?mk_Ticket_init ?kc_Ticket_init ?l_Ticket_init ?cc_Ticket_init ?k_Ticket_init ?a_Ticket_moment ?pgt_Ticket_moment ?ptk_Ticket_moment ?prc_Ticket_moment ?l_Ticket_moment ?cc_Ticket_moment ?k_Ticket_moment ?a_Ticket_left ?pgt_Ticket_left ?ptk_Ticket_left ?prc_Ticket_left ?l_Ticket_left ?cc_Ticket_left ?k_Ticket_left ?a_Ticket_is_paused ?pgt_Ticket_is_paused ?ptk_Ticket_is_paused ?prc_Ticket_is_paused ?l_Ticket_is_paused ?cc_Ticket_is_paused ?k_Ticket_is_paused ?a_Ticket_left_at ?i_Ticket_left_at ?fi_Ticket_left_at ?l_Ticket_left_at ?cc_Ticket_left_at ?k_Ticket_left_at ?a_Ticket_done_at ?i_Ticket_done_at ?fi_Ticket_done_at ?l_Ticket_done_at ?cc_Ticket_done_at ?k_Ticket_done_at ?a_Ticket_can_wait ?i_Ticket_can_wait ?fi_Ticket_can_wait ?l_Ticket_can_wait ?cc_Ticket_can_wait ?k_Ticket_can_wait ?a_Ticket_note ?i_Ticket_note ?fi_Ticket_note ?l_Ticket_note ?cc_Ticket_note ?k_Ticket_note ?a_Ticket_pause ?i_Ticket_pause ?fi_Ticket_pause ?l_Ticket_pause ?cc_Ticket_pause ?k_Ticket_pause ?a_Ticket_switch ?i_Ticket_switch ?fi_Ticket_switch ?l_Ticket_switch ?cc_Ticket_switch ?k_Ticket_switch ?a_Ticket_enlarge ?i_Ticket_enlarge ?fi_Ticket_enlarge ?l_Ticket_enlarge ?cc_Ticket_enlarge ?k_Ticket_enlarge ?a_law_told ?l_law_told ?cc_law_told ?k_law_told ?a_law_built ?l_law_built ?cc_law_built ?k_law_built ?a_law_right ?l_law_right ?cc_law_right ?k_law_right ?a_law_called ?l_law_called ?cc_law_called ?k_law_called ?a_law_fits ?l_law_fits ?cc_law_fits ?k_law_fits ?a_law ?l_law ?cc_law ?k_law
    (case bnall => intro x hx; simp only [Dv.bnames, List.mem_cons, List.not_mem_nil, or_false] at hx; rcases hx with rfl | rfl | rfl | rfl | rfl | rfl | rfl | rfl | rfl | rfl | rfl | rfl | rfl | rfl | rfl | rfl | rfl | rfl | rfl | rfl | rfl | rfl | rfl | rfl <;> k_is)
    (case q_LONGEST_WEEK => k_is)
    (case q_FASTEST => k_is)
    (case cn0 => k_is)
    (case pg0 => k_is)
    (case hd0 => k_is)
    (case po0 => k_is)
    (case sa0 => k_is)
    (case no0_week_speeds => k_is)
    (case no0_real_changes => k_is)
    (case ica0 => k_is)
    (case icg0 => k_is)
    (case ict0 => k_is)
    (case icm0 => k_is)
    (case ik0_0 => kit_is)
    (case ik0_1 => kit_is)
    (case ik0_2 => kit_is)
    (case ik0_3 => kit_is)
    (case ik0_4 => kit_is)
    (case ik0_5 => kit_is)
    (case sf0 => k_is)
    (case cn1 => k_is)
    (case pg1 => k_is)
    (case hd1 => k_is)
    (case po1 => k_is)
    (case sa1 => k_is)
    (case no1_asked => k_is)
    (case no1_most => k_is)
    (case no1_calls => k_is)
    (case no1_states => k_is)
    (case a_law_well => k_is)
    (case l_law_well => k_is)
    (case cc_law_well => k_is)
    (case k_law_well => k_is)
    (case a_law_take => k_is)
    (case l_law_take => k_is)
    (case cc_law_take => k_is)
    (case k_law_take => k_is)
    (case a_law_number => k_is)
    (case l_law_number => k_is)
    (case cc_law_number => k_is)
    (case k_law_number => k_is)
    (case a_law_load => k_is)
    (case l_law_load => k_is)
    (case cc_law_load => k_is)
    (case k_law_load => k_is)
    (case a_law_paces => k_is)
    (case l_law_paces => k_is)
    (case cc_law_paces => k_is)
    (case k_law_paces => k_is)
    (case a_law_marks => k_is)
    (case l_law_marks => k_is)
    (case cc_law_marks => k_is)
    (case k_law_marks => k_is)
    (case a_law_pace => k_is)
    (case l_law_pace => k_is)
    (case cc_law_pace => k_is)
    (case k_law_pace => k_is)
    (case a_law_near => k_is)
    (case l_law_near => k_is)
    (case cc_law_near => k_is)
    (case k_law_near => k_is)
    (case a_law_total => k_is)
    (case l_law_total => k_is)
    (case cc_law_total => k_is)
    (case k_law_total => k_is)
    (case a_law_is_end => k_is)
    (case l_law_is_end => k_is)
    (case cc_law_is_end => k_is)
    (case k_law_is_end => k_is)
    (case a_law_left => k_is)
    (case l_law_left => k_is)
    (case cc_law_left => k_is)
    (case k_law_left => k_is)
    (case a_law_gap => k_is)
    (case l_law_gap => k_is)
    (case cc_law_gap => k_is)
    (case k_law_gap => k_is)
    (case a_law_is_wait => k_is)
    (case l_law_is_wait => k_is)
    (case cc_law_is_wait => k_is)
    (case k_law_is_wait => k_is)
    (case a_law_lists => k_is)
    (case l_law_lists => k_is)
    (case cc_law_lists => k_is)
    (case k_law_lists => k_is)
    (case a_check_weeks => k_is)
    (case l_check_weeks => k_is)
    (case cc_check_weeks => k_is)
    (case k_check_weeks => k_is)
    (case a_check_speeds => k_is)
    (case l_check_speeds => k_is)
    (case cc_check_speeds => k_is)
    (case k_check_speeds => k_is)
    (case a_check_changes => k_is)
    (case l_check_changes => k_is)
    (case cc_check_changes => k_is)
    (case k_check_changes => k_is)
    (case a_speed_at => k_is)
    (case l_speed_at => k_is)
    (case cc_speed_at => k_is)
    (case k_speed_at => k_is)
    (case a_Calendar_init => k_is)
    (case i_Calendar_init => k_is)
    (case mk_Calendar_init => k_is)
    (case kc_Calendar_init => k_is)
    (case l_Calendar_init => k_is)
    (case cc_Calendar_init => k_is)
    (case k_Calendar_init => k_is)
    (case a_Calendar_speeds => k_is)
    (case pgt_Calendar_speeds => k_is)
    (case ptk_Calendar_speeds => k_is)
    (case prc_Calendar_speeds => k_is)
    (case l_Calendar_speeds => k_is)
    (case cc_Calendar_speeds => k_is)
    (case k_Calendar_speeds => k_is)
    (case a_Calendar_changes => k_is)
    (case pgt_Calendar_changes => k_is)
    (case ptk_Calendar_changes => k_is)
    (case prc_Calendar_changes => k_is)
    (case l_Calendar_changes => k_is)
    (case cc_Calendar_changes => k_is)
    (case k_Calendar_changes => k_is)
    (case a_Calendar_or => k_is)
    (case i_Calendar_or => k_is)
    (case fi_Calendar_or => k_is)
    (case l_Calendar_or => k_is)
    (case cc_Calendar_or => k_is)
    (case k_Calendar_or => k_is)
    (case a_Calendar_and => k_is)
    (case i_Calendar_and => k_is)
    (case fi_Calendar_and => k_is)
    (case l_Calendar_and => k_is)
    (case cc_Calendar_and => k_is)
    (case k_Calendar_and => k_is)
    (case a_Calendar_moved => k_is)
    (case i_Calendar_moved => k_is)
    (case fi_Calendar_moved => k_is)
    (case l_Calendar_moved => k_is)
    (case cc_Calendar_moved => k_is)
    (case k_Calendar_moved => k_is)
    (case a_Calendar_eq => k_is)
    (case i_Calendar_eq => k_is)
    (case fi_Calendar_eq => k_is)
    (case l_Calendar_eq => k_is)
    (case cc_Calendar_eq => k_is)
    (case k_Calendar_eq => k_is)
    (case a_check_span => k_is)
    (case l_check_span => k_is)
    (case cc_check_span => k_is)
    (case k_check_span => k_is)
    (case a_work_of_weeks => k_is)
    (case l_work_of_weeks => k_is)
    (case cc_work_of_weeks => k_is)
    (case k_work_of_weeks => k_is)
    (case a_end_of_weeks => k_is)
    (case l_end_of_weeks => k_is)
    (case cc_end_of_weeks => k_is)
    (case k_end_of_weeks => k_is)
    (case a_begin_of_weeks => k_is)
    (case l_begin_of_weeks => k_is)
    (case cc_begin_of_weeks => k_is)
    (case k_begin_of_weeks => k_is)
    (case a_check_amount => k_is)
    (case l_check_amount => k_is)
    (case cc_check_amount => k_is)
    (case k_check_amount => k_is)
    (case a_work => k_is)
    (case l_work => k_is)
    (case cc_work => k_is)
    (case k_work => k_is)
    (case a_due => k_is)
    (case l_due => k_is)
    (case cc_due => k_is)
    (case k_due => k_is)
    (case a_latest => k_is)
    (case l_latest => k_is)
    (case cc_latest => k_is)
    (case k_latest => k_is)
    (case a_left_of => k_is)
    (case l_left_of => k_is)
    (case cc_left_of => k_is)
    (case k_left_of => k_is)
    (case a_Ticket_init => k_is)
    (case i_Ticket_init => k_is)
    (case mk_Ticket_init => k_is)
    (case kc_Ticket_init => k_is)
    (case l_Ticket_init => k_is)
    (case cc_Ticket_init => k_is)
    (case k_Ticket_init => k_is)
    (case a_Ticket_moment => k_is)
    (case pgt_Ticket_moment => k_is)
    (case ptk_Ticket_moment => k_is)
    (case prc_Ticket_moment => k_is)
    (case l_Ticket_moment => k_is)
    (case cc_Ticket_moment => k_is)
    (case k_Ticket_moment => k_is)
    (case a_Ticket_left => k_is)
    (case pgt_Ticket_left => k_is)
    (case ptk_Ticket_left => k_is)
    (case prc_Ticket_left => k_is)
    (case l_Ticket_left => k_is)
    (case cc_Ticket_left => k_is)
    (case k_Ticket_left => k_is)
    (case a_Ticket_is_paused => k_is)
    (case pgt_Ticket_is_paused => k_is)
    (case ptk_Ticket_is_paused => k_is)
    (case prc_Ticket_is_paused => k_is)
    (case l_Ticket_is_paused => k_is)
    (case cc_Ticket_is_paused => k_is)
    (case k_Ticket_is_paused => k_is)
    (case a_Ticket_left_at => k_is)
    (case i_Ticket_left_at => k_is)
    (case fi_Ticket_left_at => k_is)
    (case l_Ticket_left_at => k_is)
    (case cc_Ticket_left_at => k_is)
    (case k_Ticket_left_at => k_is)
    (case a_Ticket_done_at => k_is)
    (case i_Ticket_done_at => k_is)
    (case fi_Ticket_done_at => k_is)
    (case l_Ticket_done_at => k_is)
    (case cc_Ticket_done_at => k_is)
    (case k_Ticket_done_at => k_is)
    (case a_Ticket_can_wait => k_is)
    (case i_Ticket_can_wait => k_is)
    (case fi_Ticket_can_wait => k_is)
    (case l_Ticket_can_wait => k_is)
    (case cc_Ticket_can_wait => k_is)
    (case k_Ticket_can_wait => k_is)
    (case a_Ticket_note => k_is)
    (case i_Ticket_note => k_is)
    (case fi_Ticket_note => k_is)
    (case l_Ticket_note => k_is)
    (case cc_Ticket_note => k_is)
    (case k_Ticket_note => k_is)
    (case a_Ticket_pause => k_is)
    (case i_Ticket_pause => k_is)
    (case fi_Ticket_pause => k_is)
    (case l_Ticket_pause => k_is)
    (case cc_Ticket_pause => k_is)
    (case k_Ticket_pause => k_is)
    (case a_Ticket_switch => k_is)
    (case i_Ticket_switch => k_is)
    (case fi_Ticket_switch => k_is)
    (case l_Ticket_switch => k_is)
    (case cc_Ticket_switch => k_is)
    (case k_Ticket_switch => k_is)
    (case a_Ticket_enlarge => k_is)
    (case i_Ticket_enlarge => k_is)
    (case fi_Ticket_enlarge => k_is)
    (case l_Ticket_enlarge => k_is)
    (case cc_Ticket_enlarge => k_is)
    (case k_Ticket_enlarge => k_is)
    (case a_law_told => k_is)
    (case l_law_told => k_is)
    (case cc_law_told => k_is)
    (case k_law_told => k_is)
    (case a_law_built => k_is)
    (case l_law_built => k_is)
    (case cc_law_built => k_is)
    (case k_law_built => k_is)
    (case a_law_right => k_is)
    (case l_law_right => k_is)
    (case cc_law_right => k_is)
    (case k_law_right => k_is)
    (case a_law_called => k_is)
    (case l_law_called => k_is)
    (case cc_law_called => k_is)
    (case k_law_called => k_is)
    (case a_law_fits => k_is)
    (case l_law_fits => k_is)
    (case cc_law_fits => k_is)
    (case k_law_fits => k_is)
    (case a_law => k_is)
    (case l_law => k_is)
    (case cc_law => k_is)
    (case k_law => k_is)
#print axioms PySem.Challenge.cw_dueclocks_k62_tickets_switched_and_enlar_holds


