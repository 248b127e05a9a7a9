import PyProof.Rows.All
import Wide.All
import OpenK.AllK
import Wide.FinOn
import HandS.ForMost
import HandS.ForExc
import HandS.Wide
import HandS.Lambda
import HandS.TupAny
import HandS.RaiseMore
import PyProof.ReprRoads
import HandS.SortInts
import HandS.Style
import HandS.TryOnly
import HandS.Zip
import HandS.Iter
import HandS.Property
import HandS.OwnEq
import PyProof.ReprLen
import PyProof.FitsInt
import HandS.IsInst
import KE.RegKIsAll
import HandS.SetFor
import HandS.Strs
import HandS.SetBool
import HandS.ExcInit
import HandS.ExcField
import HandS.ExcIs
import HandS.TryMany
import KE.KCallOwn
import PyProof.InstNe
import OpenK.KOps
import HandS.ClsMeth
import HandS.Conv
import PyProof.LongRange
import PyProof.ListRange
import KE.KDictZip
import HandS.Dict
import HandS.Defaults
import HandS.GenList
import HandS.NestedK
import HandS.EndTab
import KE.KNestM
import PyProof.MakeMany
import KE.KOpsOwn
import KE.SortKeyHeap
import PySem.Challenge.RW_dueclocks_k38_rules_far_apart
set_option maxHeartbeats 0
set_option Elab.async false
set_option linter.all false
set_option maxRecDepth 100000
/-! Dv1: data trees, slot values, their representation in the tracked heap, and how a piece of code may change the heap. -/
namespace Dv
open PySem PySem.Spec PyProof.Rows L2

/-- immutable data (also lists that nobody changes any more; instances of class number k with their fields) -/
inductive D where
  | non | bl (b : Bool) | int (i : Int) | str (s : Str)
  | lst (ds : List D) | tup (ds : List D)
  | obj (k : Nat) (ds : List D)
  | scr (ns : List Int)
  | kls (k : Nat)
  | fn (k : Nat)

/-- what a name holds: data; a list or an instance that this name alone owns; a dict of its own, keys ints; a place (slot i, field j of slot i) -/
inductive SV where
  | d (x : D)
  | lst (ds : List D)
  | ins (k : Nat) (fs : List SV)
  | dct (kvs : List (Int × D))
  | sl (i : Nat)
  | fl (i j : Nat)

abbrev Rho := List (Option SV)

/-- a lambda without captured names: how it is called, what it is -/
structure LamD where
  qual : Str
  params : Arguments
  body : Expr
  scope : Scope
/-- static names of the classes: their address and their fields in order; under the same numbers the lambdas, and (at 0) the tables of those who make them: the code object, the table, the lambdas' name -/
structure Cl where
  adr : Addr
  fld : List Str
  lam : Option LamD := none
  tab : List (Addr × Addr × Str) := []
  deriving Inhabited
/-- a function made of a lambda: its code object is at c -/
def LamO (f : Addr) (L : LamD) (c : Addr) : HO := .ext fun h => ∃ pm ctv : Value, h.get? f = some (PySem.W.kla_obj "<lambda>" L.qual L.params L.body L.scope [] pm c ctv)
/-- the table at P: all code objects that it tells are known and bear the name q -/
def TabF (F H : Hp) (P : Addr) (q : Str) : Prop := F P = none ∧ ∃ ps : Array Value, H P = some (.tbl ps) ∧ TriplesOk ps.toList ∧ ∀ (pos : Pos) (cv : Value), codeAmong pos ps.toList = some cv → ∃ c, cv = .ref c ∧ F c = some (LamX.CodeO c q)
def TabsF (cl : Nat → Cl) (F H : Hp) : Prop := ∀ p ∈ (cl 0).tab, TabF F H p.2.1 p.2.2
abbrev NoT (o : HO) : Prop := ∀ ps, o ≠ .tbl ps
theorem TabF.go {F F' H H' : Hp} {P : Addr} {q : Str} (t : TabF F H P q) (sf : Same F F') (nf : F' P = F P) (hp : H' P = H P) : TabF F' H' P q := by
  obtain ⟨a, ps, b, c, d⟩ := t
  refine ⟨nf.trans a, ps, hp.trans b, c, fun pos cv e => ?_⟩
  obtain ⟨x, e1, e2⟩ := d pos cv e
  exact ⟨x, e1, sf _ _ e2⟩
theorem TabF.ne {F H : Hp} {P p : Addr} {q : Str} {o : HO} (t : TabF F H P q) (h : H p = some o) (n : NoT o) : P ≠ p := fun z => by
  obtain ⟨_, ps, b, _⟩ := t
  rw [z, h] at b
  cases b
  exact n _ rfl
theorem TabF.ne_new {F H : Hp} {P p : Addr} {q : Str} (t : TabF F H P q) (h : H p = none) : P ≠ p := fun z => by
  obtain ⟨_, ps, b, _⟩ := t
  rw [z, h] at b
  cases b
theorem upd_at {H : Hp} {a b : Addr} {o : HO} (h : a ≠ b) : upd H b o a = H a := by
  unfold upd
  rw [if_neg h]
/-- one object written, no table -/
theorem TabsF.upd {cl : Nat → Cl} {F H : Hp} {p : Addr} {o : HO} (t : TabsF cl F H) (h : H p = none ∨ ∃ u, H p = some u ∧ NoT u) : TabsF cl F (L2.upd H p o) := fun x hx => by
  have w := t x hx
  refine w.go (Same.refl F) rfl (upd_at ?_)
  rcases h with h | ⟨u, h, n⟩
  · exact w.ne_new h
  · exact w.ne h n
theorem TabsF.frz {cl : Nat → Cl} {F H : Hp} {p : Addr} {o u : HO} (t : TabsF cl F H) (nF : F p = none) (h : H p = some u) (n : NoT u) : TabsF cl (L2.upd F p o) H := fun x hx => by
  have w := t x hx
  refine w.go (fun a v e => ?_) (upd_at (w.ne h n)) rfl
  rw [upd_at (fun z => by rw [z, nF] at e; cases e)]
  exact e
/-- an object stays; a table stays a table -/
def Kept (o : HO) (x : Option HO) : Prop := x = some o ∨ ∃ ps ps', o = .tbl ps ∧ x = some (.tbl ps')
theorem Kept.eq {o : HO} {x : Option HO} (k : Kept o x) (n : NoT o) : x = some o := by
  rcases k with h | ⟨ps, _, h, _⟩
  · exact h
  · exact absurd h (n ps)
theorem Kept.at {o : HO} {x : Option HO} (k : Kept o x) : ∃ u, x = some u := by
  rcases k with h | ⟨_, _, _, h⟩ <;> exact ⟨_, h⟩
theorem Kept.go {o : HO} {H1 H2 : Hp} {a : Addr} (k : Kept o (H1 a)) (h : ∀ u, H1 a = some u → Kept u (H2 a)) : Kept o (H2 a) := by
  rcases k with e | ⟨ps, ps', e, e'⟩
  · exact h _ e
  · rcases h _ e' with z | ⟨_, _, z, z'⟩
    · exact .inr ⟨_, _, e, z⟩
    · exact .inr ⟨_, _, e, z'⟩
section
variable (K : PySem.W.Frag) (cl : Nat → Cl)
mutual
def R (F : Hp) : V → D → Prop
  | v, .non => v = .non
  | v, .bl b => v = .bl b
  | v, .int i => v = .int i
  | v, .str s => v = .str s
  | v, .lst ds => ∃ a vs, v = .ref a ∧ F a = some (.lst vs) ∧ RL F vs ds
  | v, .tup ds => ∃ a vs, v = .ref a ∧ F a = some (.tup vs) ∧ RL F vs ds
  | v, .scr ns => ∃ a, v = .ref a ∧ SqL K F a (ns.map V.int)
  | v, .kls k => v = .ref (cl k).adr
  | v, .fn k => ∃ f c L, v = .ref f ∧ (cl k).lam = some L ∧ F f = some (LamO f L c) ∧ F c = some (LamX.CodeO c L.qual)
  | v, .obj k ds => ∃ a dx vs, v = .ref a ∧ F a = some (.ins (cl k).adr dx ((cl k).fld.zip vs)) ∧ vs.length ≤ (cl k).fld.length ∧ RL F vs ds
def RL (F : Hp) : List V → List D → Prop
  | vs, [] => vs = []
  | vs, d :: ds => ∃ v r, vs = v :: r ∧ R F v d ∧ RL F r ds
end
end

section
variable {K : PySem.W.Frag} {cl : Nat → Cl} {F F' H H' : Hp}
mutual
theorem R.mono (e : Same F F') : ∀ {v : V} {d : D}, R K cl F v d → R K cl F' v d
  | _, .non, h => by simpa [R] using h
  | _, .bl _, h => by simpa [R] using h
  | _, .int _, h => by simpa [R] using h
  | _, .str _, h => by simpa [R] using h
  | _, .lst ds, h => by
    simp only [R] at h ⊢
    obtain ⟨a, vs, h1, h2, h3⟩ := h
    exact ⟨a, vs, h1, e _ _ h2, RL.mono e h3⟩
  | _, .tup ds, h => by
    simp only [R] at h ⊢
    obtain ⟨a, vs, h1, h2, h3⟩ := h
    exact ⟨a, vs, h1, e _ _ h2, RL.mono e h3⟩
  | _, .kls k, h => by
    simp only [R] at h ⊢
    exact h
  | _, .scr ns, h => by
    simp only [R] at h ⊢
    obtain ⟨a, h1, h2⟩ := h
    exact ⟨a, h1, e.seq h2⟩
  | _, .fn k, h => by
    simp only [R] at h ⊢
    obtain ⟨f, c, L, h1, h2, h3, h4⟩ := h
    exact ⟨f, c, L, h1, h2, e _ _ h3, e _ _ h4⟩
  | _, .obj k ds, h => by
    simp only [R] at h ⊢
    obtain ⟨a, dx, vs, h1, h2, h3, h4⟩ := h
    exact ⟨a, dx, vs, h1, e _ _ h2, h3, RL.mono e h4⟩
theorem RL.mono (e : Same F F') : ∀ {vs : List V} {ds : List D}, RL K cl F vs ds → RL K cl F' vs ds
  | _, [], h => by simpa [RL] using h
  | _, d :: ds, h => by
    simp only [RL] at h ⊢
    obtain ⟨v, r, h1, h2, h3⟩ := h
    exact ⟨v, r, h1, R.mono e h2, RL.mono e h3⟩
end
theorem RL.length : ∀ {vs : List V} {ds : List D}, RL K cl F vs ds → vs.length = ds.length
  | _, [], h => by simp only [RL] at h; simp [h]
  | _, d :: ds, h => by
    simp only [RL] at h
    obtain ⟨v, r, rfl, _, h3⟩ := h
    simp [RL.length h3]
theorem RL.get : ∀ {vs : List V} {ds : List D} {i : Nat} {d : D}, RL K cl F vs ds → ds[i]? = some d → ∃ v, vs[i]? = some v ∧ R K cl F v d
  | _, [], i, d, _, e => by simp at e
  | _, x :: ds, 0, d, h, e => by
    simp only [RL] at h
    obtain ⟨v, r, rfl, h2, _⟩ := h
    simp at e; subst e
    exact ⟨v, rfl, h2⟩
  | _, x :: ds, i + 1, d, h, e => by
    simp only [RL] at h
    obtain ⟨v, r, rfl, _, h3⟩ := h
    obtain ⟨w, h1, h2⟩ := RL.get (i := i) h3 (by simpa using e)
    exact ⟨w, by simpa using h1, h2⟩
theorem RL.get' : ∀ {vs : List V} {ds : List D} {i : Nat} {v : V}, RL K cl F vs ds → vs[i]? = some v → ∃ d, ds[i]? = some d ∧ R K cl F v d := fun {vs ds i v} h e => by
  have hl := h.length
  have hi : i < vs.length := (List.getElem?_eq_some_iff.mp e).1
  obtain ⟨w, h1, h2⟩ := h.get (i := i) (d := ds[i]'(by omega)) (by simp)
  rw [e] at h1; cases h1
  exact ⟨_, by simp, h2⟩
theorem RL.nil : RL K cl F [] [] := by simp [RL]
theorem RL.cons {v : V} {d : D} {vs : List V} {ds : List D} (h : R K cl F v d) (t : RL K cl F vs ds) : RL K cl F (v :: vs) (d :: ds) := by
  simp only [RL]
  exact ⟨v, vs, rfl, h, t⟩
theorem RL.append : ∀ {vs ws : List V} {ds es : List D}, RL K cl F vs ds → RL K cl F ws es → RL K cl F (vs ++ ws) (ds ++ es)
  | _, _, [], _, h, t => by simp only [RL] at h; subst h; exact t
  | _, _, d :: ds, _, h, t => by
    simp only [RL] at h
    obtain ⟨v, r, rfl, h2, h3⟩ := h
    exact RL.cons h2 (RL.append h3 t)
theorem RL.set : ∀ {vs : List V} {ds : List D} {v : V} {d : D} (i : Nat), RL K cl F vs ds → R K cl F v d → RL K cl F (vs.set i v) (ds.set i d)
  | _, [], _, _, _, h, _ => by simp only [RL] at h; subst h; exact RL.nil
  | _, x :: ds, v, d, 0, h, q => by
    simp only [RL] at h
    obtain ⟨w, r, rfl, h2, h3⟩ := h
    exact RL.cons q h3
  | _, x :: ds, v, d, i + 1, h, q => by
    simp only [RL] at h
    obtain ⟨w, r, rfl, h2, h3⟩ := h
    exact RL.cons h2 (RL.set i h3 q)
theorem RL.take : ∀ {vs : List V} {ds : List D} (n : Nat), RL K cl F vs ds → RL K cl F (vs.take n) (ds.take n)
  | _, [], n, h => by simp only [RL] at h; subst h; simp [RL]
  | _, x :: ds, 0, h => by simp [RL]
  | _, x :: ds, n + 1, h => by
    simp only [RL] at h
    obtain ⟨w, r, rfl, h2, h3⟩ := h
    exact RL.cons h2 (RL.take n h3)
theorem RL.drop : ∀ {vs : List V} {ds : List D} (n : Nat), RL K cl F vs ds → RL K cl F (vs.drop n) (ds.drop n)
  | _, [], n, h => by simp only [RL] at h; subst h; simp [RL]
  | _, x :: ds, 0, h => h
  | _, x :: ds, n + 1, h => by
    simp only [RL] at h
    obtain ⟨w, r, rfl, h2, h3⟩ := h
    exact RL.drop n h3
theorem RL.reverse : ∀ {vs : List V} {ds : List D}, RL K cl F vs ds → RL K cl F vs.reverse ds.reverse
  | _, [], h => by simp only [RL] at h; subst h; exact RL.nil
  | _, x :: ds, h => by
    simp only [RL] at h
    obtain ⟨w, r, rfl, h2, h3⟩ := h
    rw [List.reverse_cons, List.reverse_cons]
    exact RL.append (RL.reverse h3) (RL.cons h2 RL.nil)
theorem RL.ints : ∀ {vs : List V} {ns : List Int}, RL K cl F vs (ns.map D.int) → vs = ns.map V.int
  | _, [], h => by simpa [RL] using h
  | _, n :: ns, h => by
    simp only [List.map_cons, RL, R] at h
    obtain ⟨v, r, rfl, rfl, h3⟩ := h
    rw [RL.ints h3]; rfl
theorem RL.of_ints : ∀ {ns : List Int}, RL K cl F (ns.map V.int) (ns.map D.int)
  | [] => RL.nil
  | n :: ns => RL.cons (by simp [R]) RL.of_ints
end

/-! ### what code may do to the heap: F data that stay, H all, A the owned addresses -/
structure Ext (F H : Hp) (A : List Addr) (F' H' : Hp) (A' : List Addr) : Prop where
  sf : Same F F'
  fr : ∀ a o, H a = some o → a ∉ A → Kept o (H' a)
  nf : ∀ a o, F' a = some o → F a = some o ∨ H a = none ∨ a ∈ A
  na : ∀ a ∈ A', a ∈ A ∨ H a = none
theorem Ext.refl {F H : Hp} {A : List Addr} : Ext F H A F H A := ⟨Same.refl F, fun _ _ h _ => .inl h, fun _ _ h => .inl h, fun _ h => .inl h⟩
theorem Ext.trans {F H F1 H1 F2 H2 : Hp} {A A1 A2 : List Addr} (x : Ext F H A F1 H1 A1) (y : Ext F1 H1 A1 F2 H2 A2) : Ext F H A F2 H2 A2 where
  sf := x.sf.trans y.sf
  fr := fun a o h n => (x.fr a o h n).go fun u e => y.fr a u e fun m => by
    rcases x.na a m with q | q
    · exact n q
    · rw [h] at q; cases q
  nf := fun a o h => by
    rcases y.nf a o h with q | q | q
    · exact x.nf a o q
    · by_cases m : a ∈ A
      · exact .inr (.inr m)
      · cases e : H a with
        | none => exact .inr (.inl rfl)
        | some u => obtain ⟨_, z⟩ := (x.fr a u e m).at; rw [z] at q; cases q
    · rcases x.na a q with r | r
      · exact .inr (.inr r)
      · exact .inr (.inl r)
  na := fun a h => by
    rcases y.na a h with q | q
    · exact x.na a q
    · by_cases m : a ∈ A
      · exact .inl m
      · cases e : H a with
        | none => exact .inr rfl
        | some u => obtain ⟨_, z⟩ := (x.fr a u e m).at; rw [z] at q; cases q
/-- fewer owned addresses behind -/
theorem Ext.sub {F H F' H' : Hp} {A A' B : List Addr} (x : Ext F H A F' H' A') (h : ∀ a ∈ B, a ∈ A') : Ext F H A F' H' B := ⟨x.sf, x.fr, x.nf, fun a m => x.na a (h a m)⟩
/-- code that knows of the owned A, run where B is owned besides -/
theorem Ext.frame {F H F' H' : Hp} {A A' B : List Addr} (x : Ext F H A F' H' A') : Ext F H (B ++ A) F' H' (B ++ A') where
  sf := x.sf
  fr := fun a o h n => x.fr a o h fun m => n (List.mem_append_right _ m)
  nf := fun a o h => by
    rcases x.nf a o h with q | q | q
    · exact .inl q
    · exact .inr (.inl q)
    · exact .inr (.inr (List.mem_append_right _ q))
  na := fun a m => by
    rcases List.mem_append.mp m with q | q
    · exact .inl (List.mem_append_left _ q)
    · rcases x.na a q with r | r
      · exact .inl (List.mem_append_right _ r)
      · exact .inr r

/-! ### what a slot's value is -/
section
variable (K : PySem.W.Frag) (cl : Nat → Cl)
mutual
/-- B: the addresses that the value owns (places are no values of slots) -/
def RS (F H : Hp) : V → SV → List Addr → Prop
  | v, .d x, B => R K cl F v x ∧ B = []
  | v, .lst ds, B => ∃ a vs, v = .ref a ∧ H a = some (.lst vs) ∧ RL K cl F vs ds ∧ B = [a]
  | v, .ins k fs, B => ∃ a dx vs B', v = .ref a ∧ H a = some (.ins (cl k).adr dx (((cl k).fld.take fs.length).zip vs)) ∧ fs.length ≤ (cl k).fld.length ∧ RSL F H vs fs B' ∧ B = a :: B'
  | v, .dct kvs, B => ∃ (a : Addr) (us : List (Key × V)), v = .ref a ∧ H a = some (.dK us) ∧ us.map Prod.fst = kvs.map (fun p => (Sum.inl p.1 : Key)) ∧ RL K cl F (us.map Prod.snd) (kvs.map Prod.snd) ∧ B = [a]
  | v, .sl i, B => False
  | v, .fl i j, B => False
def RSL (F H : Hp) : List V → List SV → List Addr → Prop
  | vs, [], B => vs = [] ∧ B = []
  | vs, x :: xs, B => ∃ v r B1 B2, vs = v :: r ∧ RS F H v x B1 ∧ RSL F H r xs B2 ∧ B = B1 ++ B2
end
/-- the slots one by one -/
inductive Sl (F H : Hp) : L2.St → Rho → List Addr → Prop
  | nil : Sl F H [] [] []
  | skip {x σ ρ A} : Sl F H σ ρ A → Sl F H (x :: σ) (none :: ρ) A
  | one {v sv B σ ρ A} : RS K cl F H v sv B → Sl F H σ ρ A → Sl F H (some v :: σ) (some sv :: ρ) (B ++ A)
structure Hold (σ : L2.St) (F H : Hp) (ρ : Rho) (A : List Addr) : Prop where
  sl : ∃ A1, Sl K cl F H σ ρ A1 ∧ A1.Perm A
  sub : Same F H
  nd : A.Nodup
  av : ∀ a ∈ A, F a = none
  tb : TabsF cl F H
end
section
variable {K : PySem.W.Frag} {cl : Nat → Cl} {F F' H H' : Hp} {σ : L2.St} {ρ : Rho} {A B : List Addr}
mutual
theorem RS.mono (e : Same F F') : ∀ {v : V} {x : SV} {B : List Addr}, (∀ a ∈ B, ∀ o, H a = some o → Kept o (H' a)) → RS K cl F H v x B → RS K cl F' H' v x B
  | _, .d x, _, _, h => by
    simp only [RS] at h ⊢
    exact ⟨h.1.mono e, h.2⟩
  | _, .lst ds, _, k, h => by
    simp only [RS] at h ⊢
    obtain ⟨a, vs, h1, h2, h3, rfl⟩ := h
    exact ⟨a, vs, h1, (k a (by simp) _ h2).eq (fun _ z => nomatch z), h3.mono e, rfl⟩
  | _, .ins n fs, _, k, h => by
    simp only [RS] at h ⊢
    obtain ⟨a, dx, vs, B', h1, h2, h3, h4, rfl⟩ := h
    exact ⟨a, dx, vs, B', h1, (k a (by simp) _ h2).eq (fun _ z => nomatch z), h3, RSL.mono e (fun b m => k b (List.mem_cons_of_mem _ m)) h4, rfl⟩
  | _, .dct kvs, _, k, h => by
    simp only [RS] at h ⊢
    obtain ⟨a, us, h1, h2, h3, h4, rfl⟩ := h
    exact ⟨a, us, h1, (k a (by simp) _ h2).eq (fun _ z => nomatch z), h3, h4.mono e, rfl⟩
  | _, .sl i, _, _, h => by simp only [RS] at h
  | _, .fl _ _, _, _, h => by simp only [RS] at h
theorem RSL.mono (e : Same F F') : ∀ {vs : List V} {xs : List SV} {B : List Addr}, (∀ a ∈ B, ∀ o, H a = some o → Kept o (H' a)) → RSL K cl F H vs xs B → RSL K cl F' H' vs xs B
  | _, [], _, _, h => by simpa only [RSL] using h
  | _, x :: xs, _, k, h => by
    simp only [RSL] at h ⊢
    obtain ⟨v, r, B1, B2, h1, h2, h3, rfl⟩ := h
    exact ⟨v, r, B1, B2, h1, RS.mono e (fun b m => k b (List.mem_append_left _ m)) h2, RSL.mono e (fun b m => k b (List.mem_append_right _ m)) h3, rfl⟩
end
mutual
theorem RS.own : ∀ {v : V} {x : SV} {B : List Addr}, RS K cl F H v x B → ∀ a ∈ B, ∃ o, H a = some o ∧ Mut (some o)
  | _, .d x, _, h => by
    simp only [RS] at h
    obtain ⟨_, rfl⟩ := h
    simp
  | _, .lst ds, _, h => by
    simp only [RS] at h
    obtain ⟨a, vs, h1, h2, h3, rfl⟩ := h
    intro b m
    simp at m; subst m
    exact ⟨_, h2, trivial⟩
  | _, .ins n fs, _, h => by
    simp only [RS] at h
    obtain ⟨a, dx, vs, B', h1, h2, h3, h4, rfl⟩ := h
    intro b m
    rcases List.mem_cons.mp m with rfl | m
    · exact ⟨_, h2, trivial⟩
    · exact RSL.own h4 b m
  | _, .dct kvs, _, h => by
    simp only [RS] at h
    obtain ⟨a, us, h1, h2, h3, h4, rfl⟩ := h
    intro b m
    simp at m; subst m
    exact ⟨_, h2, trivial⟩
  | _, .sl i, _, h => by simp only [RS] at h
  | _, .fl _ _, _, h => by simp only [RS] at h
theorem RSL.own : ∀ {vs : List V} {xs : List SV} {B : List Addr}, RSL K cl F H vs xs B → ∀ a ∈ B, ∃ o, H a = some o ∧ Mut (some o)
  | _, [], _, h => by
    simp only [RSL] at h
    obtain ⟨_, rfl⟩ := h
    simp
  | _, x :: xs, _, h => by
    simp only [RSL] at h
    obtain ⟨v, r, B1, B2, h1, h2, h3, rfl⟩ := h
    intro b m
    rcases List.mem_append.mp m with m | m
    · exact RS.own h2 b m
    · exact RSL.own h3 b m
end
theorem Sl.mono (e : Same F F') (k : ∀ a ∈ A, ∀ o, H a = some o → Kept o (H' a)) (h : Sl K cl F H σ ρ A) : Sl K cl F' H' σ ρ A := by
  induction h with
  | nil => exact .nil
  | skip _ ih => exact .skip (ih k)
  | one r _ ih => exact .one (RS.mono e (fun a m => k a (List.mem_append_left _ m)) r) (ih fun a m => k a (List.mem_append_right _ m))
theorem Sl.own (h : Sl K cl F H σ ρ A) : ∀ a ∈ A, ∃ o, H a = some o ∧ Mut (some o) := by
  induction h with
  | nil => simp
  | skip _ ih => exact ih
  | one r _ ih =>
    intro a m
    rcases List.mem_append.mp m with m | m
    · exact r.own a m
    · exact ih a m
theorem Sl.length (h : Sl K cl F H σ ρ A) : σ.length = ρ.length := by
  induction h with
  | nil => rfl
  | skip _ ih => simp [ih]
  | one _ _ ih => simp [ih]
theorem Hold.own (h : Hold K cl σ F H ρ A) : ∀ a ∈ A, ∃ o, H a = some o ∧ Mut (some o) := fun a m =>
  let ⟨_, s, p⟩ := h.sl
  s.own a (p.mem_iff.mpr m)
theorem Hold.len (h : Hold K cl σ F H ρ A) : σ.length = ρ.length := let ⟨_, s, _⟩ := h.sl; s.length
/-- one slot, and what it is to put another thing there -/
theorem Sl.at (h : Sl K cl F H σ ρ A) {i : Nat} {sv : SV} (e : ρ[i]? = some (some sv)) :
    ∃ v B A0, σ[i]? = some (some v) ∧ RS K cl F H v sv B ∧ A.Perm (B ++ A0) ∧
      ∀ v' sv' B', RS K cl F H v' sv' B' → ∃ A', Sl K cl F H (σ.set i (some v')) (ρ.set i (some sv')) A' ∧ A'.Perm (B' ++ A0) := by
  induction h generalizing i with
  | nil => simp at e
  | @skip x σ ρ A h ih =>
    cases i with
    | zero => simp at e
    | succ i =>
      obtain ⟨v, B, A0, h1, h2, h3, h4⟩ := ih (i := i) (by simpa using e)
      refine ⟨v, B, A0, by simpa using h1, h2, h3, fun v' sv' B' q => ?_⟩
      obtain ⟨A', h5, h6⟩ := h4 v' sv' B' q
      exact ⟨A', .skip h5, h6⟩
  | @one v0 sv0 B0 σ ρ A r h ih =>
    cases i with
    | zero =>
      simp at e; subst e
      exact ⟨v0, B0, A, rfl, r, .refl _, fun v' sv' B' q => ⟨_, .one q h, .refl _⟩⟩
    | succ i =>
      obtain ⟨v, B, A0, h1, h2, h3, h4⟩ := ih (i := i) (by simpa using e)
      refine ⟨v, B, B0 ++ A0, by simpa using h1, h2, ?_, fun v' sv' B' q => ?_⟩
      · refine (List.Perm.append_left B0 h3).trans ?_
        rw [← List.append_assoc, ← List.append_assoc]
        exact List.Perm.append_right _ List.perm_append_comm
      · obtain ⟨A', h5, h6⟩ := h4 v' sv' B' q
        refine ⟨_, .one r h5, ?_⟩
        refine (List.Perm.append_left B0 h6).trans ?_
        rw [← List.append_assoc, ← List.append_assoc]
        exact List.Perm.append_right _ List.perm_append_comm
/-- a slot that held nothing known, or data: something is put there -/
theorem Sl.put (h : Sl K cl F H σ ρ A) {i : Nat} (hi : i < σ.length) {v' : V} {sv' : SV} {B' : List Addr} (q : RS K cl F H v' sv' B') :
    ∃ A' A0, Sl K cl F H (σ.set i (some v')) (ρ.set i (some sv')) A' ∧ A'.Perm (B' ++ A0) ∧ A0.Sublist A := by
  induction h generalizing i with
  | nil => simp at hi
  | @skip x σ ρ A h ih =>
    cases i with
    | zero => exact ⟨_, A, .one q h, .refl _, .refl _⟩
    | succ i =>
      obtain ⟨A', A0, h5, h6, h7⟩ := ih (i := i) (by simpa using hi)
      exact ⟨A', A0, .skip h5, h6, h7⟩
  | @one v0 sv0 B0 σ ρ A r h ih =>
    cases i with
    | zero => exact ⟨_, A, .one q h, .refl _, List.sublist_append_right _ _⟩
    | succ i =>
      obtain ⟨A', A0, h5, h6, h7⟩ := ih (i := i) (by simpa using hi)
      refine ⟨_, B0 ++ A0, .one r h5, ?_, List.Sublist.append_left h7 _⟩
      refine (List.Perm.append_left B0 h6).trans ?_
      rw [← List.append_assoc, ← List.append_assoc]
      exact List.Perm.append_right _ List.perm_append_comm
/-- slots forgotten: ρ' tells less -/
inductive Fgt : Rho → Rho → Prop
  | nil : Fgt [] []
  | same {x ρ ρ'} : Fgt ρ ρ' → Fgt (x :: ρ) (x :: ρ')
  | lose {x ρ ρ'} : Fgt ρ ρ' → Fgt (x :: ρ) (none :: ρ')
theorem Fgt.refl : ∀ (ρ : Rho), Fgt ρ ρ
  | [] => .nil
  | _ :: ρ => .same (Fgt.refl ρ)
theorem Sl.fgt (h : Sl K cl F H σ ρ A) {ρ' : Rho} (f : Fgt ρ ρ') : ∃ A', Sl K cl F H σ ρ' A' ∧ A'.Sublist A := by
  induction h generalizing ρ' with
  | nil => cases f; exact ⟨_, .nil, .refl _⟩
  | skip h ih =>
    cases f with
    | same f => obtain ⟨A', h1, h2⟩ := ih f; exact ⟨A', .skip h1, h2⟩
    | lose f => obtain ⟨A', h1, h2⟩ := ih f; exact ⟨A', .skip h1, h2⟩
  | one r h ih =>
    cases f with
    | same f => obtain ⟨A', h1, h2⟩ := ih f; exact ⟨_, .one r h1, List.Sublist.append_left h2 _⟩
    | lose f => obtain ⟨A', h1, h2⟩ := ih f; exact ⟨A', .skip h1, h2.trans (List.sublist_append_right _ _)⟩
theorem Hold.fgt (h : Hold K cl σ F H ρ A) {ρ' : Rho} (f : Fgt ρ ρ') : ∃ A', Hold K cl σ F H ρ' A' ∧ ∀ a ∈ A', a ∈ A := by
  obtain ⟨A1, s, p⟩ := h.sl
  obtain ⟨A', h1, h2⟩ := s.fgt f
  have hm : ∀ a ∈ A', a ∈ A := fun a m => p.mem_iff.mp (h2.subset m)
  exact ⟨A', ⟨⟨A', h1, .refl _⟩, h.sub, (p.nodup_iff.mpr h.nd).sublist h2, fun a m => h.av a (hm a m), h.tb⟩, hm⟩
end
end Dv

/-! Dv2: what code is worth (combinators over slots), and that it is so: expressions, tests, arguments. -/
namespace Dv
open PySem PySem.Spec PyProof.Rows L2
abbrev Sg := L2.St

/-- the run's constants -/
structure Wd where
  P : Program
  w : World
  K : PySem.W.Frag
  mg : Str → Option Value
  base : Heap
  cl : Nat → Cl
  exc : Nat → Addr
  gk : Bool

/-- built-in names that the module leaves alone -/
def bnames : List Str := ["len", "abs", "max", "min", "int", "str", "list", "tuple", "sum", "sorted", "all", "repr", "range", "enumerate", "zip", "isinstance", "divmod", "set", "any", "bool", "reversed", "type", "iter", "next", "dict"]
structure Ctx (Γ : Wd) (X : Cx) (N : List Str) (sc : Scope) (fp : Str → Bool) (k : Nat) : Prop where
  p : X.prog = Γ.P
  w : X.w = Γ.w
  K : X.K = Γ.K
  mg : X.mg = Γ.mg
  base : X.base = Γ.base
  hN : X.N = N
  nd : N.Nodup
  hs : X.env.scope = sc
  calm : X.calm = true
  room : Room k X.A
  gd : Γ.gk = true → X.A.guards = some []
  fn : X.fn = fp
  bn : ∀ x ∈ bnames, Γ.mg x = none

/-! ### wishes -/
abbrev WK := SV → Rho → Prop
abbrev EK := Nat → D → Rho → Prop
abbrev WE := Rho → WK → EK → Prop
abbrev WT := Rho → (Bool → Rho → Prop) → EK → Prop
abbrev WA := Rho → (List SV → Rho → Prop) → EK → Prop
structure Nd where
  nx : Rho → Prop
  rt : SV → Rho → Prop
  bk : Rho → Prop
  ct : Rho → Prop
abbrev WS := Rho → Nd → EK → Prop
/-- two ways -/
structure Br (b : Bool) (A B : Prop) : Prop where
  t : b = true → A
  f : b = false → B
theorem Br.tt {A B : Prop} (h : A) : Br true A B := Br.mk (fun _ => h) (fun e => Bool.noConfusion e)
theorem Br.ff {A B : Prop} (h : B) : Br false A B := Br.mk (fun e => Bool.noConfusion e) (fun _ => h)
def noE : EK := fun _ _ _ => False

/-! ### ends -/
section
variable (Γ : Wd)
abbrev rep (F : Hp) (v : V) (d : D) : Prop := R Γ.K Γ.cl F v d
abbrev repL (F : Hp) (v : List V) (d : List D) : Prop := RL Γ.K Γ.cl F v d
abbrev hold (σ : Sg) (F H : Hp) (ρ : Rho) (A : List Addr) : Prop := Hold Γ.K Γ.cl σ F H ρ A
/-- of an expression's value: also a place -/
def rs (σ : Sg) (F H : Hp) (v : V) (x : SV) (B : List Addr) : Prop := match x with
  | .sl i => σ[i]? = some (some v) ∧ B = []
  | x => RS Γ.K Γ.cl F H v x B
structure Out (σ : Sg) (F H : Hp) (A : List Addr) (ρ' : Rho) (sv : SV) (v : V) (F' H' : Hp) (A' B : List Addr) : Prop where
  oe : Ext F H A F' H' (B ++ A')
  oh : hold Γ σ F' H' ρ' A'
  ors : rs Γ σ F' H' v sv B
  ond : (B ++ A').Nodup
  ofb : ∀ b ∈ B, F' b = none
/-- what is wanted of errors -/
def EL (σ : Sg) (F H : Hp) (A : List Addr) (E : EK) (W : WX) : Prop :=
  ∀ k x ρ', E k x ρ' → ∀ F' H' A' dx v, Ext F H A F' H' A' → hold Γ σ F' H' ρ' A' → H' dx = some (.xd [(("value" : Str), v)]) → rep Γ F' v x → W (.ref (Γ.exc k)) (some dx) σ H'
def wpX (X : Cx) (e : Expr) : TE := fun σ H Q => ∀ pins s, Inv X pins σ H s → wpAny (model X.prog X.w) X.A (eval e X.env) (EP X pins σ Q) X.xe s
def wpXT (X : Cx) (e : Expr) : TT := fun σ H Q => ∀ pins s, Inv X pins σ H s → wpAny (model X.prog X.w) X.A (isTrue e X.env (eval e X.env)) (TP X pins σ Q) X.xe s
def wpXA (X : Cx) (es : List Expr) : TA := fun σ H Q => ∀ pos pins s, Inv X pins σ H s → wpAny (model X.prog X.w) X.A (spliced (backTo pos (starEach es X.env))) (AP X pins σ Q) X.xe s
end
theorem pe_x {X : Cx} {e : Expr} : PE X e (wpX X e) := ⟨fun pins s _ _ _ I h => h pins s I⟩
theorem pt_x {X : Cx} {e : Expr} : PT X e (wpXT X e) := ⟨fun pins s _ _ _ I h => h pins s I⟩
theorem pa_x {X : Cx} {es : List Expr} : PA X es (wpXA X es) := ⟨fun pos pins s _ _ _ I h => h pos pins s I⟩

section
variable {Γ : Wd} {X : Cx} {N : List Str} {sc : Scope} {fp : Str → Bool} {k : Nat}

theorem rs_of {σ : Sg} {F H : Hp} {v : V} {x : SV} {B : List Addr} (h : RS Γ.K Γ.cl F H v x B) : rs Γ σ F H v x B := by
  cases x <;> first | exact h | (simp only [RS] at h)
theorem rs_mono {σ : Sg} {F F' H H' : Hp} {v : V} {x : SV} {B : List Addr} (e : Same F F') (k : ∀ a ∈ B, ∀ o, H a = some o → Kept o (H' a)) (h : rs Γ σ F H v x B) : rs Γ σ F' H' v x B := by
  cases x <;> first | exact RS.mono (K := Γ.K) (cl := Γ.cl) e k h | exact h
theorem rs_own {σ : Sg} {F H : Hp} {v : V} {x : SV} {B : List Addr} (h : rs Γ σ F H v x B) : ∀ a ∈ B, ∃ o, H a = some o ∧ Mut (some o) := by
  cases x with
  | sl i => obtain ⟨_, rfl⟩ := h; intro a m; cases m
  | _ => exact RS.own (K := Γ.K) (cl := Γ.cl) h
theorem EL.ext {σ : Sg} {F H F' H' : Hp} {A A' : List Addr} {E : EK} {W : WX} (h : EL Γ σ F H A E W) (x : Ext F H A F' H' A') : EL Γ σ F' H' A' E W :=
  fun k d ρ' e F2 H2 A2 dx v y hh q r => h k d ρ' e F2 H2 A2 dx v (x.trans y) hh q r
theorem Out.ext1 {σ : Sg} {F H F' H' : Hp} {A A' B : List Addr} {ρ' : Rho} {sv : SV} {v : V} (o : Out Γ σ F H A ρ' sv v F' H' A' B) : Ext F H A F' H' A' := o.oe.sub fun a m => List.mem_append_right _ m
/-- a value is as it was behind what comes next -/
theorem Out.stay {σ : Sg} {F H F1 H1 F2 H2 : Hp} {A A1 A2 B : List Addr} {ρ1 : Rho} {sv : SV} {v : V} (o : Out Γ σ F H A ρ1 sv v F1 H1 A1 B) (x : Ext F1 H1 A1 F2 H2 A2) :
    rs Γ σ F2 H2 v sv B ∧ (∀ b ∈ B, b ∉ A2) ∧ (∀ b ∈ B, F2 b = none) ∧ Ext F H A F2 H2 (B ++ A2) := by
  have dis : ∀ b ∈ B, b ∉ A1 := fun b m n => (List.nodup_append.mp o.ond).2.2 b m b n rfl
  have tr : ∀ b ∈ B, ∃ o, H1 b = some o := fun b m => let ⟨u, e, _⟩ := rs_own o.ors b m; ⟨u, e⟩
  refine ⟨rs_mono x.sf (fun b m u e => x.fr b u e (dis b m)) o.ors, fun b m n => ?_, fun b m => ?_, o.oe.trans x.frame⟩
  · rcases x.na b n with q | q
    · exact dis b m q
    · obtain ⟨u, e⟩ := tr b m
      rw [e] at q; cases q
  · cases e : F2 b with
    | none => rfl
    | some u =>
      rcases x.nf b u e with q | q | q
      · rw [o.ofb b m] at q; cases q
      · obtain ⟨u, e⟩ := tr b m
        rw [e] at q; cases q
      · exact absurd q (dis b m)
/-- nothing is made: a value that stands -/
theorem Out.now {σ : Sg} {F H : Hp} {A : List Addr} {ρ : Rho} {sv : SV} {v : V} (hh : hold Γ σ F H ρ A) (r : rs Γ σ F H v sv []) : Out Γ σ F H A ρ sv v F H A [] :=
  ⟨Ext.refl, hh, r, hh.nd, fun _ m => nomatch m⟩
/-- the state that one more object gives -/
theorem hold_new {σ : Sg} {F H : Hp} {A : List Addr} {ρ : Rho} {p : Addr} {o : HO} (hh : hold Γ σ F H ρ A) (hp : H p = none) : hold Γ σ F (upd H p o) ρ A ∧ Ext F H A F (upd H p o) ([p] ++ A) ∧ F p = none ∧ p ∉ A := by
  have hF : F p = none := hh.sub.free hp
  have hA : p ∉ A := fun m => by
    obtain ⟨u, e, _⟩ := hh.own p m
    rw [hp] at e; cases e
  have st : ∀ a u, H a = some u → upd H p o a = some u := fun a u e => by rw [upd_ne (ne_of_none e hp)]; exact e
  obtain ⟨A1, s, q⟩ := hh.sl
  refine ⟨⟨⟨A1, s.mono (Same.refl F) fun a _ u e => .inl (st a u e), q⟩, fun a u e => st a u (hh.sub a u e), hh.nd, hh.av, hh.tb.upd (.inl hp)⟩, ⟨Same.refl F, fun a u e _ => .inl (st a u e), fun a u e => .inl e, fun a m => ?_⟩, hF, hA⟩
  simp only [List.cons_append, List.nil_append, List.mem_cons] at m
  rcases m with rfl | m
  · exact .inr hp
  · exact .inl m
/-- a new list -/
theorem Out.newL {σ : Sg} {F H : Hp} {A : List Addr} {ρ : Rho} {p : Addr} {vs : List V} {ds : List D} (hh : hold Γ σ F H ρ A) (hp : H p = none) (r : repL Γ F vs ds) : Out Γ σ F H A ρ (.lst ds) (.ref p) F (upd H p (.lst vs)) A [p] := by
  obtain ⟨h1, h2, h3, h4⟩ := hold_new (o := .lst vs) hh hp
  refine ⟨h2, h1, ?_, ?_, fun b m => by simp at m; subst m; exact h3⟩
  · unfold rs RS
    exact ⟨p, vs, rfl, upd_same, r, rfl⟩
  · simp only [List.cons_append, List.nil_append, List.nodup_cons]
    exact ⟨h4, hh.nd⟩
/-- data that stand from now on: the object at p, new | owned so far -/
theorem hold_frz {σ : Sg} {F H : Hp} {A A' : List Addr} {ρ : Rho} {p : Addr} {o : HO} (sl : ∃ A1, Sl Γ.K Γ.cl F H σ ρ A1 ∧ A1.Perm A') (hs : Same F H) (nd : A'.Nodup) (av : ∀ a ∈ A', F a = none) (tb : TabsF Γ.cl F H) (hp : H p = some o) (nT : NoT o) (nF : F p = none) (nA : p ∉ A') :
    hold Γ σ (upd F p o) H ρ A' := by
  obtain ⟨A1, s, q⟩ := sl
  have sF : Same F (upd F p o) := fun a u e => by rw [upd_ne (ne_of_none e nF)]; exact e
  refine ⟨⟨A1, s.mono sF fun _ _ _ e => .inl e, q⟩, fun a u e => ?_, nd, fun a m => ?_, tb.frz nF hp nT⟩
  · by_cases h : a = p
    · subst h; rw [upd_same] at e; cases e; exact hp
    · rw [upd_ne h] at e; exact hs a u e
  · rw [upd_ne (fun z => nA (by rw [← z]; exact m))]
    exact av a m
/-- a new tuple: data at once -/
theorem Out.newT {σ : Sg} {F H : Hp} {A : List Addr} {ρ : Rho} {p : Addr} {vs : List V} {ds : List D} (hh : hold Γ σ F H ρ A) (hp : H p = none) (r : repL Γ F vs ds) : Out Γ σ F H A ρ (.d (.tup ds)) (.ref p) (upd F p (.tup vs)) (upd H p (.tup vs)) A [] := by
  obtain ⟨h1, h2, h3, h4⟩ := hold_new (o := .tup vs) hh hp
  have sF : Same F (upd F p (.tup vs)) := fun a u e => by rw [upd_ne (ne_of_none e h3)]; exact e
  refine ⟨⟨sF, h2.fr, fun a u e => ?_, fun a m => .inl m⟩, hold_frz (A := A) h1.sl h1.sub h1.nd h1.av h1.tb upd_same (fun _ z => nomatch z) h3 h4, ?_, hh.nd, fun _ m => nomatch m⟩
  · by_cases h : a = p
    · subst h; exact .inr (.inl hp)
    · rw [upd_ne h] at e; exact .inl e
  · unfold rs RS
    refine ⟨?_, rfl⟩
    unfold R
    exact ⟨p, vs, rfl, upd_same, r.mono sF⟩

theorem rs_d {σ : Sg} {F H : Hp} {v : V} {x : D} (h : rep Γ F v x) : rs Γ σ F H v (.d x) [] := by
  unfold rs RS
  exact ⟨h, rfl⟩
theorem rs_sl {σ : Sg} {F H : Hp} {v : V} {i : Nat} (h : σ[i]? = some (some v)) : rs Γ σ F H v (.sl i) [] := ⟨h, rfl⟩
/-! ### reading a value now -/
def rd (sv : SV) (ρ : Rho) : Option D := match sv with
  | .d x => some x
  | .lst ds => some (.lst ds)
  | .sl i => match ρ[i]? with
    | some (some (.d x)) => some x
    | some (some (.lst ds)) => some (.lst ds)
    | _ => none
  | _ => none
/-- readable: a list may be owned -/
def RV (Γ : Wd) (F H : Hp) (v : V) (d : D) : Prop := match d with
  | .lst ds => ∃ a vs, v = .ref a ∧ H a = some (.lst vs) ∧ repL Γ F vs ds
  | d => rep Γ F v d
theorem RV.of {F H : Hp} {v : V} {d : D} (s : Same F H) (h : rep Γ F v d) : RV Γ F H v d := by
  cases d with
  | lst ds =>
    simp only [rep, R] at h
    obtain ⟨a, vs, h1, h2, h3⟩ := h
    exact ⟨a, vs, h1, s a _ h2, h3⟩
  | _ => exact h
theorem rd_core {F H : Hp} (sub : Same F H) {v : V} {sv : SV} {B : List Addr} (r : RS Γ.K Γ.cl F H v sv B) {d : D} (e : (match sv with | .d x => some x | .lst ds => some (.lst ds) | _ => none) = some d) : RV Γ F H v d := by
  cases sv with
  | d x =>
    unfold RS at r
    cases e
    exact .of sub r.1
  | lst ds =>
    unfold RS at r
    obtain ⟨a, vs, h1, h2, h3, _⟩ := r
    cases e
    exact ⟨a, vs, h1, h2, h3⟩
  | _ => cases e
theorem rd_ok {σ : Sg} {F H : Hp} {A B : List Addr} {ρ : Rho} {v : V} {sv : SV} {d : D} (hh : hold Γ σ F H ρ A) (r : rs Γ σ F H v sv B) (e : rd sv ρ = some d) : RV Γ F H v d := by
  cases sv with
  | sl i =>
    obtain ⟨A1, s, q⟩ := hh.sl
    cases q : ρ[i]? with
    | none => simp [rd, q] at e
    | some o =>
      cases o with
      | none => simp [rd, q] at e
      | some sv =>
        obtain ⟨v', B', A0, h1, h2, _⟩ := s.at q
        rw [r.1] at h1; cases h1
        refine rd_core hh.sub h2 ?_
        simp only [rd, q] at e
        cases sv <;> first | exact e | cases e
  | d x => exact rd_core hh.sub r e
  | lst ds => exact rd_core hh.sub r e
  | ins _ _ => cases e
  | dct _ => cases e
  | fl _ _ => cases e

/-! ### that an expression is worth w -/
structure SE (Γ : Wd) (X : Cx) (e : Expr) (w : WE) : Prop where
  run : ∀ (σ : Sg) (F H : Hp) (A : List Addr) (ρ : Rho) (Q : WK) (E : EK) (QV : VK) (W : WX), hold Γ σ F H ρ A → Takes X W → EL Γ σ F H A E W → w ρ Q E →
    (∀ sv ρ', Q sv ρ' → ∀ v F' H' A' B, Out Γ σ F H A ρ' sv v F' H' A' B → QV v H') → wpX X e σ H QV
structure ST (Γ : Wd) (X : Cx) (e : Expr) (w : WT) : Prop where
  run : ∀ (σ : Sg) (F H : Hp) (A : List Addr) (ρ : Rho) (Q : Bool → Rho → Prop) (E : EK) (QV : Bool → Hp → Prop) (W : WX), hold Γ σ F H ρ A → Takes X W → EL Γ σ F H A E W → w ρ Q E →
    (∀ b ρ', Q b ρ' → ∀ F' H' A', Ext F H A F' H' A' → hold Γ σ F' H' ρ' A' → QV b H') → wpXT X e σ H QV
theorem SE.use {e : Expr} {w : WE} (h : SE Γ X e w) {σ : Sg} {F H : Hp} {A : List Addr} {ρ : Rho} {Q : WK} {E : EK} {QV : VK} {W : WX} (hh : hold Γ σ F H ρ A) (tk : Takes X W) (el : EL Γ σ F H A E W) (hw : w ρ Q E)
    (hq : ∀ sv ρ', Q sv ρ' → ∀ v F' H' A' B, Out Γ σ F H A ρ' sv v F' H' A' B → QV v H') : wpX X e σ H QV := h.run σ F H A ρ Q E QV W hh tk el hw hq
theorem ST.use {e : Expr} {w : WT} (h : ST Γ X e w) {σ : Sg} {F H : Hp} {A : List Addr} {ρ : Rho} {Q : Bool → Rho → Prop} {E : EK} {QV : Bool → Hp → Prop} {W : WX} (hh : hold Γ σ F H ρ A) (tk : Takes X W) (el : EL Γ σ F H A E W) (hw : w ρ Q E)
    (hq : ∀ b ρ', Q b ρ' → ∀ F' H' A', Ext F H A F' H' A' → hold Γ σ F' H' ρ' A' → QV b H') : wpXT X e σ H QV := h.run σ F H A ρ Q E QV W hh tk el hw hq

def wVar (i : Nat) : WE := fun ρ Q _ => match ρ[i]? with
  | some (some (.d x)) => Q (.d x) ρ
  | some (some _) => Q (.sl i) ρ
  | _ => False
def wRef (i : Nat) : WE := fun ρ Q _ => (ρ[i]?.join).isSome = true ∧ Q (.sl i) ρ
def wC (x : D) : WE := fun ρ Q _ => Q (.d x) ρ

theorem se_of {e : Expr} {w : WE} (h : ∀ (σ : Sg) (F H : Hp) (A : List Addr) (ρ : Rho) (Q : WK) (E : EK) (QV : VK), hold Γ σ F H ρ A → w ρ Q E →
    (∀ sv ρ', Q sv ρ' → ∀ v F' H' A' B, Out Γ σ F H A ρ' sv v F' H' A' B → QV v H') → wpX X e σ H QV) : SE Γ X e w := .mk fun σ F H A ρ Q E QV W hh _ _ hw hq => h σ F H A ρ Q E QV hh hw hq

theorem se_var (C : Ctx Γ X N sc fp k) (i : Nat) {x : Str} {pos : Pos} (hN : N[i]? = some x := by rfl) (hv : Vis sc x := by first | exact Or.inl rfl | exact Or.inr (Or.inl rfl) | exact Or.inr (Or.inr rfl)) (hd : (x == ("__debug__" : Str)) = false := by decide) (hcd : (x == ("__classdict__" : Str)) = false := by decide) :
    SE Γ X (.Name x pos) (wVar i) := se_of fun σ F H A ρ Q E QV hh hw hq pins s I => by
  have pe : PE X (.Name x pos) (tVar i) := pe_var (by rw [C.hN]; exact hN) (by rw [C.hs]; exact hv) hd hcd
  refine pe.run pins s σ H QV I ?_
  unfold wVar at hw
  obtain ⟨A1, sl, q⟩ := hh.sl
  cases e : ρ[i]? with
  | none => simp [e] at hw
  | some o =>
    cases o with
    | none => simp [e] at hw
    | some sv =>
      obtain ⟨v, B, A0, h1, h2, _⟩ := sl.at e
      refine ⟨v, h1, ?_⟩
      cases sv with
      | d x =>
        simp only [e] at hw
        unfold RS at h2
        exact hq _ _ hw v F H A [] (.now hh (rs_d h2.1))
      | _ =>
        simp only [e] at hw
        exact hq _ _ hw v F H A [] (.now hh (rs_sl h1))
theorem se_ref (C : Ctx Γ X N sc fp k) (i : Nat) {x : Str} {pos : Pos} (hN : N[i]? = some x := by rfl) (hv : Vis sc x := by first | exact Or.inl rfl | exact Or.inr (Or.inl rfl) | exact Or.inr (Or.inr rfl)) (hd : (x == ("__debug__" : Str)) = false := by decide) (hcd : (x == ("__classdict__" : Str)) = false := by decide) :
    SE Γ X (.Name x pos) (wRef i) := se_of fun σ F H A ρ Q E QV hh hw hq pins s I => by
  have pe : PE X (.Name x pos) (tVar i) := pe_var (by rw [C.hN]; exact hN) (by rw [C.hs]; exact hv) hd hcd
  refine pe.run pins s σ H QV I ?_
  obtain ⟨e, hw⟩ := hw
  obtain ⟨A1, sl, q⟩ := hh.sl
  cases e' : ρ[i]? with
  | none => simp [e'] at e
  | some o =>
    cases o with
    | none => simp [e'] at e
    | some sv =>
      obtain ⟨v, B, A0, h1, h2, _⟩ := sl.at e'
      exact ⟨v, h1, hq _ _ hw v F H A [] (.now hh (rs_sl h1))⟩
theorem se_const {e : Expr} {v : V} {d : D} (pe : PE X e (tC v)) (r : ∀ F : Hp, rep Γ F v d) : SE Γ X e (wC d) := se_of fun σ F H A ρ Q E QV hh hw hq pins s I =>
  pe.run pins s σ H QV I (hq _ _ hw v F H A [] (.now hh (rs_d (r F))))
theorem se_int {i : Int} {j pos} : SE Γ X (.Constant (.int i) j pos) (wC (.int i)) := se_const pe_int fun F => by simp [rep, R]
theorem se_bl {b : Bool} {j pos} : SE Γ X (.Constant (.bool b) j pos) (wC (.bl b)) := se_const pe_bl fun F => by simp [rep, R]
theorem se_non {j pos} : SE Γ X (.Constant .none j pos) (wC .non) := se_const pe_non fun F => by simp [rep, R]
theorem se_str {x : Str} {j pos} : SE Γ X (.Constant (.str x) j pos) (wC (.str x)) := se_const pe_str fun F => by simp [rep, R]
theorem se_gint (C : Ctx Γ X N sc fp k) {x : Str} {i : Int} {t : Tok} {pos : Pos} (hg : sc.names.lookup x = some .globalImplicit) (hm : Γ.mg x = some (.int i t)) (hd : (x == ("__debug__" : Str)) = false := by decide) : SE Γ X (.Name x pos) (wC (.int i)) :=
  se_const (pe_glob (v := .int i) (by show X.env.scope.names.lookup x = _; rw [C.hs]; exact hg) (by rw [C.mg]; exact hm) ⟨_, rfl⟩ hd) fun F => by simp [rep, R]
/-! ### two operands, read where both have come -/
def w2 (kf : D → D → (SV → Prop) → Prop) (wa wb : WE) : WE := fun ρ Q E => wa ρ (fun x ρ1 => wb ρ1 (fun y ρ2 => match rd x ρ2, rd y ρ2 with
  | some dx, some dy => kf dx dy fun z => Q z ρ2
  | _, _ => False) E) E
/-- an operation by values does kf -/
def Bop (Γ : Wd) (r : R2) (kf : D → D → (SV → Prop) → Prop) : Prop :=
  ∀ (σ : Sg) (F H : Hp) (A : List Addr) (ρ : Rho) (v1 v2 : V) (d1 d2 : D) (Q : SV → Prop) (QV : VK), hold Γ σ F H ρ A → RV Γ F H v1 d1 → RV Γ F H v2 d2 → kf d1 d2 Q →
    (∀ z, Q z → ∀ v F' H' A' B, Out Γ σ F H A ρ z v F' H' A' B → QV v H') → r v1 v2 H QV
theorem se_2 {e a b : Expr} {r : R2} {kf : D → D → (SV → Prop) → Prop} {wa wb : WE} (rule : ∀ {ta tb : TE}, PE X a ta → PE X b tb → PE X e (tOp r ta tb)) (hk : Bop Γ r kf) (ha : SE Γ X a wa) (hb : SE Γ X b wb) : SE Γ X e (w2 kf wa wb) :=
  .mk fun σ F H A ρ Q E QV W hh tk el hw hq pins s I => by
  refine (rule pe_x pe_x).run pins s σ H QV I ?_
  refine ha.use hh tk el hw fun sx ρ1 hw1 v1 F1 H1 A1 B1 o1 => ?_
  refine hb.use o1.oh tk (el.ext o1.ext1) hw1 fun sy ρ2 hw2 v2 F2 H2 A2 B2 o2 => ?_
  obtain ⟨r1, n1, f1, x1⟩ := o1.stay o2.ext1
  cases ex : rd sx ρ2 with
  | none => simp only [ex] at hw2
  | some dx =>
    cases ey : rd sy ρ2 with
    | none => simp only [ex, ey] at hw2
    | some dy =>
      simp only [ex, ey] at hw2
      refine hk σ F2 H2 A2 ρ2 v1 v2 dx dy _ QV o2.oh (rd_ok o2.oh r1 ex) (rd_ok o2.oh o2.ors ey) hw2 fun z hz v F3 H3 A3 B3 o3 => ?_
      exact hq z ρ2 hz v F3 H3 A3 B3 ⟨(o1.ext1.trans o2.ext1).trans o3.oe, o3.oh, o3.ors, o3.ond, o3.ofb⟩
theorem se_bin {a b : Expr} {op : Operator} {r : R2} {kf : D → D → (SV → Prop) → Prop} {wa wb : WE} {pos : Pos} (ho : OpR X (binaryOp op) r) (hk : Bop Γ r kf) (ha : SE Γ X a wa) (hb : SE Γ X b wb) : SE Γ X (.BinOp a op b pos) (w2 kf wa wb) :=
  se_2 (fun pa pb => pe_op ho pa pb) hk ha hb
theorem se_cmp {a b : Expr} {op : CmpOp} {r : R2} {kf : D → D → (SV → Prop) → Prop} {wa wb : WE} {pos : Pos} (ho : OpR X (compareOp op) r) (hk : Bop Γ r kf) (hm : behindInMarks op b = false) (ha : SE Γ X a wa) (hb : SE Γ X b wb) : SE Γ X (.Compare a [op] [b] pos) (w2 kf wa wb) :=
  se_2 (fun pa pb => pe_cmpR ho pa pb hm) hk ha hb
/-- a value as a test -/
def wTst (w : WE) : WT := fun ρ Q E => w ρ (fun x ρ1 => match x with
  | .d (.bl b) => Q b ρ1
  | _ => False) E
theorem st_rule {e : Expr} {w : WE} (rule : ∀ {t : TE}, PE X e t → PT X e (tB t)) (h : SE Γ X e w) : ST Γ X e (wTst w) := .mk fun σ F H A ρ Q E QV W hh tk el hw hq pins s I => by
  refine (rule pe_x).run pins s σ H QV I ?_
  refine h.use hh tk el hw fun sx ρ1 hw1 v1 F1 H1 A1 B1 o1 => ?_
  cases sx with
  | d x =>
    cases x with
    | bl b =>
      have r := o1.ors
      simp only [rs, RS, R] at r
      exact ⟨b, r.1, hq b ρ1 hw1 F1 H1 A1 o1.ext1 o1.oh⟩
    | _ => exact hw1.elim
  | _ => exact hw1.elim
theorem st_val {e : Expr} {w : WE} (h : SE Γ X e w) (he : ∀ whole, isTrue e X.env whole = (do let v ← whole; standAt e.pos; holding [v] (truthy v)) := by intro _; rfl) : ST Γ X e (wTst w) := st_rule (fun p => pt_val p he) h
end
end Dv

/-! Dv3: the operations on data. -/
namespace Dv
open PySem PySem.Spec PyProof.Rows L2
section
variable {Γ : Wd} {X : Cx} {N : List Str} {sc : Scope} {fp : Str → Bool} {k : Nat}

def Or2 (r r' : R2) : R2 := fun x y H Q => r x y H Q ∨ r' x y H Q
theorem opR_or {f : Value → Value → Sem Value} {r r' : R2} (h : OpR X f r) (h' : OpR X f r') : OpR X f (Or2 r r') := by
  intro pins s σ H x y v u Q I rx ry q
  rcases q with q | q
  · exact h pins s σ H x y v u Q I rx ry q
  · exact h' pins s σ H x y v u Q I rx ry q
theorem line_eq : sizeLine = 16777216 := sizeLine_eq

/-! ### ints -/
def kI (C : Int → Int → Prop) (g : Int → Int → D) : D → D → (SV → Prop) → Prop := fun x y K => match x, y with
  | .int i, .int j => C i j ∧ K (.d (g i j))
  | _, _ => False
def kI0 (g : Int → Int → D) : D → D → (SV → Prop) → Prop := fun x y K => match x, y with
  | .int i, .int j => K (.d (g i j))
  | _, _ => False
/-- scalars that look alike -/
inductive Sc : V → D → Prop
  | non : Sc .non .non
  | bl (b) : Sc (.bl b) (.bl b)
  | int (i) : Sc (.int i) (.int i)
  | str (s) : Sc (.str s) (.str s)
theorem Sc.rep {F : Hp} {v : V} {d : D} (h : Sc v d) : rep Γ F v d := by cases h <;> simp [Dv.rep, R]
theorem rv_int {F H : Hp} {v : V} {i : Int} (h : RV Γ F H v (.int i)) : v = .int i := by simpa [RV, rep, R] using h
theorem rv_str {F H : Hp} {v : V} {i : Str} (h : RV Γ F H v (.str i)) : v = .str i := by simpa [RV, rep, R] using h
theorem rv_bl {F H : Hp} {v : V} {i : Bool} (h : RV Γ F H v (.bl i)) : v = .bl i := by simpa [RV, rep, R] using h
theorem rv_non {F H : Hp} {v : V} (h : RV Γ F H v .non) : v = .non := by simpa [RV, rep, R] using h
theorem rv_lst {F H : Hp} {v : V} {ds : List D} (h : RV Γ F H v (.lst ds)) : ∃ a vs, v = .ref a ∧ H a = some (.lst vs) ∧ repL Γ F vs ds := h
theorem rv_tup {F H : Hp} {v : V} {ds : List D} (s : Same F H) (h : RV Γ F H v (.tup ds)) : ∃ a vs, v = .ref a ∧ H a = some (.tup vs) ∧ repL Γ F vs ds ∧ F a = some (.tup vs) := by
  have h' : rep Γ F v (.tup ds) := h
  unfold rep R at h'
  obtain ⟨a, vs, h1, h2, h3⟩ := h'
  exact ⟨a, vs, h1, s a _ h2, h3, h2⟩
theorem rv_scr {F H : Hp} {v : V} {ns : List Int} (s : Same F H) (h : RV Γ F H v (.scr ns)) : ∃ a, v = .ref a ∧ SqL Γ.K H a (ns.map V.int) := by
  have h' : rep Γ F v (.scr ns) := h
  unfold rep R at h'
  obtain ⟨a, h1, h2⟩ := h'
  exact ⟨a, h1, s.seq h2⟩
theorem out_sc {σ : Sg} {F H : Hp} {A : List Addr} {ρ : Rho} {v : V} {d : D} (hh : hold Γ σ F H ρ A) (s : Sc v d) : Out Γ σ F H A ρ (.d d) v F H A [] := .now hh (rs_d s.rep)
theorem bop_I {C : Int → Int → Prop} {gv : Int → Int → V} {g : Int → Int → D} (hg : ∀ i j, Sc (gv i j) (g i j)) : Bop Γ (rI C gv) (kI C g) := fun σ F H A ρ v1 v2 d1 d2 Q QV hh r1 r2 hk hq => by
  unfold kI at hk
  split at hk
  · exact ⟨_, _, rv_int r1, rv_int r2, hk.1, hq _ hk.2 _ _ _ _ _ (out_sc hh (hg _ _))⟩
  · exact hk.elim
theorem bop_I0 {gv : Int → Int → V} {g : Int → Int → D} (hg : ∀ i j, Sc (gv i j) (g i j)) : Bop Γ (rI0 gv) (kI0 g) := fun σ F H A ρ v1 v2 d1 d2 Q QV hh r1 r2 hk hq => by
  unfold kI0 at hk
  split at hk
  · exact ⟨_, _, rv_int r1, rv_int r2, hq _ hk _ _ _ _ _ (out_sc hh (hg _ _))⟩
  · exact hk.elim
section
variable {a b : Expr} {wa wb : WE} {pos : Pos}
def kSub : D → D → (SV → Prop) → Prop := kI0 fun i j => .int (i - j)
theorem se_sub (ha : SE Γ X a wa) (hb : SE Γ X b wb) : SE Γ X (.BinOp a .Sub b pos) (w2 kSub wa wb) := se_bin op_sub (bop_I0 fun _ _ => .int _) ha hb
/-- a divisor that is positive, of at most 9000 bits -/
def kFdiv : D → D → (SV → Prop) → Prop := kI CDivW fun i j => .int (i / j)
theorem se_fdiv (ha : SE Γ X a wa) (hb : SE Γ X b wb) : SE Γ X (.BinOp a .FloorDiv b pos) (w2 kFdiv wa wb) := se_bin op_fdivW (bop_I fun _ _ => .int _) ha hb
def kMod : D → D → (SV → Prop) → Prop := kI (fun _ j => 0 < j) fun i j => .int (i % j)
theorem se_mod (ha : SE Γ X a wa) (hb : SE Γ X b wb) : SE Γ X (.BinOp a .Mod b pos) (w2 kMod wa wb) := se_bin op_mod (bop_I fun _ _ => .int _) ha hb
/-- a power: the base of at most 2000 bits, the exponent at most 3000 -/
def CPw (i j : Int) : Prop := 0 ≤ j ∧ j ≤ 3000 ∧ i.natAbs < 2 ^ 2000
theorem op_powW : OpR X (binaryOp .Pow) (rI CPw fun i j => .int (i ^ j.toNat)) := opI fun i j _ _ _ _ _ hc q => by
  obtain ⟨h0, h1, h2⟩ := hc
  refine pow_int h0 ?_ q
  have b : Builtin.Int.intBits i ≤ 2001 := by
    unfold Builtin.Int.intBits
    have := PySem.Flt.log2_lt_of (by decide : 0 < 2000) h2
    split <;> omega
  have hb : ((Builtin.Int.intBits i : Int)) ≤ 2001 := by exact_mod_cast b
  have e : ((Builtin.Int.intBits i : Int)) * j ≤ 2001 * 3000 := Int.mul_le_mul hb h1 h0 (by decide)
  exact Int.le_trans e (by decide)
def kPow : D → D → (SV → Prop) → Prop := kI CPw fun i j => .int (i ^ j.toNat)
theorem se_pow (ha : SE Γ X a wa) (hb : SE Γ X b wb) : SE Γ X (.BinOp a .Pow b pos) (w2 kPow wa wb) := se_bin op_powW (bop_I fun _ _ => .int _) ha hb

/-! ### + of ints, lists, tuples, texts; * of ints, of a list and an int -/
def kAdd : D → D → (SV → Prop) → Prop := fun x y K => match x, y with
  | .int i, .int j => K (.d (.int (i + j)))
  | .lst a, .lst b => a.length + b.length ≤ 16777216 ∧ K (.lst (a ++ b))
  | .tup a, .tup b => a.length + b.length ≤ 16777216 ∧ K (.d (.tup (a ++ b)))
  | .str a, .str b => a.length + b.length ≤ 16777216 ∧ K (.d (.str (a ++ b)))
  | _, _ => False
def rAddA (X : Cx) : R2 := Or2 (rI0 fun i j => .int (i + j)) (Or2 rCat (Or2 (rCatA X.K) (fun x y H Q => ∃ i j, x = .str i ∧ y = .str j ∧ i.length + j.length ≤ sizeLine ∧ Q (.str (i ++ j)) H)))
theorem op_addA : OpR X (binaryOp .Add) (rAddA X) := opR_or op_add (opR_or op_cat (opR_or op_catA op_add_str))
theorem bop_add : Bop Γ (rAddA X) kAdd := fun σ F H A ρ v1 v2 d1 d2 Q QV hh r1 r2 hk hq => by
  unfold kAdd at hk
  split at hk
  · exact .inl ⟨_, _, rv_int r1, rv_int r2, hq _ hk _ _ _ _ _ (out_sc hh (.int _))⟩
  · obtain ⟨hl, hk⟩ := hk
    obtain ⟨a, vs, rfl, ha, ra⟩ := rv_lst r1
    obtain ⟨b, ws, rfl, hb, rb⟩ := rv_lst r2
    refine .inr (.inl ⟨a, b, vs, ws, rfl, rfl, ha, hb, ?_, fun p hp => hq _ hk _ _ _ _ _ (.newL hh hp (ra.append rb))⟩)
    rw [ra.length, rb.length, line_eq]; exact hl
  · obtain ⟨hl, hk⟩ := hk
    obtain ⟨a, vs, rfl, ha, ra, fa⟩ := rv_tup hh.sub r1
    obtain ⟨b, ws, rfl, hb, rb, fb⟩ := rv_tup hh.sub r2
    have la := ra.length
    have lb := rb.length
    refine .inr (.inr (.inl ⟨a, b, vs, ws, rfl, rfl, .of ha, .of hb, ?_, fun e => ?_, fun n e => ?_, fun _ _ p hp => hq _ hk _ _ _ _ _ (.newT hh hp (ra.append rb))⟩))
    · rw [ra.length, rb.length, line_eq]; exact hl
    · subst e
      rename_i xs ys
      have e2 : xs = [] := by cases xs with | nil => rfl | cons _ _ => simp at la
      subst e2
      exact hq _ hk _ _ _ _ _ (.now hh (rs_d (by unfold rep R; exact ⟨b, ws, rfl, fb, rb⟩)))
    · subst e
      rename_i xs ys
      have e2 : ys = [] := by cases ys with | nil => rfl | cons _ _ => simp at lb
      subst e2
      rw [List.append_nil] at hk
      exact hq _ hk _ _ _ _ _ (.now hh (rs_d (by unfold rep R; exact ⟨a, vs, rfl, fa, ra⟩)))
  · obtain ⟨hl, hk⟩ := hk
    exact .inr (.inr (.inr ⟨_, _, rv_str r1, rv_str r2, by rw [line_eq]; exact hl, hq _ hk _ _ _ _ _ (out_sc hh (.str _))⟩))
  · exact hk.elim
def CMl (i j : Int) : Prop := CMul i j ∨ CMulW i j
def kMul : D → D → (SV → Prop) → Prop := fun x y K => match x, y with
  | .int i, .int j => CMl i j ∧ K (.d (.int (i * j)))
  | .lst a, .int j => (0 ≤ j ∧ j < 2 ^ 20 ∧ a.length * j.toNat ≤ 16777216) ∧ K (.lst (List.replicate j.toNat a).flatten)
  | _, _ => False
def rMulA : R2 := Or2 (rI CMul fun i j => .int (i * j)) (Or2 (rI CMulW fun i j => .int (i * j)) rRep)
theorem op_mulA : OpR X (binaryOp .Mult) rMulA := opR_or op_mul (opR_or op_mulW op_rep)
theorem RL.rep {K : PySem.W.Frag} {cl : Nat → Cl} {F : Hp} {vs : List V} {ds : List D} (h : RL K cl F vs ds) : ∀ n : Nat, RL K cl F (List.replicate n vs).flatten (List.replicate n ds).flatten
  | 0 => RL.nil
  | n + 1 => by
    rw [List.replicate_succ, List.replicate_succ, List.flatten_cons, List.flatten_cons]
    exact h.append (RL.rep h n)
theorem bop_mul : Bop Γ rMulA kMul := fun σ F H A ρ v1 v2 d1 d2 Q QV hh r1 r2 hk hq => by
  unfold kMul at hk
  split at hk
  · rcases hk.1 with c | c
    · exact .inl ⟨_, _, rv_int r1, rv_int r2, c, hq _ hk.2 _ _ _ _ _ (out_sc hh (.int _))⟩
    · exact .inr (.inl ⟨_, _, rv_int r1, rv_int r2, c, hq _ hk.2 _ _ _ _ _ (out_sc hh (.int _))⟩)
  · obtain ⟨⟨h0, h1, h2⟩, hk⟩ := hk
    obtain ⟨a, vs, rfl, ha, ra⟩ := rv_lst r1
    rename_i xs j
    refine .inr (.inr ⟨a, j, vs, rfl, rv_int r2, ha, by omega, by omega, ?_, fun p hp => hq _ hk _ _ _ _ _ (.newL hh hp (RL.rep ra _))⟩)
    rw [ra.length, line_eq]; exact h2
  · exact hk.elim
end

section
variable {a b : Expr} {wa wb : WE} {pos : Pos}
theorem se_add (ha : SE Γ X a wa) (hb : SE Γ X b wb) : SE Γ X (.BinOp a .Add b pos) (w2 kAdd wa wb) := se_bin op_addA bop_add ha hb
theorem se_mul (ha : SE Γ X a wa) (hb : SE Γ X b wb) : SE Γ X (.BinOp a .Mult b pos) (w2 kMul wa wb) := se_bin op_mulA bop_mul ha hb
def kLt : D → D → (SV → Prop) → Prop := kI0 fun i j => .bl (decide (i < j))
def kLe : D → D → (SV → Prop) → Prop := kI0 fun i j => .bl (decide (i ≤ j))
def kGt : D → D → (SV → Prop) → Prop := kI0 fun i j => .bl (decide (j < i))
def kGe : D → D → (SV → Prop) → Prop := kI0 fun i j => .bl (decide (j ≤ i))
end

/-! ### data as the library has them -/
mutual
def py : D → PyData
  | .non => .none
  | .bl b => .bool b
  | .int i => .int i
  | .str s => .str s
  | .lst ds => .list (pyL ds)
  | .tup ds => .tuple (pyL ds)
  | .obj _ _ => .none
  | .scr _ => .none
  | .kls _ => .none
  | .fn _ => .none
def pyL : List D → List PyData
  | [] => []
  | d :: ds => py d :: pyL ds
end
mutual
def plain : D → Bool
  | .lst ds => plainL ds
  | .tup ds => plainL ds
  | .obj _ _ => false
  | .scr _ => false
  | .kls _ => false
  | .fn _ => false
  | _ => true
def plainL : List D → Bool
  | [] => true
  | d :: ds => plain d && plainL ds
end
mutual
theorem dp_of {F H : Hp} (s : Same F H) : ∀ {d : D} {v : V}, rep Γ F v d → plain d = true → Dp Γ.K H v (py d)
  | .non, v, h, _ => by unfold rep R at h; subst h; unfold py; exact .non
  | .bl b, v, h, _ => by unfold rep R at h; subst h; unfold py; exact .bl b
  | .int i, v, h, _ => by unfold rep R at h; subst h; unfold py; exact .int i
  | .str x, v, h, _ => by unfold rep R at h; subst h; unfold py; exact .str x
  | .lst ds, v, h, p => by
    unfold rep R at h
    unfold plain at p
    obtain ⟨a, vs, rfl, h2, h3⟩ := h
    unfold py
    exact .lst (.of (s a _ h2)) (dp_ofL s h3 p)
  | .tup ds, v, h, p => by
    unfold rep R at h
    unfold plain at p
    obtain ⟨a, vs, rfl, h2, h3⟩ := h
    unfold py
    exact .tup (.of (s a _ h2)) (dp_ofL s h3 p)
  | .obj _ _, v, h, p => by unfold plain at p; cases p
  | .scr _, v, h, p => by unfold plain at p; cases p
  | .kls _, v, h, p => by unfold plain at p; cases p
  | .fn _, v, h, p => by unfold plain at p; cases p
theorem dp_ofL {F H : Hp} (s : Same F H) : ∀ {ds : List D} {vs : List V}, repL Γ F vs ds → plainL ds = true → DpAll Γ.K H vs (pyL ds)
  | [], vs, h, _ => by unfold repL RL at h; subst h; unfold pyL; exact .nil
  | d :: ds, vs, h, p => by
    unfold repL RL at h
    unfold plainL at p
    rw [Bool.and_eq_true] at p
    obtain ⟨v, r, rfl, h2, h3⟩ := h
    unfold pyL
    exact .cons (dp_of s h2 p.1) (dp_ofL s h3 p.2)
end
theorem dp_rv {F H : Hp} (s : Same F H) {d : D} {v : V} (h : RV Γ F H v d) (p : plain d = true) : Dp Γ.K H v (py d) := by
  cases d with
  | lst ds =>
    obtain ⟨a, vs, rfl, h2, h3⟩ := h
    unfold plain at p
    unfold py
    exact .lst (.of h2) (dp_ofL s h3 p)
  | _ => exact dp_of s h p
/-- may be compared -/
def Shp (d : D) : Prop := plain d = true ∧ SeqAt.shaped (py d) = true
def deq (x y : D) : Bool := PyData.eqv (py x) (py y)
def kEqG (neg : Bool) : D → D → (SV → Prop) → Prop := fun x y K => match x, y with
  | .int i, .int j => K (.d (.bl (if neg then !decide (i = j) else decide (i = j))))
  | .str i, .str j => K (.d (.bl (if neg then !decide (i = j) else decide (i = j))))
  | .bl i, .bl j => K (.d (.bl (if neg then !decide (i = j) else decide (i = j))))
  | .non, .non => K (.d (.bl !neg))
  | .non, .int _ => K (.d (.bl neg))
  | .int _, .non => K (.d (.bl neg))
  | .non, .str _ => K (.d (.bl neg))
  | .str _, .non => K (.d (.bl neg))
  | .lst a, .lst b => (Shp (.lst a) ∧ Shp (.lst b)) ∧ K (.d (.bl (if neg then !deq (.lst a) (.lst b) else deq (.lst a) (.lst b))))
  | .tup a, .tup b => (Shp (.tup a) ∧ Shp (.tup b)) ∧ K (.d (.bl (if neg then !deq (.tup a) (.tup b) else deq (.tup a) (.tup b))))
  | .tup a, .non => Shp (.tup a) ∧ K (.d (.bl neg))
  | .non, .tup a => Shp (.tup a) ∧ K (.d (.bl neg))
  | _, _ => False
def kEq := kEqG false
def kNe := kEqG true
def rEqA (X : Cx) : R2 := Or2 rEq (rEqD X.K)
def rNeA (X : Cx) : R2 := Or2 rNe (rNeD X.K)
theorem bop_eq (C : Ctx Γ X N sc fp k) : Bop Γ (rEqA X) kEq := fun σ F H A ρ v1 v2 d1 d2 Q QV hh r1 r2 hk hq => by
  unfold kEq kEqG at hk
  split at hk
  · rw [rv_int r1, rv_int r2]; exact .inl ⟨rfl, hq _ hk _ _ _ _ _ (out_sc hh (by simp only [Bool.false_eq_true, if_false, V.int.injEq]; exact .bl _))⟩
  · rw [rv_str r1, rv_str r2]; exact .inl ⟨rfl, hq _ hk _ _ _ _ _ (out_sc hh (by simp only [Bool.false_eq_true, if_false, V.str.injEq]; exact .bl _))⟩
  · rw [rv_bl r1, rv_bl r2]; exact .inl ⟨rfl, hq _ hk _ _ _ _ _ (out_sc hh (by simp only [Bool.false_eq_true, if_false, V.bl.injEq]; exact .bl _))⟩
  · rw [rv_non r1, rv_non r2]; exact .inl ⟨rfl, hq _ hk _ _ _ _ _ (out_sc hh (.bl _))⟩
  · rw [rv_non r1, rv_int r2]; exact .inl ⟨rfl, hq _ hk _ _ _ _ _ (out_sc hh (.bl _))⟩
  · rw [rv_int r1, rv_non r2]; exact .inl ⟨rfl, hq _ hk _ _ _ _ _ (out_sc hh (.bl _))⟩
  · rw [rv_non r1, rv_str r2]; exact .inl ⟨rfl, hq _ hk _ _ _ _ _ (out_sc hh (.bl _))⟩
  · rw [rv_str r1, rv_non r2]; exact .inl ⟨rfl, hq _ hk _ _ _ _ _ (out_sc hh (.bl _))⟩
  · obtain ⟨⟨h1, h2⟩, hk⟩ := hk
    exact .inr ⟨_, _, by rw [C.K]; exact dp_rv hh.sub r1 h1.1, by rw [C.K]; exact dp_rv hh.sub r2 h2.1, h1.2, h2.2, hq _ hk _ _ _ _ _ (out_sc hh (.bl _))⟩
  · obtain ⟨⟨h1, h2⟩, hk⟩ := hk
    exact .inr ⟨_, _, by rw [C.K]; exact dp_rv hh.sub r1 h1.1, by rw [C.K]; exact dp_rv hh.sub r2 h2.1, h1.2, h2.2, hq _ hk _ _ _ _ _ (out_sc hh (.bl _))⟩
  · obtain ⟨h1, hk⟩ := hk
    exact .inr ⟨_, _, by rw [C.K]; exact dp_rv hh.sub r1 h1.1, by rw [C.K]; exact dp_rv hh.sub r2 rfl, h1.2, rfl, hq _ hk _ _ _ _ _ (out_sc hh (by simp only [py, PyData.eqv]; exact .bl _))⟩
  · obtain ⟨h1, hk⟩ := hk
    exact .inr ⟨_, _, by rw [C.K]; exact dp_rv hh.sub r1 rfl, by rw [C.K]; exact dp_rv hh.sub r2 h1.1, rfl, h1.2, hq _ hk _ _ _ _ _ (out_sc hh (by simp only [py, PyData.eqv]; exact .bl _))⟩
  · exact hk.elim
theorem bop_ne (C : Ctx Γ X N sc fp k) : Bop Γ (rNeA X) kNe := fun σ F H A ρ v1 v2 d1 d2 Q QV hh r1 r2 hk hq => by
  unfold kNe kEqG at hk
  split at hk
  · rw [rv_int r1, rv_int r2]; exact .inl ⟨rfl, hq _ hk _ _ _ _ _ (out_sc hh (by simp only [if_true, V.int.injEq]; exact .bl _))⟩
  · rw [rv_str r1, rv_str r2]; exact .inl ⟨rfl, hq _ hk _ _ _ _ _ (out_sc hh (by simp only [if_true, V.str.injEq]; exact .bl _))⟩
  · rw [rv_bl r1, rv_bl r2]; exact .inl ⟨rfl, hq _ hk _ _ _ _ _ (out_sc hh (by simp only [if_true, V.bl.injEq]; exact .bl _))⟩
  · rw [rv_non r1, rv_non r2]; exact .inl ⟨rfl, hq _ hk _ _ _ _ _ (out_sc hh (.bl _))⟩
  · rw [rv_non r1, rv_int r2]; exact .inl ⟨rfl, hq _ hk _ _ _ _ _ (out_sc hh (.bl _))⟩
  · rw [rv_int r1, rv_non r2]; exact .inl ⟨rfl, hq _ hk _ _ _ _ _ (out_sc hh (.bl _))⟩
  · rw [rv_non r1, rv_str r2]; exact .inl ⟨rfl, hq _ hk _ _ _ _ _ (out_sc hh (.bl _))⟩
  · rw [rv_str r1, rv_non r2]; exact .inl ⟨rfl, hq _ hk _ _ _ _ _ (out_sc hh (.bl _))⟩
  · obtain ⟨⟨h1, h2⟩, hk⟩ := hk
    exact .inr ⟨_, _, by rw [C.K]; exact dp_rv hh.sub r1 h1.1, by rw [C.K]; exact dp_rv hh.sub r2 h2.1, h1.2, h2.2, hq _ hk _ _ _ _ _ (out_sc hh (.bl _))⟩
  · obtain ⟨⟨h1, h2⟩, hk⟩ := hk
    exact .inr ⟨_, _, by rw [C.K]; exact dp_rv hh.sub r1 h1.1, by rw [C.K]; exact dp_rv hh.sub r2 h2.1, h1.2, h2.2, hq _ hk _ _ _ _ _ (out_sc hh (.bl _))⟩
  · obtain ⟨h1, hk⟩ := hk
    exact .inr ⟨_, _, by rw [C.K]; exact dp_rv hh.sub r1 h1.1, by rw [C.K]; exact dp_rv hh.sub r2 rfl, h1.2, rfl, hq _ hk _ _ _ _ _ (out_sc hh (by simp only [py, PyData.eqv]; exact .bl _))⟩
  · obtain ⟨h1, hk⟩ := hk
    exact .inr ⟨_, _, by rw [C.K]; exact dp_rv hh.sub r1 rfl, by rw [C.K]; exact dp_rv hh.sub r2 h1.1, rfl, h1.2, hq _ hk _ _ _ _ _ (out_sc hh (by simp only [py, PyData.eqv]; exact .bl _))⟩
  · exact hk.elim
section
variable {a b : Expr} {wa wb : WE} {pos : Pos}
theorem se_eq (C : Ctx Γ X N sc fp k) (ha : SE Γ X a wa) (hb : SE Γ X b wb) : SE Γ X (.Compare a [.Eq] [b] pos) (w2 kEq wa wb) := se_cmp (opR_or op_eq (op_eqD C.room.units)) (bop_eq C) (nomark _) ha hb
end
/-! ### is None -/
def isNon : D → Bool
  | .non => true
  | _ => false
theorem rep_non {F H : Hp} {v : V} {d : D} (h : RV Γ F H v d) : decide (v = .non) = isNon d := by
  cases d with
  | lst ds => obtain ⟨a, vs, rfl, _, _⟩ := h; rfl
  | non => rw [rv_non h]; rfl
  | bl _ => rw [rv_bl h]; rfl
  | int _ => rw [rv_int h]; rfl
  | str _ => rw [rv_str h]; rfl
  | tup _ => have h' : rep Γ F v _ := h; unfold rep R at h'; obtain ⟨a, vs, rfl, _⟩ := h'; rfl
  | obj _ _ => have h' : rep Γ F v _ := h; unfold rep R at h'; obtain ⟨a, dx, vs, rfl, _⟩ := h'; rfl
  | scr _ => have h' : rep Γ F v _ := h; unfold rep R at h'; obtain ⟨a, rfl, _⟩ := h'; rfl
  | kls _ => have h' : rep Γ F v _ := h; unfold rep R at h'; subst h'; rfl
  | fn _ => have h' : rep Γ F v _ := h; unfold rep R at h'; obtain ⟨f, c, L, rfl, _⟩ := h'; rfl
def kIs (neg : Bool) : D → D → (SV → Prop) → Prop := fun x y K => match y with
  | .non => K (.d (.bl (if neg then !isNon x else isNon x)))
  | _ => False
theorem bop_is : Bop Γ (fun x y H Q => y = .non ∧ Q (.bl (decide (x = .non))) H) (kIs false) := fun σ F H A ρ v1 v2 d1 d2 Q QV hh r1 r2 hk hq => by
  unfold kIs at hk
  split at hk
  · exact ⟨rv_non r2, hq _ hk _ _ _ _ _ (out_sc hh (by rw [rep_non r1]; exact .bl _))⟩
  · exact hk.elim
theorem bop_isnot : Bop Γ (fun x y H Q => y = .non ∧ Q (.bl (!decide (x = .non))) H) (kIs true) := fun σ F H A ρ v1 v2 d1 d2 Q QV hh r1 r2 hk hq => by
  unfold kIs at hk
  split at hk
  · exact ⟨rv_non r2, hq _ hk _ _ _ _ _ (out_sc hh (by rw [rep_non r1]; exact .bl _))⟩
  · exact hk.elim
section
variable {a b : Expr} {wa wb : WE} {pos : Pos}
end
/-! ### in, not in -/
section
variable {a b : Expr} {wa wb : WE} {pos : Pos}
end
/-! ### a[i] -/
def kIdx : D → D → (SV → Prop) → Prop := fun x y K => match x, y with
  | .lst ds, .int i => ∃ d, atI ds i = some d ∧ K (.d d)
  | .tup ds, .int i => ∃ d, atI ds i = some d ∧ K (.d d)
  | .scr ns, .int i => ∃ n, atI ns i = some n ∧ K (.d (.int n))
  | .str z, .int i => z.length ≤ 16777216 ∧ ∃ c, atI z.cps.toList i = some c ∧ K (.d (.str ⟨#[c]⟩))
  | _, _ => False
theorem atI_rel {F : Hp} {vs : List V} {ds : List D} {i : Int} {d : D} (r : repL Γ F vs ds) (e : atI ds i = some d) : ∃ v, atI vs i = some v ∧ rep Γ F v d := by
  unfold atI at e ⊢
  rw [RL.length r]
  cases q : ixN ds.length i with
  | none => rw [q] at e; cases e
  | some j =>
    rw [q] at e
    exact RL.get r e
theorem bop_idx (C : Ctx Γ X N sc fp k) : Bop Γ (rIx X.K) kIdx := fun σ F H A ρ v1 v2 d1 d2 Q QV hh r1 r2 hk hq => by
  unfold kIdx at hk
  split at hk
  · obtain ⟨d, e, hk⟩ := hk
    obtain ⟨a, vs, rfl, ha, ra⟩ := rv_lst r1
    obtain ⟨v, h1, h2⟩ := atI_rel ra e
    exact .inl ⟨a, vs, _, v, rfl, rv_int r2, .of ha, h1, hq _ hk _ _ _ _ _ (.now hh (rs_d h2))⟩
  · obtain ⟨d, e, hk⟩ := hk
    obtain ⟨a, vs, rfl, ha, ra, _⟩ := rv_tup hh.sub r1
    obtain ⟨v, h1, h2⟩ := atI_rel ra e
    exact .inr (.inl ⟨a, vs, _, v, rfl, rv_int r2, .of ha, h1, hq _ hk _ _ _ _ _ (.now hh (rs_d h2))⟩)
  · obtain ⟨n, e, hk⟩ := hk
    obtain ⟨a, rfl, ha⟩ := rv_scr hh.sub r1
    refine .inl ⟨a, _, _, .int n, rfl, rv_int r2, by rw [C.K]; exact ha, ?_, hq _ hk _ _ _ _ _ (out_sc hh (.int _))⟩
    unfold atI at e ⊢
    rw [List.length_map]
    rename_i ns i
    cases q : ixN ns.length i with
    | none => rw [q] at e; cases e
    | some j =>
      rw [q] at e
      show (ns.map V.int)[j]? = _
      rw [List.getElem?_map, show ns[j]? = some n from e]
      rfl
  · obtain ⟨hl, c, e, hk⟩ := hk
    exact .inr (.inr ⟨_, _, c, rv_str r1, rv_int r2, by rw [line_eq]; exact hl, e, hq _ hk _ _ _ _ _ (out_sc hh (.str _))⟩)
  · exact hk.elim
theorem se_idx (C : Ctx Γ X N sc fp k) {a b : Expr} {wa wb : WE} {pos : Pos} (hs : PlainIx b) (ha : SE Γ X a wa) (hb : SE Γ X b wb) : SE Γ X (.Subscript a b pos) (w2 kIdx wa wb) :=
  se_2 (fun pa pb => pe_ix (IxR.or ix_list (IxR.or ix_tup ix_str)) pa pb hs) (bop_idx C) ha hb
end
end Dv

/-! Dv4: argument lists, displays, built-ins, and, or, not, if, slices. -/
namespace Dv
open PySem PySem.Spec PyProof.Rows L2
section
variable {Γ : Wd} {X : Cx} {N : List Str} {sc : Scope} {fp : Str → Bool} {k : Nat}

/-! ### what is kept: it stands from now on -/
def keep (sv : SV) (ρ : Rho) (K : D → Rho → Prop) : Prop := match sv with
  | .d x => K x ρ
  | .lst ds => K (.lst ds) ρ
  | .sl i => match ρ[i]? with
    | some (some (.d x)) => K x ρ
    | some (some (.lst ds)) => K (.lst ds) (ρ.set i (some (.d (.lst ds))))
    | _ => False
  | _ => False
theorem keep_ok {σ : Sg} {F H : Hp} {A B : List Addr} {ρ : Rho} {v : V} {sv : SV} {Kp : D → Rho → Prop} (hh : hold Γ σ F H ρ A) (r : rs Γ σ F H v sv B) (nd : (B ++ A).Nodup) (fb : ∀ b ∈ B, F b = none) (hk : keep sv ρ Kp) :
    ∃ d ρ' F' A', Kp d ρ' ∧ Ext F H (B ++ A) F' H A' ∧ hold Γ σ F' H ρ' A' ∧ rep Γ F' v d ∧ ∀ a o, F' a = some o → F a = some o ∨ a ∈ B ++ A := by
  cases sv with
  | d x =>
    unfold rs RS at r
    obtain ⟨r, rfl⟩ := r
    exact ⟨x, ρ, F, A, hk, Ext.refl, hh, r, fun a o e => .inl e⟩
  | lst ds =>
    unfold rs RS at r
    obtain ⟨a, vs, rfl, ha, ra, rfl⟩ := r
    have nF := fb a (by simp)
    have nA : a ∉ A := by simp at nd; exact nd.1
    have sF : Same F (upd F a (.lst vs)) := fun c u e => by rw [upd_ne (ne_of_none e nF)]; exact e
    have w : ∀ c o, upd F a (.lst vs) c = some o → F c = some o ∨ c ∈ [a] ++ A := fun c o e => by
      by_cases h : c = a
      · subst h; exact .inr (by simp)
      · rw [upd_ne h] at e; exact .inl e
    refine ⟨.lst ds, ρ, upd F a (.lst vs), A, hk, ⟨sF, fun _ _ e _ => .inl e, fun c u e => ?_, fun c m => .inl (by simp [m])⟩, hold_frz (A := A) hh.sl hh.sub hh.nd hh.av hh.tb ha (fun _ z => nomatch z) nF nA, ?_, w⟩
    · rcases w c u e with q | q
      · exact .inl q
      · exact .inr (.inr q)
    · unfold rep R
      exact ⟨a, vs, rfl, upd_same, ra.mono sF⟩
  | sl i =>
    obtain ⟨r, rfl⟩ := r
    obtain ⟨A1, s, q⟩ := hh.sl
    unfold keep at hk
    cases e : ρ[i]? with
    | none => simp [e] at hk
    | some o =>
      cases o with
      | none => simp [e] at hk
      | some sv =>
        obtain ⟨v', B', A0, h1, h2, h3, h4⟩ := s.at e
        rw [r] at h1; cases h1
        cases sv with
        | d x =>
          simp only [e] at hk
          unfold RS at h2
          exact ⟨x, ρ, F, A, hk, Ext.refl, hh, h2.1, fun a o e => .inl e⟩
        | lst ds =>
          simp only [e] at hk
          unfold RS at h2
          obtain ⟨a, vs, rfl, ha, ra, rfl⟩ := h2
          have pA : A.Perm (a :: A0) := q.symm.trans h3
          have nd' : (a :: A0).Nodup := pA.nodup_iff.mp hh.nd
          have ma : a ∈ A := pA.mem_iff.mpr (by simp)
          have nF := hh.av a ma
          have nA : a ∉ A0 := (List.nodup_cons.mp nd').1
          have sF : Same F (upd F a (.lst vs)) := fun c u e => by rw [upd_ne (ne_of_none e nF)]; exact e
          have w : ∀ c o, upd F a (.lst vs) c = some o → F c = some o ∨ c ∈ [] ++ A := fun c o e => by
            by_cases h : c = a
            · subst h; exact .inr ma
            · rw [upd_ne h] at e; exact .inl e
          have ra' : rep Γ (upd F a (.lst vs)) (.ref a) (.lst ds) := by
            unfold rep R
            exact ⟨a, vs, rfl, upd_same, ra.mono sF⟩
          have s' := s.mono sF fun _ _ _ e => .inl e
          obtain ⟨_, _, _, e1, e2, e3, h4'⟩ := s'.at e
          rw [r] at e1; cases e1
          unfold RS at e2
          obtain ⟨a', vs', z, _, _, rfl⟩ := e2
          cases z
          obtain ⟨A', h5, h6⟩ := h4' (.ref a) (.d (.lst ds)) [] (by unfold RS; exact ⟨ra', rfl⟩)
          have eσ : σ.set i (some (.ref a)) = σ := by
            apply List.ext_getElem?
            intro j
            by_cases hj : i = j
            · subst hj
              rw [List.getElem?_set_self (List.getElem?_eq_some_iff.mp r).1, r]
            · rw [List.getElem?_set_ne hj]
          rw [eσ] at h5
          have pp : A'.Perm A0 := by
            have z1 : A1.Perm (a :: _) := e3
            have z2 := h3.symm.trans z1
            exact h6.trans (List.Perm.cons_inv z2).symm
          refine ⟨.lst ds, _, upd F a (.lst vs), A0, hk, ⟨sF, fun _ _ e _ => .inl e, fun c u e => ?_, fun c m => .inl (by simp; exact pA.mem_iff.mpr (List.mem_cons_of_mem _ m))⟩, ⟨⟨A', h5, pp⟩, ?_, (List.nodup_cons.mp nd').2, fun c m => ?_, hh.tb.frz nF ha (fun _ z => nomatch z)⟩, ra', w⟩
          · rcases w c u e with q | q
            · exact .inl q
            · exact .inr (.inr q)
          · intro c u e
            by_cases h : c = a
            · subst h; rw [upd_same] at e; cases e; exact ha
            · rw [upd_ne h] at e; exact hh.sub c u e
          · rw [upd_ne (fun z => nA (by rw [← z]; exact m))]
            exact hh.av c (pA.mem_iff.mpr (List.mem_cons_of_mem _ m))
        | _ => simp [e] at hk
  | _ => exact hk.elim
def rsL (Γ : Wd) (σ : Sg) (F H : Hp) : List V → List SV → List Addr → Prop
  | vs, [], B => vs = [] ∧ B = []
  | vs, x :: xs, B => ∃ v r B1 B2, vs = v :: r ∧ rs Γ σ F H v x B1 ∧ rsL Γ σ F H r xs B2 ∧ B = B1 ++ B2
theorem rsL_mono {σ : Sg} {F F' H H' : Hp} (e : Same F F') : ∀ {xs : List SV} {vs : List V} {B : List Addr}, (∀ a ∈ B, ∀ o, H a = some o → Kept o (H' a)) → rsL Γ σ F H vs xs B → rsL Γ σ F' H' vs xs B
  | [], _, _, _, h => h
  | x :: xs, _, _, k, h => by
    obtain ⟨v, r, B1, B2, h1, h2, h3, rfl⟩ := h
    exact ⟨v, r, B1, B2, h1, rs_mono e (fun b m => k b (List.mem_append_left _ m)) h2, rsL_mono e (fun b m => k b (List.mem_append_right _ m)) h3, rfl⟩
def keepL : List SV → Rho → (List D → Rho → Prop) → Prop
  | [], ρ, K => K [] ρ
  | sv :: svs, ρ, K => keep sv ρ fun d ρ1 => keepL svs ρ1 fun ds ρ2 => K (d :: ds) ρ2
theorem keepL_ok {σ : Sg} {H : Hp} : ∀ {svs : List SV} {vs : List V} {F : Hp} {A B : List Addr} {ρ : Rho} {Kp : List D → Rho → Prop}, hold Γ σ F H ρ A → rsL Γ σ F H vs svs B → (B ++ A).Nodup → (∀ b ∈ B, F b = none) → keepL svs ρ Kp →
    ∃ ds ρ' F' A', Kp ds ρ' ∧ Ext F H (B ++ A) F' H A' ∧ hold Γ σ F' H ρ' A' ∧ repL Γ F' vs ds ∧ ∀ a o, F' a = some o → F a = some o ∨ a ∈ B ++ A
  | [], vs, F, A, B, ρ, Kp, hh, r, nd, fb, hk => by
    unfold rsL at r
    obtain ⟨rfl, rfl⟩ := r
    exact ⟨[], ρ, F, A, hk, Ext.refl, hh, RL.nil, fun a o e => .inl e⟩
  | sv :: svs, vs, F, A, B, ρ, Kp, hh, r, nd, fb, hk => by
    unfold rsL at r
    obtain ⟨v, r', B1, B2, rfl, h2, h3, rfl⟩ := r
    unfold keepL at hk
    have nd1 : (B1 ++ A).Nodup := by
      rw [List.append_assoc] at nd
      refine nd.sublist (List.Sublist.append_left (List.sublist_append_right _ _) _)
    obtain ⟨d, ρ1, F1, A1, hk, x1, hh1, rd1, w1⟩ := keep_ok hh h2 nd1 (fun b m => fb b (List.mem_append_left _ m)) hk
    have disB : ∀ b ∈ B2, b ∉ B1 ++ A := fun b m n => by
      rw [List.append_assoc] at nd
      rcases List.mem_append.mp n with n | n
      · exact (List.nodup_append.mp nd).2.2 b n b (List.mem_append_left _ m) rfl
      · exact (List.nodup_append.mp (List.nodup_append.mp nd).2.1).2.2 b m b n rfl
    have fb2 : ∀ b ∈ B2, F1 b = none := fun b m => by
      cases e : F1 b with
      | none => rfl
      | some o =>
        rcases w1 b o e with q | q
        · rw [fb b (List.mem_append_right _ m)] at q; cases q
        · exact absurd q (disB b m)
    have sub1 : ∀ b ∈ A1, b ∈ B1 ++ A := fun b m => by
      rcases x1.na b m with q | q
      · exact q
      · obtain ⟨o, e, _⟩ := hh1.own b m
        rw [q] at e; cases e
    have nd2 : (B2 ++ A1).Nodup := by
      rw [List.nodup_append]
      refine ⟨?_, hh1.nd, fun a m b n z => disB a m (sub1 a (z ▸ n))⟩
      have q := nd
      rw [List.append_assoc] at q
      exact (List.nodup_append.mp (List.nodup_append.mp q).2.1).1
    obtain ⟨ds, ρ2, F2, A2, hk2, x2, hh2, rd2, w2⟩ := keepL_ok hh1 (rsL_mono x1.sf (fun _ _ _ e => .inl e) h3) nd2 fb2 hk
    refine ⟨d :: ds, ρ2, F2, A2, hk2, ?_, hh2, RL.cons (R.mono x2.sf rd1) rd2, fun a o e => ?_⟩
    · have y1 : Ext F H (B2 ++ (B1 ++ A)) F1 H (B2 ++ A1) := x1.frame
      have y := y1.trans x2
      refine ⟨y.sf, fun _ _ e _ => .inl e, fun a u e => ?_, fun a m => ?_⟩
      · rcases y.nf a u e with q | q | q
        · exact .inl q
        · exact .inr (.inl q)
        · refine .inr (.inr ?_)
          simp only [List.mem_append] at q ⊢
          rcases q with q | q | q
          · exact .inl (.inr q)
          · exact .inl (.inl q)
          · exact .inr q
      · rcases y.na a m with q | q
        · refine .inl ?_
          simp only [List.mem_append] at q ⊢
          rcases q with q | q | q
          · exact .inl (.inr q)
          · exact .inl (.inl q)
          · exact .inr q
        · exact .inr q
    · rcases w2 a o e with q | q
      · rcases w1 a o q with q | q
        · exact .inl q
        · refine .inr ?_
          simp only [List.mem_append] at q ⊢
          rcases q with q | q
          · exact .inl (.inl q)
          · exact .inr q
      · refine .inr ?_
        rcases List.mem_append.mp q with q | q
        · simp [q]
        · have := sub1 a q
          simp only [List.mem_append] at this ⊢
          rcases this with q | q
          · exact .inl (.inl q)
          · exact .inr q

/-! ### argument lists -/
def nStar : Expr → Bool
  | .Starred _ _ => false
  | _ => true
theorem star_of {e : Expr} {es : List Expr} {env : Env} (h : nStar e = true) : starEach (e :: es) env = (false, eval e env) :: starEach es env := by
  cases e <;> first | rfl | cases h
structure OutL (Γ : Wd) (σ : Sg) (F H : Hp) (A : List Addr) (ρ' : Rho) (svs : List SV) (vs : List V) (F' H' : Hp) (A' B : List Addr) : Prop where
  oe : Ext F H A F' H' (B ++ A')
  oh : hold Γ σ F' H' ρ' A'
  ors : rsL Γ σ F' H' vs svs B
  ond : (B ++ A').Nodup
  ofb : ∀ b ∈ B, F' b = none
structure SA (Γ : Wd) (X : Cx) (es : List Expr) (w : WA) : Prop where
  run : ∀ (σ : Sg) (F H : Hp) (A : List Addr) (ρ : Rho) (Q : List SV → Rho → Prop) (E : EK) (QV : List V → Hp → Prop) (W : WX), hold Γ σ F H ρ A → Takes X W → EL Γ σ F H A E W → w ρ Q E →
    (∀ svs ρ', Q svs ρ' → ∀ vs F' H' A' B, OutL Γ σ F H A ρ' svs vs F' H' A' B → QV vs H') → wpXA X es σ H QV
def wNil : WA := fun ρ Q _ => Q [] ρ
def wCons (w : WE) (wr : WA) : WA := fun ρ Q E => w ρ (fun x ρ1 => wr ρ1 (fun xs ρ2 => Q (x :: xs) ρ2) E) E
theorem sa_nil : SA Γ X [] wNil := .mk fun σ F H A ρ Q E QV W hh tk el hw hq pos pins s I =>
  pa_nil.run pos pins s σ H QV I (hq [] ρ hw [] F H A [] ⟨Ext.refl, hh, by unfold rsL; exact ⟨rfl, rfl⟩, hh.nd, fun _ m => nomatch m⟩)
theorem sa_cons {e : Expr} {es : List Expr} {w : WE} {wr : WA} (h : SE Γ X e w) (hr : SA Γ X es wr) (hs : starEach (e :: es) X.env = (false, eval e X.env) :: starEach es X.env := by exact star_of rfl) : SA Γ X (e :: es) (wCons w wr) :=
  .mk fun σ F H A ρ Q E QV W hh tk el hw hq pos pins s I => by
  refine (pa_cons pe_x pa_x hs).run pos pins s σ H QV I ?_
  refine h.use hh tk el hw fun sx ρ1 hw1 v1 F1 H1 A1 B1 o1 => ?_
  refine hr.run σ F1 H1 A1 ρ1 _ E _ W o1.oh tk (el.ext o1.ext1) hw1 fun sxs ρ2 hw2 vs F2 H2 A2 B2 o2 => ?_
  have x2 : Ext F1 H1 A1 F2 H2 A2 := o2.oe.sub fun a m => List.mem_append_right _ m
  obtain ⟨r1, n1, f1, _⟩ := o1.stay x2
  obtain ⟨_, n1', _, x1'⟩ := o1.stay o2.oe
  refine hq _ _ hw2 (v1 :: vs) F2 H2 A2 (B1 ++ B2) ⟨by rw [List.append_assoc]; exact x1', o2.oh, by unfold rsL; exact ⟨v1, vs, B1, B2, rfl, r1, o2.ors, rfl⟩, ?_, fun b m => ?_⟩
  · rw [List.append_assoc, List.nodup_append]
    refine ⟨(List.nodup_append.mp o1.ond).1, o2.ond, fun a m b n z => n1' a m (by rw [z]; exact n)⟩
  · rcases List.mem_append.mp m with m | m
    · exact f1 b m
    · exact o2.ofb b m

/-! ### tuples and lists, written -/
def wTup (w : WA) : WE := fun ρ Q E => w ρ (fun svs ρ1 => keepL svs ρ1 fun ds ρ2 => ds.length ≤ 16777216 ∧ Q (.d (.tup ds)) ρ2) E
def wLst (w : WA) : WE := fun ρ Q E => w ρ (fun svs ρ1 => keepL svs ρ1 fun ds ρ2 => ds.length ≤ 16777216 ∧ Q (.lst ds) ρ2) E
theorem se_tup {es : List Expr} {w : WA} {x1} {pos : Pos} (h : SA Γ X es w) : SE Γ X (.Tuple es x1 pos) (wTup w) := .mk fun σ F H A ρ Q E QV W hh tk el hw hq pins s I => by
  refine (pe_tup pa_x).run pins s σ H QV I ?_
  refine h.run σ F H A ρ _ E _ W hh tk el hw fun svs ρ1 hw1 vs F1 H1 A1 B1 o1 => ?_
  obtain ⟨ds, ρ2, F2, A2, ⟨hl, hk⟩, x2, hh2, r2, _⟩ := keepL_ok o1.oh o1.ors o1.ond o1.ofb hw1
  refine ⟨by rw [r2.length, line_eq]; exact hl, fun p hp => ?_⟩
  obtain o := Out.newT hh2 hp r2
  exact hq _ _ hk _ _ _ _ _ ⟨(o1.oe.trans x2).trans o.oe, o.oh, o.ors, o.ond, o.ofb⟩
theorem se_lst {es : List Expr} {w : WA} {pos : Pos} (h : SA Γ X es w) : SE Γ X (.List es pos) (wLst w) := .mk fun σ F H A ρ Q E QV W hh tk el hw hq pins s I => by
  refine (pe_lst pa_x).run pins s σ H QV I ?_
  refine h.run σ F H A ρ _ E _ W hh tk el hw fun svs ρ1 hw1 vs F1 H1 A1 B1 o1 => ?_
  obtain ⟨ds, ρ2, F2, A2, ⟨hl, hk⟩, x2, hh2, r2, _⟩ := keepL_ok o1.oh o1.ors o1.ond o1.ofb hw1
  refine ⟨by rw [r2.length, line_eq]; exact hl, fun p hp => ?_⟩
  obtain o := Out.newL hh2 hp r2
  exact hq _ _ hk _ _ _ _ _ ⟨(o1.oe.trans x2).trans o.oe, o.oh, o.ors, o.ond, o.ofb⟩

/-! ### built-ins by their arguments, read -/
def rdL : List SV → Rho → Option (List D)
  | [], _ => some []
  | x :: xs, ρ => match rd x ρ, rdL xs ρ with
    | some d, some ds => some (d :: ds)
    | _, _ => none
def wB (kf : List D → (SV → Prop) → Prop) (w : WA) : WE := fun ρ Q E => w ρ (fun svs ρ1 => match rdL svs ρ1 with
  | some ds => kf ds fun z => Q z ρ1
  | none => False) E
inductive RVL (Γ : Wd) (F H : Hp) : List V → List D → Prop
  | nil : RVL Γ F H [] []
  | cons {v d vs ds} : RV Γ F H v d → RVL Γ F H vs ds → RVL Γ F H (v :: vs) (d :: ds)
theorem rdL_ok {σ : Sg} {F H : Hp} {A : List Addr} {ρ : Rho} (hh : hold Γ σ F H ρ A) : ∀ {svs : List SV} {vs : List V} {B : List Addr} {ds : List D}, rsL Γ σ F H vs svs B → rdL svs ρ = some ds → RVL Γ F H vs ds
  | [], vs, B, ds, r, e => by
    unfold rsL at r
    obtain ⟨rfl, _⟩ := r
    cases e
    exact .nil
  | x :: xs, vs, B, ds, r, e => by
    unfold rsL at r
    obtain ⟨v, r', B1, B2, rfl, h2, h3, _⟩ := r
    unfold rdL at e
    split at e
    · rename_i d ds' e1 e2
      cases e
      exact .cons (rd_ok hh h2 e1) (rdL_ok hh h3 e2)
    · cases e
def Bopn (Γ : Wd) (r : List V → Hp → VK → Prop) (kf : List D → (SV → Prop) → Prop) : Prop :=
  ∀ (σ : Sg) (F H : Hp) (A : List Addr) (ρ : Rho) (vs : List V) (ds : List D) (Q : SV → Prop) (QV : VK), hold Γ σ F H ρ A → RVL Γ F H vs ds → kf ds Q →
    (∀ z, Q z → ∀ v F' H' A' B, Out Γ σ F H A ρ z v F' H' A' B → QV v H') → r vs H QV
theorem se_bn {e : Expr} {es : List Expr} {r : List V → Hp → VK → Prop} {kf : List D → (SV → Prop) → Prop} {w : WA} (rule : ∀ {ta : TA}, PA X es ta → PE X e (tCB r ta)) (hk : Bopn Γ r kf) (h : SA Γ X es w) : SE Γ X e (wB kf w) :=
  .mk fun σ F H A ρ Q E QV W hh tk el hw hq pins s I => by
  refine (rule pa_x).run pins s σ H QV I ?_
  refine h.run σ F H A ρ _ E _ W hh tk el hw fun svs ρ1 hw1 vs F1 H1 A1 B1 o1 => ?_
  cases e1 : rdL svs ρ1 with
  | none => simp only [e1] at hw1
  | some ds =>
    simp only [e1] at hw1
    refine hk σ F1 H1 A1 ρ1 vs ds _ QV o1.oh (rdL_ok o1.oh o1.ors e1) hw1 fun z hz v F3 H3 A3 B3 o3 => ?_
    have x1 : Ext F H A F1 H1 A1 := o1.oe.sub fun a m => List.mem_append_right _ m
    exact hq z ρ1 hz v F3 H3 A3 B3 ⟨x1.trans o3.oe, o3.oh, o3.ors, o3.ond, o3.ofb⟩
section
variable {x : Str} {p pos : Pos} {e : Expr} {es : List Expr} {w : WA} {id T : String} {r : List V → Hp → VK → Prop} {kf : List D → (SV → Prop) → Prop}
theorem gl_of (C : Ctx Γ X N sc fp k) {x : Str} (hg : sc.names.lookup x = some .globalImplicit) : Gl X x := by
  show X.env.scope.names.lookup x = _
  rw [C.hs]; exact hg
theorem se_callB (C : Ctx Γ X N sc fp k) (hc : CallR X (.builtin id) r) (hk : Bopn Γ r kf) (hm : Γ.mg x = none) (hv : bootBuiltins x = some (.builtin id)) (ha : SA Γ X (e :: es) w) (hg : sc.names.lookup x = some .globalImplicit := by rfl) (hn : x ≠ "__name__" := by decide) (hdb : (x == ("__debug__" : Str)) = false := by decide)
    (he : starEach (e :: es) X.env = (false, eval e X.env) :: starEach es X.env := by exact star_of rfl) (hpl : (backTo pos (starEach es X.env)).any (·.1) = false := by rfl) : SE Γ X (.Call (.Name x p) (e :: es) [] pos) (wB kf w) :=
  se_bn (fun pa => pe_callB hc (gl_of C hg) (by rw [C.mg]; exact hm) hv pa hn hdb he hpl) hk ha
theorem se_callTy (C : Ctx Γ X N sc fp k) (hc : CallR X (.type T) r) (hk : Bopn Γ r kf) (hm : Γ.mg x = none) (hv : bootBuiltins x = some (.type T)) (ha : SA Γ X (e :: es) w) (hg : sc.names.lookup x = some .globalImplicit := by rfl) (hn : x ≠ "__name__" := by decide) (hdb : (x == ("__debug__" : Str)) = false := by decide)
    (he : starEach (e :: es) X.env = (false, eval e X.env) :: starEach es X.env := by exact star_of rfl) (hpl : (backTo pos (starEach es X.env)).any (·.1) = false := by rfl) : SE Γ X (.Call (.Name x p) (e :: es) [] pos) (wB kf w) :=
  se_bn (fun pa => pe_callTy hc (gl_of C hg) (by rw [C.mg]; exact hm) hv pa hn hdb he hpl) hk ha
end
end
end Dv

/-! Dv5: the built-ins. -/
namespace Dv
open PySem PySem.Spec PyProof.Rows L2
section
variable {Γ : Wd} {X : Cx} {N : List Str} {sc : Scope} {fp : Str → Bool} {k : Nat}
theorem rvl1 {F H : Hp} {vs : List V} {d : D} (h : RVL Γ F H vs [d]) : ∃ v, vs = [v] ∧ RV Γ F H v d := by
  cases h with
  | cons h t => cases t; exact ⟨_, rfl, h⟩
theorem rvl2 {F H : Hp} {vs : List V} {d e : D} (h : RVL Γ F H vs [d, e]) : ∃ v w, vs = [v, w] ∧ RV Γ F H v d ∧ RV Γ F H w e := by
  cases h with
  | cons h t => obtain ⟨w, rfl, q⟩ := rvl1 t; exact ⟨_, _, rfl, h, q⟩
def CrOr (r r' : List V → Hp → VK → Prop) : List V → Hp → VK → Prop := fun xs H Q => r xs H Q ∨ r' xs H Q
theorem callR_or {f : Value} {r r' : List V → Hp → VK → Prop} (h : CallR X f r) (h' : CallR X f r') : CallR X f (CrOr r r') := by
  intro pins s σ H xs us Q I rr q
  rcases q with q | q
  · exact h pins s σ H xs us Q I rr q
  · exact h' pins s σ H xs us Q I rr q
section
variable {p pos : Pos} {e e2 : Expr} {w : WA}

/-! #### len -/
def kLen : List D → (SV → Prop) → Prop := fun ds K => match ds with
  | [.lst xs] => K (.d (.int xs.length))
  | [.tup xs] => K (.d (.int xs.length))
  | [.scr xs] => K (.d (.int xs.length))
  | [.str z] => z.length ≤ 16777216 ∧ K (.d (.int z.length))
  | _ => False
theorem bop_len (C : Ctx Γ X N sc fp k) : Bopn Γ (CrOr (fun xs H Q => ∃ p ys, xs = [.ref p] ∧ (SqL X.K H p ys ∨ SqT X.K H p ys) ∧ Q (.int ys.length) H) (fun xs H Q => ∃ z, xs = [.str z] ∧ z.length ≤ sizeLine ∧ Q (.int z.length) H)) kLen := fun σ F H A ρ vs ds Q QV hh rr hk hq => by
  unfold kLen at hk
  split at hk
  · obtain ⟨v, rfl, r⟩ := rvl1 rr
    obtain ⟨a, ws, rfl, ha, ra⟩ := rv_lst r
    exact .inl ⟨a, ws, rfl, .inl (.of ha), hq _ hk _ _ _ _ _ (out_sc hh (by rw [ra.length]; exact .int _))⟩
  · obtain ⟨v, rfl, r⟩ := rvl1 rr
    obtain ⟨a, ws, rfl, ha, ra, _⟩ := rv_tup hh.sub r
    exact .inl ⟨a, ws, rfl, .inr (.of ha), hq _ hk _ _ _ _ _ (out_sc hh (by rw [ra.length]; exact .int _))⟩
  · obtain ⟨v, rfl, r⟩ := rvl1 rr
    obtain ⟨a, rfl, ha⟩ := rv_scr hh.sub r
    exact .inl ⟨a, _, rfl, .inl (by rw [C.K]; exact ha), hq _ hk _ _ _ _ _ (out_sc hh (by rw [List.length_map]; exact .int _))⟩
  · obtain ⟨v, rfl, r⟩ := rvl1 rr
    exact .inr ⟨_, by rw [rv_str r], by rw [line_eq]; exact hk.1, hq _ hk.2 _ _ _ _ _ (out_sc hh (.int _))⟩
  · exact hk.elim
theorem se_len (C : Ctx Γ X N sc fp k) (ha : SA Γ X [e] w) (hg : sc.names.lookup ("len" : Str) = some .globalImplicit := by rfl) (he : starEach [e] X.env = (false, eval e X.env) :: starEach [] X.env := by exact star_of rfl) (hpl : (backTo pos (starEach [] X.env)).any (·.1) = false := by rfl) : SE Γ X (.Call (.Name "len" p) [e] [] pos) (wB kLen w) :=
  se_callB C (callR_or call_len_seq call_len_str) (bop_len C) (C.bn _ (by decide +kernel)) PySem.boot_len ha hg (by decide) (by decide) he hpl
/-! #### abs, int, str of an int -/
def kAbs : List D → (SV → Prop) → Prop := fun ds K => match ds with
  | [.int i] => K (.d (.int (if i < 0 then -i else i)))
  | _ => False
theorem bop_abs : Bopn Γ (fun xs H Q => ∃ i, xs = [.int i] ∧ Q (.int (if i < 0 then -i else i)) H) kAbs := fun σ F H A ρ vs ds Q QV hh rr hk hq => by
  unfold kAbs at hk
  split at hk
  · obtain ⟨v, rfl, r⟩ := rvl1 rr
    exact ⟨_, by rw [rv_int r], hq _ hk _ _ _ _ _ (out_sc hh (.int _))⟩
  · exact hk.elim
theorem se_abs (C : Ctx Γ X N sc fp k) (ha : SA Γ X [e] w) (hg : sc.names.lookup ("abs" : Str) = some .globalImplicit := by rfl) (he : starEach [e] X.env = (false, eval e X.env) :: starEach [] X.env := by exact star_of rfl) (hpl : (backTo pos (starEach [] X.env)).any (·.1) = false := by rfl) : SE Γ X (.Call (.Name "abs" p) [e] [] pos) (wB kAbs w) :=
  se_callB C call_abs bop_abs (C.bn _ (by decide +kernel)) (by decide +kernel) ha hg (by decide) (by decide) he hpl
def kInt : List D → (SV → Prop) → Prop := fun ds K => match ds with
  | [.int i] => K (.d (.int i))
  | [.bl b] => K (.d (.int (if b = true then 1 else 0)))
  | _ => False
theorem bop_int : Bopn Γ (fun xs H Q => (∃ i, xs = [.int i] ∧ Q (.int i) H) ∨ ∃ k, xs = [.bl k] ∧ Q (.int (if k then 1 else 0)) H) kInt := fun σ F H A ρ vs ds Q QV hh rr hk hq => by
  unfold kInt at hk
  split at hk
  · obtain ⟨v, rfl, r⟩ := rvl1 rr
    exact .inl ⟨_, by rw [rv_int r], hq _ hk _ _ _ _ _ (out_sc hh (.int _))⟩
  · obtain ⟨v, rfl, r⟩ := rvl1 rr
    exact .inr ⟨_, by rw [rv_bl r], hq _ hk _ _ _ _ _ (out_sc hh (.int _))⟩
  · exact hk.elim
theorem se_intc (C : Ctx Γ X N sc fp k) (ha : SA Γ X [e] w) (hg : sc.names.lookup ("int" : Str) = some .globalImplicit := by rfl) (he : starEach [e] X.env = (false, eval e X.env) :: starEach [] X.env := by exact star_of rfl) (hpl : (backTo pos (starEach [] X.env)).any (·.1) = false := by rfl) : SE Γ X (.Call (.Name "int" p) [e] [] pos) (wB kInt w) :=
  se_callTy C call_int1 bop_int (C.bn _ (by decide +kernel)) (by decide +kernel) ha hg (by decide) (by decide) he hpl
/-! #### max(i, j), max(list), max(tuple) -/
section
variable {prog : Program} {w : World} {A : Around} {E : Value → Shared → Prop} {s : Shared} {l : Addr} {xs : Array (Int × Tok)}
theorem iter_intTup {Q : Value → Shared → Prop} (hl : s.heap.IsTuple l (intItems xs))
    (h : ∀ s₂ : Shared, s₂ = { s with heap := s.heap.push { cls := .type "tuple_iterator", data := .fields #[.ref l, .int 0 0] } } →
      (s₂.heap.IsTupleIter s.heap.objs.size l 0 ∧ s₂.heap.IsTuple l (intItems xs)) → (∀ b ∈ [s.heap.objs.size, l], b < s₂.heap.objs.size) → l ≠ s.heap.objs.size → Q (.ref s.heap.objs.size) s₂) :
    wpAny (model prog w) A (pyIter (.ref l)) Q E s := by
  have hlt : l < s.heap.objs.size := by obtain ⟨_, e, _⟩ := hl; exact Heap.lt_size e
  refine wpAny_pyIter_tuple hl (h _ rfl ⟨⟨_, Heap.get?_push_size _ rfl, rfl, rfl⟩, hl.push _⟩ (fun b hb => ?_) (Nat.ne_of_lt hlt))
  show b < (s.heap.push _).objs.size
  rw [Heap.size_push]
  rcases List.mem_cons.mp hb with rfl | hb
  · exact Nat.lt_succ_self _
  · rcases List.mem_cons.mp hb with rfl | hb
    · exact Nat.lt_succ_of_lt hlt
    · cases hb
theorem old_keptT {h' : Heap} (hk : ∀ b o, b ∉ [s.heap.objs.size] → (s.heap.push { cls := .type "tuple_iterator", data := .fields #[.ref l, .int 0 0] }).get? b = some o → h'.get? b = some o) :
    ∀ b o, s.heap.get? b = some o → h'.get? b = some o := fun b o e => by
  refine hk b o (fun hm => ?_) (Heap.get?_push_of_some _ e)
  rcases List.mem_cons.mp hm with e1 | hm
  · exact absurd (e1 ▸ Heap.lt_size e) (Nat.lt_irrefl _)
  · cases hm
theorem max_rawT {its : List Value} {ns : List Int} {Q : Value → Shared → Prop} (hh : A.handled = none) (hl : s.heap.IsTuple l its.toArray) (hi : IntsAre its ns) (hne : 0 < ns.length)
    (h : ∀ h' tk M t', (∀ b o, s.heap.get? b = some o → h'.get? b = some o) → M ∈ ns → (∀ a, a ∈ ns → a ≤ M) → Q (.int M t') { s with heap := h', toks := tk }) : wpAny (model prog w) A (call (.builtin "max") [.ref l]) Q E s := by
  obtain ⟨xs, e⟩ := hi.allInts.items
  have hn : numsOf (intItems xs).toList = ns := by rw [← e]; exact hi.numsOf
  rw [nums_intItems] at hn
  subst hn
  rw [e] at hl
  have hsz : 0 < xs.size := by simpa using hne
  refine call_max_walk (iter_intTup hl fun s₂ e st hfp hlI => ?_)
  subst e
  refine ⟨_, _, _, _, _, _, _, rfl, Walks.tuple (A := A.in1) hh _ l hlI (intItems xs), st, hfp, by simpa [intItems] using hsz, CmpOf.ints_gt (numAt xs) (fun _ _ => intItems_at), fun v h' tk hP hk => ?_⟩
  obtain ⟨t, rfl⟩ := intItems_at hP
  have hsz2 : (intItems xs).size - 1 = xs.size - 1 := by simp [intItems]
  obtain ⟨h1, h2⟩ := argBest_gt (numAt xs) (xs.size - 1)
  rw [hsz2] at *
  refine h h' tk _ t (old_keptT hk) ?_ fun a ha => ?_
  · rw [numAt_eq]; exact PySem.getD_mem (by rw [List.length_map, Array.length_toList]; omega)
  · obtain ⟨j, hj, rfl⟩ := mem_getD ha
    rw [List.length_map, Array.length_toList] at hj
    rw [← numAt_eq]; exact h2 j (by omega)
theorem min_rawT {its : List Value} {ns : List Int} {Q : Value → Shared → Prop} (hh : A.handled = none) (hl : s.heap.IsTuple l its.toArray) (hi : IntsAre its ns) (hne : 0 < ns.length)
    (h : ∀ h' tk M t', (∀ b o, s.heap.get? b = some o → h'.get? b = some o) → M ∈ ns → (∀ a, a ∈ ns → M ≤ a) → Q (.int M t') { s with heap := h', toks := tk }) : wpAny (model prog w) A (call (.builtin "min") [.ref l]) Q E s := by
  obtain ⟨xs, e⟩ := hi.allInts.items
  have hn : numsOf (intItems xs).toList = ns := by rw [← e]; exact hi.numsOf
  rw [nums_intItems] at hn
  subst hn
  rw [e] at hl
  have hsz : 0 < xs.size := by simpa using hne
  refine call_min_walk (iter_intTup hl fun s₂ e st hfp hlI => ?_)
  subst e
  refine ⟨_, _, _, _, _, _, _, rfl, Walks.tuple (A := A.in1) hh _ l hlI (intItems xs), st, hfp, by simpa [intItems] using hsz, CmpOf.ints_lt (numAt xs) (fun _ _ => intItems_at), fun v h' tk hP hk => ?_⟩
  obtain ⟨t, rfl⟩ := intItems_at hP
  have hsz2 : (intItems xs).size - 1 = xs.size - 1 := by simp [intItems]
  obtain ⟨h1, h2⟩ := argBest_lt (numAt xs) (xs.size - 1)
  rw [hsz2] at *
  refine h h' tk _ t (old_keptT hk) ?_ fun a ha => ?_
  · rw [numAt_eq]; exact PySem.getD_mem (by rw [List.length_map, Array.length_toList]; omega)
  · obtain ⟨j, hj, rfl⟩ := mem_getD ha
    rw [List.length_map, Array.length_toList] at hj
    rw [← numAt_eq]; exact h2 j (by omega)
end
def rMaxT (K : PySem.W.Frag) : List V → Hp → VK → Prop := fun vs H Q => ∃ (a : Addr) (ns : List Int), vs = [V.ref a] ∧ SqT K H a (ns.map V.int) ∧ 0 < ns.length ∧ ∀ m, m ∈ ns → (∀ y, y ∈ ns → y ≤ m) → Q (.int m) H
def rMinT (K : PySem.W.Frag) : List V → Hp → VK → Prop := fun vs H Q => ∃ (a : Addr) (ns : List Int), vs = [V.ref a] ∧ SqT K H a (ns.map V.int) ∧ 0 < ns.length ∧ ∀ m, m ∈ ns → (∀ y, y ∈ ns → m ≤ y) → Q (.int m) H
theorem cr_maxT {X : Cx} (hc : X.calm = true) : CallR X (.builtin "max") (rMaxT X.K) := by
  intro pins s σ H vs us Q I r h
  obtain ⟨a, ns, rfl, hs, hne, q⟩ := h
  obtain ⟨its, rv, ⟨o, e, c, n, d⟩, _⟩ := I.tuple hs
  rw [Vals.ref1 r]
  exact max_rawT (I.ok.hd hc) ⟨o, e, c, n, d⟩ rv.ints hne fun h' tk m t' hk h1 h2 => ⟨.int _, H, I.kept hk, ⟨_, rfl⟩, q m h1 h2⟩
theorem cr_minT {X : Cx} (hc : X.calm = true) : CallR X (.builtin "min") (rMinT X.K) := by
  intro pins s σ H vs us Q I r h
  obtain ⟨a, ns, rfl, hs, hne, q⟩ := h
  obtain ⟨its, rv, ⟨o, e, c, n, d⟩, _⟩ := I.tuple hs
  rw [Vals.ref1 r]
  exact min_rawT (I.ok.hd hc) ⟨o, e, c, n, d⟩ rv.ints hne fun h' tk m t' hk h1 h2 => ⟨.int _, H, I.kept hk, ⟨_, rfl⟩, q m h1 h2⟩
def kMax : List D → (SV → Prop) → Prop := fun ds K => match ds with
  | [.int i, .int j] => K (.d (.int (if j > i then j else i)))
  | [.lst xs] => ∃ ns : List Int, xs = ns.map D.int ∧ 0 < ns.length ∧ ∀ m, m ∈ ns → (∀ y ∈ ns, y ≤ m) → K (.d (.int m))
  | [.tup xs] => ∃ ns : List Int, xs = ns.map D.int ∧ 0 < ns.length ∧ ∀ m, m ∈ ns → (∀ y ∈ ns, y ≤ m) → K (.d (.int m))
  | _ => False
def kMin : List D → (SV → Prop) → Prop := fun ds K => match ds with
  | [.int i, .int j] => K (.d (.int (if j < i then j else i)))
  | [.lst xs] => ∃ ns : List Int, xs = ns.map D.int ∧ 0 < ns.length ∧ ∀ m, m ∈ ns → (∀ y ∈ ns, m ≤ y) → K (.d (.int m))
  | [.tup xs] => ∃ ns : List Int, xs = ns.map D.int ∧ 0 < ns.length ∧ ∀ m, m ∈ ns → (∀ y ∈ ns, m ≤ y) → K (.d (.int m))
  | _ => False
theorem ints_at {F H : Hp} {v : V} {ns : List Int} (h : RV Γ F H v (.lst (ns.map D.int))) : ∃ a, v = .ref a ∧ SqL Γ.K H a (ns.map V.int) := by
  obtain ⟨a, ws, rfl, ha, ra⟩ := rv_lst h
  rw [RL.ints ra] at ha
  exact ⟨a, rfl, .of ha⟩
theorem ints_atT {F H : Hp} {v : V} {ns : List Int} (s : Same F H) (h : RV Γ F H v (.tup (ns.map D.int))) : ∃ a, v = .ref a ∧ SqT Γ.K H a (ns.map V.int) := by
  obtain ⟨a, ws, rfl, ha, ra, _⟩ := rv_tup s h
  rw [RL.ints ra] at ha
  exact ⟨a, rfl, .of ha⟩
theorem bop_max (C : Ctx Γ X N sc fp k) : Bopn Γ (CrOr (CrOr (fun xs H Q => ∃ i j, xs = [.int i, .int j] ∧ Q (.int (if j > i then j else i)) H) (rMax X.K)) (rMaxT X.K)) kMax := fun σ F H A ρ vs ds Q QV hh rr hk hq => by
  unfold kMax at hk
  split at hk
  · obtain ⟨v, u, rfl, r, r'⟩ := rvl2 rr
    exact .inl (.inl ⟨_, _, by rw [rv_int r, rv_int r'], hq _ hk _ _ _ _ _ (out_sc hh (.int _))⟩)
  · obtain ⟨v, rfl, r⟩ := rvl1 rr
    obtain ⟨ns, rfl, h0, hk⟩ := hk
    obtain ⟨a, rfl, ha⟩ := ints_at r
    exact .inl (.inr ⟨a, ns, rfl, by rw [C.K]; exact ha, h0, fun m h1 h2 => hq _ (hk m h1 h2) _ _ _ _ _ (out_sc hh (.int _))⟩)
  · obtain ⟨v, rfl, r⟩ := rvl1 rr
    obtain ⟨ns, rfl, h0, hk⟩ := hk
    obtain ⟨a, rfl, ha⟩ := ints_atT hh.sub r
    exact .inr ⟨a, ns, rfl, by rw [C.K]; exact ha, h0, fun m h1 h2 => hq _ (hk m h1 h2) _ _ _ _ _ (out_sc hh (.int _))⟩
  · exact hk.elim
theorem bop_min (C : Ctx Γ X N sc fp k) : Bopn Γ (CrOr (CrOr (fun xs H Q => ∃ i j, xs = [.int i, .int j] ∧ Q (.int (if j < i then j else i)) H) (rMin X.K)) (rMinT X.K)) kMin := fun σ F H A ρ vs ds Q QV hh rr hk hq => by
  unfold kMin at hk
  split at hk
  · obtain ⟨v, u, rfl, r, r'⟩ := rvl2 rr
    exact .inl (.inl ⟨_, _, by rw [rv_int r, rv_int r'], hq _ hk _ _ _ _ _ (out_sc hh (.int _))⟩)
  · obtain ⟨v, rfl, r⟩ := rvl1 rr
    obtain ⟨ns, rfl, h0, hk⟩ := hk
    obtain ⟨a, rfl, ha⟩ := ints_at r
    exact .inl (.inr ⟨a, ns, rfl, by rw [C.K]; exact ha, h0, fun m h1 h2 => hq _ (hk m h1 h2) _ _ _ _ _ (out_sc hh (.int _))⟩)
  · obtain ⟨v, rfl, r⟩ := rvl1 rr
    obtain ⟨ns, rfl, h0, hk⟩ := hk
    obtain ⟨a, rfl, ha⟩ := ints_atT hh.sub r
    exact .inr ⟨a, ns, rfl, by rw [C.K]; exact ha, h0, fun m h1 h2 => hq _ (hk m h1 h2) _ _ _ _ _ (out_sc hh (.int _))⟩
  · exact hk.elim
theorem se_max (C : Ctx Γ X N sc fp k) {es : List Expr} (ha : SA Γ X (e :: es) w) (hg : sc.names.lookup ("max" : Str) = some .globalImplicit := by rfl) (he : starEach (e :: es) X.env = (false, eval e X.env) :: starEach es X.env := by exact star_of rfl) (hpl : (backTo pos (starEach es X.env)).any (·.1) = false := by rfl) : SE Γ X (.Call (.Name "max" p) (e :: es) [] pos) (wB kMax w) :=
  se_callB C (callR_or (callR_or (call_max2 C.calm) (cr_max C.calm)) (cr_maxT C.calm)) (bop_max C) (C.bn _ (by decide +kernel)) (by decide +kernel) ha hg (by decide) (by decide) he hpl
theorem se_min (C : Ctx Γ X N sc fp k) {es : List Expr} (ha : SA Γ X (e :: es) w) (hg : sc.names.lookup ("min" : Str) = some .globalImplicit := by rfl) (he : starEach (e :: es) X.env = (false, eval e X.env) :: starEach es X.env := by exact star_of rfl) (hpl : (backTo pos (starEach es X.env)).any (·.1) = false := by rfl) : SE Γ X (.Call (.Name "min" p) (e :: es) [] pos) (wB kMin w) :=
  se_callB C (callR_or (callR_or (call_min2 C.calm) (cr_min C.calm)) (cr_minT C.calm)) (bop_min C) (C.bn _ (by decide +kernel)) (by decide +kernel) ha hg (by decide) (by decide) he hpl
/-! #### sum, all -/
/-! #### list(x), tuple(x), sorted(ints) -/
def kList : List D → (SV → Prop) → Prop := fun ds K => match ds with
  | [.lst xs] => K (.lst xs)
  | [.tup xs] => K (.lst xs)
  | [.scr ns] => K (.lst (ns.map D.int))
  | _ => False
theorem bop_list (C : Ctx Γ X N sc fp k) : Bopn Γ (fun xs H Q => ∃ p ys, xs = [.ref p] ∧ (SqL X.K H p ys ∨ SqT X.K H p ys) ∧ ∀ l, H l = none → Q (.ref l) (upd H l (.lst ys))) kList := fun σ F H A ρ vs ds Q QV hh rr hk hq => by
  unfold kList at hk
  split at hk
  · obtain ⟨v, rfl, r⟩ := rvl1 rr
    obtain ⟨a, ws, rfl, ha, ra⟩ := rv_lst r
    exact ⟨a, ws, rfl, .inl (.of ha), fun l hl => hq _ hk _ _ _ _ _ (.newL hh hl ra)⟩
  · obtain ⟨v, rfl, r⟩ := rvl1 rr
    obtain ⟨a, ws, rfl, ha, ra, _⟩ := rv_tup hh.sub r
    exact ⟨a, ws, rfl, .inr (.of ha), fun l hl => hq _ hk _ _ _ _ _ (.newL hh hl ra)⟩
  · obtain ⟨v, rfl, r⟩ := rvl1 rr
    obtain ⟨a, rfl, ha⟩ := rv_scr hh.sub r
    exact ⟨a, _, rfl, .inl (by rw [C.K]; exact ha), fun l hl => hq _ hk _ _ _ _ _ (.newL hh hl RL.of_ints)⟩
  · exact hk.elim
theorem se_listc (C : Ctx Γ X N sc fp k) (ha : SA Γ X [e] w) (hg : sc.names.lookup ("list" : Str) = some .globalImplicit := by rfl) (he : starEach [e] X.env = (false, eval e X.env) :: starEach [] X.env := by exact star_of rfl) (hpl : (backTo pos (starEach [] X.env)).any (·.1) = false := by rfl) : SE Γ X (.Call (.Name "list" p) [e] [] pos) (wB kList w) :=
  se_callTy C call_list_of (bop_list C) (C.bn _ (by decide +kernel)) (by decide +kernel) ha hg (by decide) (by decide) he hpl
def kTuple : List D → (SV → Prop) → Prop := fun ds K => match ds with
  | [.lst xs] => K (.d (.tup xs))
  | [.tup xs] => K (.d (.tup xs))
  | _ => False
theorem bop_tuple (C : Ctx Γ X N sc fp k) : Bopn Γ (fun xs H Q => ∃ p ys, xs = [.ref p] ∧ ((SqL X.K H p ys ∧ ∀ l, H l = none → Q (.ref l) (upd H l (.tup ys))) ∨ (SqT X.K H p ys ∧ Q (.ref p) H))) kTuple := fun σ F H A ρ vs ds Q QV hh rr hk hq => by
  unfold kTuple at hk
  split at hk
  · obtain ⟨v, rfl, r⟩ := rvl1 rr
    obtain ⟨a, ws, rfl, ha, ra⟩ := rv_lst r
    exact ⟨a, ws, rfl, .inl ⟨.of ha, fun l hl => hq _ hk _ _ _ _ _ (.newT hh hl ra)⟩⟩
  · obtain ⟨v, rfl, r⟩ := rvl1 rr
    obtain ⟨a, ws, rfl, ha, ra, fa⟩ := rv_tup hh.sub r
    exact ⟨a, ws, rfl, .inr ⟨.of ha, hq _ hk _ _ _ _ _ (.now hh (rs_d (by unfold rep R; exact ⟨a, ws, rfl, fa, ra⟩)))⟩⟩
  · exact hk.elim
theorem se_tuplec (C : Ctx Γ X N sc fp k) (ha : SA Γ X [e] w) (hg : sc.names.lookup ("tuple" : Str) = some .globalImplicit := by rfl) (he : starEach [e] X.env = (false, eval e X.env) :: starEach [] X.env := by exact star_of rfl) (hpl : (backTo pos (starEach [] X.env)).any (·.1) = false := by rfl) : SE Γ X (.Call (.Name "tuple" p) [e] [] pos) (wB kTuple w) :=
  se_callTy C call_tuple_of (bop_tuple C) (C.bn _ (by decide +kernel)) (by decide +kernel) ha hg (by decide) (by decide) he hpl
def kSorted : List D → (SV → Prop) → Prop := fun ds K => match ds with
  | [.lst xs] => ∃ ns : List Int, xs = ns.map D.int ∧ ∀ ns' : List Int, ns'.Perm ns → ns'.Pairwise (· ≤ ·) → K (.lst (ns'.map D.int))
  | _ => False
theorem bop_sorted (C : Ctx Γ X N sc fp k) : Bopn Γ (rSortedI X.K) kSorted := fun σ F H A ρ vs ds Q QV hh rr hk hq => by
  unfold kSorted at hk
  split at hk
  · obtain ⟨v, rfl, r⟩ := rvl1 rr
    obtain ⟨ns, rfl, hk⟩ := hk
    obtain ⟨a, rfl, ha⟩ := ints_at r
    exact ⟨a, ns, rfl, by rw [C.K]; exact ha, fun ns' p h1 h2 hp => hq _ (hk ns' h1 h2) _ _ _ _ _ (.newL hh hp RL.of_ints)⟩
  · exact hk.elim
theorem se_sorted (C : Ctx Γ X N sc fp k) (ha : SA Γ X [e] w) (hg : sc.names.lookup ("sorted" : Str) = some .globalImplicit := by rfl) (he : starEach [e] X.env = (false, eval e X.env) :: starEach [] X.env := by exact star_of rfl) (hpl : (backTo pos (starEach [] X.env)).any (·.1) = false := by rfl) : SE Γ X (.Call (.Name "sorted" p) [e] [] pos) (wB kSorted w) :=
  se_callB C cr_sortedI (bop_sorted C) (C.bn _ (by decide +kernel)) (by decide +kernel) ha hg (by decide) (by decide) he hpl
/-! #### repr of data -/
def Rpr (x : D) : Prop := plain x = true ∧ (py x).showable = true ∧ (py x).depth ≤ 50 ∧ (py x).shown.length ≤ 16777216
def shw (x : D) : Str := (py x).shown
mutual
theorem noDict : ∀ x : D, (py x).hasDict = false
  | .non => rfl
  | .bl _ => rfl
  | .int _ => rfl
  | .str _ => rfl
  | .lst ds => by unfold py PyData.hasDict; exact noDictL ds
  | .tup ds => by unfold py PyData.hasDict; exact noDictL ds
  | .obj _ _ => rfl
  | .scr _ => rfl
  | .kls _ => rfl
  | .fn _ => rfl
theorem noDictL : ∀ xs : List D, PyData.hasDictAll (pyL xs) = false
  | [] => rfl
  | x :: xs => by unfold pyL PyData.hasDictAll; rw [noDict x, noDictL xs]; rfl
end
theorem call_repr (hg : X.A.guards = some []) (hu : X.A.units + 64 < cLine) : CallR X (.builtin "repr") (fun xs H Q => ∃ v d, xs = [v] ∧ Dp X.K H v d ∧ d.showable = true ∧ d.hasDict = false ∧ d.depth ≤ 50 ∧ d.shown.length ≤ sizeLine ∧ Q (.str d.shown) H) := by
  intro pins s σ H xs us Q I r h
  obtain ⟨v, d, rfl, hd, hs, hn, hdp, hl, q⟩ := h
  obtain ⟨u, rfl, ru⟩ := vals1 r
  obtain ⟨as, rd⟩ := Dp.reads I d v u hd ru
  cases hd with
  | non => cases ru; exact PySem.P.repr_of_none ⟨.str _, H, I.tok _, ⟨_, rfl⟩, by simpa [PyData.shown] using q⟩
  | bl b => cases ru; exact PySem.P.repr_of_bool ⟨.str _, H, I.tok _, ⟨_, rfl⟩, by simpa [PyData.shown] using q⟩
  | int i =>
    obtain ⟨t, rfl⟩ := ru
    exact PySem.P.repr_of_int (by simpa [PyData.showable] using hs) ⟨.str _, H, I.tok _, ⟨_, rfl⟩, by simpa [PyData.shown] using q⟩
  | str x =>
    obtain ⟨t, rfl⟩ := ru
    exact PySem.P.repr_of_str ⟨.str _, H, I.tok _, ⟨_, rfl⟩, by simpa [PyData.shown] using q⟩ (by simpa [PyData.shown] using hl)
  | lst h1 h2 =>
    cases ru
    exact repr_of_reads' rd hs (PyData.noDict_hsm hn) hg (by omega) (fun _ _ e => e) (fun h' u tk hk => ⟨.str _, H, I.kept hk, ⟨_, rfl⟩, q⟩) hl
  | tup h1 h2 =>
    cases ru
    exact repr_of_reads' rd hs (PyData.noDict_hsm hn) hg (by omega) (fun _ _ e => e) (fun h' u tk hk => ⟨.str _, H, I.kept hk, ⟨_, rfl⟩, q⟩) hl
def kRepr : List D → (SV → Prop) → Prop := fun ds K => match ds with
  | [x] => Rpr x ∧ K (.d (.str (shw x)))
  | _ => False
theorem bop_repr (C : Ctx Γ X N sc fp k) : Bopn Γ (fun xs H Q => ∃ v d, xs = [v] ∧ Dp X.K H v d ∧ d.showable = true ∧ d.hasDict = false ∧ d.depth ≤ 50 ∧ d.shown.length ≤ sizeLine ∧ Q (.str d.shown) H) kRepr := fun σ F H A ρ vs ds Q QV hh rr hk hq => by
  unfold kRepr at hk
  split at hk
  · obtain ⟨v, rfl, r⟩ := rvl1 rr
    obtain ⟨⟨h1, h2, h3, h4⟩, hk⟩ := hk
    exact ⟨v, _, rfl, by rw [C.K]; exact dp_rv hh.sub r h1, h2, noDict _, h3, by rw [line_eq]; exact h4, hq _ hk _ _ _ _ _ (out_sc hh (.str _))⟩
  · exact hk.elim
theorem se_repr (G : Γ.gk = true) (C : Ctx Γ X N sc fp k) (ha : SA Γ X [e] w) (hg : sc.names.lookup ("repr" : Str) = some .globalImplicit := by rfl) (he : starEach [e] X.env = (false, eval e X.env) :: starEach [] X.env := by exact star_of rfl) (hpl : (backTo pos (starEach [] X.env)).any (·.1) = false := by rfl) : SE Γ X (.Call (.Name "repr" p) [e] [] pos) (wB kRepr w) :=
  se_callB C (call_repr (C.gd G) C.room.units) (bop_repr C) (C.bn _ (by decide +kernel)) (by decide +kernel) ha hg (by decide) (by decide) he hpl
end
end
end Dv

/-! Dv6: and, or, not, if else, chains, slices, attributes. -/
namespace Dv
open PySem PySem.Spec PyProof.Rows L2
section
variable {Γ : Wd} {X : Cx} {N : List Str} {sc : Scope} {fp : Str → Bool} {k : Nat}
/-! ### tests -/
def wpXW (X : Cx) (e : Expr) : TT := fun σ H Q => ∀ whole pins s, Inv X pins σ H s → wpAny (model X.prog X.w) X.A (isTrue e X.env whole) (TP X pins σ Q) X.xe s
theorem pw_x {e : Expr} : PW X e (wpXW X e) := ⟨fun wh pins s _ _ _ I h => h wh pins s I⟩
structure SW (Γ : Wd) (X : Cx) (e : Expr) (w : WT) : Prop where
  run : ∀ (σ : Sg) (F H : Hp) (A : List Addr) (ρ : Rho) (Q : Bool → Rho → Prop) (E : EK) (QV : Bool → Hp → Prop) (W : WX), hold Γ σ F H ρ A → Takes X W → EL Γ σ F H A E W → w ρ Q E →
    (∀ b ρ', Q b ρ' → ∀ F' H' A', Ext F H A F' H' A' → hold Γ σ F' H' ρ' A' → QV b H') → wpXW X e σ H QV
theorem SW.st {e : Expr} {w : WT} (h : SW Γ X e w) : ST Γ X e w := .mk fun σ F H A ρ Q E QV W hh tk el hw hq pins s I => h.run σ F H A ρ Q E QV W hh tk el hw hq _ pins s I
def wAndT (t u : WT) : WT := fun ρ Q E => t ρ (fun b ρ1 => Br b (u ρ1 Q E) (Q false ρ1)) E
def wOrT (t u : WT) : WT := fun ρ Q E => t ρ (fun b ρ1 => Br b (Q true ρ1) (u ρ1 Q E)) E
def wNotT (t : WT) : WT := fun ρ Q E => t ρ (fun b ρ1 => Q (!b) ρ1) E
section
variable {a b c : Expr} {es : List Expr} {pos : Pos} {t u : WT} {wa wb wc : WE}
theorem sw_and1 (h : ST Γ X a t) : SW Γ X (.BoolOp .And [a] pos) t := .mk fun σ F H A ρ Q E QV W hh tk el hw hq wh pins s I => (pw_and1 pt_x).run wh pins s σ H QV I (h.use hh tk el hw hq)
theorem sw_or1 (h : ST Γ X a t) : SW Γ X (.BoolOp .Or [a] pos) t := .mk fun σ F H A ρ Q E QV W hh tk el hw hq wh pins s I => (pw_or1 pt_x).run wh pins s σ H QV I (h.use hh tk el hw hq)
theorem sw_and (h : ST Γ X a t) (h2 : SW Γ X (.BoolOp .And (b :: es) pos) u) : SW Γ X (.BoolOp .And (a :: b :: es) pos) (wAndT t u) := .mk fun σ F H A ρ Q E QV W hh tk el hw hq wh pins s I =>
  (pw_and pt_x pw_x).run wh pins s σ H QV I (h.use hh tk el hw fun k ρ1 hk F1 H1 A1 x1 h1 => by
    cases k with
    | true => exact h2.run σ F1 H1 A1 ρ1 Q E QV W h1 tk (el.ext x1) (hk.t rfl) fun k' ρ2 hk' F2 H2 A2 x2 hh2 => hq k' ρ2 hk' F2 H2 A2 (x1.trans x2) hh2
    | false => exact hq false ρ1 (hk.f rfl) F1 H1 A1 x1 h1)
theorem sw_or (h : ST Γ X a t) (h2 : SW Γ X (.BoolOp .Or (b :: es) pos) u) : SW Γ X (.BoolOp .Or (a :: b :: es) pos) (wOrT t u) := .mk fun σ F H A ρ Q E QV W hh tk el hw hq wh pins s I =>
  (pw_or pt_x pw_x).run wh pins s σ H QV I (h.use hh tk el hw fun k ρ1 hk F1 H1 A1 x1 h1 => by
    cases k with
    | false => exact h2.run σ F1 H1 A1 ρ1 Q E QV W h1 tk (el.ext x1) (hk.f rfl) fun k' ρ2 hk' F2 H2 A2 x2 hh2 => hq k' ρ2 hk' F2 H2 A2 (x1.trans x2) hh2
    | true => exact hq true ρ1 (hk.t rfl) F1 H1 A1 x1 h1)
theorem st_not (h : ST Γ X a t) : ST Γ X (.UnaryOp .Not a pos) (wNotT t) := .mk fun σ F H A ρ Q E QV W hh tk el hw hq pins s I =>
  (pt_not pt_x).run pins s σ H QV I (h.use hh tk el hw fun k ρ1 hk F1 H1 A1 x1 h1 => hq _ ρ1 hk F1 H1 A1 x1 h1)
/-- comparisons as tests -/
theorem st_2 {e a b : Expr} {r : R2} {kf : D → D → (SV → Prop) → Prop} (rule : ∀ {ta tb : TE}, PE X a ta → PE X b tb → PT X e (tTest (tOp r ta tb))) (hk : Bop Γ r kf) (ha : SE Γ X a wa) (hb : SE Γ X b wb) : ST Γ X e (wTst (w2 kf wa wb)) :=
  .mk fun σ F H A ρ Q E QV W hh tk el hw hq pins s I => by
  refine (rule pe_x pe_x).run pins s σ H QV I ?_
  refine ha.use hh tk el hw fun sx ρ1 hw1 v1 F1 H1 A1 B1 o1 => ?_
  refine hb.use o1.oh tk (el.ext o1.ext1) hw1 fun sy ρ2 hw2 v2 F2 H2 A2 B2 o2 => ?_
  obtain ⟨r1, n1, f1, x1⟩ := o1.stay o2.ext1
  cases ex : rd sx ρ2 with
  | none => simp only [ex] at hw2
  | some dx =>
    cases ey : rd sy ρ2 with
    | none => simp only [ex, ey] at hw2
    | some dy =>
      simp only [ex, ey] at hw2
      refine hk σ F2 H2 A2 ρ2 v1 v2 dx dy _ _ o2.oh (rd_ok o2.oh r1 ex) (rd_ok o2.oh o2.ors ey) hw2 fun z hz v F3 H3 A3 B3 o3 => ?_
      cases z with
      | d x =>
        cases x with
        | bl b =>
          have r3 := o3.ors
          unfold rs RS R at r3
          exact ⟨b, r3.1, hq b ρ2 hz F3 H3 A3 ((o1.ext1.trans o2.ext1).trans o3.ext1) o3.oh⟩
        | _ => exact hz.elim
      | _ => exact hz.elim
theorem st_cmp {op : CmpOp} {r : R2} {kf : D → D → (SV → Prop) → Prop} (ho : OpR X (compareOp op) r) (hk : Bop Γ r kf) (hm : behindInMarks op b = false) (ha : SE Γ X a wa) (hb : SE Γ X b wb) : ST Γ X (.Compare a [op] [b] pos) (wTst (w2 kf wa wb)) :=
  st_2 (fun pa pb => pt_cmpR ho pa pb hm) hk ha hb
theorem st_lt (ha : SE Γ X a wa) (hb : SE Γ X b wb) : ST Γ X (.Compare a [.Lt] [b] pos) (wTst (w2 kLt wa wb)) := st_cmp op_lt (bop_I0 fun _ _ => .bl _) (nomark _) ha hb
theorem st_le (ha : SE Γ X a wa) (hb : SE Γ X b wb) : ST Γ X (.Compare a [.LtE] [b] pos) (wTst (w2 kLe wa wb)) := st_cmp op_le (bop_I0 fun _ _ => .bl _) (nomark _) ha hb
theorem st_gt (ha : SE Γ X a wa) (hb : SE Γ X b wb) : ST Γ X (.Compare a [.Gt] [b] pos) (wTst (w2 kGt wa wb)) := st_cmp op_gt (bop_I0 fun _ _ => .bl _) (nomark _) ha hb
theorem st_ge (ha : SE Γ X a wa) (hb : SE Γ X b wb) : ST Γ X (.Compare a [.GtE] [b] pos) (wTst (w2 kGe wa wb)) := st_cmp op_ge (bop_I0 fun _ _ => .bl _) (nomark _) ha hb
theorem st_eq (C : Ctx Γ X N sc fp k) (ha : SE Γ X a wa) (hb : SE Γ X b wb) : ST Γ X (.Compare a [.Eq] [b] pos) (wTst (w2 kEq wa wb)) := st_cmp (opR_or op_eq (op_eqD C.room.units)) (bop_eq C) (nomark _) ha hb
theorem st_ne (C : Ctx Γ X N sc fp k) (ha : SE Γ X a wa) (hb : SE Γ X b wb) : ST Γ X (.Compare a [.NotEq] [b] pos) (wTst (w2 kNe wa wb)) := st_cmp (opR_or op_ne (op_neD C.room.units)) (bop_ne C) (nomark _) ha hb
theorem st_is (ha : SE Γ X a wa) (hb : SE Γ X b wb) : ST Γ X (.Compare a [.Is] [b] pos) (wTst (w2 (kIs false) wa wb)) := st_cmp op_isN bop_is (nomark _) ha hb
theorem st_isnot (ha : SE Γ X a wa) (hb : SE Γ X b wb) : ST Γ X (.Compare a [.IsNot] [b] pos) (wTst (w2 (kIs true) wa wb)) := st_cmp op_notN bop_isnot (nomark _) ha hb
/-! ### a if t else b; and, or, not as values -/
def wIfE (t : WT) (wa wb : WE) : WE := fun ρ Q E => t ρ (fun k ρ1 => Br k (wa ρ1 Q E) (wb ρ1 Q E)) E
theorem Out.pre {σ : Sg} {F H F1 H1 F' H' : Hp} {A A1 A' B : List Addr} {ρ' : Rho} {sv : SV} {v : V} (x : Ext F H A F1 H1 A1) (o : Out Γ σ F1 H1 A1 ρ' sv v F' H' A' B) : Out Γ σ F H A ρ' sv v F' H' A' B := ⟨x.trans o.oe, o.oh, o.ors, o.ond, o.ofb⟩
theorem se_if (ht : ST Γ X c t) (ha : SE Γ X a wa) (hb : SE Γ X b wb) : SE Γ X (.IfExp c a b pos) (wIfE t wa wb) := .mk fun σ F H A ρ Q E QV W hh tk el hw hq pins s I =>
  (pe_ifExp pt_x pe_x pe_x).run pins s σ H QV I (ht.use hh tk el hw fun k ρ1 hk F1 H1 A1 x1 h1 => by
    cases k with
    | true => rw [if_pos rfl]; exact ha.use h1 tk (el.ext x1) (hk.t rfl) fun sv ρ2 q v F' H' A' B o => hq sv ρ2 q v F' H' A' B (o.pre x1)
    | false => rw [if_neg Bool.false_ne_true]; exact hb.use h1 tk (el.ext x1) (hk.f rfl) fun sv ρ2 q v F' H' A' B o => hq sv ρ2 q v F' H' A' B (o.pre x1))
def wBlE (w : WE) (kf : Bool → Rho → Prop) : Rho → EK → Prop := fun ρ E => w ρ (fun x ρ1 => match x with
  | .d (.bl b) => kf b ρ1
  | _ => False) E
def wAndE (wa wb : WE) : WE := fun ρ Q E => wBlE wa (fun b ρ1 => Br b (wb ρ1 Q E) (Q (.d (.bl false)) ρ1)) ρ E
theorem se_one {op} (h : SE Γ X a wa) : SE Γ X (.BoolOp op [a] pos) wa := .mk fun σ F H A ρ Q E QV W hh tk el hw hq pins s I => (pe_one pe_x).run pins s σ H QV I (h.use hh tk el hw hq)
theorem blE_use {F H : Hp} {σ : Sg} {A : List Addr} {ρ : Rho} {E : EK} {QV : VK} {W : WX} {kf : Bool → Rho → Prop} (h : SE Γ X a wa) (hh : hold Γ σ F H ρ A) (tk : Takes X W) (el : EL Γ σ F H A E W) (hw : wBlE wa kf ρ E)
    (hq : ∀ b ρ1, kf b ρ1 → ∀ F1 H1 A1, Ext F H A F1 H1 A1 → hold Γ σ F1 H1 ρ1 A1 → QV (.bl b) H1) : wpX X a σ H QV :=
  h.use hh tk el hw fun sx ρ1 hw1 v F1 H1 A1 B1 o1 => by
    cases sx with
    | d x =>
      cases x with
      | bl b =>
        have r3 := o1.ors
        unfold rs RS R at r3
        rw [r3.1]
        exact hq b ρ1 hw1 F1 H1 A1 o1.ext1 o1.oh
      | _ => exact hw1.elim
    | _ => exact hw1.elim
theorem se_and (h : SE Γ X a wa) (h2 : SE Γ X (.BoolOp .And (b :: es) pos) wb) : SE Γ X (.BoolOp .And (a :: b :: es) pos) (wAndE wa wb) := .mk fun σ F H A ρ Q E QV W hh tk el hw hq pins s I =>
  (pe_and pe_x pe_x).run pins s σ H QV I (blE_use h hh tk el hw fun k ρ1 hk F1 H1 A1 x1 h1 => ⟨k, rfl, by
    cases k with
    | true => rw [if_pos rfl]; exact h2.use h1 tk (el.ext x1) (hk.t rfl) fun sv ρ2 q v F' H' A' B o => hq sv ρ2 q v F' H' A' B (o.pre x1)
    | false => rw [if_neg Bool.false_ne_true]; exact hq _ ρ1 (hk.f rfl) _ _ _ _ _ ((out_sc h1 (.bl false)).pre x1)⟩)
/-! ### -a -/
def wNeg (wa : WE) : WE := fun ρ Q E => wa ρ (fun x ρ1 => match x with
  | .d (.int i) => Q (.d (.int (-i))) ρ1
  | _ => False) E
theorem se_neg (h : SE Γ X a wa) : SE Γ X (.UnaryOp .USub a pos) (wNeg wa) := .mk fun σ F H A ρ Q E QV W hh tk el hw hq pins s I =>
  (pe_un un_neg pe_x).run pins s σ H QV I (h.use hh tk el hw fun sx ρ1 hw1 v F1 H1 A1 B1 o1 => by
    cases sx with
    | d x =>
      cases x with
      | int b =>
        have r3 := o1.ors
        unfold rs RS R at r3
        exact ⟨b, r3.1, hq _ ρ1 hw1 _ _ _ _ _ ((out_sc o1.oh (.int _)).pre o1.ext1)⟩
      | _ => exact hw1.elim
    | _ => exact hw1.elim)
/-! ### a op b op c, ints -/
def wChain (g g' : Int → Int → Bool) (wa wb wc : WE) : WE := fun ρ Q E => wa ρ (fun x ρ1 => wb ρ1 (fun y ρ2 => match x, y with
  | .d (.int i), .d (.int j) => Br (g i j) (wc ρ2 (fun z ρ3 => match z with
    | .d (.int n) => Q (.d (.bl (g' j n))) ρ3
    | _ => False) E) (Q (.d (.bl false)) ρ2)
  | _, _ => False) E) E
theorem int_of {σ : Sg} {F H F' H' : Hp} {A A' B : List Addr} {ρ' : Rho} {v : V} {i : Int} (o : Out Γ σ F H A ρ' (.d (.int i)) v F' H' A' B) : v = .int i := by
  have r3 := o.ors
  unfold rs RS R at r3
  exact r3.1
theorem chain_ok {op op' : CmpOp} {g g' : Int → Int → Bool} (ha : SE Γ X a wa) (hb : SE Γ X b wb) (hc : SE Γ X c wc) {σ : Sg} {F H : Hp} {A : List Addr} {ρ : Rho} {Q : WK} {E : EK} {QV : VK} {W : WX} (hh : hold Γ σ F H ρ A) (tk : Takes X W) (el : EL Γ σ F H A E W) (hw : wChain g g' wa wb wc ρ Q E)
    (hq : ∀ sv ρ', Q sv ρ' → ∀ v F' H' A' B, Out Γ σ F H A ρ' sv v F' H' A' B → QV v H') : tChain (rI0 fun i j => .bl (g i j)) (rI0 fun i j => .bl (g' i j)) (wpX X a) (wpX X b) (wpX X c) σ H QV := by
  refine ha.use hh tk el hw fun sx ρ1 hw1 v1 F1 H1 A1 B1 o1 => ?_
  refine hb.use o1.oh tk (el.ext o1.ext1) hw1 fun sy ρ2 hw2 v2 F2 H2 A2 B2 o2 => ?_
  split at hw2
  · refine ⟨_, _, int_of o1, int_of o2, _, rfl, ?_⟩
    have x2 := o1.ext1.trans o2.ext1
    rename_i i j
    cases e : g i j with
    | true =>
      rw [if_pos rfl]
      refine hc.use o2.oh tk (el.ext x2) (hw2.t e) fun sz ρ3 hw3 v3 F3 H3 A3 B3 o3 => ?_
      split at hw3
      · exact ⟨_, _, int_of o2, int_of o3, hq _ ρ3 hw3 _ _ _ _ _ ((out_sc o3.oh (.bl _)).pre (x2.trans o3.ext1))⟩
      · exact hw3.elim
    | false =>
      rw [if_neg Bool.false_ne_true]
      exact hq _ ρ2 (hw2.f e) _ _ _ _ _ ((out_sc o2.oh (.bl _)).pre x2)
  · exact hw2.elim
theorem st_chain {op op' : CmpOp} {g g' : Int → Int → Bool} (ho : OpR X (compareOp op) (rI0 fun i j => .bl (g i j))) (ho' : OpR X (compareOp op') (rI0 fun i j => .bl (g' i j))) (ha : SE Γ X a wa) (hb : SE Γ X b wb) (hc : SE Γ X c wc)
    (hm : lastMarks [op, op'] [b, c] = false := by with_unfolding_all rfl) : ST Γ X (.Compare a [op, op'] [b, c] pos) (wTst (wChain g g' wa wb wc)) := .mk fun σ F H A ρ Q E QV W hh tk el hw hq pins s I =>
  (pt_chain ho ho' pe_x pe_x pe_x hm).run pins s σ H QV I (chain_ok (op := op) (op' := op') (QV := fun z H3 => ∃ k, z = .bl k ∧ QV k H3) ha hb hc hh tk el hw fun sv ρ' q v F' H' A' B o => by
    cases sv with
    | d x =>
      cases x with
      | bl b =>
        have r3 := o.ors
        unfold rs RS R at r3
        exact ⟨b, r3.1, hq b ρ' q F' H' A' o.ext1 o.oh⟩
      | _ => exact q.elim
    | _ => exact q.elim)
end
def gLe (i j : Int) : Bool := decide (i ≤ j)
theorem op_leB : OpR X (compareOp .LtE) (rI0 fun i j => .bl (gLe i j)) := op_le
/-! ### slices -/
def cutL {α : Type} (xs : List α) (lo hi : Option Int) : List α := (xs.drop (HT.sIx xs.length 0 lo)).take (HT.sIx xs.length xs.length hi - HT.sIx xs.length 0 lo)
abbrev WO := Rho → (Option Int → Rho → Prop) → EK → Prop
def wpXO (X : Cx) (e : Option Expr) : TO := fun σ H Q => ∀ pins s, Inv X pins σ H s → wpAny (model X.prog X.w) X.A (evalPart e X.env) (fun u s' => ∃ o H', Inv X pins σ H' s' ∧ IsPart u o ∧ Q o H') X.xe s
theorem po_x {e : Option Expr} : PO X e (wpXO X e) := ⟨fun pins s _ _ _ I h => h pins s I⟩
structure SO (Γ : Wd) (X : Cx) (e : Option Expr) (w : WO) : Prop where
  run : ∀ (σ : Sg) (F H : Hp) (A : List Addr) (ρ : Rho) (Q : Option Int → Rho → Prop) (E : EK) (QV : Option Int → Hp → Prop) (W : WX), hold Γ σ F H ρ A → Takes X W → EL Γ σ F H A E W → w ρ Q E →
    (∀ o ρ', Q o ρ' → ∀ F' H' A', Ext F H A F' H' A' → hold Γ σ F' H' ρ' A' → QV o H') → wpXO X e σ H QV
def wNoP : WO := fun ρ Q _ => Q none ρ
def wP (w : WE) : WO := fun ρ Q E => w ρ (fun x ρ1 => match x with
  | .d (.int i) => Q (some i) ρ1
  | _ => False) E
theorem so_none : SO Γ X none wNoP := .mk fun σ F H A ρ Q E QV W hh tk el hw hq pins s I => po_none.run pins s σ H QV I (hq none ρ hw F H A Ext.refl hh)
theorem so_some {e : Expr} {w : WE} (h : SE Γ X e w) : SO Γ X (some e) (wP w) := .mk fun σ F H A ρ Q E QV W hh tk el hw hq pins s I =>
  (po_some pe_x).run pins s σ H QV I (h.use hh tk el hw fun sx ρ1 hw1 v F1 H1 A1 B1 o1 => by
    cases sx with
    | d x =>
      cases x with
      | int b => exact ⟨b, int_of o1, hq _ ρ1 hw1 F1 H1 A1 o1.ext1 o1.oh⟩
      | _ => exact hw1.elim
    | _ => exact hw1.elim)
def wSl (w : WE) (wl wh : WO) : WE := fun ρ Q E => w ρ (fun x ρ1 => wl ρ1 (fun lo ρ2 => wh ρ2 (fun hi ρ3 => match rd x ρ3 with
  | some (.lst ds) => Q (.lst (cutL ds lo hi)) ρ3
  | some (.tup ds) => Q (.d (.tup (cutL ds lo hi))) ρ3
  | some (.str z) => z.length ≤ 16777216 ∧ Q (.d (.str (cutS z lo hi))) ρ3
  | _ => False) E) E) E
theorem cut_rel {F : Hp} {vs : List V} {ds : List D} (r : repL Γ F vs ds) (lo hi : Option Int) : repL Γ F (cutV vs lo hi) (cutL ds lo hi) := by
  unfold cutV cutL
  rw [RL.length r]
  exact (r.drop _).take _
theorem se_slice {e : Expr} {lo hi : Option Expr} {w : WE} {wl wh : WO} {p2 pos : Pos} (C : Ctx Γ X N sc fp k) (h : SE Γ X e w) (hl : SO Γ X lo wl) (hu : SO Γ X hi wh) : SE Γ X (.Subscript e (.Slice lo hi none p2) pos) (wSl w wl wh) := .mk fun σ F H A ρ Q E QV W hh tk el hw hq pins s I => by
  refine (pe_slice (SlR.or sl_list (SlR.or sl_tupA sl_str)) pe_x po_x po_x).run pins s σ H QV I ?_
  refine h.use hh tk el hw fun sx ρ1 hw1 v F1 H1 A1 B1 o1 => ?_
  refine hl.run σ F1 H1 A1 ρ1 _ E _ W o1.oh tk (el.ext o1.ext1) hw1 fun l ρ2 hw2 F2 H2 A2 x2 h2 => ?_
  have x12 := o1.ext1.trans x2
  refine hu.run σ F2 H2 A2 ρ2 _ E _ W h2 tk (el.ext x12) hw2 fun u ρ3 hw3 F3 H3 A3 x3 h3 => ?_
  have x13 := x12.trans x3
  obtain ⟨r1, n1, f1, _⟩ := o1.stay (x2.trans x3)
  cases e1 : rd sx ρ3 with
  | none => simp only [e1] at hw3
  | some d =>
    have rv := rd_ok h3 r1 e1
    cases d with
    | lst ds =>
      simp only [e1] at hw3
      obtain ⟨a, vs, rfl, ha, ra⟩ := rv_lst rv
      exact .inl ⟨a, vs, rfl, .of ha, fun p hp => hq _ ρ3 hw3 _ _ _ _ _ ((Out.newL h3 hp (cut_rel ra l u)).pre x13)⟩
    | tup ds =>
      simp only [e1] at hw3
      obtain ⟨a, vs, rfl, ha, ra, fa⟩ := rv_tup h3.sub rv
      refine .inr (.inl ⟨a, vs, rfl, .of ha, fun z => ?_, fun _ p hp => hq _ ρ3 hw3 _ _ _ _ _ ((Out.newT h3 hp (cut_rel ra l u)).pre x13)⟩)
      have e2 : cutL ds l u = ds := by
        unfold cutL
        rw [RL.length ra] at z
        rw [z.1, z.2]
        simp
      rw [e2] at hw3
      exact hq _ ρ3 hw3 _ _ _ _ _ ((Out.now h3 (rs_d (by unfold rep R; exact ⟨a, vs, rfl, fa, ra⟩))).pre x13)
    | str z =>
      simp only [e1] at hw3
      exact .inr (.inr ⟨z, rv_str rv, by rw [line_eq]; exact hw3.1, hq _ ρ3 hw3.2 _ _ _ _ _ ((out_sc h3 (.str _)).pre x13)⟩)
    | _ => simp only [e1] at hw3
/-! ### attributes -/
structure ClOk (Γ : Wd) (n : Nat) : Prop where
  cl : Cls Γ.K (Γ.cl n).adr
  nd : (Γ.cl n).fld.Nodup
  no : ∀ f ∈ (Γ.cl n).fld, NoAttr Γ.K (Γ.cl n).adr f
  few : (Γ.cl n).fld.length ≤ 100
theorem zip_get {α : Type} : ∀ {ks : List Str} {vs : List α} {j : Nat} {f : Str} {v : α}, ks.Nodup → ks[j]? = some f → vs[j]? = some v → (ks.zip vs).lookup f = some v
  | [], _, _, _, _, _, h, _ => by simp at h
  | _ :: _, [], _, _, _, _, _, h => by simp at h
  | k :: ks, w :: vs, 0, f, v, nd, h1, h2 => by
    simp at h1 h2
    subst h1 h2
    simp [List.lookup]
  | k :: ks, w :: vs, j + 1, f, v, nd, h1, h2 => by
    have h1' : ks[j]? = some f := by simpa using h1
    have ne : (f == k) = false := by
      rw [beq_eq_false_iff_ne]
      intro e
      subst e
      exact (List.nodup_cons.mp nd).1 (List.mem_of_getElem? h1')
    rw [List.zip_cons_cons, List.lookup_cons, ne]
    exact zip_get (List.nodup_cons.mp nd).2 h1' (by simpa using h2)
/-- the field j of an object of class n -/
def wFld (n j : Nat) (w : WE) : WE := fun ρ Q E => w ρ (fun x ρ1 => match x with
  | .d (.obj n' ds) => n' = n ∧ match ds[j]? with
    | some d => Q (.d d) ρ1
    | none => False
  | .sl i => match ρ1[i]? with
    | some (some (.ins n' fs)) => n' = n ∧ match fs[j]? with
      | some (.d d) => Q (.d d) ρ1
      | _ => False
    | _ => False
  | _ => False) E
theorem RSL.get {F H : Hp} : ∀ {vs : List V} {fs : List SV} {B : List Addr} {j : Nat} {x : SV}, RSL Γ.K Γ.cl F H vs fs B → fs[j]? = some x → ∃ v B', vs[j]? = some v ∧ RS Γ.K Γ.cl F H v x B'
  | _, [], _, _, _, _, e => by simp at e
  | vs, y :: ys, B, 0, x, r, e => by
    unfold RSL at r
    obtain ⟨v, r', B1, B2, rfl, h2, h3, _⟩ := r
    simp at e; subst e
    exact ⟨v, B1, rfl, h2⟩
  | vs, y :: ys, B, j + 1, x, r, e => by
    unfold RSL at r
    obtain ⟨v, r', B1, B2, rfl, h2, h3, _⟩ := r
    obtain ⟨w, B', h4, h5⟩ := RSL.get (j := j) h3 (by simpa using e)
    exact ⟨w, B', by simpa using h4, h5⟩
theorem se_fld (C : Ctx Γ X N sc fp k) {n j : Nat} {f : Str} {e : Expr} {w : WE} {pos : Pos} (K : ClOk Γ n) (hf : (Γ.cl n).fld[j]? = some f) (h : SE Γ X e w) (hb : attributeBase e f X.env (eval e X.env) = eval e X.env := by rfl) : SE Γ X (.Attribute e f pos) (wFld n j w) := .mk fun σ F H A ρ Q E QV W hh tk el hw hq pins s I => by
  refine (pe_fld pe_x hb).run pins s σ H QV I ?_
  refine h.use hh tk el hw fun sx ρ1 hw1 v F1 H1 A1 B1 o1 => ?_
  have na : NoAttr X.K (Γ.cl n).adr f := by rw [C.K]; exact K.no f (List.mem_of_getElem? hf)
  have cc : Cls X.K (Γ.cl n).adr := by rw [C.K]; exact K.cl
  split at hw1
  · rename_i n' ds
    obtain ⟨rfl, hw1⟩ := hw1
    have r3 := o1.ors
    unfold rs RS R at r3
    obtain ⟨⟨a, dx, vs, rfl, fa, hl, ra⟩, _⟩ := r3
    cases e1 : ds[j]? with
    | none => simp only [e1] at hw1
    | some d =>
      simp only [e1] at hw1
      obtain ⟨u, h1, h2⟩ := RL.get ra e1
      exact ⟨a, _, dx, _, u, rfl, o1.oh.sub a _ fa, cc, na, zip_get K.nd hf h1, hq _ ρ1 hw1 _ _ _ _ _ ((Out.now o1.oh (rs_d h2)).pre o1.ext1)⟩
  · rename_i i
    have r3 := o1.ors
    obtain ⟨r3, _⟩ := r3
    obtain ⟨A2, sl, q⟩ := o1.oh.sl
    split at hw1
    · rename_i n' fs e1
      obtain ⟨rfl, hw1⟩ := hw1
      obtain ⟨v', B', A0, h1, h2, _⟩ := sl.at e1
      rw [r3] at h1; cases h1
      unfold RS at h2
      obtain ⟨a, dx, vs, B2, rfl, ha, hl, ra, _⟩ := h2
      split at hw1
      · rename_i d e2
        obtain ⟨u, B3, h4, h5⟩ := RSL.get ra e2
        unfold RS at h5
        have hj : j < fs.length := (List.getElem?_eq_some_iff.mp e2).1
        refine ⟨a, _, dx, _, u, rfl, ha, cc, na, zip_get (K.nd.sublist (List.take_sublist _ _)) ?_ h4, hq _ ρ1 hw1 _ _ _ _ _ ((Out.now o1.oh (rs_d h5.1)).pre o1.ext1)⟩
        rw [List.getElem?_take_of_lt hj]; exact hf
      · exact hw1.elim
    · exact hw1.elim
  · exact hw1.elim
end
end Dv

/-! Dv7: statements, targets, loops, comprehensions. -/
namespace Dv
open PySem PySem.Spec PyProof.Rows L2
section
variable {Γ : Wd} {X : Cx} {N : List Str} {sc : Scope} {fp : Str → Bool} {k : Nat} {lk : List Nat}
def wpXS (X : Cx) (st : Stmt) : TS := fun D σ H => ∀ pins s, Inv X pins σ H s → wpAny (model X.prog X.w) X.A (exec st X.env) (SP X pins D) X.xe s
def wpXSs (X : Cx) (st : List Stmt) : TS := fun D σ H => ∀ pins s, Inv X pins σ H s → wpAny (model X.prog X.w) X.A (execs st X.env) (SP X pins D) X.xe s
theorem ps_x {st : Stmt} : PS X st (wpXS X st) := ⟨fun pins s _ _ _ I h => h pins s I⟩
theorem pss_x {st : List Stmt} : PSs X st (wpXSs X st) := ⟨fun pins s _ _ _ I h => h pins s I⟩
/-- slots that are never stored -/
def Kp (lk : List Nat) (σ σ' : Sg) : Prop := ∀ i ∈ lk, σ'[i]? = σ[i]?
theorem Kp.refl {lk : List Nat} {σ : Sg} : Kp lk σ σ := fun _ _ => rfl
theorem Kp.trans {lk : List Nat} {σ σ1 σ2 : Sg} (a : Kp lk σ σ1) (b : Kp lk σ1 σ2) : Kp lk σ σ2 := fun i m => (b i m).trans (a i m)
theorem Kp.set {lk : List Nat} {σ : Sg} {i : Nat} {x : Option V} (h : lk.contains i = false) : Kp lk σ (σ.set i x) := fun j m => by
  rw [List.getElem?_set_ne]
  intro e
  subst e
  rw [List.contains_iff_mem.mpr m] at h
  cases h
structure EndsOk (Γ : Wd) (lk : List Nat) (σ : Sg) (F H : Hp) (A : List Addr) (D : Nd) (DV : Ends) : Prop where
  nx : ∀ ρ', D.nx ρ' → ∀ σ' F' H' A', Kp lk σ σ' → Ext F H A F' H' A' → hold Γ σ' F' H' ρ' A' → DV.nx σ' H'
  bk : ∀ ρ', D.bk ρ' → ∀ σ' F' H' A', Kp lk σ σ' → Ext F H A F' H' A' → hold Γ σ' F' H' ρ' A' → DV.bk σ' H'
  ct : ∀ ρ', D.ct ρ' → ∀ σ' F' H' A', Kp lk σ σ' → Ext F H A F' H' A' → hold Γ σ' F' H' ρ' A' → DV.ct σ' H'
  rt : ∀ sv ρ', D.rt sv ρ' → ∀ σ' v F' H' A' B, Kp lk σ σ' → Out Γ σ' F H A ρ' sv v F' H' A' B → DV.rt v H'
theorem EndsOk.ext {lk : List Nat} {σ σ1 : Sg} {F H F' H' : Hp} {A A' : List Addr} {D : Nd} {DV : Ends} (h : EndsOk Γ lk σ F H A D DV) (x : Ext F H A F' H' A') (q : Kp lk σ σ1) : EndsOk Γ lk σ1 F' H' A' D DV :=
  ⟨fun ρ d σ F2 H2 A2 r y z => h.nx ρ d σ F2 H2 A2 (q.trans r) (x.trans y) z, fun ρ d σ F2 H2 A2 r y z => h.bk ρ d σ F2 H2 A2 (q.trans r) (x.trans y) z, fun ρ d σ F2 H2 A2 r y z => h.ct ρ d σ F2 H2 A2 (q.trans r) (x.trans y) z, fun sv ρ d σ v F2 H2 A2 B r o => h.rt sv ρ d σ v F2 H2 A2 B (q.trans r) (o.pre x)⟩
/-- .. wherever the slots stand that are never stored -/
def ELs (Γ : Wd) (lk : List Nat) (σ : Sg) (F H : Hp) (A : List Addr) (E : EK) (W : WX) : Prop := ∀ σ', Kp lk σ σ' → EL Γ σ' F H A E W
theorem ELs.ext {lk : List Nat} {σ σ1 : Sg} {F H F' H' : Hp} {A A' : List Addr} {E : EK} {W : WX} (h : ELs Γ lk σ F H A E W) (x : Ext F H A F' H' A') (q : Kp lk σ σ1) : ELs Γ lk σ1 F' H' A' E W := fun σ' r => (h σ' (q.trans r)).ext x
theorem ELs.now {lk : List Nat} {σ : Sg} {F H : Hp} {A : List Addr} {E : EK} {W : WX} (h : ELs Γ lk σ F H A E W) : EL Γ σ F H A E W := h σ .refl
structure SS (Γ : Wd) (lk : List Nat) (X : Cx) (st : Stmt) (w : WS) : Prop where
  run : ∀ (σ : Sg) (F H : Hp) (A : List Addr) (ρ : Rho) (D : Nd) (E : EK) (DV : Ends) (W : WX), hold Γ σ F H ρ A → Takes X W → ELs Γ lk σ F H A E W → EndsOk Γ lk σ F H A D DV → w ρ D E → wpXS X st DV σ H
structure SSs (Γ : Wd) (lk : List Nat) (X : Cx) (st : List Stmt) (w : WS) : Prop where
  run : ∀ (σ : Sg) (F H : Hp) (A : List Addr) (ρ : Rho) (D : Nd) (E : EK) (DV : Ends) (W : WX), hold Γ σ F H ρ A → Takes X W → ELs Γ lk σ F H A E W → EndsOk Γ lk σ F H A D DV → w ρ D E → wpXSs X st DV σ H
def wNext : WS := fun ρ D _ => D.nx ρ
def wSeq (w u : WS) : WS := fun ρ D E => w ρ { D with nx := fun ρ1 => u ρ1 D E } E
theorem sss_nil : SSs Γ lk X [] wNext := .mk fun σ F H A ρ D E DV W hh tk el eo hw pins s I => pss_nil.run pins s σ H DV I (eo.nx ρ hw σ F H A .refl Ext.refl hh)
theorem sss_one {st : Stmt} {w : WS} (h : SS Γ lk X st w) : SSs Γ lk X [st] w := .mk fun σ F H A ρ D E DV W hh tk el eo hw pins s I => (pss_one ps_x).run pins s σ H DV I (h.run σ F H A ρ D E DV W hh tk el eo hw)
theorem sss_cons {st : Stmt} {r : List Stmt} {w u : WS} (h : SS Γ lk X st w) (h2 : SSs Γ lk X r u) : SSs Γ lk X (st :: r) (wSeq w u) := .mk fun σ F H A ρ D E DV W hh tk el eo hw pins s I =>
  (pss_cons ps_x pss_x).run pins s σ H DV I (h.run σ F H A ρ { D with nx := fun ρ1 => u ρ1 D E } E _ W hh tk el ⟨fun ρ1 q σ1 F1 H1 A1 k1 x1 h1 => h2.run σ1 F1 H1 A1 ρ1 D E DV W h1 tk (el.ext x1 k1) (eo.ext x1 k1) q, eo.bk, eo.ct, eo.rt⟩ hw)
section
variable {e c : Expr} {w : WE} {t : WT} {ws wu : WS} {a b : List Stmt} {pos : Pos}
def wExp (w : WE) : WS := fun ρ D E => w ρ (fun _ ρ1 => D.nx ρ1) E
theorem ss_exp (h : SE Γ X e w) (hs : swapsWith e none pos.line X.env = pure false := by rfl) : SS Γ lk X (.Expr e pos) (wExp w) := .mk fun σ F H A ρ D E DV W hh tk el eo hw pins s I =>
  (ps_expr pe_x hs).run pins s σ H DV I (h.use hh tk el.now hw fun sv ρ1 q v F1 H1 A1 B1 o => eo.nx ρ1 q σ F1 H1 A1 .refl o.ext1 o.oh)
/-- return e: a list that the name owns goes out as it is, with what it owns -/
def retK (sv : SV) (ρ : Rho) (K : SV → Rho → Prop) : Prop := match sv with
  | .sl i => match ρ[i]? with
    | some (some (.d x)) => K (.d x) ρ
    | some (some sv) => K sv (ρ.set i none)
    | _ => False
  | sv => K sv ρ
def wRet (w : WE) : WS := fun ρ D E => w ρ (fun sv ρ1 => retK sv ρ1 D.rt) E
/-- .. data: it stands from then on -/
def wRetF (w : WE) : WS := fun ρ D E => w ρ (fun sv ρ1 => keep sv ρ1 fun x ρ2 => D.rt (.d x) ρ2) E
theorem ss_retF (h : SE Γ X e w) : SS Γ lk X (.Return (some e) pos) (wRetF w) := .mk fun σ F H A ρ D E DV W hh tk el eo hw pins s I =>
  (ps_ret pe_x).run pins s σ H DV I (h.use hh tk el.now hw fun sv ρ1 q v F1 H1 A1 B1 o => by
    obtain ⟨d, ρ2, F2, A2, hk, x2, h2, r2, _⟩ := keep_ok o.oh o.ors o.ond o.ofb q
    exact eo.rt _ ρ2 hk σ v F2 H1 A2 [] .refl ⟨o.oe.trans x2, h2, rs_d r2, h2.nd, fun _ m => nomatch m⟩)
theorem Sl.del {F H : Hp} {σ : Sg} {ρ : Rho} {A : List Addr} (h : Sl Γ.K Γ.cl F H σ ρ A) {i : Nat} {sv : SV} (e : ρ[i]? = some (some sv)) :
    ∃ v B A0, σ[i]? = some (some v) ∧ RS Γ.K Γ.cl F H v sv B ∧ A.Perm (B ++ A0) ∧ Sl Γ.K Γ.cl F H σ (ρ.set i none) A0 := by
  induction h generalizing i with
  | nil => simp at e
  | @skip x σ ρ A h ih =>
    cases i with
    | zero => simp at e
    | succ i =>
      obtain ⟨v, B, A0, h1, h2, h3, h4⟩ := ih (i := i) (by simpa using e)
      exact ⟨v, B, A0, by simpa using h1, h2, h3, .skip h4⟩
  | @one v0 sv0 B0 σ ρ A r h ih =>
    cases i with
    | zero =>
      simp at e; subst e
      exact ⟨v0, B0, A, rfl, r, .refl _, .skip h⟩
    | succ i =>
      obtain ⟨v, B, A0, h1, h2, h3, h4⟩ := ih (i := i) (by simpa using e)
      refine ⟨v, B, B0 ++ A0, by simpa using h1, h2, ?_, .one r h4⟩
      refine (List.Perm.append_left B0 h3).trans ?_
      rw [← List.append_assoc, ← List.append_assoc]
      exact List.Perm.append_right _ List.perm_append_comm
theorem ss_ret (h : SE Γ X e w) : SS Γ lk X (.Return (some e) pos) (wRet w) := .mk fun σ F H A ρ D E DV W hh tk el eo hw pins s I =>
  (ps_ret pe_x).run pins s σ H DV I (h.use hh tk el.now hw fun sv ρ1 q v F1 H1 A1 B1 o => by
    cases sv with
    | sl i =>
      obtain ⟨r, rfl⟩ := o.ors
      obtain ⟨A2, sl, p⟩ := o.oh.sl
      unfold retK at q
      cases e1 : ρ1[i]? with
      | none => simp [e1] at q
      | some z =>
        cases z with
        | none => simp [e1] at q
        | some sv =>
          obtain ⟨v', B', A0, h1, h2, h3, h4⟩ := Sl.del sl e1
          rw [r] at h1; cases h1
          have pA : A1.Perm (B' ++ A0) := p.symm.trans h3
          have ndA : (B' ++ A0).Nodup := pA.nodup_iff.mp o.oh.nd
          have own : ∀ sv', sv' = sv → D.rt sv (ρ1.set i none) → DV.rt v H1 := fun _ _ q => eo.rt _ _ q σ v F1 H1 A0 B' .refl ⟨o.oe.sub fun a m => by
              rw [List.nil_append]; exact pA.mem_iff.mpr m, ⟨⟨A0, h4, .refl _⟩, o.oh.sub, (List.nodup_append.mp ndA).2.1, fun a m => o.oh.av a (pA.mem_iff.mpr (List.mem_append_right _ m)), o.oh.tb⟩, rs_of h2, ndA, fun b m => o.oh.av b (pA.mem_iff.mpr (List.mem_append_left _ m))⟩
          cases sv with
          | d x =>
            simp only [e1] at q
            unfold RS at h2
            exact eo.rt _ _ q σ v F1 H1 A1 [] .refl ⟨o.oe, o.oh, rs_d h2.1, o.oh.nd, fun _ m => nomatch m⟩
          | _ => simp only [e1] at q; exact own _ rfl q
    | _ => exact eo.rt _ _ q σ v F1 H1 A1 B1 .refl o)
def wIf (t : WT) (ws wu : WS) : WS := fun ρ D E => t ρ (fun b ρ1 => Br b (ws ρ1 D E) (wu ρ1 D E)) E
theorem ss_if (ht : ST Γ X c t) (ha : SSs Γ lk X a ws) (hb : SSs Γ lk X b wu) : SS Γ lk X (.If c a b pos) (wIf t ws wu) := .mk fun σ F H A ρ D E DV W hh tk el eo hw pins s I =>
  (ps_if pt_x pss_x pss_x).run pins s σ H DV I (ht.use hh tk el.now hw fun k ρ1 hk F1 H1 A1 x1 h1 => by
    cases k with
    | true => rw [if_pos rfl]; exact ha.run σ F1 H1 A1 ρ1 D E DV W h1 tk (el.ext x1 .refl) (eo.ext x1 .refl) (hk.t rfl)
    | false => rw [if_neg Bool.false_ne_true]; exact hb.run σ F1 H1 A1 ρ1 D E DV W h1 tk (el.ext x1 .refl) (eo.ext x1 .refl) (hk.f rfl))
end

/-! ### a value comes into a slot -/
theorem hold_put {σ : Sg} {F H : Hp} {A B : List Addr} {ρ : Rho} {v : V} {sv : SV} {i : Nat} (hh : hold Γ σ F H ρ A) (r : RS Γ.K Γ.cl F H v sv B) (nd : (B ++ A).Nodup) (fb : ∀ b ∈ B, F b = none) (hi : i < σ.length) :
    ∃ A', hold Γ (σ.set i (some v)) F H (ρ.set i (some sv)) A' ∧ ∀ a ∈ A', a ∈ B ++ A := by
  obtain ⟨A1, s, p⟩ := hh.sl
  obtain ⟨A2, A0, h1, h2, h3⟩ := s.put hi r
  have sub : ∀ a ∈ B ++ A0, a ∈ B ++ A := fun a m => (List.mem_append.mp m).elim (fun q => List.mem_append_left _ q) fun q => List.mem_append_right _ (p.mem_iff.mp (h3.subset q))
  have nd0 : (B ++ A0).Nodup := by
    rw [List.nodup_append] at nd ⊢
    refine ⟨nd.1, (p.nodup_iff.mpr hh.nd).sublist h3, fun a m b n => nd.2.2 a m b (p.mem_iff.mp (h3.subset n))⟩
  exact ⟨B ++ A0, ⟨⟨A2, h1, h2⟩, hh.sub, nd0, fun a m => (List.mem_append.mp (sub a m)).elim (fb a) (hh.av a), hh.tb⟩, sub⟩
def put (i : Nat) (sv : SV) (ρ : Rho) (K : Rho → Prop) : Prop := match sv with
  | .lst ds => K (ρ.set i (some (.lst ds)))
  | .ins n fs => K (ρ.set i (some (.ins n fs)))
  | .dct kvs => K (ρ.set i (some (.dct kvs)))
  | sv => keep sv ρ fun x ρ1 => K (ρ1.set i (some (.d x)))
theorem put_ok {σ : Sg} {F H F1 H1 : Hp} {A A1 B1 : List Addr} {ρ1 : Rho} {v : V} {sv : SV} {i : Nat} {Kp : Rho → Prop} (o : Out Γ σ F H A ρ1 sv v F1 H1 A1 B1) (hi : i < σ.length) (hk : put i sv ρ1 Kp) :
    ∃ ρ2 F2 A2, Kp ρ2 ∧ Ext F H A F2 H1 A2 ∧ hold Γ (σ.set i (some v)) F2 H1 ρ2 A2 := by
  have viaD : ∀ sv, rs Γ σ F1 H1 v sv B1 → keep sv ρ1 (fun x ρ2 => Kp (ρ2.set i (some (.d x)))) → ∃ ρ2 F2 A2, Kp ρ2 ∧ Ext F H A F2 H1 A2 ∧ hold Γ (σ.set i (some v)) F2 H1 ρ2 A2 := fun sv r hk => by
    obtain ⟨d, ρ2, F2, A2, hk, x2, h2, r2, _⟩ := keep_ok o.oh r o.ond o.ofb hk
    obtain ⟨A3, h3, sub⟩ := hold_put (B := []) h2 (sv := .d d) (by unfold RS; exact ⟨r2, rfl⟩) h2.nd (fun _ m => nomatch m) hi
    exact ⟨_, F2, A3, hk, (o.oe.trans x2).sub sub, h3⟩
  have viaO : ∀ sv, RS Γ.K Γ.cl F1 H1 v sv B1 → Kp (ρ1.set i (some sv)) → ∃ ρ2 F2 A2, Kp ρ2 ∧ Ext F H A F2 H1 A2 ∧ hold Γ (σ.set i (some v)) F2 H1 ρ2 A2 := fun sv r hk => by
    obtain ⟨A3, h3, sub⟩ := hold_put o.oh r o.ond o.ofb hi
    exact ⟨_, F1, A3, hk, o.oe.sub sub, h3⟩
  cases sv with
  | lst ds => exact viaO _ o.ors hk
  | ins n fs => exact viaO _ o.ors hk
  | d x => exact viaD _ o.ors hk
  | dct _ => exact viaO _ o.ors hk
  | sl _ => exact viaD _ o.ors hk
  | fl _ _ => exact viaD _ o.ors hk
/-- a name that may be stored -/
def StN (N : List Str) (sc : Scope) (fp : Str → Bool) (lk : List Nat) (i : Nat) (x : Str) : Prop := (N[i]? = some x ∧ lk.contains i = false) ∧ (sc.names.lookup x = some .local ∨ (sc.names.lookup x = some .cell ∧ fp x = true))
theorem StN.loc (C : Ctx Γ X N sc fp k) {i : Nat} {x : Str} (h : StN N sc fp lk i x) : X.N[i]? = some x ∧ Loc X.env.scope x ∧ (X.fn x = true ∨ X.env.scope.names.lookup x = some .local) := by
  rw [C.hN, C.hs, C.fn]
  rcases h.2 with q | ⟨q, r⟩
  · exact ⟨h.1.1, .inl q, .inr q⟩
  · exact ⟨h.1.1, .inr q, .inl r⟩
def wAsg (i : Nat) (w : WE) : WS := fun ρ D E => w ρ (fun sv ρ1 => put i sv ρ1 D.nx) E
theorem len_of (C : Ctx Γ X N sc fp k) {pins : List (Addr × Obj)} {σ : Sg} {H : Hp} {s : Shared} (I : Inv X pins σ H s) {i : Nat} {x : Str} (h : N[i]? = some x) : i < σ.length := by
  rw [I.len, C.hN]
  exact (List.getElem?_eq_some_iff.mp h).1
theorem ss_asg (C : Ctx Γ X N sc fp k) (i : Nat) {x : Str} {e : Expr} {w : WE} {p pos : Pos} (h : SE Γ X e w) (hn : StN N sc fp lk i x := by first | exact ⟨⟨rfl, rfl⟩, Or.inl rfl⟩ | exact ⟨⟨rfl, rfl⟩, Or.inr ⟨rfl, rfl⟩⟩) (hs : swapsWith e (some (.Name x p)) pos.line X.env = pure false := by rfl) : SS Γ lk X (.Assign [.Name x p] e pos) (wAsg i w) :=
  .mk fun σ F H A ρ D E DV W hh tk el eo hw pins s I => by
  obtain ⟨h1, h2, h3⟩ := hn.loc C
  refine (ps_set (i := i) (by rw [C.hN]; exact C.nd) h1 h2 pe_x hs h3).run pins s σ H DV I ?_
  refine h.use hh tk el.now hw fun sv ρ1 q v F1 H1 A1 B1 o => ?_
  obtain ⟨ρ2, F2, A2, hk, x2, h4⟩ := put_ok o (len_of C I hn.1.1) q
  exact eo.nx ρ2 hk _ F2 H1 A2 (.set hn.1.2) x2 h4
end
end Dv

/-! Dv8: targets, stores into lists, loops, comprehensions. -/
namespace Dv
open PySem PySem.Spec PyProof.Rows L2
section
variable {Γ : Wd} {X : Cx} {N : List Str} {sc : Scope} {fp : Str → Bool} {k : Nat} {lk : List Nat}
theorem Sl.wr {F H : Hp} {σ : Sg} {ρ : Rho} {A : List Addr} (h : Sl Γ.K Γ.cl F H σ ρ A) (nd : A.Nodup) {i : Nat} {ds : List D} (e : ρ[i]? = some (some (.lst ds))) :
    ∃ a vs, σ[i]? = some (some (.ref a)) ∧ H a = some (.lst vs) ∧ repL Γ F vs ds ∧ a ∈ A ∧ ∀ vs' ds', repL Γ F vs' ds' → Sl Γ.K Γ.cl F (upd H a (.lst vs')) σ (ρ.set i (some (.lst ds'))) A := by
  induction h generalizing i with
  | nil => simp at e
  | @skip x σ ρ A h ih =>
    cases i with
    | zero => simp at e
    | succ i =>
      obtain ⟨a, vs, h1, h2, h3, h4, h5⟩ := ih nd (i := i) (by simpa using e)
      exact ⟨a, vs, by simpa using h1, h2, h3, h4, fun vs' ds' r => .skip (h5 vs' ds' r)⟩
  | @one v0 sv0 B0 σ ρ A r h ih =>
    have nd2 := List.nodup_append.mp nd
    cases i with
    | zero =>
      simp at e; subst e
      unfold RS at r
      obtain ⟨a, vs, rfl, h2, h3, rfl⟩ := r
      refine ⟨a, vs, rfl, h2, h3, by simp, fun vs' ds' r => .one (B := [a]) (by unfold RS; exact ⟨a, vs', rfl, upd_same, r, rfl⟩) (h.mono (Same.refl F) fun b m o q => .inl ?_)⟩
      rw [upd_ne (fun z => nd2.2.2 a (by simp) b m z.symm)]
      exact q
    | succ i =>
      obtain ⟨a, vs, h1, h2, h3, h4, h5⟩ := ih nd2.2.1 (i := i) (by simpa using e)
      refine ⟨a, vs, by simpa using h1, h2, h3, List.mem_append_right _ h4, fun vs' ds' q => .one (RS.mono (Same.refl F) (fun b m o q => .inl ?_) r) (h5 vs' ds' q)⟩
      rw [upd_ne (fun z => nd2.2.2 b m a h4 z)]
      exact q
theorem hold_wr {σ : Sg} {F H : Hp} {A : List Addr} {ρ : Rho} {i : Nat} {ds : List D} (hh : hold Γ σ F H ρ A) (e : ρ[i]? = some (some (.lst ds))) :
    ∃ a vs, σ[i]? = some (some (.ref a)) ∧ H a = some (.lst vs) ∧ repL Γ F vs ds ∧ ∀ vs' ds', repL Γ F vs' ds' → hold Γ σ F (upd H a (.lst vs')) (ρ.set i (some (.lst ds'))) A ∧ Ext F H A F (upd H a (.lst vs')) A := by
  obtain ⟨A1, s, p⟩ := hh.sl
  obtain ⟨a, vs, h1, h2, h3, h4, h5⟩ := Sl.wr s (p.nodup_iff.mpr hh.nd) e
  have ma : a ∈ A := p.mem_iff.mp h4
  refine ⟨a, vs, h1, h2, h3, fun vs' ds' r => ⟨⟨⟨A1, h5 vs' ds' r, p⟩, fun b o q => ?_, hh.nd, hh.av, hh.tb.upd (.inr ⟨_, h2, fun _ z => nomatch z⟩)⟩, ⟨Same.refl F, fun b o q n => .inl ?_, fun b o q => .inl q, fun b m => .inl m⟩⟩⟩
  · rw [upd_ne (fun z => by subst z; rw [hh.av b ma] at q; cases q)]
    exact hh.sub b o q
  · rw [upd_ne (fun z => n (by rw [z]; exact ma))]
    exact q
/-! ### xs.append(e), xs[i] = e -/
def slotL (i : Nat) (ρ : Rho) (K : List D → Prop) : Prop := match ρ[i]? with
  | some (some (.lst ds)) => K ds
  | _ => False
theorem slotL_ok {i : Nat} {ρ : Rho} {Kp : List D → Prop} (h : slotL i ρ Kp) : ∃ ds, ρ[i]? = some (some (.lst ds)) ∧ Kp ds := by
  unfold slotL at h
  split at h
  · exact ⟨_, by assumption, h⟩
  · exact h.elim
def wApp (i : Nat) (w : WE) : WS := fun ρ D E => slotL i ρ fun _ => w ρ (fun sv ρ1 => keep sv ρ1 fun x ρ2 => slotL i ρ2 fun ds => ds.length < 16777216 ∧ D.nx (ρ2.set i (some (.lst (ds ++ [x]))))) E
theorem ss_app (C : Ctx Γ X N sc fp k) (i : Nat) {x : Str} {e : Expr} {w : WE} {p p2 p3 pos : Pos} (h : SE Γ X e w) (hN : N[i]? = some x := by rfl) (hv : Vis sc x := by first | exact Or.inl rfl | exact Or.inr (Or.inl rfl) | exact Or.inr (Or.inr rfl)) (hd : (x == ("__debug__" : Str)) = false := by decide) (hcd : (x == ("__classdict__" : Str)) = false := by decide)
    (hst : starEach [e] X.env = (false, eval e X.env) :: starEach [] X.env := by exact star_of rfl)
    (hfew : ((backTo p3 (starEach [e] X.env)).all (!·.1) && (backToKw p3 (keywordEach [] X.env)).all (·.1.isSome) && decide ([e].length + ([] : List Keyword).length + (if ([] : List Keyword).isEmpty then 0 else 1) < 30)) = true := by rfl) (hline : (p2.endLine == p3.line) = true := by rfl) :
    SS Γ lk X (.Expr (.Call (.Attribute (.Name x p) "append" p2) [e] [] p3) pos) (wApp i w) := .mk fun σ F H A ρ D E DV W hh tk el eo hw pins s I => by
  have pe : PE X (.Name x p) (tVar i) := pe_var (by rw [C.hN]; exact hN) (by rw [C.hs]; exact hv) hd hcd
  refine (ps_expr (pe_bm PySem.F.plainAttrs_list PySem.F.slot_list_append PySem.F.type_list_append mt_append pe (pa_cons pe_x pa_nil hst) (hfew := hfew) (hline := hline) (hs := hst))).run pins s σ H DV I ?_
  obtain ⟨ds0, e0, hw⟩ := slotL_ok hw
  obtain ⟨a, vs0, s1, s2, _, _⟩ := hold_wr hh e0
  refine ⟨.ref a, s1, Or.inl ⟨rfl, _, Or.inl (Or.inl s2)⟩, ?_⟩
  refine h.use hh tk el.now hw fun sv ρ1 q v F1 H1 A1 B1 o => ?_
  obtain ⟨d, ρ2, F2, A2, hk, x2, h2, r2, _⟩ := keep_ok o.oh o.ors o.ond o.ofb q
  obtain ⟨ds, e1, hl, hk⟩ := slotL_ok hk
  obtain ⟨a', vs, t1, t2, t3, t4⟩ := hold_wr h2 e1
  rw [s1] at t1; cases t1
  obtain ⟨h5, x5⟩ := t4 (vs ++ [v]) (ds ++ [d]) (t3.append (RL.cons r2 RL.nil))
  exact ⟨a, vs, v, rfl, rfl, t2, by rw [t3.length, line_eq]; exact hl, eo.nx _ hk σ F2 _ A2 .refl ((o.oe.trans x2).trans x5) h5⟩
def wSetI (i : Nat) (we wi : WE) : WS := fun ρ D E => we ρ (fun sv ρ1 => slotL i ρ1 fun _ => wi ρ1 (fun j ρ2 => match j with
  | .d (.int j) => keep sv ρ2 fun x ρ3 => slotL i ρ3 fun ds => ∃ m, ixN ds.length j = some m ∧ D.nx (ρ3.set i (some (.lst (ds.set m x))))
  | _ => False) E) E
theorem ss_seti (C : Ctx Γ X N sc fp k) (i : Nat) {x : Str} {e ix : Expr} {we wi : WE} {p p2 pos : Pos} (h : SE Γ X e we) (hi : SE Γ X ix wi) (hN : N[i]? = some x := by rfl) (hv : Vis sc x := by first | exact Or.inl rfl | exact Or.inr (Or.inl rfl) | exact Or.inr (Or.inr rfl)) (hd : (x == ("__debug__" : Str)) = false := by decide) (hcd : (x == ("__classdict__" : Str)) = false := by decide)
    (hassign : ∀ v, assign (.Subscript (.Name x p) ix p2) X.env v = (do
      let ov ← holding [v] (eval (.Name x p) X.env)
      let iv ← holding [v, ov] (eval ix X.env)
      standAt p2
      holding [v, ov, iv] (setItem ov iv v)
      release [v, ov, iv] []) := by intro _; rfl)
    (hs : swapsWithSole [.Subscript (.Name x p) ix p2] e pos.line X.env = pure false := by rfl) (hw : swappedStores [.Subscript (.Name x p) ix p2] e X.env = pure none := by rfl)
    (h1 : (assignEach [.Subscript (.Name x p) ix p2] X.env).map (·.2) = [assign (.Subscript (.Name x p) ix p2) X.env] := by rfl) :
    SS Γ lk X (.Assign [.Subscript (.Name x p) ix p2] e pos) (wSetI i we wi) := .mk fun σ F H A ρ D E DV W hh tk el eo hw' pins s I => by
  have pe : PE X (.Name x p) (tVar i) := pe_var (by rw [C.hN]; exact hN) (by rw [C.hs]; exact hv) hd hcd
  refine (ps_asg pe_x (pg_sub pe pe_x set_list hassign) hs hw h1).run pins s σ H DV I ?_
  refine h.use hh tk el.now hw' fun sv ρ1 q v F1 H1 A1 B1 o => ?_
  obtain ⟨ds0, e0, q⟩ := slotL_ok q
  obtain ⟨a, vs0, ea, s2, _, _⟩ := hold_wr o.oh e0
  refine ⟨.ref a, ea, ?_⟩
  refine hi.use o.oh tk (el.now.ext o.ext1) q fun j ρ2 q2 iv F2 H2 A2 B2 o2 => ?_
  split at q2
  · rename_i j
    obtain ⟨r1, n1, f1, x1⟩ := o.stay o2.ext1
    have ndd : (B1 ++ A2).Nodup := List.nodup_append.mpr ⟨(List.nodup_append.mp o.ond).1, o2.oh.nd, fun a m b n z => n1 a m (by rw [z]; exact n)⟩
    obtain ⟨d, ρ3, F3, A3, hk, x3, h3, r3, _⟩ := keep_ok o2.oh r1 ndd f1 q2
    obtain ⟨ds, e1, m, em, hk⟩ := slotL_ok hk
    obtain ⟨a', vs, t1, t2, t3, t4⟩ := hold_wr h3 e1
    rw [ea] at t1; cases t1
    obtain ⟨h5, x5⟩ := t4 (vs.set m v) (ds.set m d) (RL.set m t3 r3)
    exact ⟨a, vs, j, m, rfl, int_of o2, t2, by rw [t3.length]; exact em, eo.nx _ hk σ F3 _ A3 .refl ((x1.trans x3).trans x5) h5⟩
  · exact q2.elim

/-! ### targets: data come into names -/
abbrev WG := D → Rho → (Rho → Prop) → Prop
def wpXG (X : Cx) (tg : Expr) : TG := fun v σ H Q => ∀ pins s u, Inv X pins σ H s → RelV v u → wpAny (model X.prog X.w) X.A (assign tg X.env u) (fun _ s' => ∃ σ' H', Inv X pins σ' H' s' ∧ Q σ' H') X.xe s
def wpXGs (X : Cx) (ts : List Expr) : TGs := fun vs σ H Q => ∀ pins s us, Inv X pins σ H s → Vals vs us → wpAny (model X.prog X.w) X.A (assignInOrder ((assignEach ts X.env).map (·.2)) us) (fun _ s' => ∃ σ' H', Inv X pins σ' H' s' ∧ Q σ' H') X.xe s
theorem pg_x {tg : Expr} : PG X tg (wpXG X tg) := ⟨fun pins s _ _ _ u _ I r h => h pins s u I r⟩
theorem pgs_x {ts : List Expr} : PGs X ts (wpXGs X ts) := ⟨fun pins s _ _ _ us _ I r h => h pins s us I r⟩
/-- σ' is σ but at the slots is -/
def Wp (is : List Nat) (σ σ' : Sg) : Prop := ∀ js : List Nat, (∀ i ∈ is, i ∈ js) → wipe σ' js = wipe σ js
theorem Wp.refl {is : List Nat} {σ : Sg} : Wp is σ σ := fun _ _ => rfl
theorem wipe_set {σ : Sg} {i : Nat} {x : Option V} : ∀ {js : List Nat}, i ∈ js → wipe (σ.set i x) js = wipe σ js
  | [], h => nomatch h
  | j :: js, h => by
    unfold wipe
    by_cases e : i ∈ js
    · rw [wipe_set e]
    · have e' : i = j := by rcases List.mem_cons.mp h with h | h; exact h; exact absurd h e
      subst e'
      have key : ∀ {ls : List Nat}, i ∉ ls → wipe (σ.set i x) ls = (wipe σ ls).set i x := fun {ls} n => by
        induction ls with
        | nil => rfl
        | cons l ls ih =>
          unfold wipe
          rw [ih (fun m => n (List.mem_cons_of_mem _ m)), List.set_comm _ _ (fun z => n (by rw [z]; exact List.mem_cons_self))]
      rw [key e, List.set_set]
theorem Wp.set {σ : Sg} {i : Nat} {x : Option V} : Wp [i] σ (σ.set i x) := fun js h => wipe_set (h i (by simp))
theorem Wp.trans {is js : List Nat} {σ σ1 σ2 : Sg} (a : Wp is σ σ1) (b : Wp js σ1 σ2) : Wp (is ++ js) σ σ2 := fun ls h => (b ls fun i m => h i (List.mem_append_right _ m)).trans (a ls fun i m => h i (List.mem_append_left _ m))
/-- is: the slots that are stored -/
structure SG (Γ : Wd) (X : Cx) (tg : Expr) (g : WG) (is : List Nat) : Prop where
  run : ∀ (σ : Sg) (F H : Hp) (A : List Addr) (ρ : Rho) (v : V) (d : D) (K : Rho → Prop) (QV : L2.St → Hp → Prop), hold Γ σ F H ρ A → rep Γ F v d → g d ρ K →
    (∀ ρ', K ρ' → ∀ σ' F' H' A', Wp is σ σ' → Ext F H A F' H' A' → hold Γ σ' F' H' ρ' A' → QV σ' H') → wpXG X tg v σ H QV
structure SGs (Γ : Wd) (X : Cx) (ts : List Expr) (g : List D → Rho → (Rho → Prop) → Prop) (is : List Nat) : Prop where
  run : ∀ (σ : Sg) (F H : Hp) (A : List Addr) (ρ : Rho) (vs : List V) (ds : List D) (K : Rho → Prop) (QV : L2.St → Hp → Prop), hold Γ σ F H ρ A → repL Γ F vs ds → g ds ρ K →
    (∀ ρ', K ρ' → ∀ σ' F' H' A', Wp is σ σ' → Ext F H A F' H' A' → hold Γ σ' F' H' ρ' A' → QV σ' H') → wpXGs X ts vs σ H QV
def gNm (i : Nat) : WG := fun d ρ K => K (ρ.set i (some (.d d)))
theorem sg_name (C : Ctx Γ X N sc fp k) (i : Nat) {x : Str} {pos : Pos} (hn : StN N sc fp [] i x := by first | exact ⟨⟨rfl, rfl⟩, Or.inl rfl⟩ | exact ⟨⟨rfl, rfl⟩, Or.inr ⟨rfl, rfl⟩⟩) : SG Γ X (.Name x pos) (gNm i) [i] := .mk fun σ F H A ρ v d K QV hh r hw hq pins s u I ru => by
  obtain ⟨h1, h2, h3⟩ := hn.loc C
  refine (pg_name (i := i) (by rw [C.hN]; exact C.nd) h1 h2 h3).run pins s σ H v u QV I ru ?_
  obtain ⟨A3, h4, sub⟩ := hold_put (B := []) hh (sv := .d d) (by unfold RS; exact ⟨r, rfl⟩) hh.nd (fun _ m => nomatch m) (len_of C I hn.1.1)
  exact hq _ hw _ F H A3 .set (Ext.refl.sub sub) h4
def gsNil : List D → Rho → (Rho → Prop) → Prop := fun ds ρ K => match ds with
  | [] => K ρ
  | _ => False
def gsCons (g : WG) (gs : List D → Rho → (Rho → Prop) → Prop) : List D → Rho → (Rho → Prop) → Prop := fun ds ρ K => match ds with
  | d :: ds => g d ρ fun ρ1 => gs ds ρ1 K
  | [] => False
theorem sgs_nil : SGs Γ X [] gsNil [] := .mk fun σ F H A ρ vs ds K QV hh r hw hq pins s us I ru => by
  refine pgs_nil.run pins s σ H vs us QV I ru ?_
  unfold gsNil at hw
  split at hw
  · unfold repL RL at r
    exact ⟨r, hq _ hw _ F H A .refl Ext.refl hh⟩
  · exact hw.elim
theorem sgs_cons {e : Expr} {es : List Expr} {g : WG} {gs : List D → Rho → (Rho → Prop) → Prop} {is js : List Nat} (h : SG Γ X e g is) (h2 : SGs Γ X es gs js) (hs : (assignEach (e :: es) X.env).map (·.2) = assign e X.env :: (assignEach es X.env).map (·.2) := by rfl) : SGs Γ X (e :: es) (gsCons g gs) (is ++ js) :=
  .mk fun σ F H A ρ vs ds K QV hh r hw hq pins s us I ru => by
  refine (pgs_cons pg_x pgs_x hs).run pins s σ H vs us QV I ru ?_
  unfold gsCons at hw
  split at hw
  · rename_i d ds
    unfold repL RL at r
    obtain ⟨v, r', rfl, r1, r2⟩ := r
    refine ⟨v, r', rfl, h.run σ F H A ρ v d _ _ hh r1 hw fun ρ1 hk σ1 F1 H1 A1 w1 x1 h1 => ?_⟩
    exact h2.run σ1 F1 H1 A1 ρ1 r' ds K QV h1 (RL.mono x1.sf r2) hk fun ρ2 hk2 σ2 F2 H2 A2 w2 x2 hh2 => hq ρ2 hk2 σ2 F2 H2 A2 (w1.trans w2) (x1.trans x2) hh2
  · exact hw.elim
def gTp (n : Nat) (gs : List D → Rho → (Rho → Prop) → Prop) : WG := fun d ρ K => match d with
  | .tup ds => ds.length = n ∧ gs ds ρ K
  | .lst ds => ds.length = n ∧ gs ds ρ K
  | _ => False
theorem pg_or {tg : Expr} {t t' : TG} (h : PG X tg t) (h' : PG X tg t') : PG X tg (fun v σ H Q => t v σ H Q ∨ t' v σ H Q) := ⟨fun pins s σ H v u Q I r q => q.elim (h.run pins s σ H v u Q I r) (h'.run pins s σ H v u Q I r)⟩
theorem sg_tup (C : Ctx Γ X N sc fp k) {es : List Expr} {kk n : Nat} {pos : Pos} {gs : List D → Rho → (Rho → Prop) → Prop} {is : List Nat} (h : SGs Γ X es gs is) (hn : (assignEach es X.env).length = n := by rfl) (hst : (assignEach es X.env).findIdx? (·.1) = none := by rfl) : SG Γ X (.Tuple es kk pos) (gTp n gs) is :=
  .mk fun σ F H A ρ v d K QV hh r hw hq pins s u I ru => by
  refine (pg_or (pg_tup C.calm pgs_x hn hst) (pg_lst C.calm pgs_x hn hst)).run pins s σ H v u QV I ru ?_
  unfold gTp at hw
  split at hw
  · obtain ⟨hl, hw⟩ := hw
    unfold rep R at r
    obtain ⟨a, vs, rfl, fa, ra⟩ := r
    exact .inl ⟨a, vs, rfl, .of (hh.sub a _ fa), by rw [ra.length]; exact hl, h.run σ F H A ρ vs _ K QV hh ra hw hq⟩
  · obtain ⟨hl, hw⟩ := hw
    unfold rep R at r
    obtain ⟨a, vs, rfl, fa, ra⟩ := r
    exact .inr ⟨a, vs, rfl, .of (hh.sub a _ fa), by rw [ra.length]; exact hl, h.run σ F H A ρ vs _ K QV hh ra hw hq⟩
  · exact hw.elim
/-- none of the stored slots is locked -/
def Fre (lk is : List Nat) : Prop := (is.all fun i => !lk.contains i) = true
theorem Wp.kp {lk is : List Nat} {σ σ' : Sg} (w : Wp is σ σ') (f : Fre lk is) : Kp lk σ σ' := fun i m => by
  have n : i ∉ is := fun q => by
    have := List.all_eq_true.mp f i q
    rw [List.contains_iff_mem.mpr m] at this
    cases this
  have e := w is fun _ q => q
  rw [← wipe_out (σ := σ') n, e, wipe_out n]
/-- a, b = e -/
def wUnp (w : WE) (g : WG) : WS := fun ρ D E => w ρ (fun sv ρ1 => keep sv ρ1 fun x ρ2 => g x ρ2 D.nx) E
theorem ss_unp {es : List Expr} {kk : Nat} {tp pos : Pos} {e : Expr} {w : WE} {g : WG} {is : List Nat} (h : SE Γ X e w) (hg : SG Γ X (.Tuple es kk tp) g is) (fr : Fre lk is := by rfl) (hs : swapsWithSole [.Tuple es kk tp] e pos.line X.env = pure false := by rfl) (hw : swappedStores [.Tuple es kk tp] e X.env = pure none := by rfl)
    (h1 : (assignEach [.Tuple es kk tp] X.env).map (·.2) = [assign (.Tuple es kk tp) X.env] := by rfl) : SS Γ lk X (.Assign [.Tuple es kk tp] e pos) (wUnp w g) := .mk fun σ F H A ρ D E DV W hh tk el eo hw' pins s I => by
  refine (ps_asg pe_x pg_x hs hw h1).run pins s σ H DV I ?_
  refine h.use hh tk el.now hw' fun sv ρ1 q v F1 H1 A1 B1 o => ?_
  obtain ⟨d, ρ2, F2, A2, hk, x2, h2, r2, _⟩ := keep_ok o.oh o.ors o.ond o.ofb q
  have x := o.oe.trans x2
  exact hg.run σ F2 H1 A2 ρ2 v d _ _ h2 r2 hk fun ρ3 hk3 σ3 F3 H3 A3 w3 x3 h3 => eo.nx ρ3 hk3 σ3 F3 H3 A3 (w3.kp fr) (x.trans x3) h3
/-! ### what a loop walks: items that stand for data -/
structure Walks (Γ : Wd) (F0 : Hp) (J : It) (ds : List D) : Prop where
  go : ∀ (i : Nat) (F H : Hp), Same F0 F → Same F H → i < ds.length → J.go i H
  yld : ∀ (i : Nat) (F H : Hp) (A : List Addr) (σ : Sg) (ρ : Rho) (x : V) (H' : Hp), Same F0 F → hold Γ σ F H ρ A → i < ds.length → J.yld i H x H' → ∃ d F', ds[i]? = some d ∧ Ext F H A F' H' A ∧ hold Γ σ F' H' ρ A ∧ rep Γ F' x d
  stop : ∀ (i : Nat) (F H : Hp), Same F0 F → Same F H → ds.length ≤ i → J.stop i H
abbrev WI := Rho → (List D → Rho → Prop) → EK → Prop
def wpXI (X : Cx) (tg iter : Expr) : TI := fun σ H R => ∀ pins s, Inv X pins σ H s → wpAny (model X.prog X.w) X.A (eval iter X.env) (fun v s1 => wpAny (model X.prog X.w) X.A (pyIter v) (PIE X pins σ tg R) X.xe s1) X.xe s
theorem pi_x {tg iter : Expr} : PI X tg iter (wpXI X tg iter) := ⟨fun pins s _ _ _ I h => h pins s I⟩
structure SI (Γ : Wd) (X : Cx) (tg iter : Expr) (w : WI) : Prop where
  run : ∀ (σ : Sg) (F H : Hp) (A : List Addr) (ρ : Rho) (Q : List D → Rho → Prop) (E : EK) (R : It → Hp → Prop) (W : WX), hold Γ σ F H ρ A → Takes X W → EL Γ σ F H A E W → w ρ Q E →
    (∀ ds ρ', Q ds ρ' → ∀ J F' H' A', Ext F H A F' H' A' → hold Γ σ F' H' ρ' A' → Walks Γ F' J ds → R J H') → wpXI X tg iter σ H R
theorem walks_list {K : PySem.W.Frag} {F : Hp} {a : Addr} {vs : List V} {ds : List D} (fa : F a = some (.lst vs)) (r : repL Γ F vs ds) : Walks Γ F (Itl K a) ds where
  go := fun i F' H s1 s2 hi => ⟨vs, vs[i]'(by rw [RL.length r]; exact hi), .of (s2 a _ (s1 a _ fa)), by simp⟩
  yld := fun i F' H A σ ρ x H' s1 hh hi y => by
    obtain ⟨e, y⟩ := y
    subst e
    obtain ⟨d, h1, h2⟩ := RL.get' (RL.mono s1 r) (y vs (.of (hh.sub a _ (s1 a _ fa))))
    exact ⟨d, F', h1, Ext.refl, hh, h2⟩
  stop := fun i F' H s1 s2 hi => ⟨vs, .of (s2 a _ (s1 a _ fa)), by rw [RL.length r]; exact hi⟩
theorem walks_tup {K : PySem.W.Frag} {F : Hp} {a : Addr} {vs : List V} {ds : List D} (fa : F a = some (.tup vs)) (r : repL Γ F vs ds) : Walks Γ F (Itt K a) ds where
  go := fun i F' H s1 s2 hi => ⟨vs, vs[i]'(by rw [RL.length r]; exact hi), .of (s2 a _ (s1 a _ fa)), by simp⟩
  yld := fun i F' H A σ ρ x H' s1 hh hi y => by
    obtain ⟨e, y⟩ := y
    subst e
    obtain ⟨d, h1, h2⟩ := RL.get' (RL.mono s1 r) (y vs (.of (hh.sub a _ (s1 a _ fa))))
    exact ⟨d, F', h1, Ext.refl, hh, h2⟩
  stop := fun i F' H s1 s2 hi => ⟨vs, .of (s2 a _ (s1 a _ fa)), by rw [RL.length r]; exact hi⟩
def rngD (lo : Int) (n : Nat) : List D := (List.range n).map fun (i : Nat) => D.int (lo + (i : Int))
theorem walks_range {F : Hp} {lo : Int} {n : Nat} : Walks Γ F (Itr lo n) (rngD lo n) where
  go := fun i F' H s1 s2 hi => (by simpa [rngD] using hi : i < n)
  yld := fun i F' H A σ ρ x H' s1 hh hi y => by
    obtain ⟨e, y⟩ := y
    subst e y
    have hi' : i < n := by simpa [rngD] using hi
    refine ⟨.int (lo + i), F', ?_, Ext.refl, hh, by unfold rep R; rfl⟩
    simp [rngD, hi']
  stop := fun i F' H s1 s2 hi => (by simpa [rngD] using hi : n ≤ i)
/-- a list or a tuple of data, walked: it stands from then on -/
def wIt (w : WE) : WI := fun ρ Q E => w ρ (fun sv ρ1 => keep sv ρ1 fun x ρ2 => match x with
  | .lst ds => Q ds ρ2
  | .tup ds => Q ds ρ2
  | _ => False) E
section
variable {tg : Expr} {pins : List (Addr × Obj)} {σ : Sg} {H : Hp} {s : Shared} {a : Addr} {xs : List V} {R : It → Hp → Prop}
theorem iter_new {J : It} {tn : Nat → Heap → Prop} {o : Obj} (I : Inv X pins σ H s) (T : Turn X.prog X.w X.K tg J [s.heap.objs.size] s.heap.objs.size tn) (st : tn 0 (s.heap.push o)) (q : R J H) : PIE X pins σ tg R (.ref s.heap.objs.size) { s with heap := s.heap.push o } :=
  ⟨_, _, tn, J, H, rfl, I.kept (t' := s.toks) (fun _ _ z => Heap.get?_push_of_some _ z), T, st, fun b m => by
    rw [List.mem_singleton] at m
    rw [m]
    exact I.fpOk (Nat.le_refl _) (I.hok.fresh (Nat.le_refl _)), q⟩
theorem iter_lst (I : Inv X pins σ H s) (h : SqL X.K H a xs) (q : R (Itl X.K a) H) : wpAny (model X.prog X.w) X.A (pyIter (.ref a)) (PIE X pins σ tg R) X.xe s := by
  obtain ⟨us, _, pl, _⟩ := I.list h
  exact wpAny_pyIter_list pl.isList (iter_new I (turn_list a _) ⟨_, Heap.get?_push_size _ rfl, rfl, rfl⟩ q)
theorem iter_tpl (I : Inv X pins σ H s) (h : SqT X.K H a xs) (q : R (Itt X.K a) H) : wpAny (model X.prog X.w) X.A (pyIter (.ref a)) (PIE X pins σ tg R) X.xe s := by
  obtain ⟨us, _, pl, _⟩ := I.tuple h
  exact wpAny_pyIter_tuple (items := us.toArray) pl (iter_new I (turn_tuple a _) ⟨_, Heap.get?_push_size _ rfl, rfl, rfl⟩ q)
end
theorem si_seq {tg e : Expr} {w : WE} (h : SE Γ X e w) : SI Γ X tg e (wIt w) := .mk fun σ F H A ρ Q E R W hh tk el hw hq pins s I => by
  refine thn (h.use (QV := fun v H1 => ∃ a xs, v = .ref a ∧ ((SqL X.K H1 a xs ∧ R (Itl X.K a) H1) ∨ (SqT X.K H1 a xs ∧ R (Itt X.K a) H1))) hh tk el hw (fun sv ρ1 q v F1 H1 A1 B1 o => ?_) pins s I) fun v s1 ⟨x, H1, I1, r1, a, xs, e1, q1⟩ => ?_
  · obtain ⟨d, ρ2, F2, A2, hk, x2, h2, r2, _⟩ := keep_ok o.oh o.ors o.ond o.ofb q
    split at hk
    · unfold rep Dv.R at r2
      obtain ⟨a, vs, rfl, fa, ra⟩ := r2
      exact ⟨a, vs, rfl, .inl ⟨.of (h2.sub a _ fa), hq _ ρ2 hk _ F2 H1 A2 (o.oe.trans x2) h2 (walks_list fa ra)⟩⟩
    · unfold rep Dv.R at r2
      obtain ⟨a, vs, rfl, fa, ra⟩ := r2
      exact ⟨a, vs, rfl, .inr ⟨.of (h2.sub a _ fa), hq _ ρ2 hk _ F2 H1 A2 (o.oe.trans x2) h2 (walks_tup fa ra)⟩⟩
    · exact hk.elim
  · subst e1
    cases r1
    rcases q1 with ⟨q1, q2⟩ | ⟨q1, q2⟩
    · exact iter_lst I1 q1 q2
    · exact iter_tpl I1 q1 q2
/-- range(n), range(a, b) -/
def wRng1 (w : WA) : WI := fun ρ Q E => w ρ (fun svs ρ1 => match svs with
  | [.d (.int n)] => n < 2 ^ 62 ∧ -(2 ^ 62) ≤ n ∧ Q (rngD 0 n.toNat) ρ1
  | _ => False) E
theorem int1 {σ : Sg} {F H F' H' : Hp} {A A' B : List Addr} {ρ' : Rho} {vs : List V} {i : Int} (o : OutL Γ σ F H A ρ' [.d (.int i)] vs F' H' A' B) : vs = [.int i] ∧ B = [] := by
  have r := o.ors
  obtain ⟨v, r', B1, B2, rfl, h1, ⟨rfl, rfl⟩, rfl⟩ := r
  unfold rs RS R at h1
  obtain ⟨rfl, rfl⟩ := h1
  exact ⟨rfl, rfl⟩
theorem si_range1 (C : Ctx Γ X N sc fp k) {tg e : Expr} {w : WA} {p pos : Pos} (h : SA Γ X [e] w) (hg : sc.names.lookup ("range" : Str) = some .globalImplicit := by rfl) (hs : starEach [e] X.env = [(false, eval e X.env)] := by rfl) : SI Γ X tg (.Call (.Name "range" p) [e] [] pos) (wRng1 w) :=
  .mk fun σ F H A ρ Q E R W hh tk el hw hq pins s I => by
  refine (pi_range1 (gl_of C hg) (by rw [C.mg]; exact C.bn _ (by decide +kernel)) pa_x hs).run pins s σ H R I ?_
  refine h.run σ F H A ρ _ E _ W hh tk el hw fun svs ρ1 hw1 vs F1 H1 A1 B1 o1 => ?_
  split at hw1
  · obtain ⟨l1, l2, hw1⟩ := hw1
    obtain ⟨rfl, rfl⟩ := int1 o1
    exact ⟨_, rfl, l2, l1, hq _ ρ1 hw1 _ F1 H1 A1 o1.oe o1.oh walks_range⟩
  · exact hw1.elim
/-! ### for -/
/-- forgetting is allowed between turns -/
def Nxt (ρ : Rho) (P : Rho → Prop) : Prop := ∃ ρ', Fgt ρ ρ' ∧ P ρ'
theorem Nxt.same {ρ : Rho} {P : Rho → Prop} (h : P ρ) : Nxt ρ P := ⟨ρ, Fgt.refl ρ, h⟩
def forL (g : WG) (wb : WS) : List D → Rho → Nd → EK → Prop
  | [], ρ, D, _ => D.nx ρ
  | d :: ds, ρ, D, E => g d ρ fun ρ1 => wb ρ1 { nx := fun ρ2 => Nxt ρ2 fun ρ3 => forL g wb ds ρ3 D E, ct := fun ρ2 => Nxt ρ2 fun ρ3 => forL g wb ds ρ3 D E, bk := D.nx, rt := D.rt } E
def wFor (wi : WI) (g : WG) (wb : WS) : WS := fun ρ D E => wi ρ (fun ds ρ1 => forL g wb ds ρ1 D E) E
/-- what X lets out of a loop's turn -/
def Own (X : Cx) : Prop := PassesOwn (model X.prog X.w) X.A X.env X.xe
theorem ss_for (C : Ctx Γ X N sc fp k) (P : Own X) {tg iter : Expr} {body : List Stmt} {pos : Pos} {wi : WI} {g : WG} {is : List Nat} {wb : WS} (hi : SI Γ X tg iter wi) (hg : SG Γ X tg g is) (hb : SSs Γ lk X body wb) (fr : Fre lk is := by rfl) (hs : ∀ x, foldedSetIterable iter X.env x = pure x := by intro _; rfl) : SS Γ lk X (.For tg iter body [] pos) (wFor wi g wb) :=
  .mk fun σ F H A ρ D E DV W hh tk el eo hw pins s I => by
  refine (ps_for P C.calm pi_x pg_x pss_x hs).run pins s σ H DV I ?_
  refine hi.run σ F H A ρ _ E _ W hh tk el.now hw fun ds ρ1 hw1 J F1 H1 A1 x1 h1 wk => ?_
  have el1 := el.ext x1 (.refl)
  have eo1 := eo.ext x1 (.refl)
  refine ⟨fun i m σ' H' => m = ds.length - i ∧ i ≤ ds.length ∧ ∃ F' ρ' A', Kp lk σ σ' ∧ Ext F1 H1 A1 F' H' A' ∧ hold Γ σ' F' H' ρ' A' ∧ forL g wb (ds.drop i) ρ' D E, ⟨ds.length, by simp, Nat.zero_le _, F1, ρ1, A1, .refl, Ext.refl, h1, by simpa using hw1⟩, ?_⟩
  rintro i m σ' H' ⟨rfl, hi, F', ρ', A', k2, x2, h2, hw2⟩
  by_cases hlt : i < ds.length
  · refine .inr ⟨wk.go i F' H' x2.sf h2.sub hlt, fun σ3 H3 => ∃ F3 ρ3 A3, Kp lk σ σ3 ∧ Ext F1 H1 A1 F3 H3 A3 ∧ hold Γ σ3 F3 H3 ρ3 A3 ∧ forL g wb (ds.drop (i + 1)) ρ3 D E, fun σ3 H3 z => ⟨ds.length - (i + 1), by omega, rfl, hlt, z⟩, fun x H3 y => ?_⟩
    obtain ⟨d, F3, e1, x3, h3, r3⟩ := wk.yld i F' H' A' σ' ρ' x H3 x2.sf h2 hlt y
    have e2 : ds.drop i = d :: ds.drop (i + 1) := by
      obtain ⟨hj, e⟩ := List.getElem?_eq_some_iff.mp e1
      rw [List.drop_eq_getElem_cons hj, e]
    rw [e2] at hw2
    unfold forL at hw2
    have x23 := x2.trans x3
    refine hg.run σ' F3 H3 A' ρ' x d _ _ h3 r3 hw2 fun ρ4 hk σ4 F4 H4 A4 w4 x4 h4 => ?_
    have x24 := x23.trans x4
    have k4 := k2.trans (w4.kp fr)
    have step : ∀ ρ5, (Nxt ρ5 fun ρ6 => forL g wb (ds.drop (i + 1)) ρ6 D E) → ∀ σ5 F5 H5 A5, Kp lk σ4 σ5 → Ext F4 H4 A4 F5 H5 A5 → hold Γ σ5 F5 H5 ρ5 A5 → ∃ F6 ρ6 A6, Kp lk σ σ5 ∧ Ext F1 H1 A1 F6 H5 A6 ∧ hold Γ σ5 F6 H5 ρ6 A6 ∧ forL g wb (ds.drop (i + 1)) ρ6 D E := fun ρ5 ⟨ρ6, fg, q⟩ σ5 F5 H5 A5 k5 x5 h5 => by
      obtain ⟨A6, h6, sub⟩ := Hold.fgt h5 fg
      exact ⟨F5, ρ6, A6, k4.trans k5, (x24.trans x5).sub sub, h6, q⟩
    refine hb.run σ4 F4 H4 A4 ρ4 { nx := fun ρ2 => Nxt ρ2 fun ρ3 => forL g wb (ds.drop (i + 1)) ρ3 D E, ct := fun ρ2 => Nxt ρ2 fun ρ3 => forL g wb (ds.drop (i + 1)) ρ3 D E, bk := D.nx, rt := D.rt } E _ W h4 tk (el1.ext x24 k4) ⟨step, fun ρ5 q σ5 F5 H5 A5 k5 x5 h5 => eo1.nx ρ5 q σ5 F5 H5 A5 (k4.trans k5) (x24.trans x5) h5, step, fun sv ρ5 q σ5 v F5 H5 A5 B5 k5 o => eo1.rt sv ρ5 q σ5 v F5 H5 A5 B5 (k4.trans k5) (o.pre x24)⟩ hk
  · have e : i = ds.length := by omega
    subst e
    rw [List.drop_length] at hw2
    exact .inl ⟨wk.stop _ F' H' x2.sf h2.sub (Nat.le_refl _), eo1.nx ρ' hw2 σ' F' H' A' k2 x2 h2⟩
/-! ### while -/
/-- I: what holds ahead of each test, with a measure -/
def wWh (t : WT) (wb : WS) : WS := fun ρ D E => ∃ I : Nat → Rho → Prop, (∃ m, I m ρ) ∧ ∀ m ρ, I m ρ → t ρ (fun b ρ1 => Br b (wb ρ1 { nx := fun ρ2 => Nxt ρ2 fun ρ3 => ∃ m', m' < m ∧ I m' ρ3, ct := fun ρ2 => Nxt ρ2 fun ρ3 => ∃ m', m' < m ∧ I m' ρ3, bk := D.nx, rt := D.rt } E) (D.nx ρ1)) E
theorem ss_while (P : Own X) {c : Expr} {body : List Stmt} {pos : Pos} {t : WT} {wb : WS} (ht : ST Γ X c t) (hb : SSs Γ lk X body wb) : SS Γ lk X (.While c body [] pos) (wWh t wb) := .mk fun σ F H A ρ D E DV W hh tk el eo hw pins s I => by
  obtain ⟨Iv, ⟨m0, i0⟩, turn⟩ := hw
  refine (ps_while P pt_x pss_x).run pins s σ H DV I ⟨fun m σ' H' => ∃ F' ρ' A', Kp lk σ σ' ∧ Ext F H A F' H' A' ∧ hold Γ σ' F' H' ρ' A' ∧ Iv m ρ', ⟨m0, F, ρ, A, .refl, Ext.refl, hh, i0⟩, ?_⟩
  rintro m σ' H' ⟨F', ρ', A', k1, x1, h1, i1⟩
  refine ht.use h1 tk (el.ext x1 k1).now (turn m ρ' i1) fun b ρ2 hk F2 H2 A2 x2 h2 => ?_
  have x12 := x1.trans x2
  cases b with
  | false => rw [if_neg Bool.false_ne_true]; exact eo.nx ρ2 (hk.f rfl) σ' F2 H2 A2 k1 x12 h2
  | true =>
    rw [if_pos rfl]
    refine ⟨fun σ3 H3 => ∃ m', m' < m ∧ ∃ F3 ρ3 A3, Kp lk σ σ3 ∧ Ext F H A F3 H3 A3 ∧ hold Γ σ3 F3 H3 ρ3 A3 ∧ Iv m' ρ3, fun σ3 H3 z => z, ?_⟩
    have step : ∀ ρ5, (Nxt ρ5 fun ρ6 => ∃ m', m' < m ∧ Iv m' ρ6) → ∀ σ5 F5 H5 A5, Kp lk σ' σ5 → Ext F2 H2 A2 F5 H5 A5 → hold Γ σ5 F5 H5 ρ5 A5 → ∃ m', m' < m ∧ ∃ F6 ρ6 A6, Kp lk σ σ5 ∧ Ext F H A F6 H5 A6 ∧ hold Γ σ5 F6 H5 ρ6 A6 ∧ Iv m' ρ6 := fun ρ5 ⟨ρ6, fg, m', hm, q⟩ σ5 F5 H5 A5 k5 x5 h5 => by
      obtain ⟨A6, h6, sub⟩ := Hold.fgt h5 fg
      exact ⟨m', hm, F5, ρ6, A6, k1.trans k5, (x12.trans x5).sub sub, h6, q⟩
    exact hb.run σ' F2 H2 A2 ρ2 { nx := fun ρ2 => Nxt ρ2 fun ρ3 => ∃ m', m' < m ∧ Iv m' ρ3, ct := fun ρ2 => Nxt ρ2 fun ρ3 => ∃ m', m' < m ∧ Iv m' ρ3, bk := D.nx, rt := D.rt } E _ W h2 tk (el.ext x12 k1) ⟨step, fun ρ5 q σ5 F5 H5 A5 k5 x5 h5 => eo.nx ρ5 q σ5 F5 H5 A5 (k1.trans k5) (x12.trans x5) h5, step, fun sv ρ5 q σ5 v F5 H5 A5 B5 k5 o => eo.rt sv ρ5 q σ5 v F5 H5 A5 B5 (k1.trans k5) (o.pre x12)⟩ (hk.t rfl)

/-! ### [e for t in it if c] -/
def wipeR (ρ : Rho) : List Nat → Rho
  | [] => ρ
  | v :: vs => (wipeR ρ vs).set v none
theorem Sl.noneAt {F H : Hp} {σ : Sg} {ρ : Rho} {A : List Addr} (h : Sl Γ.K Γ.cl F H σ ρ A) (i : Nat) : ∃ A0, Sl Γ.K Γ.cl F H (σ.set i none) (ρ.set i none) A0 ∧ A0.Sublist A := by
  induction h generalizing i with
  | nil => exact ⟨[], .nil, .refl _⟩
  | @skip x σ ρ A h ih =>
    cases i with
    | zero => exact ⟨A, .skip h, .refl _⟩
    | succ i => obtain ⟨A0, h1, h2⟩ := ih i; exact ⟨A0, .skip h1, h2⟩
  | @one v0 sv0 B0 σ ρ A r h ih =>
    cases i with
    | zero => exact ⟨A, .skip h, List.sublist_append_right _ _⟩
    | succ i => obtain ⟨A0, h1, h2⟩ := ih i; exact ⟨_, .one r h1, List.Sublist.append_left h2 _⟩
theorem hold_sub {F H : Hp} {σ σ' : Sg} {ρ ρ' : Rho} {A : List Addr} (hh : hold Γ σ F H ρ A) (f : ∀ {A}, Sl Γ.K Γ.cl F H σ ρ A → ∃ A0, Sl Γ.K Γ.cl F H σ' ρ' A0 ∧ A0.Sublist A) : ∃ A', hold Γ σ' F H ρ' A' ∧ ∀ a ∈ A', a ∈ A := by
  obtain ⟨A1, s, p⟩ := hh.sl
  obtain ⟨A0, h1, h2⟩ := f s
  have hm : ∀ a ∈ A0, a ∈ A := fun a m => p.mem_iff.mp (h2.subset m)
  exact ⟨A0, ⟨⟨A0, h1, .refl _⟩, hh.sub, (p.nodup_iff.mpr hh.nd).sublist h2, fun a m => hh.av a (hm a m), hh.tb⟩, hm⟩
theorem hold_wipe {F H : Hp} {σ : Sg} {ρ : Rho} {A : List Addr} (hh : hold Γ σ F H ρ A) : ∀ vs : List Nat, ∃ A', hold Γ (wipe σ vs) F H (wipeR ρ vs) A' ∧ ∀ a ∈ A', a ∈ A
  | [] => ⟨A, hh, fun _ m => m⟩
  | v :: vs => by
    obtain ⟨A1, h1, s1⟩ := hold_wipe hh vs
    obtain ⟨A2, h2, s2⟩ := hold_sub h1 fun s => s.noneAt v
    exact ⟨A2, h2, fun a m => s1 a (s2 a m)⟩
theorem Sl.back {F H : Hp} {σ : Sg} {ρ : Rho} {A : List Addr} (h : Sl Γ.K Γ.cl F H σ ρ A) : ∀ {σ' : Sg}, σ'.length = σ.length → (∀ (i : Nat) v, σ[i]? = some (some v) → σ'[i]? = some (some v)) → Sl Γ.K Γ.cl F H σ' ρ A := by
  induction h with
  | nil => intro σ' hl _; cases σ' with | nil => exact .nil | cons _ _ => simp at hl
  | skip h ih =>
    intro σ' hl w
    cases σ' with
    | nil => simp at hl
    | cons y σ' => exact .skip (ih (by simpa using hl) fun i v e => by simpa using w (i + 1) v (by simpa using e))
  | one r h ih =>
    intro σ' hl w
    cases σ' with
    | nil => simp at hl
    | cons y σ' =>
      have e0 := w 0 _ rfl
      simp at e0
      subst e0
      exact .one r (ih (by simpa using hl) fun i v e => by simpa using w (i + 1) v (by simpa using e))
theorem hold_back {F H : Hp} {σ : Sg} {ρ : Rho} {A : List Addr} {vs : List Nat} (hh : hold Γ (wipe σ vs) F H ρ A) : hold Γ σ F H ρ A := by
  obtain ⟨A1, s, p⟩ := hh.sl
  exact ⟨⟨A1, s.back (wipe_length σ vs).symm fun i v e => (wipe_some e).1, p⟩, hh.sub, hh.nd, hh.av, hh.tb⟩
/-- an untracked-by-us list grows -/
theorem hold_out {F H : Hp} {σ : Sg} {ρ : Rho} {A : List Addr} {p : Addr} {o : HO} (hh : hold Γ σ F H ρ A) (nF : F p = none) (nA : p ∉ A) (hT : H p = none ∨ ∃ u, H p = some u ∧ NoT u) : hold Γ σ F (upd H p o) ρ A := by
  obtain ⟨A1, s, q⟩ := hh.sl
  refine ⟨⟨A1, s.mono (Same.refl F) fun b m u e => .inl ?_, q⟩, fun b u e => ?_, hh.nd, hh.av, hh.tb.upd hT⟩
  · rw [upd_ne (fun z => nA (by rw [← z]; exact q.mem_iff.mp m))]
    exact e
  · rw [upd_ne (fun z => by rw [z, nF] at e; cases e)]
    exact hh.sub b u e
def wpXTs (X : Cx) (ifs : List Expr) : TT := fun σ H Q => ∀ pins s, Inv X pins σ H s →
  wpAny (model X.prog X.w) X.A (forIn ifs true fun c r => if r = true then do let ok ← isTrue c X.env (eval c X.env); pure (ForInStep.yield ok) else pure (ForInStep.yield r)) (TP X pins σ Q) X.xe s
structure STs (Γ : Wd) (X : Cx) (ifs : List Expr) (w : WT) : Prop where
  run : ∀ (σ : Sg) (F H : Hp) (A : List Addr) (ρ : Rho) (Q : Bool → Rho → Prop) (E : EK) (QV : Bool → Hp → Prop) (W : WX), hold Γ σ F H ρ A → Takes X W → EL Γ σ F H A E W → w ρ Q E →
    (∀ b ρ', Q b ρ' → ∀ F' H' A', Ext F H A F' H' A' → hold Γ σ F' H' ρ' A' → QV b H') → wpXTs X ifs σ H QV
def wYes : WT := fun ρ Q _ => Q true ρ
theorem sts_nil : STs Γ X [] wYes := .mk fun σ F H A ρ Q E QV W hh tk el hw hq pins s I => pts_nil.run pins s σ H QV I (hq true ρ hw F H A Ext.refl hh)
theorem sts_one {c : Expr} {w : WT} (h : ST Γ X c w) : STs Γ X [c] w := .mk fun σ F H A ρ Q E QV W hh tk el hw hq pins s I => (pts_one pt_x).run pins s σ H QV I (h.use hh tk el hw hq)
def compL (g : WG) (wt : WT) (we : WE) (own : List Nat) : List D → List D → Rho → (List D → Rho → Prop) → Prop
  | [], acc, ρ, K => K acc ρ
  | d :: ds, acc, ρ, K => g d ρ fun ρ1 => wt ρ1 (fun b ρ2 => Br b
      (we ρ2 (fun y ρ3 => keep y ρ3 fun x ρ4 => acc.length < 16777216 ∧ compL g wt we own ds (acc ++ [x]) (wipeR ρ4 own) K) noE)
      (compL g wt we own ds acc (wipeR ρ2 own) K)) noE
def wLc (wi : WI) (g : WG) (wt : WT) (we : WE) (own : List Nat) : WE := fun ρ Q E => wi ρ (fun ds ρ1 => compL g wt we own ds [] (wipeR ρ1 own) fun acc ρ2 => Q (.lst acc) ρ2) E
/-- the contexts of a comprehension's block -/
def Blk (Γ : Wd) (N : List Str) (sc scope : Scope) (k : Nat) (X : Cx) : Prop := Ctx Γ X N (relS scope sc) (fun x => scope.names.lookup x == some .cell) k ∧ Takes X fun _ _ _ _ => False
theorem blk_ctx (C : Ctx Γ X N sc fp k) {scope : Scope} (s : Shared) (H : Hp) (cl : List (Str × Addr)) (a : Addr) (fp' : List Addr) : Blk Γ N sc scope k (X.blk s H scope (compEnvC scope cl a X.env) fp') :=
  ⟨⟨C.p, C.w, C.K, C.mg, C.base, C.hN, C.nd, by show relS scope X.env.scope = _; rw [C.hs], C.calm, C.room, C.gd, rfl, C.bn⟩, fun _ _ ⟨_, _, _, _, _, _, _, _, _, _, _, _, _, _, _, _, z⟩ => z.elim⟩
abbrev bG (Γ : Wd) (N : List Str) (sc scope : Scope) (k : Nat) (tg : Expr) : TG := fun v σ H Q => ∀ X', Blk Γ N sc scope k X' → wpXG X' tg v σ H Q
abbrev bT (Γ : Wd) (N : List Str) (sc scope : Scope) (k : Nat) (ifs : List Expr) : TT := fun σ H Q => ∀ X', Blk Γ N sc scope k X' → wpXTs X' ifs σ H Q
abbrev bE (Γ : Wd) (N : List Str) (sc scope : Scope) (k : Nat) (elt : Expr) : TE := fun σ H Q => ∀ X', Blk Γ N sc scope k X' → wpX X' elt σ H Q
theorem lc_ok (C : Ctx Γ X N sc fp k) {tg iter elt : Expr} {ifs : List Expr} {scope : Scope} {own is : List Nat} {wi : WI} {g : WG} {wt : WT} {we : WE} (hi : SI Γ X tg iter wi) (hsub : ∀ i ∈ is, i ∈ own)
    (hg : ∀ X', Blk Γ N sc scope k X' → SG Γ X' tg g is) (ht : ∀ X', Blk Γ N sc scope k X' → STs Γ X' ifs wt) (he : ∀ X', Blk Γ N sc scope k X' → SE Γ X' elt we)
    {σ : Sg} {F H : Hp} {A : List Addr} {ρ : Rho} {Q : WK} {E : EK} {QV : VK} {W : WX} (hh : hold Γ σ F H ρ A) (tk : Takes X W) (el : EL Γ σ F H A E W) (hw : wLc wi g wt we own ρ Q E)
    (hq : ∀ sv ρ', Q sv ρ' → ∀ v F' H' A' B, Out Γ σ F H A ρ' sv v F' H' A' B → QV v H') :
    tLc (wpXI X tg iter) (bG Γ N sc scope k tg) (bT Γ N sc scope k ifs) (bE Γ N sc scope k elt) own σ H QV := by
  refine hi.run σ F H A ρ _ E _ W hh tk el hw fun ds ρ1 hw1 J F1 H1 A1 x1 h1 wk => ?_
  intro dst hD
  obtain ⟨hn1, hn2, nF, nA⟩ := hold_new (o := .lst []) h1 hD
  obtain ⟨A2, h2, s2⟩ := hold_wipe hn1 own
  refine ⟨fun i m H' => m = ds.length - i ∧ i ≤ ds.length ∧ ∃ F' ρ' A' vs acc, Ext F1 H1 A1 F' H' ([dst] ++ A') ∧ hold Γ (wipe σ own) F' H' ρ' A' ∧ H' dst = some (.lst vs) ∧ F' dst = none ∧ dst ∉ A' ∧ repL Γ F' vs acc ∧ compL g wt we own (ds.drop i) acc ρ' (fun acc ρ2 => Q (.lst acc) ρ2),
    ⟨ds.length, by simp, Nat.zero_le _, F1, _, A2, [], [], hn2.sub (fun a m => by simp only [List.cons_append, List.nil_append, List.mem_cons] at m ⊢; exact m.imp id (s2 a)), h2, upd_same, nF, fun m => nA (s2 dst m), RL.nil, by simpa using hw1⟩, ?_⟩
  rintro i m H' ⟨rfl, hi', F', ρ', A', vs, acc, x3, h3, hD3, nF3, nA3, r3, hw3⟩
  by_cases hlt : i < ds.length
  · refine .inr ⟨wk.go i F' H' x3.sf h3.sub hlt, fun H'' => ∃ F' ρ' A' vs acc, Ext F1 H1 A1 F' H'' ([dst] ++ A') ∧ hold Γ (wipe σ own) F' H'' ρ' A' ∧ H'' dst = some (.lst vs) ∧ F' dst = none ∧ dst ∉ A' ∧ repL Γ F' vs acc ∧ compL g wt we own (ds.drop (i + 1)) acc ρ' (fun acc ρ2 => Q (.lst acc) ρ2),
      fun H'' z => ⟨ds.length - (i + 1), by omega, rfl, hlt, z⟩, fun x H4 y => ?_⟩
    obtain ⟨d, F4, e1, x4, h4, r4⟩ := wk.yld i F' H' A' _ ρ' x H4 x3.sf h3 hlt y
    have e2 : ds.drop i = d :: ds.drop (i + 1) := by
      obtain ⟨hj, e⟩ := List.getElem?_eq_some_iff.mp e1
      rw [List.drop_eq_getElem_cons hj, e]
    rw [e2] at hw3
    unfold compL at hw3
    have keepD : ∀ {F5 H5 : Hp} {A5 : List Addr}, Ext F' H' A' F5 H5 A5 → H5 dst = some (.lst vs) ∧ F5 dst = none ∧ dst ∉ A5 := fun {F5 H5 A5} z => by
      refine ⟨(z.fr dst _ hD3 nA3).eq (fun _ z => nomatch z), ?_, fun m => ?_⟩
      · cases e : F5 dst with
        | none => rfl
        | some u =>
          rcases z.nf dst u e with q | q | q
          · rw [nF3] at q; cases q
          · rw [hD3] at q; cases q
          · exact absurd q nA3
      · rcases z.na dst m with q | q
        · exact nA3 q
        · rw [hD3] at q; cases q
    intro X' hX'
    have elF : ∀ {σ5 : Sg} {F5 H5 : Hp} {A5 : List Addr}, EL Γ σ5 F5 H5 A5 noE (fun _ _ _ _ => False) := fun {σ5 F5 H5 A5} _ _ _ z => z.elim
    refine (hg X' hX').run _ F4 H4 A' ρ' x d _ _ h4 r4 hw3 fun ρ5 hk5 σ5 F5 H5 A5 w5 x5 h5 => ?_
    have ew : wipe σ5 own = wipe σ own := (w5 own hsub).trans (by
      have idem : ∀ (σ : Sg) (vs : List Nat), wipe (wipe σ vs) vs = wipe σ vs := fun σ vs => by
        apply List.ext_getElem?
        intro j
        by_cases hj : j ∈ vs
        · have key : ∀ (σ : Sg) (ls : List Nat), j ∈ ls → (wipe σ ls)[j]? = (if j < σ.length then some none else none) := fun σ ls hm => by
            induction ls with
            | nil => cases hm
            | cons l ls ih =>
              unfold wipe
              by_cases el : l = j
              · subst el
                by_cases hlt : l < σ.length
                · rw [List.getElem?_set_self (by rw [wipe_length]; exact hlt), if_pos hlt]
                · rw [if_neg hlt, List.getElem?_eq_none]
                  rw [List.length_set, wipe_length]; omega
              · rw [List.getElem?_set_ne el]
                exact ih (by rcases List.mem_cons.mp hm with z | z; exact absurd z.symm el; exact z)
          rw [key _ _ hj, key _ _ hj, wipe_length]
        · rw [wipe_out hj]
      exact idem σ own)
    refine ⟨ew, fun X' hX' => ?_⟩
    have x45 := x4.trans x5
    refine (ht X' hX').run σ5 F5 H5 A5 ρ5 _ noE _ _ h5 hX'.2 elF hk5 fun b ρ6 hk6 F6 H6 A6 x6 h6 => ?_
    have x46 := x45.trans x6
    have x36 := x3.trans (x46.frame (B := [dst]))
    -- the turn's end
    have fin : ∀ {F7 H7 : Hp} {A7 : List Addr} {ρ7 : Rho} {vs' : List V} {acc' : List D}, Ext F1 H1 A1 F7 H7 ([dst] ++ A7) → hold Γ σ5 F7 H7 ρ7 A7 → H7 dst = some (.lst vs') → F7 dst = none → dst ∉ A7 → repL Γ F7 vs' acc' → compL g wt we own (ds.drop (i + 1)) acc' (wipeR ρ7 own) (fun acc ρ2 => Q (.lst acc) ρ2) →
        ∃ F' ρ' A' vs acc, Ext F1 H1 A1 F' H7 ([dst] ++ A') ∧ hold Γ (wipe σ own) F' H7 ρ' A' ∧ H7 dst = some (.lst vs) ∧ F' dst = none ∧ dst ∉ A' ∧ repL Γ F' vs acc ∧ compL g wt we own (ds.drop (i + 1)) acc ρ' (fun acc ρ2 => Q (.lst acc) ρ2) := fun {F7 H7 A7 ρ7 vs' acc'} y1 y2 y3 y4 y5 y6 y7 => by
      obtain ⟨A8, h8, s8⟩ := hold_wipe y2 own
      rw [ew] at h8
      exact ⟨F7, _, A8, vs', acc', y1.sub (fun a m => by simp only [List.cons_append, List.nil_append, List.mem_cons] at m ⊢; exact m.imp id (s8 a)), h8, y3, y4, fun m => y5 (s8 dst m), y6, y7⟩
    cases b with
    | false =>
      rw [if_neg Bool.false_ne_true]
      obtain ⟨z1, z2, z3⟩ := keepD x46
      exact fin x36 h6 z1 z2 z3 (RL.mono x46.sf r3) (hk6.f rfl)
    | true =>
      rw [if_pos rfl]
      intro X' hX'
      refine (he X' hX').use h6 hX'.2 elF (hk6.t rfl) fun sy ρ7 q7 v F7 H7 A7 B7 o => ?_
      obtain ⟨dd, ρ8, F8, A8, ⟨hl8, hk8⟩, x8, h8, r8, _⟩ := keep_ok o.oh o.ors o.ond o.ofb q7
      have x48 := x46.trans (o.oe.trans x8)
      obtain ⟨z1, z2, z3⟩ := keepD x48
      have r3' := RL.mono x48.sf r3
      refine ⟨vs, z1, by rw [RL.length r3', line_eq]; exact hl8, ?_⟩
      refine fin (F7 := F8) (vs' := vs ++ [v]) (acc' := acc ++ [dd]) ?_ (hold_out h8 z2 z3 (.inr ⟨_, z1, fun _ z => nomatch z⟩)) upd_same z2 z3 (r3'.append (RL.cons r8 RL.nil)) hk8
      refine (x3.trans (x48.frame (B := [dst]))).trans ⟨Same.refl _, fun a u e n => .inl ?_, fun a u e => .inl e, fun a m => .inl m⟩
      rw [upd_ne (fun z => n (by simp [z]))]
      exact e
  · have e : i = ds.length := by omega
    subst e
    rw [List.drop_length] at hw3
    refine .inl ⟨wk.stop _ F' H' x3.sf h3.sub (Nat.le_refl _), hq _ ρ' hw3 _ F' H' A' [dst] ⟨x1.trans x3, hold_back h3, ?_, ?_, fun b m => ?_⟩⟩
    · unfold rs RS
      exact ⟨dst, vs, rfl, hD3, r3, rfl⟩
    · simp only [List.cons_append, List.nil_append, List.nodup_cons]
      exact ⟨nA3, h3.nd⟩
    · rw [List.mem_singleton] at m
      rw [m]
      exact nF3
/-- [e for t in it if c], as a value -/
theorem se_lc (C : Ctx Γ X N sc fp k) {tg iter elt : Expr} {ifs : List Expr} {scope : Scope} {own : List (Str × Nat)} {is : List Nat} {pos : Pos} {wi : WI} {g : WG} {wt : WT} {we : WE} (ok : blkC N sc scope own = true) (hsub : is.all (fun i => (own.map (·.2)).contains i) = true) (hi : SI Γ X tg iter wi)
    (hg : ∀ X', Blk Γ N sc scope k X' → SG Γ X' tg g is) (ht : ∀ X', Blk Γ N sc scope k X' → STs Γ X' ifs wt) (he : ∀ X', Blk Γ N sc scope k X' → SE Γ X' elt we) (hs : ∀ x, foldedSetIterable iter X.env x = pure x := by intro _; rfl) :
    SE Γ X (.ListComp elt [⟨tg, iter, ifs, 0⟩] scope pos) (wLc wi g wt we (own.map (·.2))) := .mk fun σ F H A ρ Q E QV W hh tk el hw hq pins s I =>
  (pe_lc (own := own) C.calm (by rw [C.hN]; exact C.nd) pi_x (by rw [C.hN, C.hs]; exact blkOk_by ok) (fun s H c cl f => ⟨fun pins s' σ H v u Q I r h => h _ (blk_ctx C s _ cl c f) pins s' u I r⟩) (fun s H c cl f => ⟨fun pins s' σ H Q I h => h _ (blk_ctx C s _ cl c f) pins s' I⟩) (fun s H c cl f => ⟨fun pins s' σ H Q I h => h _ (blk_ctx C s _ cl c f) pins s' I⟩) hs).run pins s σ H QV I
    (lc_ok C hi (fun i m => by simpa using List.all_eq_true.mp hsub i m) hg ht he hh tk el hw hq)
/-- name = [..] on one line -/
theorem ss_asgLc (C : Ctx Γ X N sc fp k) (j : Nat) (fr : lk.contains j = false := by rfl) {y : Str} {py : Pos} {tg iter elt : Expr} {ifs : List Expr} {scope : Scope} {own : List (Str × Nat)} {is : List Nat} {pos spos : Pos} {wi : WI} {g : WG} {wt : WT} {we : WE} (hy : N[j]? = some y) (hyl : sc.names.lookup y = some .local) (hl : (py.line == pos.line) = true)
    (hany : (scope.names.any fun (n, k) => n == y && (k == .local || k == .cell)) = false) (ok : blkC N sc scope own = true) (hsub : is.all (fun i => (own.map (·.2)).contains i) = true) (hi : SI Γ X tg iter wi)
    (hg : ∀ X', Blk Γ N sc scope k X' → SG Γ X' tg g is) (ht : ∀ X', Blk Γ N sc scope k X' → STs Γ X' ifs wt) (he : ∀ X', Blk Γ N sc scope k X' → SE Γ X' elt we) (hkind : sc.kind = .function := by rfl) (hs : ∀ x, foldedSetIterable iter X.env x = pure x := by intro _; rfl) :
    SS Γ lk X (.Assign [.Name y py] (.ListComp elt [⟨tg, iter, ifs, 0⟩] scope pos) spos) (wAsg j (wLc wi g wt we (own.map (·.2)))) := .mk fun σ F H A ρ D' E DV W hh tk el eo hw pins s I => by
  refine (ps_setLc (i := j) (own := own) (g := bG Γ N sc scope k tg) (tt := bT Γ N sc scope k ifs) (te := bE Γ N sc scope k elt) C.calm (by rw [C.hN]; exact C.nd) (by rw [C.hN]; exact hy) (by rw [C.hs]; exact hyl) (sw_true (by rw [C.hs]; exact hkind) (by rw [C.hs]; exact hyl) hl hany) pi_x (by rw [C.hN, C.hs]; exact blkOk_by ok) (fun s H c cl f => ⟨fun pins s' σ H v u Q I r h => h _ (blk_ctx C s _ cl c f) pins s' u I r⟩) (fun s H c cl f => ⟨fun pins s' σ H Q I h => h _ (blk_ctx C s _ cl c f) pins s' I⟩) (fun s H c cl f => ⟨fun pins s' σ H Q I h => h _ (blk_ctx C s _ cl c f) pins s' I⟩) hs).run pins s σ H DV I ?_
  refine lc_ok C hi (fun i m => by simpa using List.all_eq_true.mp hsub i m) hg ht he hh tk el.now hw fun sv ρ1 q v F1 H1 A1 B1 o => ?_
  obtain ⟨ρ2, F2, A2, hk, x2, h4⟩ := put_ok o (len_of C I hy) q
  exact eo.nx ρ2 hk _ F2 H1 A2 (.set fr) x2 h4
end
end Dv

/-! Dv9: what a def is worth (contracts), defs by their bodies, calls. -/
namespace Dv
open PySem PySem.Spec PyProof.Rows L2
abbrev Con := List SV → (SV → List SV → Prop) → (Nat → D → List SV → Prop) → Prop
/-- io: which arguments a def may change (lists and instances that the caller owns); the others are data -/
inductive ArgOk : List Bool → List SV → Prop
  | nil : ArgOk [] []
  | io {b sv} : ArgOk b sv → ∀ {x}, ArgOk (true :: b) (x :: sv)
  | dat {b sv} : ArgOk b sv → ∀ {x}, ArgOk (false :: b) (.d x :: sv)
def endA : List Bool → List SV → Rho → Option (List SV)
  | [], [], _ => some []
  | true :: io, _ :: svs, some x :: ρ => match endA io svs ρ with
    | some r => some (x :: r)
    | none => none
  | false :: io, x :: svs, _ :: ρ => match endA io svs ρ with
    | some r => some (x :: r)
    | none => none
  | _, _, _ => none
def lkOf : List Bool → Nat → List Nat
  | [], _ => []
  | true :: io, n => n :: lkOf io (n + 1)
  | false :: io, n => lkOf io (n + 1)
section
variable (Γ : Wd)
/-- a def's promise, of its contract -/
def spC (io : List Bool) (con : Con) : Sp := fun vs H Q E => ∃ (F : Hp) (A : List Addr) (svs : List SV) (Qc : SV → List SV → Prop) (Ec : Nat → D → List SV → Prop),
  ArgOk io svs ∧ hold Γ (vs.map some) F H (svs.map some) A ∧ con svs Qc Ec ∧
  (∀ sv svs', Qc sv svs' → ∀ v F' H' A' B, Out Γ (vs.map some) F H A (svs'.map some) sv v F' H' A' B → Q v H') ∧
  (∀ k x svs', Ec k x svs' → ∀ F' H' A' dx v, Ext F H A F' H' A' → hold Γ (vs.map some) F' H' (svs'.map some) A' → H' dx = some (.xd [(("value" : Str), v)]) → rep Γ F' v x → E (.ref (Γ.exc k)) (some dx) H')
/-- as HandS has it, where no repr is under way -/
structure FnG (k : Nat) (f : Addr) (fd : FuncData) (ps : List Str) (sp : Sp) : Prop where
  len : ∀ vs H Q E, sp vs H Q E → vs.length = ps.length
  run : ∀ (A : Around) (outer : List Env) (s : Shared) (H : Hp) (args : Args) (us : List Value) (vs : List V) (Q : VK) (E : XK), Room k A → (Γ.gk = true → A.guards = some []) → Env0 Γ.P Γ.w Γ.K Γ.mg Γ.base A outer s H → BindsTo s fd args (ps.zip us) → Vals vs us → sp vs H Q E →
    codeAny (model Γ.P Γ.w) A (.call (.ref f) args) (CR (CX Γ.P Γ.w) outer Γ.P Γ.w H s Q E) s
end
section
variable {Γ : Wd}
theorem FnG.mono {j k : Nat} {f : Addr} {fd : FuncData} {ps : List Str} {sp : Sp} (F : FnG Γ j f fd ps sp) (h : j ≤ k) : FnG Γ k f fd ps sp :=
  ⟨F.len, fun A outer s H args us vs Q E hr hg => F.run A outer s H args us vs Q E (hr.mono h) hg⟩
theorem ArgOk.length : ∀ {io : List Bool} {svs : List SV}, ArgOk io svs → svs.length = io.length
  | _, _, .nil => rfl
  | _, _, .io h => by simp [h.length]
  | _, _, .dat h => by simp [h.length]
/-- a def's own context -/
structure DefCx (X : Cx) : Prop where
  st : X.stack = X.env :: X.outer
  fr : X.env.frame = some X.env.locals
/-- THE RULE, the call's side: a def by its body -/
theorem fnG_run {k : Nat} {f : Addr} {x qual : Str} {st : Stmt} {fd : FuncData} {N ps : List Str} {sp : Sp} (F : Fun Γ.K x qual st f fd) (S : FnScope N ps (defScope st)) (len : ∀ vs H Q E, sp vs H Q E → vs.length = ps.length)
    (body : ∀ (cdv : Value), fd.code = cdv → ∀ (A : Around) (outer : List Env) (s : Shared) (H : Hp) (vs : List V) (Q : VK) (E : XK), Room k (A.deeper (envOfC qual (defScope st) s.heap.objs.size f cdv)) → (Γ.gk = true → (A.deeper (envOfC qual (defScope st) s.heap.objs.size f cdv)).guards = some []) → sp vs H Q E →
      wpXSs (cxOf (CX Γ.P Γ.w) Γ.P Γ.w Γ.K Γ.mg Γ.base N qual (defScope st) f cdv A outer s H E) (defBody st) { nx := fun _ H' => Q .non H', rt := Q } (L2.start N vs) H) : FnG Γ (k + 1) f fd ps sp := by
  obtain ⟨oc, od, kV, doc, pm, an, cdv, ct, osl, rfl, lk, hcd⟩ := F.ex
  refine ⟨len, fun A outer s H args us vs Q E room guards e0 binds rel want => ?_⟩
  have hl := len _ _ _ _ want
  have kin : Γ.K.In s.heap := e0.mod.kin.keeps fun b o z => (e0.bs b o z).1
  have nolim : s.heap.NoLimit := e0.mod.nolimit.keeps fun b o z => (e0.bs b o z).1
  have kinds : ∀ y ∈ ps.zip us, (defScope st).names.lookup y.1 = some .local ∨ ((defScope st).names.lookup y.1 = some .cell ∧ ((cellsFrom (s.heap.objs.size + 1) (defScope st).names []).lookup y.1).isSome = true) := by
    rintro ⟨n, v⟩ hy
    rcases S.par n (List.of_mem_zip hy).1 with q | q
    · exact Or.inl q
    · exact Or.inr ⟨q, PySem.W.cellsFrom_some _ _ _ (Or.inl q)⟩
  refine codeAny_call_function room.depth (kin _ _ lk) rfl S.co S.gen rfl (PySem.W.codeRec_of kin hcd) (binds _ _ _ _ (wpAny_newFunctionEnv_cells S.kind kinds fun env he s1 xx => ?_))
  subst he
  refine ⟨nolim.keeps xx.toInCall.keep, codeAny_func ?_⟩
  have I0 := inv_start (CX := CX Γ.P Γ.w) (P := Γ.P) (w := Γ.w) (E := E) S room.hd e0 hl rel xx
  refine wpAny_mono (body cdv rfl A outer s H vs Q E (room.deeper _) (fun z => by show A.guards = _; exact guards z) want [] s1 I0) (fun fl s' ends => ?_) fun _ _ z => z
  have done : ∀ {σ' : Sg} {H' : Hp} {v : V} {u : Value}, Inv (cxOf (CX Γ.P Γ.w) Γ.P Γ.w Γ.K Γ.mg Γ.base N qual (defScope st) f cdv A outer s H E) [] σ' H' s' → RelV v u → Q v H' → CE outer Γ.P Γ.w H s Q u s' := by
    intro σ' H' v u J rv q
    exact ⟨v, H', J.os, J.bare, J.base, J.hok, rv, q⟩
  cases fl with
  | next => obtain ⟨σ', H', J, q⟩ := ends; exact done (v := V.non) (u := Value.none) J rfl q
  | ret u => obtain ⟨v, σ', H', J, rv, q⟩ := ends; exact done J rv q
  | brk => obtain ⟨_, _, _, q⟩ := ends; exact q.elim
  | cont => obtain ⟨_, _, _, q⟩ := ends; exact q.elim
/-- the arguments at the end -/
theorem args_end {F' H' : Hp} : ∀ {io : List Bool} {svs svs' : List SV} {vs : List V} {σ' : Sg} {ρ' : Rho} {A' : List Addr}, Sl Γ.K Γ.cl F' H' σ' ρ' A' → ArgOk io svs → vs.length = io.length →
    (∀ (i : Nat) (v : V), io[i]? = some true → vs[i]? = some v → σ'[i]? = some (some v)) → (∀ (i : Nat) (v : V) (x : D), vs[i]? = some v → svs[i]? = some (SV.d x) → rep Γ F' v x) → endA io svs ρ' = some svs' →
    ∃ A'', Sl Γ.K Γ.cl F' H' (vs.map some) (svs'.map some) A'' ∧ A''.Sublist A'
  | [], svs, svs', vs, σ', ρ', A', s, ok, hl, h1, h2, e => by
    cases ok
    cases vs with
    | nil => simp [endA] at e; subst e; exact ⟨[], .nil, List.nil_sublist _⟩
    | cons _ _ => simp at hl
  | true :: io, svs, svs', vs, σ', ρ', A', s, ok, hl, h1, h2, e => by
    cases ok with
    | io ok =>
      cases vs with
      | nil => simp at hl
      | cons v vs =>
        cases s with
        | nil => simp [endA] at e
        | skip s => simp [endA] at e
        | @one v' sv B σ ρ A r s =>
          unfold endA at e
          split at e
          · rename_i r' e1
            cases e
            have q := h1 0 v rfl rfl
            simp at q; subst q
            obtain ⟨A2, s2, sb⟩ := args_end s ok (by simpa using hl) (fun i v a b => by simpa using h1 (i + 1) v (by simpa using a) (by simpa using b)) (fun i v x a b => h2 (i + 1) v x (by simpa using a) (by simpa using b)) e1
            exact ⟨B ++ A2, .one r s2, List.Sublist.append_left sb _⟩
          · cases e
  | false :: io, svs, svs', vs, σ', ρ', A', s, ok, hl, h1, h2, e => by
    cases ok with
    | @dat _ sv ok x =>
      cases vs with
      | nil => simp at hl
      | cons v vs =>
        have go : ∀ {σ : Sg} {ρ : Rho} {A : List Addr} {r' : List SV}, Sl Γ.K Γ.cl F' H' σ ρ A → endA io sv ρ = some r' → (∀ (i : Nat) (v : V), io[i]? = some true → vs[i]? = some v → σ[i]? = some (some v)) → ∃ A'', Sl Γ.K Γ.cl F' H' ((v :: vs).map some) (((SV.d x) :: r').map some) A'' ∧ A''.Sublist A := fun {σ ρ A r'} s e1 h1' => by
          obtain ⟨A2, s2, sb⟩ := args_end s ok (by simpa using hl) h1' (fun i v x a b => h2 (i + 1) v x (by simpa using a) (by simpa using b)) e1
          exact ⟨[] ++ A2, .one (by unfold RS; exact ⟨h2 0 v x rfl rfl, rfl⟩) s2, by simpa using sb⟩
        cases s with
        | nil => simp [endA] at e
        | skip s =>
          unfold endA at e
          split at e
          · rename_i r' e1
            cases e
            exact go s e1 fun i v a b => by simpa using h1 (i + 1) v (by simpa using a) (by simpa using b)
          · cases e
        | one r s =>
          unfold endA at e
          split at e
          · rename_i r' e1
            cases e
            obtain ⟨A2, s2, sb⟩ := go s e1 fun i v a b => by simpa using h1 (i + 1) v (by simpa using a) (by simpa using b)
            exact ⟨A2, s2, sb.trans (List.sublist_append_right _ _)⟩
          · cases e
theorem lk_mem : ∀ {io : List Bool} {n i : Nat}, io[i]? = some true → n + i ∈ lkOf io n
  | [], n, i, h => by simp at h
  | b :: io, n, 0, h => by
    simp at h; subst h
    unfold lkOf
    simp
  | true :: io, n, i + 1, h => by
    unfold lkOf
    refine List.mem_cons_of_mem _ ?_
    have := lk_mem (io := io) (n := n + 1) (i := i) (by simpa using h)
    rw [show n + (i + 1) = n + 1 + i by omega]
    exact this
  | false :: io, n, i + 1, h => by
    unfold lkOf
    have := lk_mem (io := io) (n := n + 1) (i := i) (by simpa using h)
    rw [show n + (i + 1) = n + 1 + i by omega]
    exact this
def startR (N : List Str) (svs : List SV) : Rho := svs.map some ++ List.replicate (N.length - svs.length) none
def endsOf (io : List Bool) (svs : List SV) (Q : SV → List SV → Prop) : Nd where
  nx := fun ρ => match endA io svs ρ with
    | some svs' => Q (.d .non) svs'
    | none => False
  rt := fun sv ρ => match sv with
    | .sl _ => False
    | sv => match endA io svs ρ with
      | some svs' => Q sv svs'
      | none => False
  bk := fun _ => False
  ct := fun _ => False
def errsOf (io : List Bool) (svs : List SV) (E : Nat → D → List SV → Prop) : EK := fun k x ρ => match endA io svs ρ with
  | some svs' => E k x svs'
  | none => False
theorem Sl.start {F H : Hp} : ∀ {vs : List V} {svs : List SV} {A : List Addr} (n : Nat), Sl Γ.K Γ.cl F H (vs.map some) (svs.map some) A → Sl Γ.K Γ.cl F H (vs.map some ++ List.replicate n none) (svs.map some ++ List.replicate n none) A := fun {vs svs A} n s => by
  have key : ∀ {σ : Sg} {ρ : Rho} {A : List Addr}, Sl Γ.K Γ.cl F H σ ρ A → Sl Γ.K Γ.cl F H (σ ++ List.replicate n none) (ρ ++ List.replicate n none) A := fun {σ ρ A} s => by
    induction s with
    | nil =>
      rw [List.nil_append, List.nil_append]
      induction n with
      | zero => exact .nil
      | succ n ih => rw [List.replicate_succ, List.replicate_succ]; exact .skip ih
    | skip _ ih => exact .skip ih
    | one r _ ih => exact .one r ih
  exact key s
/-- THE RULE: a def keeps its contract -/
theorem fnG_ofL {k : Nat} {f : Addr} {x qual : Str} {st : Stmt} {fd : FuncData} {N ps : List Str} {io : List Bool} {con : Con} {w : WS} (F : Fun Γ.K x qual st f fd) (S : FnScope N ps (defScope st)) (bn : ∀ x ∈ bnames, Γ.mg x = none) (hio : io.length = ps.length)
    (tr : ∀ X, Ctx Γ X N (defScope st) (fun _ => true) k → Own X → DefCx X → X.env.code = fd.code → X.env.qual = qual ++ ".<locals>." → SSs Γ (lkOf io 0) X (defBody st) w)
    (law : ∀ svs Q E, ArgOk io svs → con svs Q E → w (startR N svs) (endsOf io svs Q) (errsOf io svs E)) : FnG Γ (k + 1) f fd ps (spC Γ io con) := by
  have hlen : ∀ vs H Q E, spC Γ io con vs H Q E → vs.length = ps.length := by
    rintro vs H Q E ⟨F, A, svs, Qc, Ec, ok, hh, _⟩
    have := hh.len
    simp only [List.length_map] at this
    rw [this, ok.length, hio]
  refine fnG_run F S hlen fun cdv ecd A outer s H vs Q E room guards want pins s1 I => ?_
  have hvl := hlen vs H Q E want
  obtain ⟨F0, A0, svs, Qc, Ec, ok, hh, hcon, hq, he⟩ := want
  have hvs : vs.length = io.length := by rw [hvl, hio]
  have hsv : svs.length = vs.length := by rw [ok.length, hvs]
  generalize hX : cxOf (CX Γ.P Γ.w) Γ.P Γ.w Γ.K Γ.mg Γ.base N qual (defScope st) f cdv A outer s H E = X at I ⊢
  have C : Ctx Γ X N (defScope st) (fun _ => true) k := by
    subst hX
    exact ⟨rfl, rfl, rfl, rfl, rfl, rfl, S.nd, rfl, rfl, room, guards, rfl, bn⟩
  have P : Own X := by
    subst hX
    exact passes_of rfl
  have ec : X.env.code = fd.code := by
    subst hX
    exact ecd.symm
  have eq : X.env.qual = qual ++ ".<locals>." := by
    subst hX
    rfl
  have dc : DefCx X := by
    subst hX
    exact ⟨rfl, rfl⟩
  have tk : Takes X fun cls d _ H => E cls d H := by
    subst hX
    exact takes_of rfl rfl rfl rfl
  have hold0 : hold Γ (L2.start N vs) F0 H (startR N svs) A0 := by
    obtain ⟨A1, sl, p⟩ := hh.sl
    refine ⟨⟨A1, ?_, p⟩, hh.sub, hh.nd, hh.av, hh.tb⟩
    unfold L2.start startR
    rw [hsv]
    exact Sl.start _ sl
  -- data arguments stand
  have dat : ∀ (i : Nat) (v : V) (x : D), vs[i]? = some v → svs[i]? = some (SV.d x) → rep Γ F0 v x := fun i v x a b => by
    obtain ⟨A1, sl, _⟩ := hh.sl
    obtain ⟨v', B, _, h1, h2, _⟩ := sl.at (i := i) (sv := .d x) (by rw [List.getElem?_map, b]; rfl)
    rw [List.getElem?_map, a] at h1
    cases h1
    unfold RS at h2
    exact h2.1
  have fin : ∀ {σ' : Sg} {F' H' : Hp} {ρ' : Rho} {A' : List Addr} {svs' : List SV}, Kp (lkOf io 0) (L2.start N vs) σ' → Same F0 F' → hold Γ σ' F' H' ρ' A' → endA io svs ρ' = some svs' → ∃ A'', hold Γ (vs.map some) F' H' (svs'.map some) A'' ∧ ∀ a ∈ A'', a ∈ A' := fun {σ' F' H' ρ' A' svs'} kp sf h' e => by
    refine hold_sub h' fun s => args_end s ok hvs (fun i v a b => ?_) (fun i v x a b => R.mono sf (dat i v x a b)) e
    have hi : i < vs.length := (List.getElem?_eq_some_iff.mp b).1
    rw [kp i (by simpa using lk_mem (n := 0) a)]
    unfold L2.start
    rw [List.getElem?_append_left (by simpa using hi), List.getElem?_map, b]
    rfl
  refine (tr X C P dc ec eq).run (L2.start N vs) F0 H A0 (startR N svs) (endsOf io svs Qc) (errsOf io svs Ec) _ _ hold0 tk ?_ ⟨?_, fun _ z => z.elim, fun _ z => z.elim, ?_⟩ (law svs Qc Ec ok hcon) pins s1 I
  · intro σ1 kp n x ρ' z F' H' A' dx v xx h' hd hr
    unfold errsOf at z
    cases e : endA io svs ρ' with
    | none => simp only [e] at z
    | some svs' =>
      simp only [e] at z
      obtain ⟨A2, h2, s2⟩ := fin kp xx.sf h' e
      exact he n x svs' z F' H' A2 dx v (xx.sub s2) h2 hd hr
  · intro ρ' z σ' F' H' A' kp x h'
    unfold endsOf at z
    cases e : endA io svs ρ' with
    | none => simp only [e] at z
    | some svs' =>
      simp only [e] at z
      obtain ⟨A2, h2, s2⟩ := fin kp x.sf h' e
      exact hq _ svs' z .non F' H' A2 [] ((Out.now h2 (rs_d (by unfold rep R; rfl))).pre (x.sub s2))
  · intro sv ρ' z σ' v F' H' A' B kp o
    have z' : (∀ i, sv ≠ .sl i) ∧ (match endA io svs ρ' with
      | some svs' => Qc sv svs'
      | none => False) := by
      unfold endsOf at z
      cases sv with
      | sl i => exact z.elim
      | _ => exact ⟨(fun i q => by cases q), z⟩
    obtain ⟨nsl, z⟩ := z'
    cases e : endA io svs ρ' with
    | none => simp only [e] at z
    | some svs' =>
      simp only [e] at z
      obtain ⟨A2, h2, s2⟩ := fin kp o.oe.sf o.oh e
      have sB : ∀ a ∈ B ++ A2, a ∈ B ++ A' := fun a m => (List.mem_append.mp m).elim (fun q => List.mem_append_left _ q) fun q => List.mem_append_right _ (s2 a q)
      refine hq sv svs' z v F' H' A2 B ⟨o.oe.sub sB, h2, ?_, ?_, o.ofb⟩
      · have r := o.ors
        cases sv with
        | sl i => exact absurd rfl (nsl i)
        | _ => exact r
      · rw [List.nodup_append]
        have nd := List.nodup_append.mp o.ond
        exact ⟨nd.1, h2.nd, fun a m b n => nd.2.2 a m b (s2 b n)⟩

theorem fnG_of {k : Nat} {f : Addr} {x qual : Str} {st : Stmt} {fd : FuncData} {N ps : List Str} {io : List Bool} {con : Con} {w : WS} (F : Fun Γ.K x qual st f fd) (S : FnScope N ps (defScope st)) (bn : ∀ x ∈ bnames, Γ.mg x = none) (hio : io.length = ps.length)
    (tr : ∀ X, Ctx Γ X N (defScope st) (fun _ => true) k → Own X → DefCx X → SSs Γ (lkOf io 0) X (defBody st) w)
    (law : ∀ svs Q E, ArgOk io svs → con svs Q E → w (startR N svs) (endsOf io svs Q) (errsOf io svs E)) : FnG Γ (k + 1) f fd ps (spC Γ io con) :=
  fnG_ofL F S bn hio (fun X a b c _ _ => tr X a b c) law
/-! ### arguments go in, and come back -/
def passA : List Bool → List SV → Rho → (List SV → Rho → Prop) → Prop
  | [], [], ρ, K => K [] ρ
  | true :: io, .sl i :: svs, ρ, K => match ρ[i]? with
    | some (some c) => passA io svs (ρ.set i none) fun as ρ1 => K (c :: as) ρ1
    | _ => False
  | true :: io, sv :: svs, ρ, K => passA io svs ρ fun as ρ1 => K (sv :: as) ρ1
  | false :: io, sv :: svs, ρ, K => keep sv ρ fun x ρ1 => passA io svs ρ1 fun as ρ2 => K (.d x :: as) ρ2
  | _, _, _, _ => False
def backA : List Bool → List SV → List SV → Rho → (Rho → Prop) → Prop
  | [], [], [], ρ, K => K ρ
  | true :: io, .sl i :: svs, c :: as, ρ, K => backA io svs as (ρ.set i (some c)) K
  | _ :: io, _ :: svs, _ :: as, ρ, K => backA io svs as ρ K
  | _, _, _, _, _ => False
theorem nodup3 {α : Type} {B A C : List α} (h : ((B ++ C) ++ A).Nodup) : (B ++ A).Nodup ∧ (C ++ A).Nodup ∧ (∀ b ∈ C, b ∉ B ++ A) := by
  rw [List.append_assoc] at h
  have h1 := List.nodup_append.mp h
  have h2 := List.nodup_append.mp h1.2.1
  refine ⟨List.nodup_append.mpr ⟨h1.1, h2.2.1, fun a m b n => h1.2.2 a m b (List.mem_append_right _ n)⟩, h1.2.1, fun b m n => ?_⟩
  rcases List.mem_append.mp n with n | n
  · exact h1.2.2 b n b (List.mem_append_left _ m) rfl
  · exact h2.2.2 b m b n rfl
theorem passA_ok {σ : Sg} {H : Hp} : ∀ {io : List Bool} {svs : List SV} {vs : List V} {F : Hp} {A B : List Addr} {ρ : Rho} {Kp : List SV → Rho → Prop}, hold Γ σ F H ρ A → rsL Γ σ F H vs svs B → (B ++ A).Nodup → (∀ b ∈ B, F b = none) → passA io svs ρ Kp →
    ∃ as ρ' F' A' C, Kp as ρ' ∧ Ext F H (B ++ A) F' H (C ++ A') ∧ hold Γ σ F' H ρ' A' ∧ Sl Γ.K Γ.cl F' H (vs.map some) (as.map some) C ∧ (C ++ A').Nodup ∧ (∀ c ∈ C, F' c = none) ∧ ArgOk io as ∧ vs.length = io.length ∧ ∀ a o, F' a = some o → F a = some o ∨ a ∈ B ++ A
  | [], [], vs, F, A, B, ρ, Kp, hh, r, nd, fb, hk => by
    obtain ⟨rfl, rfl⟩ := r
    exact ⟨[], ρ, F, A, [], hk, Ext.refl, hh, .nil, hh.nd, (fun _ m => nomatch m), .nil, rfl, fun a o e => .inl e⟩
  | [], sv :: svs, _, _, _, _, _, _, _, _, _, _, hk => by unfold passA at hk; exact hk.elim
  | true :: io, [], _, _, _, _, _, _, _, _, _, _, hk => by unfold passA at hk; exact hk.elim
  | false :: io, [], _, _, _, _, _, _, _, _, _, _, hk => by unfold passA at hk; exact hk.elim
  | false :: io, sv :: svs, vs, F, A, B, ρ, Kp, hh, r, nd, fb, hk => by
    obtain ⟨v, r', B1, B2, rfl, h2, h3, rfl⟩ := r
    have hk : keep sv ρ fun x ρ1 => passA io svs ρ1 fun as ρ2 => Kp (.d x :: as) ρ2 := by
      cases sv <;> (unfold passA at hk; exact hk)
    obtain ⟨nd1, nd2, dis⟩ := nodup3 nd
    obtain ⟨d, ρ1, F1, A1, hk, x1, hh1, rd1, w1⟩ := keep_ok hh h2 nd1 (fun b m => fb b (List.mem_append_left _ m)) hk
    have fb2 : ∀ b ∈ B2, F1 b = none := fun b m => by
      cases e : F1 b with
      | none => rfl
      | some o =>
        rcases w1 b o e with q | q
        · rw [fb b (List.mem_append_right _ m)] at q; cases q
        · exact absurd q (dis b m)
    have sub1 : ∀ b ∈ A1, b ∈ B1 ++ A := fun b m => by
      rcases x1.na b m with q | q
      · exact q
      · obtain ⟨o, e, _⟩ := hh1.own b m
        rw [q] at e; cases e
    have nd3 : (B2 ++ A1).Nodup := List.nodup_append.mpr ⟨(List.nodup_append.mp nd2).1, hh1.nd, fun a m b n z => dis a m (sub1 a (by rw [z]; exact n))⟩
    obtain ⟨as, ρ2, F2, A2, C, hk2, x2, hh2, s2, nd4, fc, ok, hl, w2⟩ := passA_ok hh1 (rsL_mono x1.sf (fun _ _ _ e => .inl e) h3) nd3 fb2 hk
    refine ⟨.d d :: as, ρ2, F2, A2, [] ++ C, hk2, ?_, hh2, .one (B := []) (by unfold RS; exact ⟨R.mono x2.sf rd1, rfl⟩) s2, by simpa using nd4, by simpa using fc, .dat ok, by simp [hl], fun a o e => ?_⟩
    · have y := (x1.frame (B := B2)).trans x2
      rw [List.nil_append]
      refine ⟨y.sf, fun _ _ e _ => .inl e, fun a u e => ?_, fun a m => ?_⟩
      · rcases y.nf a u e with q | q | q
        · exact .inl q
        · exact .inr (.inl q)
        · refine .inr (.inr ?_)
          simp only [List.mem_append] at q ⊢
          rcases q with q | q | q
          · exact .inl (.inr q)
          · exact .inl (.inl q)
          · exact .inr q
      · rcases y.na a m with q | q
        · refine .inl ?_
          simp only [List.mem_append] at q ⊢
          rcases q with q | q | q
          · exact .inl (.inr q)
          · exact .inl (.inl q)
          · exact .inr q
        · exact .inr q
    · rcases w2 a o e with q | q
      · rcases w1 a o q with q | q
        · exact .inl q
        · refine .inr ?_
          simp only [List.mem_append] at q ⊢
          rcases q with q | q
          · exact .inl (.inl q)
          · exact .inr q
      · refine .inr ?_
        rcases List.mem_append.mp q with q | q
        · simp [q]
        · have := sub1 a q
          simp only [List.mem_append] at this ⊢
          rcases this with q | q
          · exact .inl (.inl q)
          · exact .inr q
  | true :: io, sv :: svs, vs, F, A, B, ρ, Kp, hh, r, nd, fb, hk => by
    obtain ⟨v, r', B1, B2, rfl, h2, h3, rfl⟩ := r
    obtain ⟨nd1, nd2, dis⟩ := nodup3 nd
    -- a value goes in with what it owns (B0), the slots own A0
    have go : ∀ {ρ0 : Rho} {B0 A0 : List Addr} {c : SV}, hold Γ σ F H ρ0 A0 → RS Γ.K Γ.cl F H v c B0 → (B0 ++ A0).Nodup → (∀ b ∈ B0, F b = none) → (∀ a, a ∈ B0 ++ A0 ↔ a ∈ B1 ++ A) → passA io svs ρ0 (fun as ρ1 => Kp (c :: as) ρ1) →
        ∃ as ρ' F' A' C, Kp as ρ' ∧ Ext F H ((B1 ++ B2) ++ A) F' H (C ++ A') ∧ hold Γ σ F' H ρ' A' ∧ Sl Γ.K Γ.cl F' H ((v :: r').map some) (as.map some) C ∧ (C ++ A').Nodup ∧ (∀ c ∈ C, F' c = none) ∧ ArgOk (true :: io) as ∧ (v :: r').length = (true :: io).length ∧ ∀ a o, F' a = some o → F a = some o ∨ a ∈ (B1 ++ B2) ++ A := by
      intro ρ0 B0 A0 c h0 rc n0 f0 same hk
      have dis0 : ∀ b ∈ B2, b ∉ B0 ++ A0 := fun b m n => dis b m ((same b).mp n)
      have n20 : (B2 ++ A0).Nodup := List.nodup_append.mpr ⟨(List.nodup_append.mp nd2).1, h0.nd, fun a m b n z => dis0 a m (List.mem_append_right _ (by rw [z]; exact n))⟩
      obtain ⟨as, ρ2, F2, A2, C, hk2, x2, hh2, s2, nd4, fc, ok, hl, w2⟩ := passA_ok h0 h3 n20 (fun b m => fb b (List.mem_append_right _ m)) hk
      have f2 : ∀ b ∈ B0, F2 b = none := fun b m => by
        cases e : F2 b with
        | none => rfl
        | some o =>
          rcases w2 b o e with q | q
          · rw [f0 b m] at q; cases q
          · rcases List.mem_append.mp q with q | q
            · exact absurd (List.mem_append_left _ m) (dis0 b q)
            · exact absurd rfl ((List.nodup_append.mp n0).2.2 b m b q)
      have notC : ∀ b ∈ B0, b ∉ C ++ A2 := fun b m n => by
        rcases x2.na b n with q | q
        · rcases List.mem_append.mp q with q | q
          · exact dis0 b q (List.mem_append_left _ m)
          · exact (List.nodup_append.mp n0).2.2 b m b q rfl
        · obtain ⟨o, e, _⟩ := RS.own rc b m
          rw [q] at e; cases e
      have mem : ∀ a, a ∈ B0 ++ (B2 ++ A0) → a ∈ (B1 ++ B2) ++ A := fun a m => by
        simp only [List.mem_append] at m ⊢
        have s := same a
        simp only [List.mem_append] at s
        rcases m with m | m | m
        · rcases s.mp (.inl m) with q | q
          · exact .inl (.inl q)
          · exact .inr q
        · exact .inl (.inr m)
        · rcases s.mp (.inr m) with q | q
          · exact .inl (.inl q)
          · exact .inr q
      refine ⟨c :: as, ρ2, F2, A2, B0 ++ C, hk2, ⟨x2.sf, fun _ _ e _ => .inl e, fun a u e => ?_, fun a m => ?_⟩, hh2, .one (RS.mono x2.sf (fun _ _ _ e => .inl e) rc) s2, ?_, fun b m => ?_, .io ok, by simp [hl], fun a o e => ?_⟩
      · rcases w2 a u e with q | q
        · exact .inl q
        · exact .inr (.inr (mem a (List.mem_append_right _ q)))
      · rw [List.append_assoc] at m
        rcases List.mem_append.mp m with q | q
        · exact .inl (mem a (List.mem_append_left _ q))
        · rcases x2.na a q with z | z
          · exact .inl (mem a (List.mem_append_right _ z))
          · exact .inr z
      · rw [List.append_assoc]
        exact List.nodup_append.mpr ⟨(List.nodup_append.mp n0).1, nd4, fun a m b n z => notC a m (by rw [z]; exact n)⟩
      · rcases List.mem_append.mp m with q | q
        · exact f2 b q
        · exact fc b q
      · rcases w2 a o e with q | q
        · exact .inl q
        · exact .inr (mem a (List.mem_append_right _ q))
    cases sv with
    | sl i =>
      obtain ⟨ri, rfl⟩ := h2
      unfold passA at hk
      obtain ⟨A1, sl, p⟩ := hh.sl
      cases e : ρ[i]? with
      | none => simp [e] at hk
      | some z =>
        cases z with
        | none => simp [e] at hk
        | some c =>
          simp only [e] at hk
          obtain ⟨v', B', A0, q1, q2, q3, q4⟩ := Sl.del sl e
          rw [ri] at q1; cases q1
          have pA : A.Perm (B' ++ A0) := p.symm.trans q3
          have nA : (B' ++ A0).Nodup := pA.nodup_iff.mp hh.nd
          exact go ⟨⟨A0, q4, .refl _⟩, hh.sub, (List.nodup_append.mp nA).2.1, fun a m => hh.av a (pA.mem_iff.mpr (List.mem_append_right _ m)), hh.tb⟩ q2 nA (fun b m => hh.av b (pA.mem_iff.mpr (List.mem_append_left _ m))) (fun a => by rw [List.nil_append]; exact pA.mem_iff.symm) hk
    | d x => exact go hh h2 nd1 (fun b m => fb b (List.mem_append_left _ m)) (fun a => Iff.rfl) hk
    | lst x => exact go hh h2 nd1 (fun b m => fb b (List.mem_append_left _ m)) (fun a => Iff.rfl) hk
    | ins _ _ => exact go hh h2 nd1 (fun b m => fb b (List.mem_append_left _ m)) (fun a => Iff.rfl) hk
    | dct _ => exact go hh h2 nd1 (fun b m => fb b (List.mem_append_left _ m)) (fun a => Iff.rfl) hk
    | fl _ _ => exact go hh h2 nd1 (fun b m => fb b (List.mem_append_left _ m)) (fun a => Iff.rfl) hk
theorem set_self {σ : Sg} {i : Nat} {v : V} (h : σ[i]? = some (some v)) : σ.set i (some v) = σ := by
  apply List.ext_getElem?
  intro j
  by_cases hj : i = j
  · subst hj
    rw [List.getElem?_set_self (List.getElem?_eq_some_iff.mp h).1, h]
  · rw [List.getElem?_set_ne hj]
theorem backA_ok {σ : Sg} {F H : Hp} : ∀ {io : List Bool} {svs as : List SV} {vs : List V} {A C : List Addr} {ρ : Rho} {Kp : Rho → Prop}, hold Γ σ F H ρ A → Sl Γ.K Γ.cl F H (vs.map some) (as.map some) C → (C ++ A).Nodup → (∀ c ∈ C, F c = none) →
    (∀ (j i : Nat) (v : V), svs[j]? = some (SV.sl i) → vs[j]? = some v → σ[i]? = some (some v)) → backA io svs as ρ Kp → ∃ ρ' A', Kp ρ' ∧ hold Γ σ F H ρ' A' ∧ ∀ a ∈ A', a ∈ C ++ A
  | [], [], [], vs, A, C, ρ, Kp, hh, s, nd, fc, sl, hk => ⟨ρ, A, hk, hh, fun a m => List.mem_append_right _ m⟩
  | b :: io, sv :: svs, c :: as, vs, A, C, ρ, Kp, hh, s, nd, fc, sl, hk => by
    cases vs with
    | nil => cases s
    | cons v vs =>
      have s' : Sl Γ.K Γ.cl F H (some v :: vs.map some) (some c :: as.map some) C := s
      cases s' with
      | @one _ _ B0 _ _ C0 r st =>
        obtain ⟨nd1, nd2, dis⟩ := nodup3 nd
        have drop : backA io svs as ρ Kp → ∃ ρ' A', Kp ρ' ∧ hold Γ σ F H ρ' A' ∧ ∀ a ∈ A', a ∈ (B0 ++ C0) ++ A := fun hk => by
          obtain ⟨ρ', A', h1, h2, h3⟩ := backA_ok hh st nd2 (fun c m => fc c (List.mem_append_right _ m)) (fun j i v a b => sl (j + 1) i v (by simpa using a) (by simpa using b)) hk
          exact ⟨ρ', A', h1, h2, fun a m => by have := h3 a m; simp only [List.mem_append] at this ⊢; exact this.elim (fun q => .inl (.inr q)) .inr⟩
        cases b with
        | false =>
          have hk : backA io svs as ρ Kp := by cases sv <;> (unfold backA at hk; exact hk)
          exact drop hk
        | true =>
          cases sv with
          | sl i =>
            unfold backA at hk
            have e := sl 0 i v rfl rfl
            obtain ⟨A1, h1, s1⟩ := hold_put (i := i) hh r nd1 (fun b m => fc b (List.mem_append_left _ m)) (List.getElem?_eq_some_iff.mp e).1
            rw [set_self e] at h1
            have nd3 : (C0 ++ A1).Nodup := List.nodup_append.mpr ⟨(List.nodup_append.mp nd2).1, h1.nd, fun a m b n z => dis a m (s1 a (by rw [z]; exact n))⟩
            obtain ⟨ρ', A', h4, h5, h6⟩ := backA_ok h1 st nd3 (fun c m => fc c (List.mem_append_right _ m)) (fun j i v a b => sl (j + 1) i v (by simpa using a) (by simpa using b)) hk
            refine ⟨ρ', A', h4, h5, fun a m => ?_⟩
            rcases List.mem_append.mp (h6 a m) with q | q
            · simp [q]
            · have := s1 a q
              simp only [List.mem_append] at this ⊢
              exact this.elim (fun z => .inl (.inl z)) .inr
          | _ => unfold backA at hk; exact drop hk
  | [], [], _ :: _, _, _, _, _, _, _, _, _, _, _, hk => by simp only [backA] at hk
  | [], _ :: _, _, _, _, _, _, _, _, _, _, _, _, hk => by simp only [backA] at hk
  | _ :: _, [], _, _, _, _, _, _, _, _, _, _, _, hk => by simp only [backA] at hk
  | true :: _, .sl _ :: _, [], _, _, _, _, _, _, _, _, _, _, hk => by simp only [backA] at hk
  | b :: _, sv :: _, [], _, _, _, _, _, _, _, _, _, _, hk => by cases b <;> cases sv <;> (simp only [backA] at hk)
def wCallK (io : List Bool) (con : Con) (svs : List SV) (ρ : Rho) (Q : WK) (E : EK) : Prop :=
  passA io svs ρ fun as ρ1 => con as (fun r as' => match r with
    | .sl _ => False
    | r => backA io svs as' ρ1 fun ρ2 => Q r ρ2) (fun n x as' => backA io svs as' ρ1 fun ρ2 => E n x ρ2)
def wCall (io : List Bool) (con : Con) (wa : WA) : WE := fun ρ Q E => wa ρ (fun svs ρ1 => wCallK io con svs ρ1 Q E) E

section
variable {X : Cx} {N : List Str} {sc : Scope} {fp : Str → Bool} {k : Nat}
theorem rsL_sl {σ : Sg} {F H : Hp} : ∀ {svs : List SV} {vs : List V} {B : List Addr}, rsL Γ σ F H vs svs B → ∀ (j i : Nat) (v : V), svs[j]? = some (SV.sl i) → vs[j]? = some v → σ[i]? = some (some v)
  | [], _, _, _, j, i, v, a, _ => by simp at a
  | x :: xs, vs, B, h, j, i, v, a, b => by
    obtain ⟨u, r, B1, B2, rfl, h2, h3, _⟩ := h
    cases j with
    | zero =>
      simp at a b
      subst a b
      exact h2.1
    | succ j => exact rsL_sl h3 j i v (by simpa using a) (by simpa using b)
/-- from the caller's side to the callee's promise -/
theorem call_core {io : List Bool} {con : Con} {σ : Sg} {F H F1 H1 : Hp} {A A1 B1 : List Addr} {ρ1 : Rho} {svs : List SV} {vs : List V} {Q : WK} {E : EK} {QV : VK} {W : WX} (o : OutL Γ σ F H A ρ1 svs vs F1 H1 A1 B1) (el : EL Γ σ F H A E W) (hw : wCallK io con svs ρ1 Q E)
    (hq : ∀ sv ρ', Q sv ρ' → ∀ v F' H' A' B, Out Γ σ F H A ρ' sv v F' H' A' B → QV v H') : spC Γ io con vs H1 QV (fun cls d H' => W cls d σ H') := by
  obtain ⟨as, ρ2, F2, A2, C, hcon, x2, h2, s2, nd2, fc, ok, hl, _⟩ := passA_ok o.oh o.ors o.ond o.ofb hw
  have x12 := o.oe.trans x2
  -- what the caller keeps, behind the callee
  have after : ∀ {as' : List SV} {F3 H3 : Hp} {A3 : List Addr} {ρ3 : Rho → Prop}, Ext F2 H1 C F3 H3 A3 → hold Γ (vs.map some) F3 H3 (as'.map some) A3 → backA io svs as' ρ2 ρ3 → ∃ ρ4 A4, ρ3 ρ4 ∧ hold Γ σ F3 H3 ρ4 A4 ∧ (∀ a ∈ A4, a ∈ A3 ++ A2) ∧ hold Γ σ F3 H3 ρ2 A2 ∧ (∀ a ∈ A2, a ∉ A3) := by
    intro as' F3 H3 A3 ρ3 x3 h3 hb
    have nC : ∀ a ∈ A2, a ∉ C := fun a m n => (List.nodup_append.mp nd2).2.2 a n a m rfl
    have tr : ∀ a ∈ A2, ∃ u, H1 a = some u := fun a m => let ⟨u, e, _⟩ := h2.own a m; ⟨u, e⟩
    have nA3 : ∀ a ∈ A2, a ∉ A3 := fun a m n => by
      rcases x3.na a n with q | q
      · exact nC a m q
      · obtain ⟨u, e⟩ := tr a m
        rw [e] at q; cases q
    have h2' : hold Γ σ F3 H3 ρ2 A2 := by
      obtain ⟨Aq, s, p⟩ := h2.sl
      refine ⟨⟨Aq, s.mono x3.sf fun a m u e => x3.fr a u e (nC a (p.mem_iff.mp m)), p⟩, h3.sub, h2.nd, fun a m => ?_, h3.tb⟩
      cases e : F3 a with
      | none => rfl
      | some u =>
        rcases x3.nf a u e with q | q | q
        · rw [h2.av a m] at q; cases q
        · obtain ⟨u', e'⟩ := tr a m
          rw [e'] at q; cases q
        · exact absurd q (nC a m)
    obtain ⟨A4, s4, p4⟩ := h3.sl
    have nd4 : (A4 ++ A2).Nodup := List.nodup_append.mpr ⟨p4.nodup_iff.mpr h3.nd, h2.nd, fun a m b n z => nA3 b n (by rw [← z]; exact p4.mem_iff.mp m)⟩
    obtain ⟨ρ4, A5, q1, q2, q3⟩ := backA_ok h2' s4 nd4 (fun c m => h3.av c (p4.mem_iff.mp m)) (rsL_sl o.ors) hb
    exact ⟨ρ4, A5, q1, q2, fun a m => (List.mem_append.mp (q3 a m)).elim (fun q => List.mem_append_left _ (p4.mem_iff.mp q)) fun q => List.mem_append_right _ q, h2', nA3⟩
  have frm : ∀ {F3 H3 : Hp} {A3 : List Addr}, Ext F2 H1 C F3 H3 A3 → Ext F H A F3 H3 (A3 ++ A2) := fun {F3 H3 A3} x3 => by
    refine x12.trans ⟨x3.sf, fun a u e n => x3.fr a u e fun m => n (List.mem_append_left _ m), fun a u e => ?_, fun a m => ?_⟩
    · rcases x3.nf a u e with q | q | q
      · exact .inl q
      · exact .inr (.inl q)
      · exact .inr (.inr (List.mem_append_left _ q))
    · rcases List.mem_append.mp m with q | q
      · rcases x3.na a q with z | z
        · exact .inl (List.mem_append_left _ z)
        · exact .inr z
      · exact .inl (List.mem_append_right _ q)
  refine ⟨F2, C, as, _, _, ok, ⟨⟨C, s2, .refl _⟩, h2.sub, (List.nodup_append.mp nd2).1, fc, h2.tb⟩, hcon, fun r as' hr v F3 H3 A3 B3 o3 => ?_, fun n x as' hr F3 H3 A3 dx v x3 h3 hd hv => ?_⟩
  · have nsl : (∀ i, r ≠ .sl i) ∧ backA io svs as' ρ2 fun ρ3 => Q r ρ3 := by
      cases r with
      | sl i => exact hr.elim
      | _ => exact ⟨(fun i q => by cases q), hr⟩
    obtain ⟨nsl, hb⟩ := nsl
    obtain ⟨ρ4, A4, q1, q2, q3, h2', nA3⟩ := after (A3 := A3) (o3.oe.sub fun a m => List.mem_append_right _ m) o3.oh hb
    have nB : ∀ b ∈ B3, b ∉ A3 ++ A2 := fun b m n => by
      rcases List.mem_append.mp n with n | n
      · exact (List.nodup_append.mp o3.ond).2.2 b m b n rfl
      · rcases o3.oe.na b (List.mem_append_left _ m) with q | q
        · exact (List.nodup_append.mp nd2).2.2 b q b n rfl
        · obtain ⟨u, e, _⟩ := h2.own b n
          rw [q] at e; cases e
    refine hq r ρ4 q1 v F3 H3 A4 B3 ⟨?_, q2, ?_, List.nodup_append.mpr ⟨(List.nodup_append.mp o3.ond).1, q2.nd, fun a m b n z => nB a m (q3 a (by rw [z]; exact n))⟩, o3.ofb⟩
    · refine (frm o3.oe).sub fun a m => ?_
      rcases List.mem_append.mp m with q | q
      · simp [q]
      · have := q3 a q
        simp only [List.mem_append] at this ⊢
        exact this.elim (fun z => .inl (.inr z)) .inr
    · have r3 := o3.ors
      cases r with
      | sl i => exact absurd rfl (nsl i)
      | _ => exact r3
  · obtain ⟨ρ4, A4, q1, q2, q3, _, _⟩ := after x3 h3 hr
    exact el n x ρ4 q1 F3 H3 A4 dx v ((frm x3).sub q3) q2 hd hv
/-- the callee runs -/
theorem run_fnG (C : Ctx Γ X N sc fp k) {f : Addr} {fd : FuncData} {ps : List Str} {sp : Sp} {ds : List Value} {dvs : List V} {W : WX} {pins : List (Addr × Obj)} {σ : Sg} {H : Hp} {s : Shared} {Q : VK} {us : List Value} {vs : List V} (F : FnG Γ k f fd ps sp) (hb : Binds Γ.K fd ps ds) (hd : Vals dvs ds) (tk : Takes X W)
    (I : Inv X pins σ H s) (r : Vals vs us) (h : sp (vs ++ dvs) H Q (fun cls d H' => W cls d σ H')) : wpAny (model X.prog X.w) X.A (call (.ref f) us) (EP X pins σ Q) X.xe s := by
  have ar : Vals (vs ++ dvs) (us ++ ds) := r.append hd
  have al : (us ++ ds).length = ps.length := by rw [← ar.length]; exact F.len _ _ _ _ h
  have e0 := I.env0
  have kin := I.kIn
  rw [C.p, C.w, C.K, C.mg, C.base] at e0
  rw [C.K] at kin
  have R := F.run X.A X.stack s H ⟨us, []⟩ (us ++ ds) (vs ++ dvs) Q _ C.room C.gd e0 (hb s us kin al) ar h
  rw [← C.p, ← C.w] at R
  refine wpAny_call (codeAny_mono R fun res s' back => ?_)
  cases res with
  | error e => exact tk e s' (XE.of_call I (fun _ _ _ z => z) back)
  | ok fl =>
    cases fl with
    | ret u => exact I.after back
    | next => exact back.elim
    | brk => exact back.elim
    | cont => exact back.elim
/-- a def of the module, known by its name -/
structure FnE (Γ : Wd) (k : Nat) (x : Str) (io : List Bool) (con : Con) : Prop where
  ex : ∃ (f : Addr) (fd : FuncData) (ps : List Str), Γ.mg x = some (.ref f) ∧ PySem.W.keepIn Γ.K (.ref f) = true ∧ Binds Γ.K fd ps [] ∧ FnG Γ k f fd ps (spC Γ io con)
theorem FnE.mono {j k : Nat} {x : Str} {io : List Bool} {con : Con} (F : FnE Γ j x io con) (h : j ≤ k) : FnE Γ k x io con := let ⟨f, fd, ps, a, b, c, d⟩ := F.ex; ⟨f, fd, ps, a, b, c, d.mono h⟩
theorem se_call (C : Ctx Γ X N sc fp k) {x : Str} {io : List Bool} {con : Con} {e : Expr} {es : List Expr} {wa : WA} {p pos : Pos} (F : FnE Γ k x io con) (ha : SA Γ X (e :: es) wa) (hg : sc.names.lookup x = some .globalImplicit := by rfl) (hdb : (x == ("__debug__" : Str)) = false := by decide)
    (he : starEach (e :: es) X.env = (false, eval e X.env) :: starEach es X.env := by exact star_of rfl) (hpl : (backTo pos (starEach es X.env)).any (·.1) = false := by rfl) : SE Γ X (.Call (.Name x p) (e :: es) [] pos) (wCall io con wa) := .mk fun σ F0 H A ρ Q E QV W hh tk el hw hq pins s I => by
  obtain ⟨f, fd, ps, hm, hk, hb, FF⟩ := F.ex
  refine wpAny_Call_Name_kw (ld_glob I (gl_of C hg) (by rw [C.mg]; exact hm) ?_ hdb)
  refine PySem.W.callWith_K (h₀ := X.base) I.ok.mod.kin (by rw [C.K]; exact hk) (thn (ha.run σ F0 H A ρ _ E (fun vs H1 => spC Γ io con vs H1 QV (fun cls d H' => W cls d σ H')) W hh tk el hw (fun svs ρ1 hw1 vs F1 H1 A1 B1 o1 => call_core o1 el hw1 hq) pos pins s I) fun us s1 ⟨vs, H1, I1, r, q⟩ => ⟨I1.kIn, ?_⟩) he hpl
  exact run_fnG C FF hb .nil tk I1 r (by rw [List.append_nil]; exact q)
end
end
end Dv

/-! Dv10: own classes: made, fields stored, methods, properties, operators. -/
namespace Dv
open PySem PySem.Spec PyProof.Rows L2
section
variable {Γ : Wd} {X : Cx} {N : List Str} {sc : Scope} {fp : Str → Bool} {k : Nat}
theorem gd_in1 {b : Prop} {A : Around} (g : b → A.guards = some []) : b → A.in1.guards = some [] := fun z => by
  have h := g z
  first | exact h | simpa [Around.in1, Around.under, Code.guards] using h
theorem gd_make {A : Around} {C : Addr} {us : List Value} {kw : List (Str × Value)} {b : Prop} (g : b → A.guards = some []) : b → (A.under (.builtin "type.__call__" ⟨.ref C :: us, kw⟩)).guards = some [] := fun z => by
  have h := g z
  first | exact h | simp [Around.under, pushGuards, Code.guards, Code.isGuard, h]
/-- the callee runs, in some place below -/
theorem run_fnA (C : Ctx Γ X N sc fp k) {A : Around} {j : Nat} {f : Addr} {fd : FuncData} {ps : List Str} {sp : Sp} {W : WX} {pins : List (Addr × Obj)} {σ : Sg} {H : Hp} {s : Shared} {Q : VK} {us : List Value} {vs : List V} (F : FnG Γ j f fd ps sp) (hb : Binds Γ.K fd ps []) (tk : Takes X W)
    (hr : Room j A) (hg : Γ.gk = true → A.guards = some []) (hf : A.frames = X.A.frames) (I : Inv X pins σ H s) (r : Vals vs us) (h : sp vs H Q (fun cls d H' => W cls d σ H')) : wpAny (model X.prog X.w) A (call (.ref f) us) (EP X pins σ Q) X.xe s := by
  have al : (us ++ []).length = ps.length := by rw [List.append_nil, ← r.length]; exact F.len _ _ _ _ h
  have e0 : Env0 X.prog X.w X.K X.mg X.base A X.stack s H := by
    have e := I.env0
    exact ⟨by rw [hf]; exact e.frames, e.mod, e.bs, e.bsz, e.funs, e.frf, e.hok, e.bare⟩
  have kin := I.kIn
  rw [C.p, C.w, C.K, C.mg, C.base] at e0
  rw [C.K] at kin
  have R := F.run A X.stack s H ⟨us, []⟩ us vs Q _ hr hg e0 (by simpa using hb s us kin al) r h
  rw [← C.p, ← C.w] at R
  refine wpAny_call (codeAny_mono R fun res s' back => ?_)
  cases res with
  | error e => exact tk e s' (XE.of_call I (fun _ _ _ z => z) back)
  | ok fl =>
    cases fl with
    | ret u => exact I.after back
    | next => exact back.elim
    | brk => exact back.elim
    | cont => exact back.elim

/-! ### an instance of class n is there -/
def isIns (n : Nat) (sx : SV) (ρ : Rho) : Prop := match sx with
  | .d (.obj n' _) => n' = n
  | .ins n' _ => n' = n
  | .sl i => match ρ[i]? with
    | some (some (.ins n' _)) => n' = n
    | some (some (.d (.obj n' _))) => n' = n
    | _ => False
  | _ => False
theorem lookup_zip_none {α : Type} {m : Str} : ∀ {ks : List Str} {vs : List α}, m ∉ ks → (ks.zip vs).lookup m = none
  | [], _, _ => by simp
  | _ :: _, [], _ => by simp
  | k :: ks, v :: vs, h => by
    have h1 : (m == k) = false := by simp at h ⊢; exact h.1
    simp only [List.zip_cons_cons, List.lookup, h1]
    exact lookup_zip_none fun z => h (List.mem_cons_of_mem _ z)
theorem ins_of {σ : Sg} {F H : Hp} {A B : List Addr} {ρ : Rho} {v : V} {sx : SV} {n : Nat} (hh : hold Γ σ F H ρ A) (r : rs Γ σ F H v sx B) (e : isIns n sx ρ) : ∃ a dx fs, v = .ref a ∧ H a = some (.ins (Γ.cl n).adr dx fs) ∧ ∀ m, m ∉ (Γ.cl n).fld → fs.lookup m = none := by
  have one : ∀ {sx : SV} {B : List Addr}, RS Γ.K Γ.cl F H v sx B → (match sx with | .d (.obj n' _) => n' = n | .ins n' _ => n' = n | _ => False) → ∃ a dx fs, v = .ref a ∧ H a = some (.ins (Γ.cl n).adr dx fs) ∧ ∀ m, m ∉ (Γ.cl n).fld → fs.lookup m = none := fun {sx B} r e => by
    cases sx with
    | d x =>
      cases x with
      | obj n' ds =>
        have e : n' = n := e
        subst e
        unfold RS R at r
        obtain ⟨⟨a, dx, vs, h1, h2, _⟩, _⟩ := r
        exact ⟨a, dx, _, h1, hh.sub a _ h2, fun m h => lookup_zip_none h⟩
      | _ => exact e.elim
    | ins n' fs =>
      have e : n' = n := e
      subst e
      unfold RS at r
      obtain ⟨a, dx, vs, B', h1, h2, _⟩ := r
      exact ⟨a, dx, _, h1, h2, fun m h => lookup_zip_none fun z => h (List.mem_of_mem_take z)⟩
    | _ => exact e.elim
  cases sx with
  | sl i =>
    obtain ⟨r, _⟩ := r
    obtain ⟨A1, s, _⟩ := hh.sl
    unfold isIns at e
    cases q : ρ[i]? with
    | none => simp [q] at e
    | some o =>
      cases o with
      | none => simp [q] at e
      | some sv =>
        obtain ⟨v', B', _, h1, h2, _⟩ := s.at q
        rw [r] at h1; cases h1
        refine one h2 ?_
        cases sv with
        | d x => cases x <;> simp_all
        | _ => simp_all
  | d x => exact one r (by cases x <;> exact e)
  | ins n' fs => exact one r (by unfold isIns at e; exact e)
  | _ => exact e.elim

/-! ### a value, then values: how they stand together -/
theorem out_cons {σ : Sg} {F H F1 H1 F2 H2 : Hp} {A A1 A2 B1 B2 : List Addr} {ρ1 ρ2 : Rho} {sx : SV} {v1 : V} {sxs : List SV} {vs : List V} (o1 : Out Γ σ F H A ρ1 sx v1 F1 H1 A1 B1) (o2 : OutL Γ σ F1 H1 A1 ρ2 sxs vs F2 H2 A2 B2) : OutL Γ σ F H A ρ2 (sx :: sxs) (v1 :: vs) F2 H2 A2 (B1 ++ B2) := by
  have x2 : Ext F1 H1 A1 F2 H2 A2 := o2.oe.sub fun a m => List.mem_append_right _ m
  obtain ⟨r1, n1, f1, _⟩ := o1.stay x2
  obtain ⟨_, n1', _, x1'⟩ := o1.stay o2.oe
  refine ⟨by rw [List.append_assoc]; exact x1', o2.oh, by unfold rsL; exact ⟨v1, vs, B1, B2, rfl, r1, o2.ors, rfl⟩, ?_, fun b m => ?_⟩
  · rw [List.append_assoc, List.nodup_append]
    refine ⟨(List.nodup_append.mp o1.ond).1, o2.ond, fun a m b n z => n1' a m (by rw [z]; exact n)⟩
  · rcases List.mem_append.mp m with m | m
    · exact f1 b m
    · exact o2.ofb b m
theorem out_one {σ : Sg} {F H F1 H1 : Hp} {A A1 B1 : List Addr} {ρ1 : Rho} {sx : SV} {v1 : V} (o1 : Out Γ σ F H A ρ1 sx v1 F1 H1 A1 B1) : OutL Γ σ F H A ρ1 [sx] [v1] F1 H1 A1 B1 :=
  ⟨o1.oe, o1.oh, by unfold rsL rsL; exact ⟨v1, [], B1, [], rfl, o1.ors, ⟨rfl, rfl⟩, by simp⟩, o1.ond, o1.ofb⟩
theorem out_two {σ : Sg} {F H F1 H1 F2 H2 : Hp} {A A1 A2 B1 B2 : List Addr} {ρ1 ρ2 : Rho} {sx sy : SV} {v1 v2 : V} (o1 : Out Γ σ F H A ρ1 sx v1 F1 H1 A1 B1) (o2 : Out Γ σ F1 H1 A1 ρ2 sy v2 F2 H2 A2 B2) : OutL Γ σ F H A ρ2 [sx, sy] [v1, v2] F2 H2 A2 (B1 ++ B2) := out_cons o1 (out_one o2)
/-- a value that is an instance: behind further work -/
theorem ins_later {σ : Sg} {F H F1 H1 F2 H2 : Hp} {A A1 A2 B1 B2 : List Addr} {ρ1 ρ2 : Rho} {sx : SV} {v1 : V} {sxs : List SV} {vs : List V} {n : Nat} (o1 : Out Γ σ F H A ρ1 sx v1 F1 H1 A1 B1) (o2 : OutL Γ σ F1 H1 A1 ρ2 sxs vs F2 H2 A2 B2) (e : isIns n sx ρ2) :
    ∃ a dx fs, v1 = .ref a ∧ H2 a = some (.ins (Γ.cl n).adr dx fs) ∧ ∀ m, m ∉ (Γ.cl n).fld → fs.lookup m = none := by
  have x2 : Ext F1 H1 A1 F2 H2 A2 := o2.oe.sub fun a m => List.mem_append_right _ m
  exact ins_of o2.oh (o1.stay x2).1 e

/-! ### methods -/
/-- method m of class n -/
structure MtE (Γ : Wd) (k n : Nat) (m : Str) (io : List Bool) (con : Con) : Prop where
  no : m ∉ (Γ.cl n).fld
  ex : ∃ (f : Addr) (fd : FuncData) (ps : List Str), Meth Γ.K (Γ.cl n).adr m f ∧ Binds Γ.K fd ps [] ∧ FnG Γ k f fd ps (spC Γ io con)
/-! ### properties -/
structure PrE (Γ : Wd) (k n : Nat) (m : Str) (io : List Bool) (con : Con) : Prop where
  ex : ∃ (p f : Addr) (fd : FuncData) (ps : List Str), PropOf Γ.K (Γ.cl n).adr m p f ∧ Binds Γ.K fd ps [] ∧ FnG Γ k f fd ps (spC Γ io con)
def wProp (n : Nat) (io : List Bool) (con : Con) (wo : WE) : WE := fun ρ Q E => wo ρ (fun sx ρ1 => isIns n sx ρ1 ∧ wCallK io con [sx] ρ1 Q noE) E
theorem se_prop (C : Ctx Γ X N sc fp (k + 1)) {n : Nat} {m : Str} {io : List Bool} {con : Con} {o : Expr} {wo : WE} {pos : Pos} (K : ClOk Γ n) (F : PrE Γ k n m io con) (ho : SE Γ X o wo) (hb : attributeBase o m X.env (eval o X.env) = eval o X.env := by rfl) : SE Γ X (.Attribute o m pos) (wProp n io con wo) := .mk fun σ F0 H A ρ Q E QV W hh tk el hw hq pins s I => by
  obtain ⟨p, f, fd, ps, hp, hbd, FF⟩ := F.ex
  refine attr_of hb (thn (ho.use hh tk el hw (QV := fun x H1 => ∃ a dx fs, x = .ref a ∧ H1 a = some (.ins (Γ.cl n).adr dx fs) ∧ spC Γ io con [x] H1 QV fun _ _ _ => False) (fun sx ρ1 hw1 v1 F1 H1 A1 B1 o1 => ?_) pins s I) fun u s1 ⟨x, H1, I1, rx, a, dx, fs, ex, ea, q⟩ => ?_)
  · obtain ⟨hi, hw1⟩ := hw1
    obtain ⟨a, dx, fs, e1, e2, _⟩ := ins_of o1.oh o1.ors hi
    exact ⟨a, dx, fs, e1, e2, call_core (W := fun _ _ _ _ => False) (out_one o1) (fun _ _ _ z => z.elim) hw1 hq⟩
  · subst ex
    obtain rfl : u = Value.ref a := rx
    obtain ⟨mA, O, _, _, _, _⟩ := ins_get I1.hok ea
    obtain ⟨od, J, _⟩ := O.look
    rw [← C.K] at hp
    have cc : Cls X.K (Γ.cl n).adr := by rw [C.K]; exact K.cl
    obtain ⟨rest, hrec⟩ := hp.rec_
    have I2 := I1.tok (s1.toks + 1)
    have hc : (PySem.W.clsIn X.K (Γ.cl n).adr).isSome = true := by
      obtain ⟨cd, hc, _⟩ := PySem.W.any_some cc.hd
      rw [hc]
      rfl
    refine PySem.W.get_bind I1.kIn J (PySem.W.plainGet_of (cc.get m)).1 (PySem.W.findObj_data hc hp.at_ hp.get hp.tak) (PySem.W.plainGet_of (cc.get m)).2 (wpAny_call (PySem.W.prop_get (s := { s1 with toks := s1.toks + 1 }) I1.kIn hrec ?_))
    have e0 : Env0 X.prog X.w X.K X.mg X.base X.A.in1 X.stack { s1 with toks := s1.toks + 1 } H1 := by
      have e := I2.env0
      exact ⟨by show X.A.frames = _; exact e.frames, e.mod, e.bs, e.bsz, e.funs, e.frf, e.hok, e.bare⟩
    have kin := I2.kIn
    rw [C.p, C.w, C.K, C.mg, C.base] at e0
    rw [C.K] at kin
    have al : ([Value.ref a] ++ []).length = ps.length := by
      have := FF.len _ _ _ _ q
      simpa using this
    have R := FF.run X.A.in1 X.stack { s1 with toks := s1.toks + 1 } H1 ⟨[.ref a], []⟩ [.ref a] [.ref a] QV _ C.room.in1 (gd_in1 C.gd) e0 (by simpa using hbd _ [.ref a] kin al) (.cons rfl .nil) q
    rw [← C.p, ← C.w] at R
    refine codeAny_mono R fun r s' back => ?_
    cases r with
    | error er =>
      obtain ⟨_, _, _, _, _, _, _, _, _, _, _, _, z⟩ := back
      exact z.elim
    | ok fl =>
      cases fl with
      | ret u =>
        obtain ⟨v, H', I3, rv, q3⟩ := I2.after back
        show wpAny _ _ (handedOut u) _ _ _
        rw [PySem.W.handedOut_of (handed_of rv)]
        exact wpAny_pure ⟨v, H', I3, rv, q3⟩
      | next => exact False.elim back
      | brk => exact False.elim back
      | cont => exact False.elim back
end
end Dv

/-! Dv11: operators of own classes; instances made; fields stored. -/
namespace Dv
open PySem PySem.Spec PyProof.Rows L2
section
variable {Γ : Wd} {X : Cx} {N : List Str} {sc : Scope} {fp : Str → Bool} {k : Nat} {lk : List Nat}
/-- a method that the machine asks by itself -/
structure OpE (Γ : Wd) (k n : Nat) (m : Str) (io : List Bool) (con : Con) : Prop where
  ex : ∃ (f : Addr) (fd : FuncData) (ps : List Str), PySem.W.findIn Γ.K (.ref (Γ.cl n).adr) m = some (some (.ref f)) ∧ PySem.W.isFn Γ.K (.ref f) = true ∧ PySem.W.fnIn Γ.K f = true ∧ Binds Γ.K fd ps [] ∧ FnG Γ k f fd ps (spC Γ io con)
/-- two values, then the machine's call; err: what becomes of errors -/
def wOp2 (n : Nat) (io : List Bool) (con : Con) (wa wb : WE) : WE := fun ρ Q E => wa ρ (fun sx ρ1 => wb ρ1 (fun sy ρ2 => isIns n sx ρ2 ∧ wCallK io con [sx, sy] ρ2 Q E) E) E
theorem out_swap {σ : Sg} {F H F2 H2 : Hp} {A A2 B : List Addr} {ρ2 : Rho} {sx sy : SV} {v1 v2 : V} (o : OutL Γ σ F H A ρ2 [sx, sy] [v1, v2] F2 H2 A2 B) : ∃ B', OutL Γ σ F H A ρ2 [sy, sx] [v2, v1] F2 H2 A2 B' := by
  obtain ⟨w, r, B1, B2, e, r1, ⟨w', r', B3, B4, e', r2, ⟨e2, e3⟩, e4⟩, e5⟩ := o.ors
  cases e
  cases e'
  subst e4 e3 e5
  clear e2
  have hp : ((B3 ++ (B1 ++ [])) ++ A2).Perm ((B1 ++ (B3 ++ [])) ++ A2) := by
    refine List.Perm.append_right _ ?_
    simp only [List.append_nil]
    exact List.perm_append_comm
  refine ⟨B3 ++ (B1 ++ []), ⟨o.oe.sub fun a m => hp.mem_iff.mp m, o.oh, ⟨v2, [v1], B3, B1 ++ [], rfl, r2, ⟨v1, [], B1, [], rfl, r1, ⟨rfl, rfl⟩, rfl⟩, rfl⟩, hp.nodup_iff.mpr o.ond, fun b m => o.ofb b ?_⟩⟩
  simp only [List.append_nil, List.mem_append] at m ⊢
  exact m.symm
theorem cmpBack {pins : List (Addr × Obj)} {σ : Sg} {Q : VK} {u : Value} {s : Shared} (h : EP X pins σ Q u s) : PySem.W.CmpBack (EP X pins σ Q) u s := by
  have h' := h
  obtain ⟨v, H', I, r, q⟩ := h
  cases u <;> first | exact h' | (cases v <;> first | (obtain ⟨_, z⟩ := r; cases z; done) | (cases r; done))
/-- x op y, both of own classes -/
theorem se_binO (C : Ctx Γ X N sc fp k) {n : Nat} {op : Operator} {io : List Bool} {con : Con} {a b : Expr} {wa wb : WE} {pos : Pos} (F : OpE Γ k n (PySem.dunder op.info.2) io con) (hc : PySem.W.selfFirst Γ.K (Γ.cl n).adr = true) (ha : SE Γ X a wa) (hb : SE Γ X b wb) :
    SE Γ X (.BinOp a op b pos) (wOp2 n io con wa fun ρ Q E => wb ρ (fun sy ρ2 => isIns n sy ρ2 ∧ Q sy ρ2) E) := .mk fun σ F0 H A ρ Q E QV W hh tk el hw hq pins s I => by
  obtain ⟨f, fd, ps, h1, h2, h3, hbd, FF⟩ := F.ex
  refine wpAny_BinOp (binT pe_x pe_x I (R := fun x y H2 => ∃ a dx fs b dy gs, x = .ref a ∧ H2 a = some (.ins (Γ.cl n).adr dx fs) ∧ y = .ref b ∧ H2 b = some (.ins (Γ.cl n).adr dy gs) ∧ spC Γ io con [x, y] H2 QV fun cls d H' => W cls d σ H') ?_ fun v u s2 x y H2 I2 rx ry q => ?_)
  · refine ha.use hh tk el hw fun sx ρ1 hw1 v1 F1 H1 A1 B1 o1 => ?_
    refine hb.use o1.oh tk (el.ext o1.ext1) hw1 fun sy ρ2 hw2 v2 F2 H2 A2 B2 o2 => ?_
    obtain ⟨hj, hi, hw2⟩ := hw2
    obtain ⟨a, dx, fs, e1, e2, _⟩ := ins_later o1 (out_one o2) hi
    obtain ⟨b, dy, gs, e3, e4, _⟩ := ins_of o2.oh o2.ors hj
    exact ⟨a, dx, fs, b, dy, gs, e1, e2, e3, e4, call_core (out_two o1 o2) el hw2 hq⟩
  · obtain ⟨a, dx, fs, b, dy, gs, rfl, ea, rfl, eb, q⟩ := q
    cases rx
    cases ry
    obtain ⟨mA, O, _⟩ := ins_get I2.hok ea
    obtain ⟨od, J, _⟩ := O.look
    obtain ⟨mB, O', _⟩ := ins_get I2.hok eb
    obtain ⟨od', J', _⟩ := O'.look
    obtain ⟨m, FR⟩ := I2.fr
    exact PySem.W.binop_K FR I2.ok.mod.kin J J'.type (by rw [C.K]; exact hc) (by rw [C.K]; exact h1) (by rw [C.K]; exact h2) (wpAny_mono (run_fnA C FF hbd tk C.room C.gd rfl I2 (vs := [.ref a, .ref b]) (us := [.ref a, .ref b]) (.cons rfl (.cons rfl .nil)) q) (fun r s' h => cmpBack h) fun _ _ z => z)
/-! ### instances made -/
theorem frm_ok {F H F1 H1 F2 F3 H3 : Hp} {A A2 C A3 B1 A1 : List Addr} (x1 : Ext F H A F1 H1 (B1 ++ A1)) (x2 : Ext F1 H1 (B1 ++ A1) F2 H1 (C ++ A2)) (x3 : Ext F2 H1 C F3 H3 A3) : Ext F H A F3 H3 (A3 ++ A2) := by
  refine (x1.trans x2).trans ⟨x3.sf, fun a u e n => x3.fr a u e fun m => n (List.mem_append_left _ m), fun a u e => ?_, fun a m => ?_⟩
  · rcases x3.nf a u e with q | q | q
    · exact .inl q
    · exact .inr (.inl q)
    · exact .inr (.inr (List.mem_append_left _ q))
  · rcases List.mem_append.mp m with q | q
    · rcases x3.na a q with z | z
      · exact .inl (List.mem_append_left _ z)
      · exact .inr z
    · exact .inl (List.mem_append_right _ q)
theorem after_ok {io : List Bool} {svs as' : List SV} {vs : List V} {σ : Sg} {F2 H1 F3 H3 : Hp} {A2 C A3 : List Addr} {ρ2 : Rho} {ρ3 : Rho → Prop} (h2 : hold Γ σ F2 H1 ρ2 A2) (nd2 : (C ++ A2).Nodup) (sl : ∀ (j i : Nat) (v : V), svs[j]? = some (SV.sl i) → vs[j]? = some v → σ[i]? = some (some v))
    (x3 : Ext F2 H1 C F3 H3 A3) (h3 : hold Γ (vs.map some) F3 H3 (as'.map some) A3) (hb : backA io svs as' ρ2 ρ3) : ∃ ρ4 A4, ρ3 ρ4 ∧ hold Γ σ F3 H3 ρ4 A4 ∧ (∀ a ∈ A4, a ∈ A3 ++ A2) := by
  have nC : ∀ a ∈ A2, a ∉ C := fun a m n => (List.nodup_append.mp nd2).2.2 a n a m rfl
  have tr : ∀ a ∈ A2, ∃ u, H1 a = some u := fun a m => let ⟨u, e, _⟩ := h2.own a m; ⟨u, e⟩
  have nA3 : ∀ a ∈ A2, a ∉ A3 := fun a m n => by
    rcases x3.na a n with q | q
    · exact nC a m q
    · obtain ⟨u, e⟩ := tr a m
      rw [e] at q; cases q
  have h2' : hold Γ σ F3 H3 ρ2 A2 := by
    obtain ⟨Aq, s, p⟩ := h2.sl
    refine ⟨⟨Aq, s.mono x3.sf fun a m u e => x3.fr a u e (nC a (p.mem_iff.mp m)), p⟩, h3.sub, h2.nd, fun a m => ?_, h3.tb⟩
    cases e : F3 a with
    | none => rfl
    | some u =>
      rcases x3.nf a u e with q | q | q
      · rw [h2.av a m] at q; cases q
      · obtain ⟨u', e'⟩ := tr a m
        rw [e'] at q; cases q
      · exact absurd q (nC a m)
  obtain ⟨A4, s4, p4⟩ := h3.sl
  have nd4 : (A4 ++ A2).Nodup := List.nodup_append.mpr ⟨p4.nodup_iff.mpr h3.nd, h2.nd, fun a m b n z => nA3 b n (by rw [← z]; exact p4.mem_iff.mp m)⟩
  obtain ⟨ρ4, A5, q1, q2, q3⟩ := backA_ok h2' s4 nd4 (fun c m => h3.av c (p4.mem_iff.mp m)) sl hb
  exact ⟨ρ4, A5, q1, q2, fun a m => (List.mem_append.mp (q3 a m)).elim (fun q => List.mem_append_left _ (p4.mem_iff.mp q)) fun q => List.mem_append_right _ q⟩
theorem RSL.dats {F H : Hp} : ∀ {ds : List D} {vs : List V} {B : List Addr}, RSL Γ.K Γ.cl F H vs (ds.map SV.d) B → repL Γ F vs ds ∧ B = []
  | [], _, _, h => by
    simp only [List.map_nil, RSL] at h
    exact ⟨by unfold repL RL; exact h.1, h.2⟩
  | d :: ds, _, _, h => by
    simp only [List.map_cons, RSL, RS] at h
    obtain ⟨v, r, B1, B2, rfl, ⟨h1, rfl⟩, h2, rfl⟩ := h
    obtain ⟨h3, rfl⟩ := RSL.dats h2
    exact ⟨RL.cons h1 h3, rfl⟩
theorem zip_take {α : Type} : ∀ {n : Nat} {ks : List Str} {vs : List α}, vs.length ≤ n → (ks.take n).zip vs = ks.zip vs
  | _, [], _, _ => by simp
  | _, _ :: _, [], _ => by simp
  | 0, _ :: _, _ :: _, h => by simp at h
  | n + 1, k :: ks, v :: vs, h => by
    rw [List.take_succ_cons, List.zip_cons_cons, List.zip_cons_cons, zip_take (by simpa using h)]
/-- C(..): an instance that is not changed any more -/
def wMake (n : Nat) (io : List Bool) (con : Con) (wa : WA) : WE := fun ρ Q E => wa ρ (fun svs ρ1 => passA io svs ρ1 fun as ρ2 => con (.ins n [] :: as) (fun r as' => r = .d .non ∧ ∃ fs as'', as' = .ins n (fs.map SV.d) :: as'' ∧ backA io svs as'' ρ2 fun ρ3 => Q (.d (.obj n fs)) ρ3)
  (fun e x as' => ∃ c as'', as' = c :: as'' ∧ backA io svs as'' ρ2 fun ρ3 => E e x ρ3)) E
theorem make_core {n : Nat} {io : List Bool} {con : Con} {σ : Sg} {F H F1 H1 : Hp} {A A1 B1 : List Addr} {ρ1 : Rho} {svs : List SV} {vs : List V} {Q : WK} {E : EK} {QV : VK} {W : WX} (o : OutL Γ σ F H A ρ1 svs vs F1 H1 A1 B1) (el : EL Γ σ F H A E W)
    (hw : wMake n io con (fun ρ Q _ => Q svs ρ) ρ1 Q E) (hq : ∀ sv ρ', Q sv ρ' → ∀ v F' H' A' B, Out Γ σ F H A ρ' sv v F' H' A' B → QV v H')
    {x dx : Addr} (hx : H1 x = none) (hd : H1 dx = none) (ne : dx ≠ x) : spC Γ (true :: io) con (.ref x :: vs) (upd (upd H1 dx (.own x)) x (.ins (Γ.cl n).adr dx [])) (fun v H2 => v = .non ∧ QV (.ref x) H2) (fun cls d H' => W cls d σ H') := by
  unfold wMake at hw
  obtain ⟨as, ρ2, F2, A2, C, hcon, x2, h2, s2, nd2, fc, ok, hl, _⟩ := passA_ok o.oh o.ors o.ond o.ofb hw
  have fx : F2 x = none := by
    cases e : F2 x with
    | none => rfl
    | some u => rw [h2.sub x u e] at hx; cases hx
  have ownC := s2.own
  have nxC : x ∉ C := fun m => by
    obtain ⟨u, e, _⟩ := ownC x m
    rw [hx] at e; cases e
  have old : ∀ a u, H1 a = some u → upd (upd H1 dx (.own x)) x (.ins (Γ.cl n).adr dx []) a = some u := fun a u e => by
    rw [upd_ne (ne_of_none e hx), upd_ne (ne_of_none e hd)]
    exact e
  -- from the caller's heap to the one that the callee starts from
  have x0 : Ext F2 H1 C F2 (upd (upd H1 dx (.own x)) x (.ins (Γ.cl n).adr dx [])) (x :: C) := ⟨Same.refl _, fun a u e _ => .inl (old a u e), fun a u e => .inl e, fun a m => by
    rcases List.mem_cons.mp m with q | q
    · exact .inr (by rw [q]; exact hx)
    · exact .inl q⟩
  refine ⟨F2, x :: C, .ins n [] :: as, _, _, .io ok, ⟨⟨[x] ++ C, .one (by unfold RS RSL; exact ⟨x, dx, [], [], rfl, by simp [upd_same], by simp, ⟨rfl, rfl⟩, rfl⟩) (s2.mono (Same.refl _) fun a _ u e => .inl (old a u e)), .refl _⟩, fun a u e => old a u (h2.sub a u e), List.nodup_cons.mpr ⟨nxC, (List.nodup_append.mp nd2).1⟩, fun a m => ?_, (h2.tb.upd (.inl hd)).upd (.inl (by rw [upd_ne ne.symm]; exact hx))⟩, hcon, fun r as' hr v F3 H3 A3 B3 o3 => ?_, fun n x as' hr F3 H3 A3 dx v x3 h3 hd hv => ?_⟩
  · rcases List.mem_cons.mp m with q | q
    · rw [q]; exact fx
    · exact fc a q
  · obtain ⟨rfl, fs, as'', rfl, hb⟩ := hr
    have r3 := o3.ors
    simp only [rs, RS, R] at r3
    obtain ⟨rfl, rfl⟩ := r3
    refine ⟨rfl, ?_⟩
    obtain ⟨A4, s4, p4⟩ := o3.oh.sl
    rw [List.map_cons, List.map_cons] at s4
    cases s4 with
    | @one _ _ B0 _ _ C0 r4 st =>
      unfold RS at r4
      obtain ⟨x', dx', ws, B', e1, hx3, hl3, rl, rfl⟩ := r4
      cases e1
      obtain ⟨rl2, rfl⟩ := RSL.dats rl
      have nd4 : (x :: C0).Nodup := p4.nodup_iff.mpr o3.oh.nd
      have fx3 : F3 x = none := o3.oh.av x (p4.mem_iff.mp (by simp))
      have hlw : ws.length = fs.length := RL.length rl2
      rw [zip_take (by simp [hlw])] at hx3
      have sF : Same F3 (upd F3 x (.ins (Γ.cl n).adr dx' ((Γ.cl n).fld.zip ws))) := fun c u e => by rw [upd_ne (ne_of_none e fx3)]; exact e
      have x3 : Ext F2 H1 C (upd F3 x (.ins (Γ.cl n).adr dx' ((Γ.cl n).fld.zip ws))) H3 C0 := by
        have y := x0.trans (o3.oe.sub fun a m => List.mem_append_right _ m)
        refine ⟨y.sf.trans sF, y.fr, fun a u e => ?_, fun a m => y.na a (p4.mem_iff.mp (by simp [m]))⟩
        by_cases h : a = x
        · subst h; exact .inr (.inl hx)
        · rw [upd_ne h] at e; exact y.nf a u e
      have h3 : hold Γ (vs.map some) (upd F3 x (.ins (Γ.cl n).adr dx' ((Γ.cl n).fld.zip ws))) H3 (as''.map some) C0 := by
        refine ⟨⟨C0, st.mono sF fun _ _ _ e => .inl e, .refl _⟩, fun a u e => ?_, (List.nodup_cons.mp nd4).2, fun a m => ?_, o3.oh.tb.frz fx3 hx3 (fun _ z => nomatch z)⟩
        · by_cases h : a = x
          · subst h; rw [upd_same] at e; cases e; exact hx3
          · rw [upd_ne h] at e; exact o3.oh.sub a u e
        · rw [upd_ne fun z => (List.nodup_cons.mp nd4).1 (by rw [← z]; exact m)]
          exact o3.oh.av a (p4.mem_iff.mp (by simp [m]))
      obtain ⟨ρ4, A5, q1, q2, q3⟩ := after_ok h2 nd2 (rsL_sl o.ors) x3 h3 hb
      refine hq _ ρ4 q1 _ _ _ A5 [] ((Out.now q2 (rs_d ?_)).pre ((frm_ok o.oe x2 x3).sub q3))
      unfold rep R
      exact ⟨x, dx', ws, rfl, upd_same, by rw [hlw]; simpa using hl3, RL.mono sF rl2⟩
  · obtain ⟨c, as'', rfl, hb⟩ := hr
    obtain ⟨A4, s4, p4⟩ := h3.sl
    rw [List.map_cons, List.map_cons] at s4
    cases s4 with
    | @one _ _ B0 _ _ C0 r4 st =>
      have nd4 : (B0 ++ C0).Nodup := p4.nodup_iff.mpr h3.nd
      have x4 : Ext F2 H1 C F3 H3 C0 := (x0.trans x3).sub fun a m => p4.mem_iff.mp (List.mem_append_right _ m)
      have h4 : hold Γ (vs.map some) F3 H3 (as''.map some) C0 := ⟨⟨C0, st, .refl _⟩, h3.sub, (List.nodup_append.mp nd4).2.1, fun a m => h3.av a (p4.mem_iff.mp (List.mem_append_right _ m)), h3.tb⟩
      obtain ⟨ρ4, A5, q1, q2, q3⟩ := after_ok h2 nd2 (rsL_sl o.ors) x4 h4 hb
      exact el _ _ ρ4 q1 F3 H3 A5 dx v ((frm_ok o.oe x2 x4).sub q3) q2 hd hv
/-- a class of the module, known by its name -/
structure MkE (Γ : Wd) (k n : Nat) (x : Str) (io : List Bool) (con : Con) : Prop where
  ex : ∃ (f : Addr) (fd : FuncData) (ps : List Str), Γ.mg x = some (.ref (Γ.cl n).adr) ∧ Mk Γ.K (Γ.cl n).adr f ∧ Binds Γ.K fd ps [] ∧ FnG Γ k f fd ps (spC Γ (true :: io) con)
theorem se_make (C : Ctx Γ X N sc fp (k + 1)) {x : Str} {n : Nat} {io : List Bool} {con : Con} {e : Expr} {es : List Expr} {wa : WA} {p pos : Pos} (F : MkE Γ k n x io con) (ha : SA Γ X (e :: es) wa) (hg : sc.names.lookup x = some .globalImplicit := by rfl) (hdb : (x == ("__debug__" : Str)) = false := by decide)
    (he : starEach (e :: es) X.env = (false, eval e X.env) :: starEach es X.env := by exact star_of rfl) (hpl : (backTo pos (starEach es X.env)).any (·.1) = false := by rfl) : SE Γ X (.Call (.Name x p) (e :: es) [] pos) (wMake n io con wa) := .mk fun σ F0 H A ρ Q E QV W hh tk el hw hq pins s I => by
  obtain ⟨f, fd, ps, hm, M, hb, FF⟩ := F.ex
  refine wpAny_Call_Name_kw (ld_glob I (gl_of C hg) (by rw [C.mg]; exact hm) ?_ hdb)
  refine PySem.W.callWith_K (h₀ := X.base) I.ok.mod.kin (by rw [C.K]; exact M.kp) (thn (ha.run σ F0 H A ρ _ E (fun vs H1 => ∀ x dx, H1 x = none → H1 dx = none → dx ≠ x → spC Γ (true :: io) con (.ref x :: vs) (upd (upd H1 dx (.own x)) x (.ins (Γ.cl n).adr dx [])) (fun v H2 => v = .non ∧ QV (.ref x) H2) (fun cls d H' => W cls d σ H')) W hh tk el hw (fun svs ρ1 hw1 vs F1 H1 A1 B1 o1 x dx h1 h2 h3 => make_core (n := n) o1 el hw1 hq h1 h2 h3) pos pins s I) fun us s1 ⟨vs, H1, I1, r, q⟩ => ⟨I1.kIn, ?_⟩) he hpl
  have hq' := q (s1.heap.objs.size + 1) s1.heap.objs.size (I1.hok.fresh (Nat.le_succ _)) (I1.hok.fresh (Nat.le_refl _)) (Nat.ne_of_lt (Nat.lt_succ_self _))
  have I2 := Inv.made (C := (Γ.cl n).adr) I1
  have r2 : Vals (V.ref (s1.heap.objs.size + 1) :: vs) (Value.ref (s1.heap.objs.size + 1) :: us) := .cons rfl r
  have hl : ((Value.ref (s1.heap.objs.size + 1) :: us) ++ []).length = ps.length := by
    have e := r2.length
    rw [FF.len _ _ _ _ hq'] at e
    rw [List.append_nil]
    exact e.symm
  have e0 := I2.env0.make (Γ.cl n).adr us []
  have kin := I2.kIn
  have kin1 := I1.kIn
  rw [C.p, C.w, C.K, C.mg, C.base] at e0
  rw [C.K] at kin kin1
  have R := FF.run _ X.stack _ _ ⟨Value.ref (s1.heap.objs.size + 1) :: us, []⟩ (Value.ref (s1.heap.objs.size + 1) :: us) _ _ _ (C.room.make (Γ.cl n).adr us []) (gd_make C.gd) e0 (by simpa using hb _ (Value.ref (s1.heap.objs.size + 1) :: us) kin hl) r2 hq'
  rw [← C.p, ← C.w] at R
  refine wpAny_call (make_map (f := f) kin1 M.makes M.init (beq_iff_eq.mp M.fn) (codeAny_mono R fun r s' back => ?_))
  cases r with
  | error e => exact tk e s' (XE.of_call I2 (fun _ _ _ z => z) back)
  | ok fl =>
    cases fl with
    | ret u =>
      obtain ⟨v, H', I3, rv, ev, q3⟩ := I2.after back
      subst ev
      exact ⟨rv, ⟨V.ref (s1.heap.objs.size + 1), H', I3, rfl, q3⟩⟩
    | next => exact False.elim back
    | brk => exact False.elim back
    | cont => exact False.elim back
/-! ### fields stored -/
def putAt (j : Nat) (x : SV) (fs : List SV) : List SV := if j < fs.length then fs.set j x else fs ++ [x]
def dataAt (j : Nat) (fs : List SV) : Prop := j = fs.length ∨ ∃ d, fs[j]? = some (.d d)
theorem putF_zip : ∀ {ks : List Str} {vs : List V} {j : Nat} {f : Str} {v : V}, ks.Nodup → ks[j]? = some f → j ≤ vs.length → vs.length ≤ ks.length → putF f v (ks.zip vs) = ks.zip (if j < vs.length then vs.set j v else vs ++ [v])
  | [], _, _, _, _, _, h, _, _ => by simp at h
  | k :: ks, [], 0, f, v, _, h, _, _ => by
    simp at h; subst h
    simp [putF]
  | k :: ks, [], j + 1, f, v, _, _, h, _ => by simp at h
  | k :: ks, w :: vs, 0, f, v, _, h, _, _ => by
    simp at h; subst h
    simp [putF]
  | k :: ks, w :: vs, j + 1, f, v, nd, h, hl, hk => by
    have h' : ks[j]? = some f := by simpa using h
    have nk : ¬ k = f := fun e => (List.nodup_cons.mp nd).1 (by rw [e]; exact List.mem_of_getElem? h')
    have ih := putF_zip (v := v) (List.nodup_cons.mp nd).2 h' (by simpa using hl) (by simpa using hk)
    simp only [List.zip_cons_cons, putF, if_neg nk, ih]
    by_cases q : j < vs.length
    · simp [q]
    · simp [q]
theorem RSL.app {F H : Hp} {v : V} {d : D} (r : rep Γ F v d) : ∀ {fs : List SV} {vs : List V} {B : List Addr}, RSL Γ.K Γ.cl F H vs fs B → RSL Γ.K Γ.cl F H (vs ++ [v]) (fs ++ [.d d]) B
  | [], _, _, h => by
    simp only [RSL] at h
    obtain ⟨rfl, rfl⟩ := h
    simp only [List.nil_append, RSL, RS]
    exact ⟨v, [], [], [], rfl, ⟨r, rfl⟩, ⟨rfl, rfl⟩, rfl⟩
  | x :: fs, _, _, h => by
    simp only [RSL] at h
    obtain ⟨w, r', B1, B2, rfl, h1, h2, rfl⟩ := h
    simp only [List.cons_append, RSL]
    exact ⟨w, r' ++ [v], B1, B2, rfl, h1, RSL.app r h2, rfl⟩
theorem RSL.setd {F H : Hp} {v : V} {d d0 : D} (r : rep Γ F v d) : ∀ {fs : List SV} {vs : List V} {B : List Addr} {j : Nat}, RSL Γ.K Γ.cl F H vs fs B → fs[j]? = some (.d d0) → RSL Γ.K Γ.cl F H (vs.set j v) (fs.set j (.d d)) B
  | [], _, _, _, _, e => by simp at e
  | x :: fs, _, _, 0, h, e => by
    simp at e; subst e
    simp only [RSL] at h
    obtain ⟨w, r', B1, B2, rfl, h1, h2, rfl⟩ := h
    unfold RS at h1
    obtain ⟨_, rfl⟩ := h1
    simp only [List.set_cons_zero, RSL, RS]
    exact ⟨v, r', [], B2, rfl, ⟨r, rfl⟩, h2, rfl⟩
  | x :: fs, _, _, j + 1, h, e => by
    simp only [RSL] at h
    obtain ⟨w, r', B1, B2, rfl, h1, h2, rfl⟩ := h
    simp only [List.set_cons_succ, RSL]
    exact ⟨w, r'.set j v, B1, B2, rfl, h1, RSL.setd r h2 (by simpa using e), rfl⟩
theorem RSL.len {F H : Hp} : ∀ {fs : List SV} {vs : List V} {B : List Addr}, RSL Γ.K Γ.cl F H vs fs B → vs.length = fs.length
  | [], _, _, h => by
    simp only [RSL] at h
    rw [h.1]; rfl
  | x :: fs, _, _, h => by
    simp only [RSL] at h
    obtain ⟨w, r', B1, B2, rfl, h1, h2, rfl⟩ := h
    simp [RSL.len h2]
/-- an owned instance in a slot, written to at a field of data -/
theorem Sl.wri {F H : Hp} {σ : Sg} {ρ : Rho} {A : List Addr} (h : Sl Γ.K Γ.cl F H σ ρ A) (nd : A.Nodup) {i n : Nat} {fs : List SV} (e : ρ[i]? = some (some (.ins n fs))) :
    ∃ a dx vs, σ[i]? = some (some (.ref a)) ∧ H a = some (.ins (Γ.cl n).adr dx ((Γ.cl n).fld.zip vs)) ∧ vs.length = fs.length ∧ fs.length ≤ (Γ.cl n).fld.length ∧ a ∈ A ∧
      ∀ (j : Nat) (v : V) (d : D), rep Γ F v d → dataAt j fs → j < (Γ.cl n).fld.length → Sl Γ.K Γ.cl F (upd H a (.ins (Γ.cl n).adr dx ((Γ.cl n).fld.zip (if j < vs.length then vs.set j v else vs ++ [v])))) σ (ρ.set i (some (.ins n (putAt j (.d d) fs)))) A := by
  induction h generalizing i with
  | nil => simp at e
  | @skip x σ ρ A h ih =>
    cases i with
    | zero => simp at e
    | succ i =>
      obtain ⟨a, dx, vs, h1, h2, h3, h4, h5, h6⟩ := ih nd (i := i) (by simpa using e)
      exact ⟨a, dx, vs, by simpa using h1, h2, h3, h4, h5, fun j v d r q z => .skip (h6 j v d r q z)⟩
  | @one v0 sv0 B0 σ ρ A r h ih =>
    have nd2 := List.nodup_append.mp nd
    cases i with
    | zero =>
      simp at e; subst e
      unfold RS at r
      obtain ⟨a, dx, vs, B', rfl, h2, h3, h4, rfl⟩ := r
      have hl := RSL.len h4
      rw [zip_take (by rw [hl]; exact Nat.le_refl _)] at h2
      refine ⟨a, dx, vs, rfl, h2, hl, h3, by simp, fun j v d r q z => .one (B := a :: B') ?_ (h.mono (Same.refl F) fun b m o q => .inl ?_)⟩
      · have nB : ∀ b ∈ B', b ≠ a := fun b m e => (List.nodup_cons.mp nd2.1).1 (by rw [← e]; exact m)
        have up : ∀ {ws : List V} {gs : List SV}, RSL Γ.K Γ.cl F H ws gs B' → gs.length ≤ (Γ.cl n).fld.length → RS Γ.K Γ.cl F (upd H a (.ins (Γ.cl n).adr dx ((Γ.cl n).fld.zip ws))) (.ref a) (.ins n gs) (a :: B') := fun {ws gs} rr hg => by
          unfold RS
          refine ⟨a, dx, ws, B', rfl, ?_, hg, RSL.mono (Same.refl F) (fun b m o q => .inl (by rw [upd_ne (nB b m)]; exact q)) rr, rfl⟩
          rw [upd_same, zip_take (by rw [RSL.len rr]; exact Nat.le_refl _)]
        unfold putAt
        rcases q with rfl | ⟨d0, q⟩
        · rw [if_neg (by omega), if_neg (by omega)]
          exact up (RSL.app r h4) (by simp; omega)
        · have hj : j < fs.length := (List.getElem?_eq_some_iff.mp q).1
          rw [if_pos (by omega), if_pos hj]
          exact up (RSL.setd r h4 q) (by simp; omega)
      · rw [upd_ne (fun z => nd2.2.2 a (by simp) b m z.symm)]
        exact q
    | succ i =>
      obtain ⟨a, dx, vs, h1, h2, h3, h4, h5, h6⟩ := ih nd2.2.1 (i := i) (by simpa using e)
      refine ⟨a, dx, vs, by simpa using h1, h2, h3, h4, List.mem_append_right _ h5, fun j v d rr q z => .one (RS.mono (Same.refl F) (fun b m o q => .inl ?_) r) (h6 j v d rr q z)⟩
      rw [upd_ne (fun z => nd2.2.2 b m a h5 z)]
      exact q
def slotI (n i : Nat) (ρ : Rho) (K : List SV → Prop) : Prop := match ρ[i]? with
  | some (some (.ins n' fs)) => n' = n ∧ K fs
  | _ => False
theorem slotI_ok {n i : Nat} {ρ : Rho} {Kp : List SV → Prop} (h : slotI n i ρ Kp) : ∃ fs, ρ[i]? = some (some (.ins n fs)) ∧ Kp fs := by
  unfold slotI at h
  split at h
  · obtain ⟨rfl, h⟩ := h
    exact ⟨_, by assumption, h⟩
  · exact h.elim
/-- name.f = e -/
def wFldS (n i j : Nat) (w : WE) : WS := fun ρ D E => w ρ (fun sv ρ1 => keep sv ρ1 fun x ρ2 => slotI n i ρ2 fun fs => dataAt j fs ∧ D.nx (ρ2.set i (some (.ins n (putAt j (.d x) fs))))) E
theorem ss_flds (C : Ctx Γ X N sc fp k) (i : Nat) {n j : Nat} {f x : Str} {e : Expr} {w : WE} {p p2 pos : Pos} (K : ClOk Γ n) (hf : (Γ.cl n).fld[j]? = some f) (h : SE Γ X e w) (hN : N[i]? = some x := by rfl) (hv : Vis sc x := by first | exact Or.inl rfl | exact Or.inr (Or.inl rfl) | exact Or.inr (Or.inr rfl)) (hd : (x == ("__debug__" : Str)) = false := by decide) (hcd : (x == ("__classdict__" : Str)) = false := by decide)
    (hs : swapsWith e (some (.Attribute (.Name x p) f p2)) pos.line X.env = pure false := by rfl) :
    SS Γ lk X (.Assign [.Attribute (.Name x p) f p2] e pos) (wFldS n i j w) := .mk fun σ F H A ρ D E DV W hh tk el eo hw pins s I => by
  have pe : PE X (.Name x p) (tVar i) := pe_var (by rw [C.hN]; exact hN) (by rw [C.hs]; exact hv) hd hcd
  refine (ps_fld pe pe_x hs).run pins s σ H DV I ?_
  refine h.use hh tk el.now hw fun sv ρ1 q v F1 H1 A1 B1 o => ?_
  obtain ⟨d, ρ2, F2, A2, hk, x2, h2, r2, _⟩ := keep_ok o.oh o.ors o.ond o.ofb q
  obtain ⟨fs, e1, hda, hk⟩ := slotI_ok hk
  obtain ⟨A3, sl, pp⟩ := h2.sl
  obtain ⟨a, dx, vs, s1, s2, s3, s4, s5, s6⟩ := sl.wri (pp.nodup_iff.mpr h2.nd) e1
  have hj : j < (Γ.cl n).fld.length := (List.getElem?_eq_some_iff.mp hf).1
  have hjl : j ≤ vs.length := by
    rw [s3]
    rcases hda with q | ⟨_, q⟩
    · omega
    · exact Nat.le_of_lt (List.getElem?_eq_some_iff.mp q).1
  have ma : a ∈ A2 := pp.mem_iff.mp s5
  have few := K.few
  refine ⟨.ref a, s1, a, _, dx, _, rfl, s2, by rw [C.K]; exact K.cl, by rw [C.K]; exact K.no f (List.mem_of_getElem? hf), by simp only [List.length_zip]; omega, ?_⟩
  rw [putF_zip K.nd hf hjl (by omega)]
  refine eo.nx _ hk σ F2 _ A2 .refl ((o.oe.trans x2).trans ⟨Same.refl F2, fun b u e n => .inl ?_, fun b u e => .inl e, fun b m => .inl m⟩) ⟨⟨A3, s6 j v d r2 hda hj, pp⟩, fun b u e => ?_, h2.nd, h2.av, h2.tb.upd (.inr ⟨_, s2, fun _ z => nomatch z⟩)⟩
  · rw [upd_ne (fun z => n (by rw [z]; exact ma))]
    exact e
  · rw [upd_ne (fun z => by subst z; rw [h2.av b ma] at e; cases e)]
    exact h2.sub b u e
end
end Dv

/-! Dv12: two or three names at once, enumerate, zip, what never runs. -/
namespace Dv
open PySem PySem.Spec PyProof.Rows L2
section
variable {Γ : Wd} {X : Cx} {N : List Str} {sc : Scope} {fp : Str → Bool} {k : Nat} {lk : List Nat}
/-- a statement that is never reached -/
def wBad : WS := fun _ _ _ => False
theorem ss_bad {st : Stmt} : SS Γ lk X st wBad := .mk fun σ F H A ρ D E DV W hh tk el eo hw => hw.elim
/-! ### a, b = x, y -/
def wPar2 (i j : Nat) (wa : WA) : WS := fun ρ D E => wa ρ (fun svs ρ1 => keepL svs ρ1 fun ds ρ2 => match ds with
  | [x, y] => D.nx ((ρ2.set i (some (.d x))).set j (some (.d y)))
  | _ => False) E
theorem hold_putD {σ : Sg} {F H : Hp} {A : List Addr} {ρ : Rho} {v : V} {d : D} {i : Nat} (hh : hold Γ σ F H ρ A) (r : rep Γ F v d) (hi : i < σ.length) : ∃ A', hold Γ (σ.set i (some v)) F H (ρ.set i (some (.d d))) A' ∧ ∀ a ∈ A', a ∈ A := by
  obtain ⟨A', h1, h2⟩ := hold_put (B := []) hh (sv := .d d) (by unfold RS; exact ⟨r, rfl⟩) hh.nd (fun _ m => nomatch m) hi
  exact ⟨A', h1, fun a m => by simpa using h2 a m⟩
theorem ss_par2 (C : Ctx Γ X N sc fp k) (i j : Nat) {x y : Str} {a b : Expr} {wa : WA} {px py pt pos : Pos} {kt k2 pt2} (ha : SA Γ X [a, b] wa) (hi : N[i]? = some x := by rfl) (hj : N[j]? = some y := by rfl) (hij : i ≠ j := by decide)
    (hx : sc.names.lookup x = some .local := by rfl) (hy : sc.names.lookup y = some .local := by rfl) (f1 : lk.contains i = false := by rfl) (f2 : lk.contains j = false := by rfl)
    (hw : swappedStores [.Tuple [.Name x px, .Name y py] kt pt] (.Tuple [a, b] k2 pt2) { X.env with scope := sc } = pure (some [x, y]) := by rfl)
    (hs : swapsWithSole [.Tuple [.Name x px, .Name y py] kt pt] (.Tuple [a, b] k2 pt2) pos.line X.env = pure false := by rfl) :
    SS Γ lk X (.Assign [.Tuple [.Name x px, .Name y py] kt pt] (.Tuple [a, b] k2 pt2) pos) (wPar2 i j wa) := .mk fun σ F H A ρ D E DV W hh tk el eo hw' pins s I => by
  have eE : ({ X.env with scope := sc } : Env) = X.env := by rw [← C.hs]
  rw [eE] at hw
  refine (ps_par C.calm (by rw [C.hN]; exact C.nd) (by rw [C.hN]; exact hi) (by rw [C.hN]; exact hj) hij (by rw [C.hs]; exact hx) (by rw [C.hs]; exact hy) pa_x hw hs).run pins s σ H DV I ?_
  refine ha.run σ F H A ρ _ E _ W hh tk el.now hw' fun svs ρ1 hw1 vs F1 H1 A1 B1 o1 => ?_
  obtain ⟨ds, ρ2, F2, A2, hk, x2, hh2, r2, _⟩ := keepL_ok o1.oh o1.ors o1.ond o1.ofb hw1
  split at hk
  · rename_i d1 d2
    unfold repL RL RL RL at r2
    obtain ⟨v1, r', rfl, q1, v2, r'', rfl, q2, rfl⟩ := r2
    obtain ⟨A3, h3, s3⟩ := hold_putD (i := i) hh2 q1 (len_of C I hi)
    obtain ⟨A4, h4, s4⟩ := hold_putD (i := j) h3 q2 (by simpa using len_of C I hj)
    exact ⟨v1, v2, rfl, eo.nx _ hk _ F2 H1 A4 ((Kp.set f1).trans (.set f2)) ((o1.oe.trans x2).sub fun a m => s3 a (s4 a m)) h4⟩
  · exact hk.elim
/-! ### enumerate, zip -/
def enD (n : Nat) : List D → List D
  | [] => []
  | d :: ds => .tup [.int n, d] :: enD (n + 1) ds
theorem enD_len : ∀ {ds : List D} {n : Nat}, (enD n ds).length = ds.length
  | [], _ => rfl
  | _ :: ds, n => by simp [enD, enD_len (ds := ds)]
theorem enD_get : ∀ {ds : List D} {n i : Nat} {d : D}, ds[i]? = some d → (enD n ds)[i]? = some (.tup [.int ((n + i : Nat) : Int), d])
  | [], _, _, _, h => by simp at h
  | x :: ds, n, 0, d, h => by simp at h; subst h; simp [enD]
  | x :: ds, n, i + 1, d, h => by
    simp only [enD, List.getElem?_cons_succ]
    rw [enD_get (n := n + 1) (by simpa using h)]
    rw [show n + 1 + i = n + (i + 1) by omega]
theorem tup_new {σ : Sg} {F H : Hp} {A : List Addr} {ρ : Rho} {T : Addr} {vs : List V} {ds : List D} (hh : hold Γ σ F H ρ A) (hT : H T = none) (r : repL Γ F vs ds) : ∃ F', Ext F H A F' (upd H T (.tup vs)) A ∧ hold Γ σ F' (upd H T (.tup vs)) ρ A ∧ rep Γ F' (.ref T) (.tup ds) := by
  have o := Out.newT hh hT r
  have r' := o.ors
  exact ⟨_, o.ext1, o.oh, by simpa [rs, RS] using r'⟩
theorem walks_enum {K : PySem.W.Frag} {F : Hp} {a : Addr} {vs : List V} {ds : List D} (fa : F a = some (.lst vs)) (r : repL Γ F vs ds) : Walks Γ F (Ite K a) (enD 0 ds) where
  go := fun i F' H s1 s2 hi => by
    rw [enD_len] at hi
    exact ⟨vs, vs[i]'(by rw [RL.length r]; exact hi), .of (s2 a _ (s1 a _ fa)), by simp⟩
  yld := fun i F' H A σ ρ x H' s1 hh hi y => by
    obtain ⟨T, z, rfl, hT, rfl, y⟩ := y
    obtain ⟨d, h1, h2⟩ := RL.get' (RL.mono s1 r) (y vs (.of (hh.sub a _ (s1 a _ fa))))
    obtain ⟨F2, x2, h3, r3⟩ := tup_new (vs := [.int i, z]) (ds := [.int i, d]) hh hT (RL.cons (by unfold Dv.R; rfl) (RL.cons h2 RL.nil))
    exact ⟨_, F2, by rw [enD_get h1]; simp, x2, h3, r3⟩
  stop := fun i F' H s1 s2 hi => ⟨vs, .of (s2 a _ (s1 a _ fa)), by rw [RL.length r]; rw [enD_len] at hi; exact hi⟩
def wEnum (w : WA) : WI := fun ρ Q E => w ρ (fun svs ρ1 => keepL svs ρ1 fun ds ρ2 => match ds with
  | [.lst xs] => Q (enD 0 xs) ρ2
  | _ => False) E
theorem si_enum (C : Ctx Γ X N sc fp k) {es : List Expr} {kk : Nat} {tpos : Pos} {e : Expr} {w : WA} {p pos : Pos} (h : SA Γ X [e] w) (hg : sc.names.lookup ("enumerate" : Str) = some .globalImplicit := by rfl) (hs : starEach [e] X.env = [(false, eval e X.env)] := by rfl) : SI Γ X (.Tuple es kk tpos) (.Call (.Name "enumerate" p) [e] [] pos) (wEnum w) :=
  .mk fun σ F H A ρ Q E R W hh tk el hw hq pins s I => by
  refine (pi_enum (gl_of C hg) (by rw [C.mg]; exact C.bn _ (by decide +kernel)) pa_x hs).run pins s σ H R I ?_
  refine h.run σ F H A ρ _ E _ W hh tk el hw fun svs ρ1 hw1 vs F1 H1 A1 B1 o1 => ?_
  obtain ⟨ds, ρ2, F2, A2, hk, x2, hh2, r2, _⟩ := keepL_ok o1.oh o1.ors o1.ond o1.ofb hw1
  split at hk
  · unfold repL RL RL Dv.R at r2
    obtain ⟨v1, r', rfl, ⟨a, us, rfl, fa, ra⟩, rfl⟩ := r2
    exact ⟨a, us, rfl, .of (hh2.sub a _ fa), hq _ ρ2 hk _ F2 H1 A2 (o1.oe.trans x2) hh2 (walks_enum fa ra)⟩
  · exact hk.elim
def zipD (xs ys : List D) : List D := (xs.zip ys).map fun p => .tup [p.1, p.2]
theorem zipD_get {xs ys : List D} {i : Nat} {x y : D} (h1 : xs[i]? = some x) (h2 : ys[i]? = some y) : (zipD xs ys)[i]? = some (.tup [x, y]) := by
  unfold zipD
  rw [List.getElem?_map, show (xs.zip ys)[i]? = some (x, y) from List.getElem?_zip_eq_some.mpr ⟨h1, h2⟩]
  rfl
theorem walks_zipL {K : PySem.W.Frag} {F : Hp} {a b : Addr} {vs us : List V} {ds es : List D} (fa : F a = some (.lst vs)) (fb : F b = some (.lst us)) (r : repL Γ F vs ds) (r2 : repL Γ F us es) : Walks Γ F (Itz K a b) (zipD ds es) where
  go := fun i F' H s1 s2 hi => by
    simp only [zipD, List.length_map, List.length_zip] at hi
    exact ⟨vs, us, vs[i]'(by rw [RL.length r]; omega), us[i]'(by rw [RL.length r2]; omega), .of (s2 a _ (s1 a _ fa)), .of (s2 b _ (s1 b _ fb)), by simp, by simp⟩
  yld := fun i F' H A σ ρ x H' s1 hh hi y => by
    obtain ⟨T, z, z2, rfl, hT, rfl, y1, y2⟩ := y
    obtain ⟨d, h1, h2⟩ := RL.get' (RL.mono s1 r) (y1 vs (.of (hh.sub a _ (s1 a _ fa))))
    obtain ⟨d', h1', h2'⟩ := RL.get' (RL.mono s1 r2) (y2 us (.of (hh.sub b _ (s1 b _ fb))))
    obtain ⟨F2, x2, h3, r3⟩ := tup_new (vs := [z, z2]) (ds := [d, d']) hh hT (RL.cons h2 (RL.cons h2' RL.nil))
    exact ⟨_, F2, zipD_get h1 h1', x2, h3, r3⟩
  stop := fun i F' H s1 s2 hi => ⟨vs, us, .of (s2 a _ (s1 a _ fa)), .of (s2 b _ (s1 b _ fb)), by
    simp only [zipD, List.length_map, List.length_zip] at hi
    rw [RL.length r, RL.length r2]; omega⟩
theorem walks_zipT {K : PySem.W.Frag} {F : Hp} {a b : Addr} {vs us : List V} {ds es : List D} (fa : F a = some (.tup vs)) (fb : F b = some (.tup us)) (r : repL Γ F vs ds) (r2 : repL Γ F us es) : Walks Γ F (RZ.ItzT K a b) (zipD ds es) where
  go := fun i F' H s1 s2 hi => by
    simp only [zipD, List.length_map, List.length_zip] at hi
    exact ⟨vs, us, vs[i]'(by rw [RL.length r]; omega), us[i]'(by rw [RL.length r2]; omega), .of (s2 a _ (s1 a _ fa)), .of (s2 b _ (s1 b _ fb)), by simp, by simp⟩
  yld := fun i F' H A σ ρ x H' s1 hh hi y => by
    obtain ⟨T, z, z2, rfl, hT, rfl, y1, y2⟩ := y
    obtain ⟨d, h1, h2⟩ := RL.get' (RL.mono s1 r) (y1 vs (.of (hh.sub a _ (s1 a _ fa))))
    obtain ⟨d', h1', h2'⟩ := RL.get' (RL.mono s1 r2) (y2 us (.of (hh.sub b _ (s1 b _ fb))))
    obtain ⟨F2, x2, h3, r3⟩ := tup_new (vs := [z, z2]) (ds := [d, d']) hh hT (RL.cons h2 (RL.cons h2' RL.nil))
    exact ⟨_, F2, zipD_get h1 h1', x2, h3, r3⟩
  stop := fun i F' H s1 s2 hi => ⟨vs, us, .of (s2 a _ (s1 a _ fa)), .of (s2 b _ (s1 b _ fb)), by
    simp only [zipD, List.length_map, List.length_zip] at hi
    rw [RL.length r, RL.length r2]; omega⟩
def wZip (w : WA) : WI := fun ρ Q E => w ρ (fun svs ρ1 => keepL svs ρ1 fun ds ρ2 => match ds with
  | [.lst xs, .lst ys] => Q (zipD xs ys) ρ2
  | [.tup xs, .tup ys] => Q (zipD xs ys) ρ2
  | _ => False) E
theorem si_zip (C : Ctx Γ X N sc fp k) {es : List Expr} {kk : Nat} {tpos : Pos} {e e2 : Expr} {w : WA} {p pos : Pos} (h : SA Γ X [e, e2] w) (hg : sc.names.lookup ("zip" : Str) = some .globalImplicit := by rfl)
    (hs : starEach [e, e2] X.env = (false, eval e X.env) :: starEach [e2] X.env := by rfl) (hpl : (backTo pos (starEach [e2] X.env)).any (·.1) = false := by rfl) : SI Γ X (.Tuple es kk tpos) (.Call (.Name "zip" p) [e, e2] [] pos) (wZip w) :=
  .mk fun σ F H A ρ Q E R W hh tk el hw hq pins s I => by
  refine (RZ.pi_zipA (gl_of C hg) (by rw [C.mg]; exact C.bn _ (by decide +kernel)) pa_x hs hpl).run pins s σ H R I ?_
  refine h.run σ F H A ρ _ E _ W hh tk el hw fun svs ρ1 hw1 vs F1 H1 A1 B1 o1 => ?_
  obtain ⟨ds, ρ2, F2, A2, hk, x2, hh2, r2, _⟩ := keepL_ok o1.oh o1.ors o1.ond o1.ofb hw1
  split at hk
  · unfold repL RL RL RL Dv.R at r2
    obtain ⟨v1, r', rfl, ⟨a, us, rfl, fa, ra⟩, v2, r'', rfl, ⟨b, ws, rfl, fb, rb⟩, rfl⟩ := r2
    exact ⟨a, b, us, ws, rfl, .inl ⟨.of (hh2.sub a _ fa), .of (hh2.sub b _ fb), hq _ ρ2 hk _ F2 H1 A2 (o1.oe.trans x2) hh2 (walks_zipL fa fb ra rb)⟩⟩
  · unfold repL RL RL RL Dv.R at r2
    obtain ⟨v1, r', rfl, ⟨a, us, rfl, fa, ra⟩, v2, r'', rfl, ⟨b, ws, rfl, fb, rb⟩, rfl⟩ := r2
    exact ⟨a, b, us, ws, rfl, .inr ⟨.of (hh2.sub a _ fa), .of (hh2.sub b _ fb), hq _ ρ2 hk _ F2 H1 A2 (o1.oe.trans x2) hh2 (walks_zipT fa fb ra rb)⟩⟩
  · exact hk.elim
end
end Dv

/-! Dv13: facts of the text, gathered; the law's own end. -/
namespace Dv
open PySem PySem.Spec PyProof.Rows L2
section
variable {Γ : Wd} {X : Cx} {N : List Str} {sc : Scope} {fp : Str → Bool} {k : Nat}
theorem se_gintE (C : Ctx Γ X N sc fp k) {x : Str} {i : Int} {pos : Pos} (hg : sc.names.lookup x = some .globalImplicit) (hm : ∃ t, Γ.mg x = some (.int i t)) (hd : (x == ("__debug__" : Str)) = false := by decide) : SE Γ X (.Name x pos) (wC (.int i)) := by
  obtain ⟨t, h⟩ := hm
  exact se_gint C hg h hd
theorem MtE.mono {i j n : Nat} {m : Str} {io : List Bool} {con : Con} (F : MtE Γ i n m io con) (h : i ≤ j) : MtE Γ j n m io con := ⟨F.no, let ⟨f, fd, ps, a, b, c⟩ := F.ex; ⟨f, fd, ps, a, b, c.mono h⟩⟩
theorem PrE.mono {i j n : Nat} {m : Str} {io : List Bool} {con : Con} (F : PrE Γ i n m io con) (h : i ≤ j) : PrE Γ j n m io con := ⟨let ⟨p, f, fd, ps, a, b, c⟩ := F.ex; ⟨p, f, fd, ps, a, b, c.mono h⟩⟩
theorem OpE.mono {i j n : Nat} {m : Str} {io : List Bool} {con : Con} (F : OpE Γ i n m io con) (h : i ≤ j) : OpE Γ j n m io con := ⟨let ⟨f, fd, ps, a, b, c, d, e⟩ := F.ex; ⟨f, fd, ps, a, b, c, d, e.mono h⟩⟩
theorem MkE.mono {i j n : Nat} {m : Str} {io : List Bool} {con : Con} (F : MkE Γ i n m io con) (h : i ≤ j) : MkE Γ j n m io con := ⟨let ⟨f, fd, ps, a, b, c, d⟩ := F.ex; ⟨f, fd, ps, a, b, c, d.mono h⟩⟩
/-- a def of the module / a method, as the text has it -/
def DefAt (Γ : Wd) (x : Str) (st : Stmt) : Prop := ∃ (f : Addr) (fd : FuncData), Γ.mg x = some (.ref f) ∧ Fun Γ.K x x st f fd
def InitAt (Γ : Wd) (n : Nat) (cn qual : Str) (st : Stmt) : Prop := Γ.mg cn = some (.ref (Γ.cl n).adr) ∧ ∃ (f : Addr) (fd : FuncData), Mk Γ.K (Γ.cl n).adr f ∧ Fun Γ.K "__init__" qual st f fd
def MethAt (Γ : Wd) (n : Nat) (m qual : Str) (st : Stmt) : Prop := m ∉ (Γ.cl n).fld ∧ ∃ (f : Addr) (fd : FuncData), PySem.W.findIn Γ.K (.ref (Γ.cl n).adr) m = some (some (.ref f)) ∧ PySem.W.isFn Γ.K (.ref f) = true ∧ PySem.W.fnIn Γ.K f = true ∧ Fun Γ.K m qual st f fd
def PropAt (Γ : Wd) (n : Nat) (m qual : Str) (st : Stmt) : Prop := ∃ (p f : Addr) (fd : FuncData), PropOf Γ.K (Γ.cl n).adr m p f ∧ Fun Γ.K m qual st f fd
abbrev BindsBy (ps : List Str) (st : Stmt) : Prop := ∀ (x qual : Str) (kV doc pm cdv ct : Value) (an : Option Addr) (us : List Value), us.length = ps.length → bindArgs (PySem.W.fnOf x qual (defArgs st) (defBody st) (defScope st) .none kV doc pm an cdv ct) ⟨us, []⟩ = pure (ps.zip us)
theorem binds_by {x qual : Str} {st : Stmt} {f : Addr} {fd : FuncData} {ps : List Str} (F : Fun Γ.K x qual st f fd) (h : BindsBy ps st) : Binds Γ.K fd ps [] := by
  obtain ⟨oc, od, kV, doc, pm, an, cdv, ct, osl, rfl, lk, hcd⟩ := F.ex
  exact Binds.all fun us hl => h x qual kV doc pm cdv ct an us hl
section
variable {st : Stmt} {N ps : List Str} {io : List Bool} {con : Con} {w : WS}
abbrev TrOf (Γ : Wd) (N : List Str) (io : List Bool) (st : Stmt) (k : Nat) (w : WS) : Prop := ∀ X, Ctx Γ X N (defScope st) (fun _ => true) k → Own X → DefCx X → SSs Γ (lkOf io 0) X (defBody st) w
abbrev LawOf (N : List Str) (io : List Bool) (con : Con) (w : WS) : Prop := ∀ svs Q E, ArgOk io svs → con svs Q E → w (startR N svs) (endsOf io svs Q) (errsOf io svs E)
theorem fnE_of {x : Str} (D : DefAt Γ x st) (S : FnScope N ps (defScope st)) (B : BindsBy ps st) (bn : ∀ x ∈ bnames, Γ.mg x = none) (hio : io.length = ps.length) (tr : TrOf Γ N io st k w) (law : LawOf N io con w) : FnE Γ (k + 1) x io con :=
  let ⟨f, fd, hm, F⟩ := D
  ⟨⟨f, fd, ps, hm, F.kp, binds_by F B, fnG_of F S bn hio tr law⟩⟩
theorem mkE_of {n : Nat} {x qual : Str} (D : InitAt Γ n x qual st) (S : FnScope N ps (defScope st)) (B : BindsBy ps st) (bn : ∀ x ∈ bnames, Γ.mg x = none) (hio : (true :: io).length = ps.length) (tr : TrOf Γ N (true :: io) st k w) (law : LawOf N (true :: io) con w) : MkE Γ (k + 1) n x io con :=
  let ⟨hm, f, fd, M, F⟩ := D
  ⟨⟨f, fd, ps, hm, M, binds_by F B, fnG_of F S bn hio tr law⟩⟩
theorem opE_of {n : Nat} {x qual : Str} (D : MethAt Γ n x qual st) (S : FnScope N ps (defScope st)) (B : BindsBy ps st) (bn : ∀ x ∈ bnames, Γ.mg x = none) (hio : io.length = ps.length) (tr : TrOf Γ N io st k w) (law : LawOf N io con w) : OpE Γ (k + 1) n x io con :=
  let ⟨no, f, fd, h1, h2, h3, F⟩ := D
  ⟨⟨f, fd, ps, h1, h2, h3, binds_by F B, fnG_of F S bn hio tr law⟩⟩
theorem prE_of {n : Nat} {x qual : Str} (D : PropAt Γ n x qual st) (S : FnScope N ps (defScope st)) (B : BindsBy ps st) (bn : ∀ x ∈ bnames, Γ.mg x = none) (hio : io.length = ps.length) (tr : TrOf Γ N io st k w) (law : LawOf N io con w) : PrE Γ (k + 1) n x io con :=
  let ⟨p, f, fd, h1, F⟩ := D
  ⟨⟨p, f, fd, ps, h1, binds_by F B, fnG_of F S bn hio tr law⟩⟩
end
end
/-! ### the end -/
/-- the law's promise: at every script True -/
def c_law : Con := fun svs Q _ => ∃ ns : List Int, svs = [.d (.scr ns)] ∧ ns.length ≤ 63 ∧ Q (.d (.bl true)) svs
section
variable {K : PySem.W.Frag} {w : World} {P : Program}
/-- the tracked heap at the law's call: nothing but the script -/
def scrH (a : Addr) (o : HO) : Hp := fun b => if b = a then some o else none
theorem scr_core {mg mb : Str → Option Value} {cl : Nat → Cl} {exc : Nat → Addr} {k : Nat} {fa a : Addr} {fd : FuncData} {s1 : Shared} {ns : List Int} {ov : Array Value} {H : Hp}
    (inK : K.In s1.heap) (gl : s1.heap.Ns mainGlobals mg) (bl : s1.heap.Ns builtinsNs mb) (boot : ∀ y : Str, y ≠ "__name__" → mb y = bootBuiltins y) (nolim : s1.heap.NoLimit) (nogen : s1.gens = #[]) (nt : (cl 0).tab = []) (few : ns.length ≤ 63) (room : Room k callerA)
    (at_ : s1.heap.get? a = some { cls := .type "list", data := .seq ov })
    (F : ∀ base : Heap, K.In base → base.Ns mainGlobals mg → FnG ⟨P, w, K, mg, base, cl, exc, true⟩ k fa fd ["script"] (spC ⟨P, w, K, mg, base, cl, exc, true⟩ [false] c_law)) (bd : ∀ (s : Shared) (u : Value), BindsTo s fd ⟨[u], []⟩ [("script", u)])
    (sq : SqL K H a (ns.map V.int)) (okH : HOk P w H s1.heap) (onlyA : ∀ b, H b ≠ none → b = a ∧ K.lookup a = none) (frz : ∀ b u, H b = some u → ∃ o xs, u = .frz o (.lst xs)) :
    codeAny (model P w) callerA (.call (.ref fa) ⟨[.ref a], []⟩) (fun r s' => r = .ok (.ret (.bool true)) ∧ OldK s1.heap s'.heap ∧ s'.os = s1.os ∧ AllBare s'.gens) s1 := by
  have free : ∀ {b : Addr} {o : Obj}, s1.heap.get? b = some o → o.data ≠ .seq ov → H b = none := fun {b o} e d => by
    refine Classical.byContradiction fun n => d ?_
    obtain ⟨z, _⟩ := onlyA b n
    rw [z, at_] at e
    cases e
    rfl
  have nsOf : ∀ {b : Addr} {m : Str → Option Value}, s1.heap.Ns b m → (hidT s1.heap H).Ns b m := fun {b m} ⟨o, es, ep, e, d, r⟩ => ⟨o, es, ep, hidT_get e (free e (by rw [d]; exact fun z => nomatch z)), d, r⟩
  have inB : K.In (hidT s1.heap H) := fun b o e => hidT_get (inK b o e) (Classical.byContradiction fun n => by
    obtain ⟨z, q⟩ := onlyA b n
    rw [z, q] at e
    cases e)
  have lim : (hidT s1.heap H).NoLimit := by
    obtain ⟨mc, p, q⟩ := nolim
    exact ⟨mc, nsOf p, q⟩
  have env : Env0 P w K mg (hidT s1.heap H) callerA [] s1 H := { frames := rfl, mod := ⟨inB, nsOf gl, ⟨mb, nsOf bl, boot⟩, lim⟩, bs := fun b o e => of_hidT e, bsz := Nat.le_of_eq (hidT_size _ _), funs := trivial, frf := (fun b hb => nomatch hb), hok := okH, bare := .of_eq nogen }
  have promise : spC ⟨P, w, K, mg, hidT s1.heap H, cl, exc, true⟩ [false] c_law [.ref a] H (fun v _ => v = .bl true) (fun _ _ _ => False) := by
    refine ⟨H, [], [.d (.scr ns)], fun sv _ => sv = .d (.bl true), fun _ _ _ => False, .dat .nil, ⟨⟨[], ?_, .refl _⟩, Same.refl _, List.nodup_nil, (fun _ m => nomatch m), (fun p hp => by rw [nt] at hp; cases hp)⟩, ⟨ns, rfl, few, rfl⟩, fun sv svs' e v F' H' A' B o => ?_, fun _ _ _ z => z.elim⟩
    · refine .one (B := []) (A := []) ?_ .nil
      unfold RS Dv.R
      exact ⟨⟨a, rfl, sq⟩, rfl⟩
    · subst e
      have r := o.ors
      simp only [rs, RS, Dv.R] at r
      exact r.1
  refine codeAny_mono ((F _ inB (nsOf gl)).run callerA [] s1 H ⟨[.ref a], []⟩ [.ref a] [.ref a] _ _ room (fun _ => rfl) env (bd s1 (.ref a)) (.cons rfl .nil) promise) fun r s2 back => ?_
  cases r with
  | error e =>
    obtain ⟨_, _, _, _, _, _, _, _, _, _, _, _, z⟩ := back
    exact z.elim
  | ok fl =>
    cases fl with
    | ret u =>
      obtain ⟨v, H2, os, bare, un, ok2, rv, rfl⟩ := back
      cases rv
      refine ⟨rfl, OldK.of_keep fun b o e => ?_, os, bare⟩
      cases q : H b with
      | none => exact un.keep b o e q (fun z => nomatch z) (by simp)
      | some u =>
        obtain ⟨ob, xs, rfl⟩ := frz b u q
        have e1 := (okH b _ q).1
        have e2 := (ok2 b _ (un.frzs b ob _ q)).1
        rw [e1] at e
        cases e
        exact e2
    | _ => exact False.elim back
theorem law_end {mg mb : Str → Option Value} {cl : Nat → Cl} {exc : Nat → Addr} {k : Nat} {fa a : Addr} {fd : FuncData} {s1 : Shared} {vs : List Value} {ns : List Int}
    (inK : K.In s1.heap) (gl : s1.heap.Ns mainGlobals mg) (bl : s1.heap.Ns builtinsNs mb) (boot : ∀ y : Str, y ≠ "__name__" → mb y = bootBuiltins y) (nolim : s1.heap.NoLimit) (nogen : s1.gens = #[])
    (at_ : s1.heap.get? a = some { cls := .type "list", data := .seq vs.toArray }) (nt : (cl 0).tab = []) (ia : IntsAre vs ns) (few : ns.length ≤ 63) (room : Room k callerA)
    (F : ∀ base : Heap, K.In base → base.Ns mainGlobals mg → FnG ⟨P, w, K, mg, base, cl, exc, true⟩ k fa fd ["script"] (spC ⟨P, w, K, mg, base, cl, exc, true⟩ [false] c_law)) (bd : ∀ (s : Shared) (u : Value), BindsTo s fd ⟨[u], []⟩ [("script", u)]) :
    codeAny (model P w) callerA (.call (.ref fa) ⟨[.ref a], []⟩) (fun r s' => r = .ok (.ret (.bool true)) ∧ OldK s1.heap s'.heap ∧ s'.os = s1.os ∧ AllBare s'.gens) s1 := by
  have vals := vals_ints ia
  have len : ns.length ≤ sizeLine := by rw [line_eq]; omega
  have lenV : vs.length = ns.length := by simpa using vals.length.symm
  cases hk : K.lookup a with
  | some o =>
    have e := inK a o hk
    rw [at_] at e
    cases e
    refine scr_core (H := fun _ => none) inK gl bl boot nolim nogen nt few room at_ F bd (.inr ⟨_, vs.toArray, _, hk, rfl, rfl, rfl, by rw [List.size_toArray, lenV]; exact len, by simpa using vals⟩) (fun b u z => nomatch z) (fun b z => absurd rfl z) fun b u z => nomatch z
  | none =>
    have hA : scrH a (.frz { cls := .type "list", data := .seq vs.toArray } (.lst (ns.map V.int))) a = some (.frz { cls := .type "list", data := .seq vs.toArray } (.lst (ns.map V.int))) := if_pos rfl
    have only : ∀ b u, scrH a (.frz { cls := .type "list", data := .seq vs.toArray } (.lst (ns.map V.int))) b = some u → b = a ∧ u = .frz { cls := .type "list", data := .seq vs.toArray } (.lst (ns.map V.int)) := fun b u z => by
      unfold scrH at z
      split at z
      · cases z; exact ⟨by assumption, rfl⟩
      · cases z
    refine scr_core inK gl bl boot nolim nogen nt few room at_ F bd (.inl (.inr ⟨_, hA⟩)) (fun b u z => ?_) (fun b z => ?_) fun b u z => ⟨_, _, (only b u z).2⟩
    · obtain ⟨rfl, rfl⟩ := only b u z
      exact ⟨at_, by rw [List.length_map]; exact len, vs, _, vals, at_⟩
    · cases q : scrH a (.frz { cls := .type "list", data := .seq vs.toArray } (.lst (ns.map V.int))) b with
      | none => exact absurd q z
      | some u => exact ⟨(only b u q).1, hk⟩
end
/-- the goal that k_head leaves -/
theorem walk_dv {l : PySem.W.OpenLaw} {k : Nat} {q : Program} {loose : List Str} {XP : (Str → Option Value) → Heap → Prop} {YP : World → Heap → Prop} {d : DefRec} {K : Params → PySem.W.Frag} (hn : l.most = some 63) (hdf : d.params.defaults = []) (room : Room k callerA)
    (hY : ∀ (w : World) (h : Heap), YP w h → (K w.params).In h)
    (F : ∀ (w : World) (mg : Str → Option Value) (fa : Addr) (h : Heap), (K w.params).In h → h.Ns mainGlobals mg → mg d.name = some (.ref fa) →
      ∃ (fd : FuncData) (cl : Nat → Cl) (exc : Nat → Addr), (cl 0).tab = [] ∧ (∀ (s : Shared) (u : Value), BindsTo s fd ⟨[u], []⟩ [("script", u)]) ∧ ∀ base : Heap, (K w.params).In base → base.Ns mainGlobals mg → FnG ⟨l.prog, w, K w.params, mg, base, cl, exc, true⟩ k fa fd ["script"] (spC ⟨l.prog, w, K w.params, mg, base, cl, exc, true⟩ [false] c_law)) :
    PySem.W.WalkO q loose XP YP l.row.toRowW d [] (fun f vs => PySem.call f vs) := by
  refine Att.attach_call hn hdf fun w s0 s1 mg mb fa o pm cd doc a vs ns G Y ho hd hcd hmg hobj hints hlen hg => ?_
  obtain ⟨fd, cl, exc, nt, bd, FF⟩ := F w mg fa _ (hY w _ Y) G.T.g hmg
  exact law_end (hY w _ Y) G.T.g G.T.b G.T.builtins G.T.nolimit hg hobj nt hints hlen room FF bd
end Dv

/-! Dv14: readings, stepped: loops by what each turn keeps, choices, items. -/
namespace Dv
open PySem PySem.Spec PyProof.Rows L2
theorem Br.of {p : Prop} [Decidable p] {A B : Prop} (h : p → A) (g : ¬ p → B) : Br (decide p) A B := ⟨fun e => h (of_decide_eq_true e), fun e => g (of_decide_eq_false e)⟩
theorem Br.ofN {p : Prop} [Decidable p] {A B : Prop} (h : ¬ p → A) (g : p → B) : Br (!decide p) A B := ⟨fun e => h (by simpa using e), fun e => g (by simpa using e)⟩
theorem Br.b {b : Bool} {A B : Prop} (h : b = true → A) (g : b = false → B) : Br b A B := ⟨h, g⟩
theorem forL_ind {g : WG} {wb : WS} {D : Nd} {E : EK} (P : List Dv.D → Rho → Prop) (nil : ∀ ρ, P [] ρ → D.nx ρ) (cons : ∀ d ds ρ, P (d :: ds) ρ → (∀ ρ', P ds ρ' → forL g wb ds ρ' D E) →
    g d ρ fun ρ1 => wb ρ1 { nx := fun ρ2 => Nxt ρ2 fun ρ3 => forL g wb ds ρ3 D E, ct := fun ρ2 => Nxt ρ2 fun ρ3 => forL g wb ds ρ3 D E, bk := D.nx, rt := D.rt } E) : ∀ ds ρ, P ds ρ → forL g wb ds ρ D E
  | [], ρ, h => nil ρ h
  | d :: ds, ρ, h => cons d ds ρ h fun ρ' h' => forL_ind P nil cons ds ρ' h'
theorem compL_ind {g : WG} {wt : WT} {we : WE} {own : List Nat} {K : List D → Rho → Prop} (P : List D → List D → Rho → Prop) (nil : ∀ acc ρ, P [] acc ρ → K acc ρ) (cons : ∀ d ds acc ρ, P (d :: ds) acc ρ → (∀ acc' ρ', P ds acc' ρ' → compL g wt we own ds acc' ρ' K) →
    g d ρ fun ρ1 => wt ρ1 (fun b ρ2 => Br b (we ρ2 (fun y ρ3 => keep y ρ3 fun x ρ4 => acc.length < 16777216 ∧ compL g wt we own ds (acc ++ [x]) (wipeR ρ4 own) K) noE) (compL g wt we own ds acc (wipeR ρ2 own) K)) noE) : ∀ ds acc ρ, P ds acc ρ → compL g wt we own ds acc ρ K
  | [], acc, ρ, h => nil acc ρ h
  | d :: ds, acc, ρ, h => cons d ds acc ρ h fun acc' ρ' h' => compL_ind P nil cons ds acc' ρ' h'
theorem at_get {α : Type} {xs : List α} {i : Int} (h : 0 ≤ i) (h2 : i < xs.length) : atI xs i = xs[i.toNat]? := by
  unfold atI ixN
  rw [if_pos h, if_pos h2]
  rfl
theorem at_nat {α : Type} {xs : List α} {i : Int} (h : 0 ≤ i) {x : α} (e : xs[i.toNat]? = some x) : atI xs i = some x := by
  have := (List.getElem?_eq_some_iff.mp e).1
  rw [at_get h (by omega), e]
theorem at0 {α : Type} {x : α} {xs : List α} : atI (x :: xs) 0 = some x := at_nat (by decide) rfl
theorem at1 {α : Type} {x y : α} {xs : List α} : atI (x :: y :: xs) 1 = some y := at_nat (by decide) rfl
theorem at2 {α : Type} {x y z : α} {xs : List α} : atI (x :: y :: z :: xs) 2 = some z := at_nat (by decide) rfl
theorem ix3 : ixN 3 0 = some 0 ∧ ixN 3 1 = some 1 ∧ ixN 3 2 = some 2 := by decide
theorem cml {i j : Int} (h1 : -(2 ^ 64) < i) (h2 : i < 2 ^ 64) : CMl i j := .inl (.inl ⟨h1, h2⟩)
theorem log2_lt' {n k : Nat} (h : n < 2 ^ (k + 1)) : n.log2 < k + 1 := by
  by_cases e : n = 0
  · subst e; simp
  · exact (Nat.log2_lt e).mpr h
theorem cdiv {i j : Int} (h1 : 0 < j) (h2 : j.natAbs < 2 ^ 8000) : CDivW i j := ⟨h1, by
  have a := log2_lt' (k := 7999) h2
  omega⟩
theorem cpw {i j : Int} (h1 : 0 ≤ j) (h2 : j ≤ 3000) (h3 : i.natAbs < 2 ^ 250) : CPw i j := ⟨h1, h2, Nat.lt_of_lt_of_le h3 (Nat.pow_le_pow_right (by decide) (by decide))⟩
theorem cdv {i j : Int} (h1 : 0 < j) (h2 : j < 2 ^ 250) : CDivW i j := cdiv h1 (Nat.lt_of_lt_of_le (show j.natAbs < 2 ^ 250 by omega) (Nat.pow_le_pow_right (by decide) (by decide)))
theorem few3 {n : Nat} (h : n ≤ 1000) : n ≤ 16777216 := by omega
theorem nb {b : Bool} : (false != b) = b := by cases b <;> rfl
end Dv

/-! Dv15: calls by name. -/
namespace Dv
open PySem PySem.Spec PyProof.Rows L2
section
variable {Γ : Wd} {X : Cx} {N : List Str} {sc : Scope} {fp : Str → Bool} {k : Nat}
theorem rsL_len {σ : Sg} {F H : Hp} : ∀ {svs : List SV} {vs : List V} {B : List Addr}, rsL Γ σ F H vs svs B → vs.length = svs.length
  | [], _, _, h => by rw [h.1]; rfl
  | x :: xs, _, _, h => by
    obtain ⟨v, r, B1, B2, rfl, _, h3, _⟩ := h
    simp [rsL_len h3]
/-! ### the values of keywords -/
def wpXK (X : Cx) (kws : List Keyword) : TA := fun σ H Q => ∀ pos pins s, Inv X pins σ H s → wpAny (model X.prog X.w) X.A (evalAll ((backToKw pos (keywordEach kws X.env)).map (·.2))) (AP X pins σ Q) X.xe s
structure SK (Γ : Wd) (X : Cx) (kws : List Keyword) (w : WA) : Prop where
  run : ∀ (σ : Sg) (F H : Hp) (A : List Addr) (ρ : Rho) (Q : List SV → Rho → Prop) (E : EK) (QV : List V → Hp → Prop) (W : WX), hold Γ σ F H ρ A → Takes X W → EL Γ σ F H A E W → w ρ Q E →
    (∀ svs ρ', Q svs ρ' → ∀ vs F' H' A' B, OutL Γ σ F H A ρ' svs vs F' H' A' B → QV vs H') → wpXK X kws σ H QV
/-- a def, known by its name and its text -/
structure FnX (Γ : Wd) (k : Nat) (x : Str) (st : Stmt) (ps : List Str) (io : List Bool) (con : Con) : Prop where
  ex : ∃ (f : Addr) (fd : FuncData), Γ.mg x = some (.ref f) ∧ Fun Γ.K x x st f fd ∧ FnG Γ k f fd ps (spC Γ io con)
theorem FnX.mono {i j : Nat} {x : Str} {st : Stmt} {ps : List Str} {io : List Bool} {con : Con} (F : FnX Γ i x st ps io con) (h : i ≤ j) : FnX Γ j x st ps io con := ⟨let ⟨f, fd, a, b, c⟩ := F.ex; ⟨f, fd, a, b, c.mono h⟩⟩
end
end Dv

/-! Dv16: what is written of trees of ints stays within bounds. -/
namespace Dv
open PySem PySem.Spec PyProof.Rows L2
/-! ints of at most 1900 bits, truths and None, in lists and tuples -/
mutual
def small : D → Prop
  | .non => True
  | .bl _ => True
  | .int i => i.natAbs < 2 ^ 1900
  | .str z => (PyData.str z).showable = true ∧ (PyData.str z).depth ≤ 0 ∧ (PyData.str z).shown.length ≤ 1921
  | .lst ds => smallL ds
  | .tup ds => smallL ds
  | _ => False
def smallL : List D → Prop
  | [] => True
  | d :: ds => small d ∧ smallL ds
end
mutual
def room : D → Nat
  | .lst ds => roomL ds + 8
  | .tup ds => roomL ds + 8
  | _ => 1921
def roomL : List D → Nat
  | [] => 0
  | d :: ds => room d + 2 + roomL ds
end
mutual
def deepD : D → Nat
  | .lst ds => deepL ds + 1
  | .tup ds => deepL ds + 1
  | _ => 0
def deepL : List D → Nat
  | [] => 0
  | d :: ds => max (deepD d) (deepL ds)
end
mutual
theorem small_ok : ∀ (d : D), small d → plain d = true ∧ (py d).showable = true ∧ (py d).depth ≤ deepD d ∧ (py d).shown.length ≤ room d
  | .non, _ => ⟨rfl, rfl, Nat.le_refl _, by decide +kernel⟩
  | .bl b, _ => ⟨rfl, rfl, Nat.le_refl _, by cases b <;> decide +kernel⟩
  | .int i, h => by
    have h' : i.natAbs < 2 ^ 1900 := by unfold small at h; exact h
    have l : i.natAbs.log2 < 1920 := Nat.lt_of_lt_of_le (log2_lt' (k := 1899) h') (by decide)
    exact ⟨rfl, by unfold py PyData.showable; exact decide_eq_true l, Nat.le_refl _, by unfold py PyData.shown room; exact int_text_len_1921 l⟩
  | .lst ds, h => by
    unfold small at h
    obtain ⟨h1, h2, h3, h4⟩ := smallL_ok ds h
    unfold plain py PyData.showable PyData.depth PyData.shown deepD room
    refine ⟨h1, h2, by omega, ?_⟩
    have := listText_len_le (PyData.shownAll (pyL ds))
    omega
  | .tup ds, h => by
    unfold small at h
    obtain ⟨h1, h2, h3, h4⟩ := smallL_ok ds h
    unfold plain py PyData.showable PyData.depth PyData.shown deepD room
    refine ⟨h1, h2, by omega, ?_⟩
    have := tupleText_len_le (PyData.shownAll (pyL ds))
    omega
  | .str z, h => by unfold small at h; exact ⟨rfl, h.1, h.2.1, h.2.2⟩
  | .obj _ _, h => by unfold small at h; exact h.elim
  | .scr _, h => by unfold small at h; exact h.elim
  | .kls _, h => by unfold small at h; exact h.elim
theorem smallL_ok : ∀ (ds : List D), smallL ds → plainL ds = true ∧ PyData.showableAll (pyL ds) = true ∧ PyData.depthAll (pyL ds) ≤ deepL ds ∧ ((PyData.shownAll (pyL ds)).map (·.length)).sum + 2 * (PyData.shownAll (pyL ds)).length ≤ roomL ds
  | [], _ => ⟨rfl, rfl, Nat.le_refl _, Nat.le_refl _⟩
  | d :: ds, h => by
    unfold smallL at h
    obtain ⟨a1, a2, a3, a4⟩ := small_ok d h.1
    obtain ⟨b1, b2, b3, b4⟩ := smallL_ok ds h.2
    unfold plainL pyL PyData.showableAll PyData.depthAll PyData.shownAll deepL roomL
    refine ⟨by rw [a1, b1]; rfl, by rw [a2, b2]; rfl, by omega, ?_⟩
    simp only [List.map_cons, List.sum_cons, List.length_cons]
    omega
end
theorem rpr_of {d : D} (h : small d) (h1 : deepD d ≤ 50) (h2 : room d ≤ 16777216) : Rpr d := by
  obtain ⟨a, b, c, e⟩ := small_ok d h
  exact ⟨a, b, by omega, by omega⟩
theorem smallL_ints : ∀ {xs : List Int}, (∀ x ∈ xs, x.natAbs < 2 ^ 1900) → smallL (xs.map D.int) ∧ deepL (xs.map D.int) = 0 ∧ roomL (xs.map D.int) = 1923 * xs.length
  | [], _ => ⟨trivial, rfl, rfl⟩
  | x :: xs, h => by
    obtain ⟨a, b, c⟩ := smallL_ints (xs := xs) fun y hy => h y (by simp [hy])
    refine ⟨⟨h x (by simp), a⟩, ?_, ?_⟩
    · show max 0 (deepL (xs.map D.int)) = 0
      rw [b]; rfl
    · show 1921 + 2 + roomL (xs.map D.int) = 1923 * (xs.length + 1)
      rw [c]; omega
theorem small_of {i : Int} (h1 : -(10 ^ 60) < i) (h2 : i < 10 ^ 60) : i.natAbs < 2 ^ 1900 := Nat.lt_of_lt_of_le (show i.natAbs < 2 ^ 250 by omega) (Nat.pow_le_pow_right (by decide) (by decide))
/-! trees without texts and instances: == asks them without end -/
mutual
def bare : D → Bool
  | .lst ds => bareL ds
  | .tup ds => bareL ds
  | .non => true
  | .bl _ => true
  | .int _ => true
  | _ => false
def bareL : List D → Bool
  | [] => true
  | d :: ds => bare d && bareL ds
end
mutual
theorem bare_ok : ∀ (d : D), bare d = true → plain d = true ∧ (py d).canLay0 = true ∧ (py d).depth ≤ deepD d
  | .non, _ => ⟨rfl, rfl, Nat.le_refl _⟩
  | .bl b, _ => ⟨rfl, rfl, Nat.le_refl _⟩
  | .int i, h => ⟨rfl, rfl, Nat.le_refl _⟩
  | .lst ds, h => by
    unfold bare at h
    obtain ⟨h1, h2, h3⟩ := bareL_ok ds h
    unfold plain py PyData.canLay0 PyData.depth deepD
    exact ⟨h1, h2, by omega⟩
  | .tup ds, h => by
    unfold bare at h
    obtain ⟨h1, h2, h3⟩ := bareL_ok ds h
    unfold plain py PyData.canLay0 PyData.depth deepD
    exact ⟨h1, h2, by omega⟩
  | .str _, h => by unfold bare at h; cases h
  | .obj _ _, h => by unfold bare at h; cases h
  | .scr _, h => by unfold bare at h; cases h
  | .kls _, h => by unfold bare at h; cases h
theorem bareL_ok : ∀ (ds : List D), bareL ds = true → plainL ds = true ∧ PyData.canLayAll0 (pyL ds) = true ∧ PyData.depthAll (pyL ds) ≤ deepL ds
  | [], _ => ⟨rfl, rfl, Nat.le_refl _⟩
  | d :: ds, h => by
    unfold bareL at h
    obtain ⟨h1, h2⟩ := Bool.and_eq_true_iff.mp h
    obtain ⟨a1, a2, a3⟩ := bare_ok d h1
    obtain ⟨b1, b2, b3⟩ := bareL_ok ds h2
    unfold plainL pyL PyData.canLayAll0 PyData.depthAll deepL
    exact ⟨by rw [a1, b1]; rfl, by rw [a2, b2]; rfl, by omega⟩
end
theorem shp_of {d : D} (h : bare d = true) (h2 : deepD d ≤ 64) : Shp d := by
  obtain ⟨a, b, c⟩ := bare_ok d h
  refine ⟨a, ?_⟩
  unfold SeqAt.shaped
  rw [b, decide_eq_true (by omega : (py d).depth ≤ 64)]
  rfl
theorem deq_nil {ds : List D} : deq (.lst ds) (.lst []) = ds.isEmpty := by
  cases ds with
  | nil => rfl
  | cons d ds => rfl
section
variable {Γ : Wd} {X : Cx} {N : List Str} {sc : Scope} {fp : Str → Bool} {k : Nat} {lk : List Nat}
end
end Dv

/-! Dv17: isinstance; == of own classes. -/
namespace Dv
open PySem PySem.Spec PyProof.Rows L2
section
variable {Γ : Wd} {X : Cx} {N : List Str} {sc : Scope} {fp : Str → Bool} {k : Nat} {lk : List Nat}
/-! isinstance(x, T), T built-in: 0 int, 1 bool, 2 str, 3 list, 4 tuple -/
/-! isinstance(x, C), C of the text -/
structure IsiOk (Γ : Wd) (n : Nat) (x : Str) : Prop where
  g : Γ.mg x = some (.ref (Γ.cl n).adr)
  k : ClOk Γ n
  ca : PySem.W.findIn Γ.K (.ref (Γ.cl n).adr) "__class__" = some (some (.builtin "object.__class__"))
  cg : PySem.W.specialIn Γ.K (.builtin "object.__class__") "__get__" = some (some (.builtin "getset_descriptor.__get__"))
  ct : PySem.W.takesIn Γ.K (.builtin "object.__class__") = some true
  cm : PySem.W.mroIn Γ.K (Γ.cl n).adr (.type "object") = some true
  n0 : PySem.W.kitOne Γ.K (.type "int") (.ref (Γ.cl n).adr) = some false
  n1 : PySem.W.kitOne Γ.K (.type "bool") (.ref (Γ.cl n).adr) = some false
  n2 : PySem.W.kitOne Γ.K (.type "str") (.ref (Γ.cl n).adr) = some false
  n3 : PySem.W.kitOne Γ.K (.type "list") (.ref (Γ.cl n).adr) = some false
  n4 : PySem.W.kitOne Γ.K (.type "tuple") (.ref (Γ.cl n).adr) = some false
  n5 : PySem.W.kitOne Γ.K (.type "NoneType") (.ref (Γ.cl n).adr) = some false
/-! a == b, a of an own class with __eq__, b of the same class -/
/-! == of lists of ints -/
theorem eqv_ints : ∀ ps qs : List Int, PyData.eqvAll (pyL (ps.map D.int)) (pyL (qs.map D.int)) = decide (ps = qs)
  | [], [] => rfl
  | [], _ :: _ => rfl
  | _ :: _, [] => rfl
  | p :: ps, q :: qs => by
    show ((p == q) && PyData.eqvAll (pyL (ps.map D.int)) (pyL (qs.map D.int))) = _
    rw [eqv_ints ps qs, Bool.eq_iff_iff]
    simp
theorem deq_lints (ps qs : List Int) : deq (.lst (ps.map D.int)) (.lst (qs.map D.int)) = decide (ps = qs) := eqv_ints ps qs
theorem bare_ints : ∀ ps : List Int, bareL (ps.map D.int) = true ∧ deepL (ps.map D.int) = 0
  | [] => ⟨rfl, rfl⟩
  | p :: ps => by
    obtain ⟨a, b⟩ := bare_ints ps
    refine ⟨a, ?_⟩
    show max 0 (deepL (ps.map D.int)) = 0
    omega
theorem shp_ints (ps : List Int) : Shp (.lst (ps.map D.int)) := shp_of (bare_ints ps).1 (by have := (bare_ints ps).2; show deepL _ + 1 ≤ 64; omega)
theorem env_at (C : Ctx Γ X N sc fp k) : ({ X.env with scope := sc } : Env) = X.env := by rw [← C.hs]
/-- targets of which some are cells -/
theorem ss_unpC (C : Ctx Γ X N sc fp k) {es : List Expr} {kk : Nat} {tp pos : Pos} {e : Expr} {w : WE} {g : WG} {is : List Nat} (h : SE Γ X e w) (hg : SG Γ X (.Tuple es kk tp) g is) (fr : Fre lk is := by rfl) (hs : swapsWithSole [.Tuple es kk tp] e pos.line { X.env with scope := sc } = pure false := by rfl) (hw : swappedStores [.Tuple es kk tp] e { X.env with scope := sc } = pure none := by rfl)
    (h1 : (assignEach [.Tuple es kk tp] X.env).map (·.2) = [assign (.Tuple es kk tp) X.env] := by rfl) : SS Γ lk X (.Assign [.Tuple es kk tp] e pos) (wUnp w g) :=
  ss_unp h hg fr (by rw [env_at C] at hs; exact hs) (by rw [env_at C] at hw; exact hw) h1
end
end Dv

/-! Dv18: sets that are sorted at once: sorted(set(xs)), sorted({e for ..}); ints. -/
namespace Dv
open PySem PySem.Spec PyProof.Rows L2
/-- a set as it is made -/
abbrev freshSet (w : World) : Obj := { cls := .type "set", dict := none, data := .set #[] 0 (.fresh 0 0 (!w.params.followText "set-order")) }
section
variable {P : Program} {w : World} {A : Around} {E : Value → Shared → Prop} {s : Shared}
/-- what becomes of s while a set of ns is made -/
def SetMade (w : World) (ns : List Int) (s s2 : Shared) : Prop := ∃ h' tk c, s2 = { s with heap := h', toks := tk } ∧ SetR w h' s.heap.objs.size (fun j => decide (j ∈ ns)) c ∧ c ≤ ns.length ∧ ∀ b o, s.heap.get? b = some o → h'.get? b = some o
set_option maxHeartbeats 0 in
theorem made_set {l : Addr} {its : Array Value} (ns : List Int) {Q : Value → Shared → Prop} (hh : A.handled = none) (hl : s.heap.IsList l its) (hi : IntsAre its.toList ns) (hb : ns.length + 1 < scanBound)
    (h : ∀ s2, SetMade w ns s s2 → Q (.ref s.heap.objs.size) s2) : wpAny (model P w) A (call (.type "set") [.ref l]) Q E s := by
  have hlen : its.size = ns.length := by rw [← IntsAre.length hi, Array.length_toList]
  obtain ⟨c, tl, hmro⟩ := F.called_set.mro
  have m1 := F.called_set.made; have m2 := F.called_set.sub; have m3 := F.called_set.notType; have m4 := F.called_set.canCreate; have m5 := F.typeCall_set_1 (.ref l)
  refine wpAny_call (codeAny_of_tree (show wpAny _ _ (callAny (.type "set") _) _ _ _ from wpAny_pure ⟨Code.quiet_builtin _ (by decide +kernel), codeAny_builtin F.entry_type_call ?_⟩))
  rw [Around.under_plain (weight_type_call_type "set" [.ref l] []) rfl]
  repeat (any_goals (first | assumption | wp_step))
  refine codeAny_mono (code_set_led1 (.ref l) (E := E) (Q₁ := fun o s1 => o = .ref s.heap.objs.size ∧ s1 = { s with heap := s.heap.push (freshSet w) }) ⟨rfl, rfl⟩) fun r s1 hr => ?_
  rcases r with e | f
  · exact hr
  · cases f with
    | ret o =>
      obtain ⟨rfl, rfl⟩ := hr
      have at0 : (s.heap.push (freshSet w)).get? s.heap.objs.size = some (freshSet w) := Heap.get?_push_size _ rfl
      have ty : Shared.TypeIs { s with heap := s.heap.push (freshSet w) } (.ref s.heap.objs.size) "set" := ⟨_, at0, rfl⟩
      have i1 := F.called_set.init.lookup; have i2 := F.called_set.init.bind (.ref s.heap.objs.size)
      repeat (any_goals (first | assumption | wp_step))
      refine codeAny_mono (codeAny_call_builtin (R := wants (fun r s2 => r = .none ∧ SetMade w ns s s2) E) F.called_set.init.plain F.entry_set_init (check_set_init_1 ty ?_)) fun r2 s2 hr2 => ?_
      · obtain ⟨⟨oc, od, odt, os⟩, ho, hc, n, hd⟩ := hl
        simp only at hc hd
        subst hc hd
        have ho' : (s.heap.push (freshSet w)).get? l = some { cls := .type "list", dict := od, data := .seq its n, slots := os } := Heap.get?_push_of_some _ ho
        have d1 := F.sub_list_set; have d2 := F.sub_list_frozenset
        have d3 : (Value.type "list" == Value.type "dict") = false := by decide
        have hl' : (s.heap.push (freshSet w)).IsList l its := ⟨_, ho', rfl, n, rfl⟩
        unfold Builtin.«set.__init__» noKeywords Builtin.Frozenset.updateFrom
        generalize hPI : pyIter = PI
        wp_walk
        subst hPI
        refine wpAny_pyIter_list hl' (wpAny_bind (wpAny_runValue ?_))
        have lt : l < s.heap.objs.size := Heap.lt_size ho
        have sz : (s.heap.push (freshSet w)).objs.size = s.heap.objs.size + 1 := Heap.size_push ..
        have hh' : A.in1.in1.in1.handled = none := by simp [hh]
        refine set_update_ints ((Walks.list hh' _ l (by rw [sz]; exact Nat.ne_of_lt (Nat.lt_succ_of_lt lt)) its).toS) s.heap.objs.size (by rw [sz]; simp only [List.mem_cons, List.not_mem_nil, or_false, not_or]; exact ⟨Nat.ne_of_lt (Nat.lt_succ_self _), Nat.ne_of_gt lt⟩) ns hlen hb (fun i v hv => ?_) (its.size - 0) 0 _ (by omega) (Nat.zero_le _) ⟨⟨_, Heap.get?_push_size _ rfl, rfl, rfl⟩, hl'.push _⟩ ⟨0, Nat.le_refl 0, setR_new_at (Heap.get?_push_of_some _ at0)⟩ fun s' c' hm hc' hS' => ?_
        · have hin : i < ns.length := by rw [← hlen]; exact (Array.getElem?_eq_some_iff.mp hv).1
          obtain ⟨t, e⟩ := IntsAre.int_at hi i v (by rw [Array.getElem?_toList]; exact hv)
          exact ⟨ns[i], t, List.getElem?_eq_getElem hin, by rw [e, List.getD_eq_getElem?_getD, List.getElem?_eq_getElem hin]; rfl⟩
        · obtain ⟨h', g', d', tk', os'⟩ := s'
          obtain rfl : g' = s.gens := hm.gens
          obtain rfl : d' = s.drawn := hm.drawn
          obtain rfl : os' = s.os := hm.os
          show wpAny _ _ _ _ _ _
          refine wpAny_pure (show wpAny _ _ (ret Value.none) _ _ _ from wpAny_pure ⟨rfl, h', tk', c', rfl, hS', by omega, fun b o e => ?_⟩)
          have bl : b < s.heap.objs.size := Heap.lt_size e
          exact hm.heap b o (by rw [sz]; simp only [List.mem_cons, List.not_mem_nil, or_false, not_or]; exact ⟨Nat.ne_of_lt bl, Nat.ne_of_lt (Nat.lt_succ_of_lt bl)⟩) (Heap.get?_push_of_some _ (Heap.get?_push_of_some _ e))
      · rcases r2 with e2 | f2
        · exact hr2
        · cases f2 with
          | ret r =>
            obtain ⟨rfl, hm⟩ := hr2
            repeat (any_goals (first | assumption | wp_step))
            exact h _ hm
          | _ => exact hr2.elim
    | _ => exact hr.elim
/-- sorted(a set), any number of members -/
theorem sort_set {a : Addr} {S : Int → Bool} {n : Nat} {Q : Value → Shared → Prop} (R : SetR w s.heap a S n) (hh : A.handled = none)
    (hQ : ∀ s' p (out : Array Value) (c : Nat) (ns : List Int), (∀ b o, s.heap.get? b = some o → s'.heap.get? b = some o) ∧ s'.gens = s.gens ∧ s'.os = s.os → s.heap.objs.size ≤ p → s'.heap.get? p = some (seqObj "list" out c) → IntsAre out.toList ns → ns.Pairwise (· < ·) → (∀ k, k ∈ ns ↔ S k = true) → ns.length = n → Q (.ref p) s') :
    wpAny (model P w) A (call (.builtin "sorted") [.ref a]) Q E s := by
  obtain ⟨o, es, ep, t, ho, ex, hd, good, nd, mem, few, fits, rfl, ris, led⟩ := R
  refine Calls.call_function_entry kind_sorted plain_sorted entry_sorted (args_sorted1 _) ?_
  unfold Builtin.«sorted»
  refine wpAny_bind (m := checkCount "sorted" 1 1 _) (wpAny_pure (wpAny_bind (collect_set (A := A.in1) hh ⟨o, ho, ex.1, hd⟩ fits few ris led fun s1 vs k1 hz g1 o1 pm => ?_)))
  have lv : vs.length = es.size := by rw [pm.length_eq, List.length_map, Array.length_toList]
  have hI : IntsAre vs (vs.map Builtin.Re.reRawOf) := ints_of vs fun v hv => by
    obtain ⟨x, hx, q⟩ := List.mem_map.mp (pm.mem_iff.mp hv)
    obtain ⟨k, tk, h1, _⟩ := good x hx
    exact ⟨k, tk, by rw [← q]; exact h1⟩
  have pk : (vs.map Builtin.Re.reRawOf).Perm (es.toList.map keyOf) := by
    have := pm.map Builtin.Re.reRawOf
    rwa [List.map_map] at this
  have small : vs.length ≤ sizeLine := by rw [lv, sizeLine_eq]; unfold scanBound at few; omega
  refine wpAny_bind (wpAny_newList ?_ small)
  have hL : (s1.heap.push (seqObj "list" vs.toArray 0)).get? s1.heap.objs.size = some (seqObj "list" vs.toArray 0) := Heap.get?_push_size _ rfl
  refine wpAny_bind (wpAny_holding (wpAny_call_entry slot_list_sort ⟨_, hL, rfl⟩ entry_list_sort (SrtO.list_sort_ord SrtO.swo_int hL small (fun h2 => SrtO.ints_sortable hI h2) fun out q1 q2 => ⟨_, rfl, ?_⟩) (args_list_sort _)))
  obtain ⟨k1', k2', k3'⟩ := SrtO.ints_out hI q1 q2
  obtain ⟨c, hc⟩ := sortedHeap_at (vs := vs) (out := out.toArray) hL
  have pn := k2'.trans pk
  refine wpAny_pure ⟨_, rfl, hQ _ s1.heap.objs.size out.toArray c (out.map SrtO.iv) ⟨fun b u e => ?_, g1, o1⟩ hz hc k1' (lt_of_le_nodup _ k3' (pn.nodup_iff.mpr nd)) (fun k => by rw [pn.mem_iff, ← mem k]) (by rw [pn.length_eq, List.length_map, Array.length_toList])⟩
  have hlt := Heap.lt_size (k1 b u e)
  show (sortedHeap (s1.heap.push (seqObj "list" vs.toArray 0)) s1.heap.objs.size vs out.toArray).get? b = some u
  rw [sortedHeap_old (Nat.ne_of_lt hlt) (by rw [size_push']; exact Nat.lt_succ_of_lt hlt)]
  exact Heap.get?_push_of_some _ (k1 b u e)
end
section
variable {X : Cx}
/-- set(xs) of a list of ints -/
def rSetL (K : PySem.W.Frag) (w : World) : List V → Hp → VK → Prop := fun xs H Q => ∃ (l : Addr) (ns : List Int), xs = [V.ref l] ∧ SqL K H l (ns.map V.int) ∧ ns.length < 4000 ∧ ∀ p n, H p = none → Q (.ref p) (upd H p (SetO w p (fun j => decide (j ∈ ns)) n))
theorem cr_setL (hc : X.calm = true) : CallR X (.type "set") (rSetL X.K X.w) := by
  intro pins s σ H xs us Q I r h
  obtain ⟨l, ns, rfl, hs, few, q⟩ := h
  rw [Vals.ref1 r]
  obtain ⟨its, rv, pl, hz⟩ := I.list hs
  refine made_set ns (I.ok.hd hc) pl.isList (by simpa using rv.ints) (by unfold scanBound; omega) fun s2 hm => ?_
  obtain ⟨h', tk, c, rfl, R, hcn, keep⟩ := hm
  exact ⟨.ref _, _, I.laid (t' := tk) (fun b u e => keep b u e) (Nat.le_refl _) (setO_new R), rfl, q _ _ (I.hok.fresh (Nat.le_refl _))⟩
/-- sorted(a set of ints) -/
def rSortSet (w : World) : List V → Hp → VK → Prop := fun vs H Q => ∃ (a : Addr) (S : Int → Bool) (n : Nat), vs = [V.ref a] ∧ H a = some (SetO w a S n) ∧
  ∀ (ns : List Int) (p : Addr), ns.Pairwise (· < ·) → (∀ k : Int, k ∈ ns ↔ S k = true) → H p = none → Q (.ref p) (upd H p (.lst (ns.map V.int)))
theorem cr_sortSet (hc : X.calm = true) : CallR X (.builtin "sorted") (rSortSet X.w) := by
  intro pins s σ H vs us Q I r h
  obtain ⟨a, S, n, rfl, ha, q⟩ := h
  have R := setO_get I ha
  have lim : n < scanBound := by obtain ⟨_, _, _, _, _, _, _, _, _, _, few, _, e, _⟩ := R; omega
  rw [Vals.ref1 r]
  refine sort_set R (I.ok.hd hc) fun s' p out c ns hk hp hg hi hs hm hl => ?_
  have hn : H p = none := I.hok.fresh hp
  have len : (ns.map V.int).length ≤ sizeLine := by rw [List.length_map, hl, sizeLine_eq]; unfold scanBound at lim; omega
  refine ⟨.ref p, _, ?_, rfl, q ns p hs hm hn⟩
  exact I.call' (ch := []) hk.2.2 (Un.laid hk.1 hp hn) (I.hok.laid hk.1 hp ⟨len, out.toList, c, vals_of_ints hi, hg⟩) (by rw [hk.2.1]; exact I.bare) (fun _ z => nomatch z)
end
section
variable {Γ : Wd} {X : Cx} {N : List Str} {sc : Scope} {fp : Str → Bool} {k : Nat} {lk : List Nat}
/-- sorted(set(e)) -/
def wSortS (w : WE) : WE := fun ρ Q E => w ρ (fun x ρ1 => match rd x ρ1 with
  | some (.lst xs) => ∃ ns : List Int, xs = ns.map D.int ∧ ns.length < 4000 ∧ ∀ ns' : List Int, ns'.Pairwise (· < ·) → (∀ k, k ∈ ns' ↔ k ∈ ns) → Q (.lst (ns'.map D.int)) ρ1
  | _ => False) E
theorem se_sortS (C : Ctx Γ X N sc fp k) {p p2 pos pos2 : Pos} {e : Expr} {w : WE} (ha : SE Γ X e w) (hg : sc.names.lookup ("sorted" : Str) = some .globalImplicit := by rfl) (hg2 : sc.names.lookup ("set" : Str) = some .globalImplicit := by rfl)
    (hs : starEach [e] X.env = (false, eval e X.env) :: starEach [] X.env := by exact star_of rfl) (hs2 : starEach [.Call (.Name "set" p2) [e] [] pos2] X.env = (false, eval (.Call (.Name "set" p2) [e] [] pos2) X.env) :: starEach [] X.env := by exact star_of rfl) :
    SE Γ X (.Call (.Name "sorted" p) [.Call (.Name "set" p2) [e] [] pos2] [] pos) (wSortS w) := .mk fun σ F H A ρ Q E QV W hh tk el hw hq pins s I => by
  refine (pe_callB (cr_sortSet C.calm) (gl_of C hg) (by rw [C.mg]; exact C.bn _ (by decide +kernel)) (by decide +kernel) (pa_cons (pe_callTy (cr_setL C.calm) (gl_of C hg2) (by rw [C.mg]; exact C.bn _ (by decide +kernel)) (by decide +kernel) (pa_cons pe_x pa_nil hs) (he := hs)) pa_nil hs2) (he := hs2)).run pins s σ H QV I ?_
  refine ha.use hh tk el hw fun sx ρ1 hw1 v1 F1 H1 A1 B1 o1 => ?_
  cases e1 : rd sx ρ1 with
  | none => simp only [e1] at hw1
  | some d =>
    cases d with
    | lst xs =>
      simp only [e1] at hw1
      obtain ⟨ns, rfl, few, hw1⟩ := hw1
      have r := rd_ok o1.oh o1.ors e1
      obtain ⟨l, rfl, hl⟩ := ints_at r
      rw [← C.K] at hl
      refine ⟨l, ns, rfl, hl, few, fun q n hq' => ⟨q, _, n, rfl, upd_same, fun ns' p' up mem hp => ?_⟩⟩
      obtain ⟨h2, x2, nF, nA⟩ := hold_new (o := SetO X.w q (fun j => decide (j ∈ ns)) n) o1.oh hq'
      have x2' : Ext F1 H1 A1 F1 (upd H1 q (SetO X.w q (fun j => decide (j ∈ ns)) n)) A1 := ⟨x2.sf, x2.fr, x2.nf, fun a m => .inl m⟩
      exact hq _ ρ1 (hw1 ns' up fun k => by rw [mem k, decide_eq_true_iff]) _ _ _ _ _ ((Out.newL h2 hp (RL.of_ints)).pre (o1.ext1.trans x2'))
    | _ => simp only [e1] at hw1
end
end Dv

/-! Dv19: {e for t in it if c}, e an int; sorted at once. -/
namespace Dv
open PySem PySem.Spec PyProof.Rows L2 PpSet
section
variable {X : Cx}
end
section
variable {Γ : Wd} {X : Cx} {N : List Str} {sc : Scope} {fp : Str → Bool} {k : Nat} {lk : List Nat}
theorem wipe_twice (σ : Sg) (vs : List Nat) : wipe (wipe σ vs) vs = wipe σ vs := by
  apply List.ext_getElem?
  intro j
  by_cases hj : j ∈ vs
  · have key : ∀ (σ : Sg) (ls : List Nat), j ∈ ls → (wipe σ ls)[j]? = (if j < σ.length then some none else none) := fun σ ls hm => by
      induction ls with
      | nil => cases hm
      | cons l ls ih =>
        unfold wipe
        by_cases el : l = j
        · subst el
          by_cases hlt : l < σ.length
          · rw [List.getElem?_set_self (by rw [wipe_length]; exact hlt), if_pos hlt]
          · rw [if_neg hlt, List.getElem?_eq_none]
            rw [List.length_set, wipe_length]; omega
        · rw [List.getElem?_set_ne el]
          exact ih (by rcases List.mem_cons.mp hm with z | z; exact absurd z.symm el; exact z)
    rw [key _ _ hj, key _ _ hj, wipe_length]
  · rw [wipe_out hj]
end
end Dv

/-! Dv20: methods called by name. -/
namespace Dv
open PySem PySem.Spec PyProof.Rows L2
section
variable {Γ : Wd} {X : Cx} {N : List Str} {sc : Scope} {fp : Str → Bool} {k : Nat}
/-- a method, known by its text -/
structure MtX (Γ : Wd) (k n : Nat) (m : Str) (st : Stmt) (ps : List Str) (io : List Bool) (con : Con) : Prop where
  no : m ∉ (Γ.cl n).fld
  ex : ∃ (f : Addr) (fd : FuncData) (qual : Str), Meth Γ.K (Γ.cl n).adr m f ∧ Fun Γ.K m qual st f fd ∧ FnG Γ k f fd ps (spC Γ io con)
theorem MtX.mono {i j n : Nat} {m : Str} {st : Stmt} {ps : List Str} {io : List Bool} {con : Con} (F : MtX Γ i n m st ps io con) (h : i ≤ j) : MtX Γ j n m st ps io con := ⟨F.no, let ⟨f, fd, q, a, b, c⟩ := F.ex; ⟨f, fd, q, a, b, c.mono h⟩⟩
end
end Dv

/-! Dv21: own errors: raised. -/
namespace Dv
open PySem PySem.Spec PyProof.Rows L2
/-- an error is being made: self.value = value -/
def spVal (K : PySem.W.Frag) : Sp := fun vs H Q _ => ∃ (a C : Addr) (v : V), vs = [.ref a, v] ∧ H a = some (exo a C none) ∧ OexC K C ∧ PySem.W.findIn K (.ref C) "value" = some none ∧
  ∀ d, H d = none → d ≠ a → Q .non (upd (upd H d (exd d [(("value" : Str), v)])) a (exo a C (some d)))
section
variable {Γ : Wd}
/-- an own error class -/
structure ErOk (Γ : Wd) (j : Nat) (x : Str) : Prop where
  g : Γ.mg x = some (.ref (Γ.exc j))
  t : OexC Γ.K (Γ.exc j)
  no : PySem.W.findIn Γ.K (.ref (Γ.exc j)) "value" = some none
  init : ∃ fI fd, PySem.W.findIn Γ.K (.ref (Γ.exc j)) "__init__" = some (some (.ref fI)) ∧ PySem.W.typeIn Γ.K (.ref fI) = some (.type "function") ∧ FnOk Γ.P Γ.w Γ.K Γ.mg Γ.base (CX Γ.P Γ.w) 1 fI fd ["self", "value"] (spVal Γ.K) ∧ Binds Γ.K fd ["self", "value"] []
end
section
variable {Γ : Wd} {X : Cx} {N : List Str} {sc : Scope} {fp : Str → Bool} {k : Nat} {lk : List Nat}
end
end Dv

/-! Dv22: own errors: caught; isinstance(e, C), e.value in the suite. -/
namespace Dv
open PySem PySem.Spec PyProof.Rows L2 PySem.W PySem.Calls
/-- the error classes 0 .. m - 1; 0 is the base of all -/
structure ErTab (Γ : Wd) (m : Nat) (xs : List Str) : Prop where
  mg : ∀ j, j < m → ∃ x, xs[j]? = some x ∧ Γ.mg x = some (.ref (Γ.exc j))
  xc : ∀ j, j < m → ExcC Γ.K (Γ.exc j)
  xf : ∀ j, j < m → XfC Γ.K (Γ.exc j)
  no : ∀ j, j < m → findIn Γ.K (.ref (Γ.exc j)) "value" = some none
  isa : ∀ j, j < m → ∀ i, i < m → kitOne Γ.K (.ref (Γ.exc j)) (.ref (Γ.exc i)) = some (i == 0 || j == i)
  exm : ∀ j, j < m → ∀ i, i < m → exmOne Γ.K (.ref (Γ.exc j)) (.ref (Γ.exc i)) = some (i == 0 || j == i)
section
variable {Γ : Wd} {X : Cx} {N : List Str} {sc : Scope} {fp : Str → Bool} {k : Nat} {lk : List Nat}
/-- the error, caught, at slot i; its dict at dd -/
structure Cau (Γ : Wd) (σ : Sg) (F H : Hp) (A : List Addr) (i : Nat) (a dd : Addr) (v : V) (x : D) : Prop where
  at_ : σ[i]? = some (some (.ref a))
  d : H dd = some (.xd [(("value" : Str), v)])
  out : dd ∉ A
  val : rep Γ F v x
theorem Cau.ext {σ : Sg} {F H F' H' : Hp} {A A' : List Addr} {i : Nat} {a dd : Addr} {v : V} {x : D} (c : Cau Γ σ F H A i a dd v x) (e : Ext F H A F' H' A') : Cau Γ σ F' H' A' i a dd v x := by
  refine ⟨c.at_, (e.fr _ _ c.d c.out).eq (fun _ z => nomatch z), fun m => ?_, R.mono e.sf c.val⟩
  rcases e.na dd m with q | q
  · exact c.out q
  · rw [c.d] at q; cases q
structure SX (Γ : Wd) (Xs : Cx) (i : Nat) (a dd : Addr) (x : D) (e : Expr) (w : WE) : Prop where
  run : ∀ (σ : Sg) (F H : Hp) (A : List Addr) (ρ : Rho) (Q : WK) (QV : VK) (v : V), hold Γ σ F H ρ A → Cau Γ σ F H A i a dd v x → w ρ Q noE → (∀ sv ρ', Q sv ρ' → ∀ v F' H' A' B, Out Γ σ F H A ρ' sv v F' H' A' B → QV v H') → wpX Xs e σ H QV
structure SXA (Γ : Wd) (Xs : Cx) (i : Nat) (a dd : Addr) (x : D) (es : List Expr) (w : WA) : Prop where
  run : ∀ (σ : Sg) (F H : Hp) (A : List Addr) (ρ : Rho) (Q : List SV → Rho → Prop) (QV : List V → Hp → Prop) (v : V), hold Γ σ F H ρ A → Cau Γ σ F H A i a dd v x → w ρ Q noE → (∀ svs ρ', Q svs ρ' → ∀ vs F' H' A' B, OutL Γ σ F H A ρ' svs vs F' H' A' B → QV vs H') → wpXA Xs es σ H QV
section
variable {Xs : Cx} {i : Nat} {a dd : Addr} {x : D}
end
end
end Dv

/-! Dv23: classes made by keywords. -/
namespace Dv
open PySem PySem.Spec PyProof.Rows L2
section
variable {Γ : Wd} {X : Cx} {N : List Str} {sc : Scope} {fp : Str → Bool} {k : Nat}
/-- a class, its __init__ known by its text -/
structure MkX (Γ : Wd) (k n : Nat) (x : Str) (st : Stmt) (ps : List Str) (io : List Bool) (con : Con) : Prop where
  ex : ∃ (f : Addr) (fd : FuncData) (qual : Str), Γ.mg x = some (.ref (Γ.cl n).adr) ∧ Mk Γ.K (Γ.cl n).adr f ∧ Fun Γ.K "__init__" qual st f fd ∧ FnG Γ k f fd ps (spC Γ (true :: io) con)
theorem MkX.mono {i j n : Nat} {x : Str} {st : Stmt} {ps : List Str} {io : List Bool} {con : Con} (F : MkX Γ i n x st ps io con) (h : i ≤ j) : MkX Γ j n x st ps io con := ⟨let ⟨f, fd, q, a, b, c, d⟩ := F.ex; ⟨f, fd, q, a, b, c, d.mono h⟩⟩
end
end Dv

/-! Dv24: an instance that is called. -/
namespace Dv
open PySem PySem.Spec PyProof.Rows L2
section
variable {Γ : Wd} {X : Cx} {N : List Str} {sc : Scope} {fp : Str → Bool} {k : Nat}
theorem inst_look {A : List Addr} {pins : List (Addr × Obj)} {σ : Sg} {H : Hp} {s : Shared} {a C dx : Addr} {fs : List (Str × V)} (I : Inv X pins σ H s) (e : H a = some (.ins C dx fs)) : ∃ od, PySem.W.InstAt s.heap a (PySem.W.instObj C dx) C (some od) := by
  obtain ⟨mA, O, _⟩ := ins_get I.hok e
  obtain ⟨od, J, _⟩ := O.look
  exact ⟨od, J⟩
/-- an own instance is called: its standing is asked behind the arguments -/
theorem call_inst {M : Model} {A : Around} {E : Value → Shared → Prop} {s : Shared} {env : Env} {pos : Pos} {a : Addr} {Q : Value → Shared → Prop} {e : Expr} {es : List Expr}
    (h : wpAny M A (spliced (backTo pos (starEach (e :: es) env))) (fun us s1 => (∃ C ox od, PySem.W.InstAt s1.heap a ox C od ∧ ox.data = .plain) ∧ wpAny M A (call (.ref a) us) Q E s1) E s)
    (he : starEach (e :: es) env = (false, eval e env) :: starEach es env) (hp : (backTo pos (starEach es env)).any (·.1) = false) : wpAny M A (callWith pos (.ref a) [] (backTo pos (starEach (e :: es) env)) []) Q E s := by
  rw [he] at h ⊢
  have pl : ((backTo pos ((false, eval e env) :: starEach es env)).any (·.1) || ([] : List (Option Str × Sem Value)).any (·.1.isNone)) = false := by
    show ((false || (backTo pos (starEach es env)).any (·.1)) || false) = false
    rw [hp]; rfl
  unfold callWith
  have he2 : wpAny M A (evalArgs (.ref a) true (backTo pos ((false, eval e env) :: starEach es env)) []) (fun g s1 => (∃ C ox od, PySem.W.InstAt s1.heap a ox C od ∧ ox.data = .plain) ∧ wpAny M A (call (.ref a) ([] ++ g.pos) g.kw) Q E s1) E s :=
    PySem.Calls.evalArgs_plain (x := eval e env) (rest := backTo pos (starEach es env)) h
  refine wpAny_bind (wpAny_holding (wpAny_mono he2 (fun g s1 hg => ?_) fun _ _ z => z))
  obtain ⟨⟨C, ox, od, J, pd⟩, hc⟩ := hg
  refine wpAny_bind (wpAny_standAt ?_)
  have lk := PySem.W.kco_keeper (M := M) J pd
  simp only [pl]
  refine wpAny_bind (lk.here ?_)
  refine wpAny_bind (wpAny_mono (wpAny_operateT hc) (fun v s2 hv => ?_) fun _ _ z => z)
  exact wpAny_bind (wpAny_holding (wpAny_point (wpAny_pure hv)))
def wInst (n : Nat) (io : List Bool) (con : Con) (wo : WE) (wa : WA) : WE := fun ρ Q E => wo ρ (fun sx ρ1 => isIns n sx ρ1 ∧ wa ρ1 (fun svs ρ2 => isIns n sx ρ2 ∧ wCallK io con (sx :: svs) ρ2 Q E) E) E
theorem se_inst (C : Ctx Γ X N sc fp k) {n : Nat} {x : Str} {io : List Bool} {con : Con} {e : Expr} {es : List Expr} {wo : WE} {wa : WA} {p pos : Pos} (F : OpE Γ k n "__call__" io con) (ho : SE Γ X (.Name x p) wo) (ha : SA Γ X (e :: es) wa)
    (he : starEach (e :: es) X.env = (false, eval e X.env) :: starEach es X.env := by exact star_of rfl) (hpl : (backTo pos (starEach es X.env)).any (·.1) = false := by rfl) : SE Γ X (.Call (.Name x p) (e :: es) [] pos) (wInst n io con wo wa) := .mk fun σ F0 H A ρ Q E QV W hh tk el hw hq pins s I => by
  obtain ⟨f, fd, ps, h1, h2, h3, hb, FF⟩ := F.ex
  refine wpAny_Call_Name_kw (thn (ho.use hh tk el hw (QV := fun x H1 => ∃ a dx fs, x = .ref a ∧ H1 a = some (.ins (Γ.cl n).adr dx fs) ∧ wpXA X (e :: es) σ H1 fun vs H2 => (∃ dx fs, H2 a = some (.ins (Γ.cl n).adr dx fs)) ∧ spC Γ io con (x :: vs) H2 QV fun cls d H' => W cls d σ H') (fun sx ρ1 hw1 v1 F1 H1 A1 B1 o1 => ?_) pins s I) fun u s1 ⟨x, H1, I1, rx, a, dx, fs, ex, ea, q⟩ => ?_)
  · obtain ⟨hi, hw1⟩ := hw1
    obtain ⟨a, dx, fs, e1, e2, e3⟩ := ins_of o1.oh o1.ors hi
    refine ⟨a, dx, fs, e1, e2, ?_⟩
    refine ha.run σ F1 H1 A1 ρ1 _ E _ W o1.oh tk (el.ext o1.ext1) hw1 fun svs ρ2 hw2 vs F2 H2 A2 B2 o2 => ?_
    obtain ⟨hi2, hw2⟩ := hw2
    obtain ⟨a', dx', fs', e1', e2', _⟩ := ins_later o1 o2 hi2
    rw [e1] at e1'
    cases e1'
    exact ⟨⟨dx', fs', e2'⟩, call_core (out_cons o1 o2) el hw2 hq⟩
  · subst ex
    obtain rfl : u = Value.ref a := rx
    obtain ⟨od, J⟩ := inst_look (A := []) I1 ea
    have kin := I1.kIn
    rw [C.K] at kin
    refine call_inst (thn (q pos pins s1 I1) fun us s2 ⟨vs, H2, I2, r2, ⟨dx2, fs2, e2⟩, q2⟩ => ?_) he hpl
    obtain ⟨od2, J2⟩ := inst_look (A := []) I2 e2
    refine ⟨⟨_, _, _, J2, rfl⟩, ?_⟩
    have kin2 := I2.kIn
    have e0 := I2.env0
    rw [C.p, C.w, C.K, C.mg, C.base] at e0
    rw [C.K] at kin2
    have rr : Vals (.ref a :: vs) (.ref a :: us) := .cons rfl r2
    have al : ((Value.ref a :: us) ++ []).length = ps.length := by rw [List.append_nil, ← rr.length]; exact FF.len _ _ _ _ q2
    have R := FF.run X.A X.stack s2 H2 ⟨Value.ref a :: us, []⟩ (Value.ref a :: us) (.ref a :: vs) QV _ C.room C.gd e0 (by simpa using hb s2 (Value.ref a :: us) kin2 al) rr q2
    rw [← C.p, ← C.w] at R
    refine wpAny_call (PySem.W.kco_code kin2 J2 rfl h1 h2 h3 (codeAny_mono R fun res s' back => ?_))
    cases res with
    | error e => exact tk e s' (XE.of_call I2 (fun _ _ _ z => z) back)
    | ok fl =>
      cases fl with
      | ret u => exact I2.after back
      | next => exact back.elim
      | brk => exact back.elim
      | cont => exact back.elim
end
end Dv

/-! Dv25: != of two instances of an own class that has == alone. -/
namespace Dv
open PySem PySem.Spec PyProof.Rows L2
/-- object's own != stands for the class -/
structure NeOk (Γ : Wd) (n : Nat) : Prop where
  ne : PySem.W.findIn Γ.K (.ref (Γ.cl n).adr) "__ne__" = some (some (.builtin "object.__ne__"))
  ob : PySem.W.subIn Γ.K (.ref (Γ.cl n).adr) (.type "object") = some true
section
variable {prog : Program} {w : World} {A : Around} {E : Value → Shared → Prop} {s : Shared}
end
section
variable {Γ : Wd} {X : Cx} {N : List Str} {sc : Scope} {fp : Str → Bool} {k : Nat}
end
end Dv

/-! Dv26: fields that are lists which the instance alone owns. -/
namespace Dv
open PySem PySem.Spec PyProof.Rows L2
section
variable {Γ : Wd} {X : Cx} {N : List Str} {sc : Scope} {fp : Str → Bool} {k : Nat} {lk : List Nat}
section
variable {f x : Str} {p p2 pos : Pos} {n j : Nat}
end
end
end Dv

/-! Dv27: instances made that one name alone owns; owned lists put into fields. -/
namespace Dv
open PySem PySem.Spec PyProof.Rows L2
section
variable {Γ : Wd} {X : Cx} {N : List Str} {sc : Scope} {fp : Str → Bool} {k : Nat} {lk : List Nat}
/-! ### owned lists put into fields, one after the other -/
/-! ### a, b = x, y, where what is owned stays owned -/
def ownV : SV → Prop
  | .d _ => True
  | .lst _ => True
  | .ins _ _ => True
  | .dct _ => True
  | _ => False
theorem rs_own1 {σ : Sg} {F H : Hp} {v : V} {x : SV} {B : List Addr} (h : rs Γ σ F H v x B) (o : ownV x) : RS Γ.K Γ.cl F H v x B := by
  cases x <;> first | exact h | exact o.elim
def wPar2O (i j : Nat) (wa : WA) : WS := fun ρ D E => wa ρ (fun svs ρ1 => match svs with
  | [x, y] => ownV x ∧ ownV y ∧ D.nx ((ρ1.set i (some x)).set j (some y))
  | _ => False) E
theorem ss_par2O (C : Ctx Γ X N sc fp k) (i j : Nat) {x y : Str} {a b : Expr} {wa : WA} {px py pt pos : Pos} {kt k2 pt2} (ha : SA Γ X [a, b] wa) (hi : N[i]? = some x := by rfl) (hj : N[j]? = some y := by rfl) (hij : i ≠ j := by decide)
    (hx : sc.names.lookup x = some .local := by rfl) (hy : sc.names.lookup y = some .local := by rfl) (f1 : lk.contains i = false := by rfl) (f2 : lk.contains j = false := by rfl)
    (hw : swappedStores [.Tuple [.Name x px, .Name y py] kt pt] (.Tuple [a, b] k2 pt2) { X.env with scope := sc } = pure (some [x, y]) := by rfl)
    (hs : swapsWithSole [.Tuple [.Name x px, .Name y py] kt pt] (.Tuple [a, b] k2 pt2) pos.line X.env = pure false := by rfl) :
    SS Γ lk X (.Assign [.Tuple [.Name x px, .Name y py] kt pt] (.Tuple [a, b] k2 pt2) pos) (wPar2O i j wa) := .mk fun σ F H A ρ D E DV W hh tk el eo hw' pins s I => by
  have eE : ({ X.env with scope := sc } : Env) = X.env := by rw [← C.hs]
  rw [eE] at hw
  refine (ps_par C.calm (by rw [C.hN]; exact C.nd) (by rw [C.hN]; exact hi) (by rw [C.hN]; exact hj) hij (by rw [C.hs]; exact hx) (by rw [C.hs]; exact hy) pa_x hw hs).run pins s σ H DV I ?_
  refine ha.run σ F H A ρ _ E _ W hh tk el.now hw' fun svs ρ1 hw1 vs F1 H1 A1 B1 o1 => ?_
  split at hw1
  · rename_i x y
    obtain ⟨ox, oy, hk⟩ := hw1
    obtain ⟨v1, r', C1, C2, rfl, q1, ⟨v2, r'', C3, C4, rfl, q2, ⟨rfl, rfl⟩, rfl⟩, rfl⟩ := o1.ors
    have q1' := rs_own1 q1 ox
    have q2' := rs_own1 q2 oy
    have nd := o1.ond
    rw [List.append_nil] at nd
    have fb := o1.ofb
    rw [List.append_nil] at fb
    have nd' := nd
    rw [List.append_assoc] at nd'
    have n1 := List.nodup_append.mp nd'
    have n2 := List.nodup_append.mp n1.2.1
    have ndx : (C1 ++ A1).Nodup := List.nodup_append.mpr ⟨n1.1, n2.2.1, fun a m b m' => n1.2.2 a m b (List.mem_append_right _ m')⟩
    obtain ⟨A3, h3, s3⟩ := hold_put o1.oh q1' ndx (fun b m => fb b (List.mem_append_left _ m)) (len_of C I hi)
    have ndy : (C3 ++ A3).Nodup := List.nodup_append.mpr ⟨n2.1, h3.nd, fun a m b m' z => by
      subst z
      rcases List.mem_append.mp (s3 a m') with q | q
      · exact n1.2.2 a q a (List.mem_append_left _ m) rfl
      · exact n2.2.2 a m a q rfl⟩
    obtain ⟨A4, h4, s4⟩ := hold_put h3 q2' ndy (fun b m => fb b (List.mem_append_right _ m)) (by simpa using len_of C I hj)
    refine ⟨v1, v2, rfl, eo.nx _ hk _ F1 H1 A4 ((Kp.set f1).trans (.set f2)) (o1.oe.sub fun a m => ?_) h4⟩
    rw [List.append_nil]
    rcases List.mem_append.mp (s4 a m) with q | q
    · exact List.mem_append_left _ (List.mem_append_right _ q)
    · rcases List.mem_append.mp (s3 a q) with q | q
      · exact List.mem_append_left _ (List.mem_append_left _ q)
      · exact List.mem_append_right _ q
  · exact hw1.elim
end
end Dv

/-! Dv28: more of owned fields: pop, a test for the empty list; len of an own instance. -/
namespace Dv
open PySem PySem.Spec PyProof.Rows L2
section
variable {Γ : Wd} {X : Cx} {N : List Str} {sc : Scope} {fp : Str → Bool} {k : Nat} {lk : List Nat}
section
variable {f x : Str} {p p2 pos : Pos} {n j : Nat}
end
/-! ### len(x), x an own instance -/
end
end Dv

/-! Dv29: a, b, c, d = .., four and more, where what is owned stays owned. -/
namespace Dv
open PySem PySem.Spec PyProof.Rows L2
section
variable {Γ : Wd} {X : Cx} {N : List Str} {sc : Scope} {fp : Str → Bool} {k : Nat} {lk : List Nat}
def setS (σ : Sg) : List Nat → List V → Sg
  | i :: is, v :: vs => setS (σ.set i (some v)) is vs
  | _, _ => σ
def setR (ρ : Rho) : List Nat → List SV → Rho
  | i :: is, v :: vs => setR (ρ.set i (some v)) is vs
  | _, _ => ρ
/-- names, stored one after the other -/
structure NGs (X : Cx) (N : List Str) (lk : List Nat) (ts : List Expr) (is : List Nat) : Prop where
  run : ∀ (vs : List V) (σ : Sg) (H : Hp) (QV : L2.St → Hp → Prop), vs.length = is.length → QV (setS σ is vs) H → wpXGs X ts vs σ H QV
  kp : ∀ (vs : List V) (σ : Sg), Kp lk σ (setS σ is vs)
  lt : ∀ i ∈ is, i < N.length
theorem ngs_nil : NGs X N lk [] [] := .mk (fun vs σ H QV hl q pins s us I ru => by
  refine pgs_nil.run pins s σ H vs us QV I ru ?_
  cases vs with
  | nil => exact ⟨rfl, q⟩
  | cons _ _ => simp at hl) (fun _ _ => .refl) (fun _ m => nomatch m)
theorem ngs_cons (C : Ctx Γ X N sc fp k) (i : Nat) {x : Str} {pos : Pos} {ts : List Expr} {is : List Nat} (h : NGs X N lk ts is) (hn : StN N sc fp lk i x := by first | exact ⟨⟨rfl, rfl⟩, Or.inl rfl⟩ | exact ⟨⟨rfl, rfl⟩, Or.inr ⟨rfl, rfl⟩⟩)
    (hs : (assignEach (.Name x pos :: ts) X.env).map (·.2) = assign (.Name x pos) X.env :: (assignEach ts X.env).map (·.2) := by rfl) : NGs X N lk (.Name x pos :: ts) (i :: is) := .mk (fun vs σ H QV hl q pins s us I ru => by
  obtain ⟨h1, h2, h3⟩ := hn.loc C
  refine (pgs_cons (pg_name (i := i) (by rw [C.hN]; exact C.nd) h1 h2 h3) pgs_x hs).run pins s σ H vs us QV I ru ?_
  cases vs with
  | nil => simp at hl
  | cons v vs => exact ⟨v, vs, rfl, h.run vs _ H QV (by simpa using hl) q⟩) (fun vs σ => by
  cases vs with
  | nil => exact .refl
  | cons v vs => exact (Kp.set hn.1.2).trans (h.kp vs _)) (fun j m => by
  rcases List.mem_cons.mp m with rfl | m
  · exact (List.getElem?_eq_some_iff.mp hn.1.1).1
  · exact h.lt j m)
theorem hold_puts {F H : Hp} {σ0 : Sg} : ∀ {is : List Nat} {svs : List SV} {vs : List V} {σ : Sg} {ρ : Rho} {A B : List Addr}, hold Γ σ F H ρ A → rsL Γ σ0 F H vs svs B → (∀ x ∈ svs, ownV x) → (B ++ A).Nodup → (∀ b ∈ B, F b = none) → (∀ i ∈ is, i < σ.length) →
    ∃ A', hold Γ (setS σ is vs) F H (setR ρ is svs) A' ∧ ∀ a ∈ A', a ∈ B ++ A
  | [], svs, vs, σ, ρ, A, B, hh, r, o, nd, fb, hi => by
    refine ⟨A, ?_, fun a m => List.mem_append_right _ m⟩
    cases vs <;> cases svs <;> exact hh
  | i :: is, [], vs, σ, ρ, A, B, hh, r, o, nd, fb, hi => by
    obtain ⟨rfl, rfl⟩ := r
    exact ⟨A, hh, fun a m => by simpa using m⟩
  | i :: is, x :: xs, vs, σ, ρ, A, B, hh, r, o, nd, fb, hi => by
    obtain ⟨v, r', B1, B2, rfl, h2, h3, rfl⟩ := r
    have n1 := nd
    rw [List.append_assoc] at n1
    have n1 := List.nodup_append.mp n1
    have n2 := List.nodup_append.mp n1.2.1
    have ndx : (B1 ++ A).Nodup := List.nodup_append.mpr ⟨n1.1, n2.2.1, fun a m b m' => n1.2.2 a m b (List.mem_append_right _ m')⟩
    obtain ⟨A3, h4, s4⟩ := hold_put hh (rs_own1 h2 (o x (by simp))) ndx (fun b m => fb b (List.mem_append_left _ m)) (hi i (by simp))
    have nd3 : (B2 ++ A3).Nodup := List.nodup_append.mpr ⟨n2.1, h4.nd, fun a m b m' z => by
      subst z
      rcases List.mem_append.mp (s4 a m') with q | q
      · exact n1.2.2 a q a (List.mem_append_left _ m) rfl
      · exact n2.2.2 a m a q rfl⟩
    obtain ⟨A5, h5, s5⟩ := hold_puts (is := is) h4 h3 (fun y m => o y (by simp [m])) nd3 (fun b m => fb b (List.mem_append_right _ m)) (fun j m => by simpa using hi j (by simp [m]))
    refine ⟨A5, h5, fun a m => ?_⟩
    rcases List.mem_append.mp (s5 a m) with q | q
    · exact List.mem_append_left _ (List.mem_append_right _ q)
    · rcases List.mem_append.mp (s4 a q) with q | q
      · exact List.mem_append_left _ (List.mem_append_left _ q)
      · exact List.mem_append_right _ q
def wParL (is : List Nat) (wa : WA) : WS := fun ρ D E => wa ρ (fun svs ρ1 => (∀ x ∈ svs, ownV x) ∧ svs.length = is.length ∧ svs.length ≤ 16777216 ∧ D.nx (setR ρ1 is svs)) E
theorem ss_parL (C : Ctx Γ X N sc fp k) {ts es : List Expr} {is : List Nat} {kt k2 n : Nat} {pt pt2 pos : Pos} {wa : WA} (ha : SA Γ X es wa) (hg : NGs X N lk ts is) (hn : (assignEach ts X.env).length = n := by rfl) (hst : (assignEach ts X.env).findIdx? (·.1) = none := by rfl) (hil : n = is.length := by rfl)
    (hs : swapsWithSole [.Tuple ts kt pt] (.Tuple es k2 pt2) pos.line X.env = pure false := by rfl) (hw : swappedStores [.Tuple ts kt pt] (.Tuple es k2 pt2) X.env = pure none := by rfl)
    (h1 : (assignEach [.Tuple ts kt pt] X.env).map (·.2) = [assign (.Tuple ts kt pt) X.env] := by rfl) : SS Γ lk X (.Assign [.Tuple ts kt pt] (.Tuple es k2 pt2) pos) (wParL is wa) := .mk fun σ F H A ρ D E DV W hh tk el eo hw' pins s I => by
  refine (ps_asg (pe_tup pa_x) (pg_tup C.calm pgs_x hn hst) hs hw h1).run pins s σ H DV I ?_
  refine ha.run σ F H A ρ _ E _ W hh tk el.now hw' fun svs ρ1 hw1 vs F1 H1 A1 B1 o1 => ?_
  obtain ⟨ov, hl, hl2, hk⟩ := hw1
  have len : vs.length = svs.length := rsL_len o1.ors
  refine ⟨by rw [len, line_eq]; exact hl2, fun p hp => ?_⟩
  have pres : ∀ a u, H1 a = some u → upd H1 p (.tup vs) a = some u := fun a u e => by rw [upd_ne (ne_of_none e hp)]; exact e
  refine ⟨p, vs, rfl, .of upd_same, by omega, hg.run vs σ _ _ (by omega) ?_⟩
  obtain ⟨Aq, sl, pq⟩ := o1.oh.sl
  have h2 : hold Γ σ F1 (upd H1 p (.tup vs)) ρ1 A1 := ⟨⟨Aq, sl.mono (Same.refl F1) fun a m u e => .inl (pres a u e), pq⟩, fun a u e => pres a u (o1.oh.sub a u e), o1.oh.nd, o1.oh.av, o1.oh.tb.upd (.inl hp)⟩
  obtain ⟨A3, h3, s3⟩ := hold_puts (is := is) h2 (rsL_mono (Same.refl F1) (fun a m u e => .inl (pres a u e)) o1.ors) ov o1.ond o1.ofb (fun i m => by rw [I.len, C.hN]; exact hg.lt i m)
  exact eo.nx _ hk _ F1 _ A3 (hg.kp vs σ) ((o1.oe.trans ⟨Same.refl F1, fun a u e _ => .inl (pres a u e), fun a u e => .inl e, fun a m => .inl m⟩).sub s3) h3
end
end Dv

/-! Dv30: classmethods: the class by its name, C.m(..), cls(..). -/
namespace Dv
open PySem PySem.Spec PyProof.Rows L2
section
variable {Γ : Wd} {X : Cx} {N : List Str} {sc : Scope} {fp : Str → Bool} {k : Nat} {lk : List Nat}
/-- a classmethod of class n -/
structure CmE (Γ : Wd) (k n : Nat) (m : Str) (io : List Bool) (con : Con) : Prop where
  ex : ∃ (mc : Value) (p f : Addr) (fd : FuncData) (ps : List Str), ClX.CRead Γ.K (Γ.cl n).adr mc ∧ ClX.CMet Γ.K (Γ.cl n).adr mc m p f ∧ Binds Γ.K fd ps [] ∧ FnG Γ k f fd ps (spC Γ io con)
theorem CmE.mono {i j n : Nat} {m : Str} {io : List Bool} {con : Con} (F : CmE Γ i n m io con) (h : i ≤ j) : CmE Γ j n m io con := ⟨let ⟨mc, p, f, fd, ps, a, b, c, d⟩ := F.ex; ⟨mc, p, f, fd, ps, a, b, c, d.mono h⟩⟩
end
end Dv

/-! Dv31: list(range(a, b)), also far from 0. -/
namespace Dv
open PySem PySem.Spec PyProof.Rows L2
section
variable {prog : Program} {w : World} {A : Around} {E : Value → Shared → Prop} {s : Shared}
abbrev AccOf (a c : Int) (n : Nat) (acc : Array Value) : Prop := ItemsOf (fun i v => ∃ t, v = .int (a + i * c) t) acc n
/-- the list is lengthened by a range whose numbers are great -/
theorem ext_long {R : Result → Shared → Prop} {r S : Addr} {a b c : Int} {t u v : Tok} {n c₀ : Nat} {res : Value} (hh : A.handled = none) (hr : IsRange s.heap r a b c t u v) (big : Builtin.Range.small a b c = false) (hn : Builtin.Range.rangeSize a b c = n) (hlen : n ≤ 2 ^ 24)
    (hS : s.heap.get? S = some { cls := .type "list", data := .seq #[] c₀ })
    (hR : ∀ h' tk acc' c', (∀ b o, b ≠ S → s.heap.get? b = some o → h'.get? b = some o) → h'.get? S = some { cls := .type "list", dict := none, data := .seq acc' c', slots := #[] } → AccOf a c n acc' → R (.ok (.ret res)) { s with heap := h', toks := tk }) :
    wpAny (model prog w) A.in1 (Builtin.List.listExtendWith (.ref S) (.ref r) res)
      (fun fin s' => match fin with | .done f => R (.ok f) s' | .again c' => c'.quiet = true ∧ codeAny (model prog w) A c' R s') (fun e s' => R (.error e) s') s := by
  have ne : S ≠ r := fun e => by rw [e, hr] at hS; simp at hS
  have lt : S < s.heap.objs.size := Heap.lt_size hS
  have nI : S ≠ s.heap.objs.size := Nat.ne_of_lt lt
  have nf : S ∉ [s.heap.objs.size] := fun m => nI (List.mem_singleton.mp m)
  have W := (Walks.longrange (prog := prog) (w := w) (A := A.in1) hh s.heap.objs.size a c n).toS
  have loop : ∀ (h : Heap) (c₁ tk : Nat), IsLongIter h s.heap.objs.size (a + ((0 : Nat) : Int) * c) ((n : Int) - ((0 : Nat) : Int)) c → (∀ b o, b ≠ S → s.heap.get? b = some o → h.get? b = some o) →
      h.get? S = some { cls := .type "list", data := .seq #[] c₁ } → codeAny (model prog w) A (.builtin "list.extend.loop" ⟨[.ref S, .ref s.heap.objs.size, res], []⟩) R { s with heap := h, toks := tk } := fun h c₁ tk hit keep hS₁ => by
    refine codeAny_extend_loopS W (by rw [sizeLine_eq]; omega) S nf res n 0 _ #[] c₁ rfl (Nat.zero_le _) hit hS₁ (ItemsOf.nil _) fun s' acc' c' mv hS' hacc => ?_
    rw [Moved.eq_with mv]
    refine hR s'.heap s'.toks acc' c' (fun b o hb e => mv.heap b o (fun m => ?_) (keep b o hb e)) hS' hacc
    rcases List.mem_cons.mp m with q | m
    · exact hb q
    · exact absurd (Heap.lt_size e) (by rw [List.mem_singleton.mp m]; exact Nat.lt_irrefl _)
  unfold Builtin.List.listExtendWith
  refine wpAny_bind (wpAny_typeOf (T := "range") ⟨_, hr, rfl⟩ ?_)
  have h1 : Builtin.List.listSameRef (.ref S) (.ref r) = false := by simp [Builtin.List.listSameRef, ne]
  have h2 : (Value.type "range" == Value.type "list") = false := by decide
  have h3 : (Value.type "range" == Value.type "tuple") = false := by decide
  simp only [h1, h2, h3, Bool.or_false, Bool.false_eq_true, if_false]
  refine wpAny_bind (wpAny_pyIter_longrange hr big ?_)
  refine wpAny_bind (wpAny_holding (wpAny_hint_range (n := n) (Heap.get?_push_of_some _ hr) hn hlen ?_))
  have it1 : IsLongIter (s.heap.push { cls := .type "longrange_iterator", data := .fields #[rawInt a, rawInt (Builtin.Range.rangeSize a b c), rawInt c] }) s.heap.objs.size (a + ((0 : Nat) : Int) * c) ((n : Int) - ((0 : Nat) : Int)) c := by
    show IsLongIter _ _ _ _ _; rw [hn]; simpa using Heap.get?_push_size _ rfl
  have S1 := Heap.get?_push_of_some { cls := .type "longrange_iterator", data := .fields #[rawInt a, rawInt (Builtin.Range.rangeSize a b c), rawInt c] } hS
  refine wpAny_ite_split (fun _ => ?_) (fun _ => wpAny_pure ⟨plainId_quiet PySem.F.plain_extend_loop _, loop _ c₀ _ it1 (fun b o _ e => Heap.get?_push_of_some _ e) S1⟩)
  refine wpAny_bind (wpAny_rule ?_)
  refine wpAny_bind ?_
  show wpAny _ _ (updateSeq S (·.push .none) >>= fun _ => updateSeq S (·.pop)) _ _ _
  refine wpAny_bind (wpAny_updateSeq S1 rfl ?_)
  have S2 := Heap.get?_update_self (Obj.mapSeq (·.push Value.none)) S1 rfl
  refine wpAny_updateSeq (hz := by seq_fits) S2 rfl ?_
  have S3 := Heap.get?_update_self (Obj.mapSeq (·.pop)) S2 rfl
  refine wpAny_pure ⟨plainId_quiet PySem.F.plain_extend_loop _, loop _ _ _ ?_ (fun b o hb e => ?_) S3⟩
  · exact (Heap.get?_update_other _ _ nI).trans ((Heap.get?_update_other _ _ nI).trans it1)
  · exact (Heap.get?_update_other _ _ (Ne.symm hb)).trans ((Heap.get?_update_other _ _ (Ne.symm hb)).trans (Heap.get?_push_of_some _ e))
theorem list_long {Q : Value → Shared → Prop} {r : Addr} {a b c : Int} {t u v : Tok} {n : Nat} (hh : A.handled = none) (hr : IsRange s.heap r a b c t u v) (big : Builtin.Range.small a b c = false) (hn : Builtin.Range.rangeSize a b c = n) (hlen : n ≤ 2 ^ 24)
    (hQ : ∀ h' tk acc' c', (∀ b o, s.heap.get? b = some o → h'.get? b = some o) → h'.get? s.heap.objs.size = some { cls := .type "list", dict := none, data := .seq acc' c', slots := #[] } → AccOf a c n acc' → Q (.ref s.heap.objs.size) { s with heap := h', toks := tk }) :
    wpAny (model prog w) A (call (.type "list") [.ref r]) Q E s := by
  refine callType_codes (Q₁ := fun obj s₁ => obj = .ref s.heap.objs.size ∧ s₁ = { s with heap := s.heap.push { cls := .type "list", data := .seq #[] } }) PySem.F.called_list (PySem.F.typeCall_list_1 _) PySem.F.entry_list_init
    (code_list_new _ ⟨rfl, rfl⟩) fun obj s₁ h₁ => ?_
  obtain ⟨rfl, rfl⟩ := h₁
  have hS : (s.heap.push { cls := .type "list", data := .seq #[] }).get? s.heap.objs.size = some { cls := .type "list", data := .seq #[] } := Heap.get?_push_size _ rfl
  have hr' : IsRange (s.heap.push { cls := .type "list", data := .seq #[] }) r a b c t u v := Heap.get?_push_of_some _ hr
  have ne : s.heap.objs.size ≠ r := fun e => by rw [IsRange, ← e, hS] at hr'; simp at hr'
  refine ⟨⟨_, hS, rfl⟩, PySem.F.args_list_init_2 _ _, ?_⟩
  show wpAny _ _ (do let old ← Builtin.List.listItems (.ref s.heap.objs.size); Builtin.List.listUpdate (.ref s.heap.objs.size) (fun _ => #[]); letGo old.toList.reverse; Builtin.List.listExtendWith (.ref s.heap.objs.size) (.ref r) .none) _ _ _
  refine wpAny_bind ?_
  unfold Builtin.List.listItems
  refine wpAny_bind (wpAny_seqItems hS rfl (wpAny_pure ?_))
  show wpAny _ _ (updateSeq s.heap.objs.size (fun _ => #[]) >>= fun _ => letGo (#[] : Array Value).toList.reverse >>= fun _ => Builtin.List.listExtendWith (.ref s.heap.objs.size) (.ref r) .none) _ _ _
  refine wpAny_bind (wpAny_updateSeq hS rfl ?_)
  have S2 := Heap.get?_update_self (Obj.mapSeq (fun _ => (#[] : Array Value))) hS rfl
  have oth : ∀ b o, b ≠ s.heap.objs.size → (s.heap.push { cls := .type "list", data := .seq #[] }).get? b = some o → ((s.heap.push { cls := .type "list", data := .seq #[] }).update s.heap.objs.size (Obj.mapSeq (fun _ => (#[] : Array Value)))).get? b = some o :=
    fun b o hb e => (Heap.get?_update_other _ _ (Ne.symm hb)).trans e
  refine wpAny_bind (wpAny_letGo ?_)
  refine ext_long (A := A.in1) hh (oth r _ (Ne.symm ne) hr') big hn hlen S2 fun h' tk acc' c' hk hS' hacc => ?_
  exact ⟨rfl, hQ h' tk acc' c' (fun b o e => hk b o (Nat.ne_of_lt (Heap.lt_size e)) (oth b o (Nat.ne_of_lt (Heap.lt_size e)) (Heap.get?_push_of_some _ e))) hS' hacc⟩
end
end Dv

/-! Dv32: list(zip(a, b)). -/
namespace Dv
open PySem PySem.Spec PyProof.Rows L2
/-- pairs laid one after the other -/
inductive NT : Hp → List (Addr × V × V) → Hp → Prop
  | nil (H : Hp) : NT H [] H
  | cons {H H' : Hp} {T : Addr} {x y : V} {L : List (Addr × V × V)} : H T = none → NT (upd H T (.tup [x, y])) L H' → NT H ((T, x, y) :: L) H'
theorem NT.keep {H H' : Hp} {L : List (Addr × V × V)} (n : NT H L H') : ∀ a o, H a = some o → H' a = some o := by
  induction n with
  | nil => exact fun _ _ e => e
  | cons h _ ih => exact fun a o e => ih a o (by rw [upd_ne (ne_of_none e h)]; exact e)
theorem zip_no_len : typeLookup (.type "zip") "__len__" = pure none := am_miss_of_fast (by decide +kernel)
theorem zip_no_hint : typeLookup (.type "zip") "__length_hint__" = pure none := am_miss_of_fast (by decide +kernel)
/-- where a zip stands while its pairs are held by a list at S -/
def ZSt (h : Heap) (S z TI TO i1 i2 : Addr) : Prop :=
  (IsZip h z TI TO .none ∧ ∃ a b, IsPair h TO a b) ∨ ∃ T f oT, IsZipHeld h z TI TO T f ∧ h.get? T = some oT ∧ T ≠ z ∧ T ≠ i1 ∧ T ≠ i2 ∧ T ≠ S
section
variable {X : Cx} {pins : List (Addr × Obj)} {σ : L2.St} {A : Around}
/-- an object that stands there, not tracked, is tracked from now on -/
theorem adopt {H : Hp} {s : Shared} {S : Addr} {ob : HO} (I : Inv X pins σ H s) (hf : FpOk X pins H S) (new : ObjOk X.prog X.w (upd H S ob) s.heap S ob) : Inv X pins σ (upd H S ob) s := by
  have hn := hf.1
  refine I.step (h' := s.heap) (g' := s.gens) (d' := s.drawn) (t' := s.toks) (ch := [S]) (fun b hb => ?_) (fun b o _ _ hc e _ => e) (fun b o _ _ hc e _ => ⟨o.slots, e⟩) (fun b o hc _ n => ?_) (fun b o hc e => ⟨o, e⟩) (fun b xs e => ?_) (fun b o u e => ?_) (fun b ps e => ⟨#[], ?_⟩) (fun m hm => hm) (fun b u e => ?_) I.bare
  · rw [List.mem_singleton.mp hb]
    exact ⟨hf.2.2.2.1, hf.2.1, hf.2.2.2.2.1, hf.2.2.2.2.2⟩
  · rw [upd_ne fun z => hc (by rw [z]; exact List.mem_singleton.mpr rfl)]; exact n
  · rw [upd_ne (ne_of_none e hn)]; exact e
  · rw [upd_ne (ne_of_none e hn)]; exact e
  · rw [upd_ne (ne_of_none e hn), e]; simp
  · by_cases hb : b = S
    · subst hb
      rw [upd_same] at e
      cases e
      exact new
    · rw [upd_ne hb] at e
      exact (I.hok b u e).stay (fun c v _ q => q) (fun c q => by rw [upd_ne (ne_of_none q hn)]; exact q) fun c xs q => by rw [upd_ne (ne_of_none q hn)]; exact q
theorem loop_zip {R : Result → Shared → Prop} {S z TI TO i1 i2 a b : Addr} {xs ys : List V} {n : Nat} (hh : A.handled = none) (D : ZipApart z TI TO i1 i2 a b) (dS : ∀ c ∈ [z, TI, TO, i1, i2], S ≠ c) (hn : n = min xs.length ys.length) (few : n ≤ 2 ^ 24) (res : Value) :
    ∀ (k i : Nat) (s : Shared) (H : Hp) (acc : Array Value) (c : Nat), n - i = k → i ≤ n → Inv X pins σ H s → (∀ b ∈ [S, z, TI, TO, i1, i2], FpOk X pins H b) → H a = some (.lst xs) → H b = some (.lst ys) →
    IsPair s.heap TI (.ref i1) (.ref i2) → s.heap.IsListIter i1 a i → s.heap.IsListIter i2 b i → ZSt s.heap S z TI TO i1 i2 → (∃ o, s.heap.get? TO = some o) →
    s.heap.get? S = some { cls := .type "list", dict := none, data := .seq acc c, slots := #[] } → acc.size = i →
    (∀ s' H' L acc' c', Inv X pins σ H' s' → NT H L H' → L.map (fun p => (p.2.1, p.2.2)) = (xs.zip ys).drop i → acc'.toList = acc.toList ++ L.map (fun p => Value.ref p.1) → FpOk X pins H' S →
      s'.heap.get? S = some { cls := .type "list", dict := none, data := .seq acc' c', slots := #[] } → R (.ok (.ret res)) s') →
    codeAny (model X.prog X.w) A (.builtin "list.extend.loop" ⟨[.ref S, .ref z, res], []⟩) R s := by
  intro k
  induction k with
  | zero =>
    intro i s H acc c hk hi I hf ha hb hTI h1 h2 hz hO hS hacc hR
    have hin : i = n := by omega
    refine codeAny_builtin PySem.F.entry_extend_loop ?_
    rw [Around.under_plainId PySem.F.plain_extend_loop _]
    show wpAny _ A.in1 (pyNext (.ref z) >>= _) _ _ s
    obtain ⟨its, rv, p, _⟩ := I.list (SqL.of (K := X.K) ha)
    obtain ⟨its2, rv2, p2, _⟩ := I.list (SqL.of (K := X.K) hb)
    have l1 := rv.length
    have l2 := rv2.length
    have he : its.toArray[i]? = none ∨ its2.toArray[i]? = none := by
      rcases Nat.le_total xs.length ys.length with q | q
      · exact .inl (by simp; omega)
      · exact .inr (by simp; omega)
    have fin : ∀ h', (∀ c o, c ≠ z → c ≠ TO → c ≠ i1 → c ≠ i2 → s.heap.get? c = some o → h'.get? c = some o) → R (.ok (.ret res)) { s with heap := h' } := fun h' hk =>
      hR { s with heap := h' } H [] acc c (I.turnedL (t' := s.toks) (ch := [S, z, TI, TO, i1, i2]) (fun c o hb q => hk c o (fun q' => hb (by simp [q'])) (fun q' => hb (by simp [q'])) (fun q' => hb (by simp [q'])) (fun q' => hb (by simp [q'])) q) hf) (.nil _)
        (by rw [List.drop_of_length_le (by rw [List.length_zip]; omega)]; rfl) (by simp) (hf S (by simp)) (hk S _ (dS z (by simp)) (dS TO (by simp)) (dS i1 (by simp)) (dS i2 (by simp)) hS)
    rcases hz with ⟨hz, x0, y0, hTO⟩ | ⟨T, f, oT, hz, hT, r1, r2, r3, r4⟩
    · exact wpAny_bind (wpAny_pyNext_zip_end hh D hz hTI hTO h1 h2 p.isList p2.isList he fun h' hk => wpAny_pure (fin h' hk))
    · exact wpAny_bind (wpAny_pyNext_zip_end_held hh D hz hT hTI h1 h2 p.isList p2.isList he fun h' hk => wpAny_pure (fin h' fun c o c1 _ c3 c4 => hk c o c1 c3 c4))
  | succ k ih =>
    intro i s H acc c hk hi I hf ha hb hTI h1 h2 hz hO hS hacc hR
    have hlt : i < n := by omega
    refine codeAny_builtin PySem.F.entry_extend_loop ?_
    rw [Around.under_plainId PySem.F.plain_extend_loop _]
    show wpAny _ A.in1 (pyNext (.ref z) >>= _) _ _ s
    obtain ⟨its, rv, p, _⟩ := I.list (SqL.of (K := X.K) ha)
    obtain ⟨its2, rv2, p2, _⟩ := I.list (SqL.of (K := X.K) hb)
    have hx : xs[i]? = some (xs[i]'(by omega)) := List.getElem?_eq_getElem _
    have hy : ys[i]? = some (ys[i]'(by omega)) := List.getElem?_eq_getElem _
    generalize xs[i]'(by omega) = x at hx
    generalize ys[i]'(by omega) = y at hy
    obtain ⟨u, hu, ru⟩ := rv.get hx
    obtain ⟨u2, hu2, ru2⟩ := rv2.get hy
    have nS : S < s.heap.objs.size := Heap.lt_size hS
    have szl : ∀ {c o}, s.heap.get? c = some o → s.heap.objs.size ≠ c := fun e => Nat.ne_of_gt (Heap.lt_size e)
    have n1 : s.heap.objs.size ≠ i1 := let ⟨_, e, _⟩ := h1; szl e
    have n2 : s.heap.objs.size ≠ i2 := let ⟨_, e, _⟩ := h2; szl e
    have nTI := szl hTI
    have nTO : s.heap.objs.size ≠ TO := let ⟨_, e⟩ := hO; szl e
    have nz : s.heap.objs.size ≠ z := by
      rcases hz with ⟨hz, _⟩ | ⟨T, f, oT, hz, _⟩
      · exact szl hz
      · exact szl hz
    have next : ∀ h', (∃ T f oT, IsZipHeld h' z TI TO T f ∧ h'.get? T = some oT ∧ T ≠ z ∧ T ≠ i1 ∧ T ≠ i2 ∧ T ≠ S) → (∃ o, h'.get? TO = some o) → h'.IsListIter i1 a (i + 1) → h'.IsListIter i2 b (i + 1) → IsPair h' s.heap.objs.size u u2 →
        (∀ c o, c ≠ z → c ≠ TO → c ≠ i1 → c ≠ i2 → s.heap.get? c = some o → h'.get? c = some o) →
        wpAny (model X.prog X.w) A.in1 (updateSeq S (·.push (.ref s.heap.objs.size)) >>= fun _ => again (.builtin "list.extend.loop" ⟨[.ref S, .ref z, res], []⟩)) (fun fin s' => match fin with | .done f => R (.ok f) s' | .again c' => c'.quiet = true ∧ codeAny (model X.prog X.w) A c' R s') (fun e s' => R (.error e) s') { s with heap := h' } := fun h' hz' hO' h1' h2' hT hk => by
      have hS' := hk S _ (dS z (by simp)) (dS TO (by simp)) (dS i1 (by simp)) (dS i2 (by simp)) hS
      have hTI' := hk TI _ D.TIz D.TITO D.TIi1 D.TIi2 hTI
      refine wpAny_bind ?_
      refine wpAny_updateSeq hS' rfl (wpAny_pure ⟨plainId_quiet PySem.F.plain_extend_loop _, ?_⟩) (by rw [hacc, sizeLine_eq]; omega) (by show (acc.push _).size ≤ sizeLine + 1; rw [Array.size_push, hacc, sizeLine_eq]; omega)
      have oth : ∀ c o, c ≠ S → h'.get? c = some o → (h'.update S (Obj.mapSeq (·.push (Value.ref s.heap.objs.size)))).get? c = some o := fun c o hc e => (Heap.get?_update_other _ _ (Ne.symm hc)).trans e
      have hT2 := oth _ _ (Nat.ne_of_gt nS) hT
      have new : ObjOk X.prog X.w (upd H s.heap.objs.size (.tup [x, y])) (h'.update S (Obj.mapSeq (·.push (Value.ref s.heap.objs.size)))) s.heap.objs.size (.tup [x, y]) :=
        ⟨by show 2 ≤ sizeLine; decide, [u, u2], .cons ru (.cons ru2 .nil), ⟨_, hT2, rfl, _, rfl⟩⟩
      have hn : H s.heap.objs.size = none := I.hok.fresh (Nat.le_refl _)
      have I1 : Inv X pins σ (upd H s.heap.objs.size (.tup [x, y])) { s with heap := h'.update S (Obj.mapSeq (·.push (Value.ref s.heap.objs.size))) } :=
        I.turnedNew (t' := s.toks) (ch := [S, z, TI, TO, i1, i2]) (fun c o hb q => oth c o (fun q' => hb (by simp [q'])) (hk c o (fun q' => hb (by simp [q'])) (fun q' => hb (by simp [q'])) (fun q' => hb (by simp [q'])) (fun q' => hb (by simp [q'])) q)) hf (Nat.le_refl _) new
      have hltc : ∀ c ∈ [S, z, TI, TO, i1, i2], c ≠ s.heap.objs.size := fun c hc => by
        have e' : c = S ∨ c = z ∨ c = TI ∨ c = TO ∨ c = i1 ∨ c = i2 := by simpa using hc
        rcases e' with q | q | q | q | q | q
        · rw [q]; exact Nat.ne_of_lt nS
        · rw [q]; exact Ne.symm nz
        · rw [q]; exact Ne.symm nTI
        · rw [q]; exact Ne.symm nTO
        · rw [q]; exact Ne.symm n1
        · rw [q]; exact Ne.symm n2
      have hf' : ∀ c ∈ [S, z, TI, TO, i1, i2], FpOk X pins (upd H s.heap.objs.size (.tup [x, y])) c := fun c hc => by
        have q := hf c hc
        exact ⟨by rw [upd_ne (hltc c hc)]; exact q.1, q.2⟩
      have na : a ≠ s.heap.objs.size := fun e => by rw [e, hn] at ha; cases ha
      have nb : b ≠ s.heap.objs.size := fun e => by rw [e, hn] at hb; cases hb
      have zS := dS z (by simp)
      refine ih (i + 1) _ _ (acc.push (.ref s.heap.objs.size)) _ (by omega) hlt I1 hf' (by rw [upd_ne na]; exact ha) (by rw [upd_ne nb]; exact hb) (oth _ _ (Ne.symm (dS TI (by simp))) hTI')
        (h1'.at fun o e => oth _ o (Ne.symm (dS i1 (by simp))) e) (h2'.at fun o e => oth _ o (Ne.symm (dS i2 (by simp))) e)
        (.inr ?_) (let ⟨o, e⟩ := hO'; ⟨o, oth _ o (Ne.symm (dS TO (by simp))) e⟩) (Heap.get?_update_self _ hS' rfl) (by rw [Array.size_push, hacc]) fun s' H' L acc' c' J nt hL hac hSf hS2 => ?_
      · obtain ⟨T, f, oT, q1, q2, q3, q4, q5, q6⟩ := hz'
        exact ⟨T, f, oT, oth _ _ (Ne.symm zS) q1, oth _ _ q6 q2, q3, q4, q5, q6⟩
      · refine hR s' H' ((s.heap.objs.size, x, y) :: L) acc' c' J (.cons hn nt) ?_ ?_ hSf hS2
        · have e : (xs.zip ys)[i]? = some (x, y) := List.getElem?_zip_eq_some.mpr ⟨hx, hy⟩
          obtain ⟨hlz, ez⟩ := List.getElem?_eq_some_iff.mp e
          rw [List.drop_eq_getElem_cons hlz, ez, List.map_cons, hL]
        · rw [hac, Array.toList_push, List.append_assoc]; rfl
    rcases hz with ⟨hz, x0, y0, hTO⟩ | ⟨T, f, oT, hz, hT, r1, r2, r3, r4⟩
    · refine wpAny_bind (wpAny_pyNext_zip_item D hz hTI hTO h1 h2 p.isList p2.isList (x := u) (y := u2) (by simpa using hu) (by simpa using hu2) fun h' z' TO' h1' h2' hT hsz hk => ?_)
      exact next h' ⟨s.heap.objs.size, false, _, z', hT, nz, n1, n2, Nat.ne_of_gt nS⟩ ⟨_, TO'⟩ h1' h2' hT hk
    · refine wpAny_bind (wpAny_pyNext_zip_item_held D hz hT hTI h1 h2 p.isList p2.isList (x := u) (y := u2) (by simpa using hu) (by simpa using hu2) fun h' z' h1' h2' hT' hsz hk => ?_)
      exact next h' ⟨T, true, oT, z', hk _ _ r1 r2 r3 hT, r1, r2, r3, r4⟩ (let ⟨o, e⟩ := hO; ⟨o, hk _ _ D.TOz D.TOi1 D.TOi2 e⟩) h1' h2' hT' fun c o c1 _ c3 c4 => hk c o c1 c3 c4
theorem list_zip {Q : Value → Shared → Prop} {E : Value → Shared → Prop} {s : Shared} {H : Hp} {z TI TO i1 i2 a b : Addr} {xs ys : List V} (hh : X.A.handled = none) (D : ZipApart z TI TO i1 i2 a b) (I : Inv X pins σ H s) (hf : ∀ b ∈ [z, TI, TO, i1, i2], FpOk X pins H b)
    (ha : H a = some (.lst xs)) (hb : H b = some (.lst ys)) (few : min xs.length ys.length ≤ 2 ^ 24) (hz : IsZip s.heap z TI TO .none) (hTI : IsPair s.heap TI (.ref i1) (.ref i2)) (hTO : ∃ x y, IsPair s.heap TO x y) (h1 : s.heap.IsListIter i1 a 0) (h2 : s.heap.IsListIter i2 b 0)
    (hQ : ∀ s' L H' q, NT H L H' → L.map (fun p => (p.2.1, p.2.2)) = xs.zip ys → H' q = none → Inv X pins σ (upd H' q (.lst (L.map fun p => V.ref p.1))) s' → Q (.ref q) s') :
    wpAny (model X.prog X.w) X.A (call (.type "list") [.ref z]) Q E s := by
  refine callType_codes (Q₁ := fun obj s₁ => obj = .ref s.heap.objs.size ∧ s₁ = { s with heap := s.heap.push { cls := .type "list", data := .seq #[] } }) PySem.F.called_list (PySem.F.typeCall_list_1 _) PySem.F.entry_list_init
    (code_list_new _ ⟨rfl, rfl⟩) fun obj s₁ h₁ => ?_
  obtain ⟨rfl, rfl⟩ := h₁
  have hS : (s.heap.push { cls := .type "list", data := .seq #[] }).get? s.heap.objs.size = some { cls := .type "list", data := .seq #[] } := Heap.get?_push_size _ rfl
  refine ⟨⟨_, hS, rfl⟩, PySem.F.args_list_init_2 _ _, ?_⟩
  show wpAny _ _ (do let old ← Builtin.List.listItems (.ref s.heap.objs.size); Builtin.List.listUpdate (.ref s.heap.objs.size) (fun _ => #[]); letGo old.toList.reverse; Builtin.List.listExtendWith (.ref s.heap.objs.size) (.ref z) .none) _ _ _
  refine wpAny_bind ?_
  unfold Builtin.List.listItems
  refine wpAny_bind (wpAny_seqItems hS rfl (wpAny_pure ?_))
  show wpAny _ _ (updateSeq s.heap.objs.size (fun _ => #[]) >>= fun _ => letGo (#[] : Array Value).toList.reverse >>= fun _ => Builtin.List.listExtendWith (.ref s.heap.objs.size) (.ref z) .none) _ _ _
  refine wpAny_bind (wpAny_updateSeq hS rfl ?_)
  have S2 := Heap.get?_update_self (Obj.mapSeq (fun _ => (#[] : Array Value))) hS rfl
  have oth2 : ∀ c o, c ≠ s.heap.objs.size → s.heap.get? c = some o → ((s.heap.push { cls := .type "list", data := .seq #[] }).update s.heap.objs.size (Obj.mapSeq (fun _ => (#[] : Array Value)))).get? c = some o :=
    fun c o hb e => (Heap.get?_update_other _ _ (Ne.symm hb)).trans (Heap.get?_push_of_some _ e)
  refine wpAny_bind (wpAny_letGo ?_)
  generalize hg : (s.heap.push { cls := .type "list", data := .seq #[] }).update s.heap.objs.size (Obj.mapSeq (fun _ => (#[] : Array Value))) = g2 at *
  have nlt : ∀ {c o}, s.heap.get? c = some o → c ≠ s.heap.objs.size := fun e => Nat.ne_of_lt (Heap.lt_size e)
  have dS : ∀ c ∈ [z, TI, TO, i1, i2], s.heap.objs.size ≠ c := fun c hc => by
    have e' : c = z ∨ c = TI ∨ c = TO ∨ c = i1 ∨ c = i2 := by simpa using hc
    obtain ⟨_, _, hTO⟩ := hTO
    obtain ⟨_, e1, _⟩ := h1
    obtain ⟨_, e2, _⟩ := h2
    rcases e' with q | q | q | q | q <;> rw [q]
    · exact Ne.symm (nlt hz)
    · exact Ne.symm (nlt hTI)
    · exact Ne.symm (nlt hTO)
    · exact Ne.symm (nlt e1)
    · exact Ne.symm (nlt e2)
  have hTy : ∀ {g : Heap} {G : Shared}, G.heap.get? z = some { cls := .type "zip", dict := none, data := .fields #[.none, .bool false, .bool false, .ref TI, .ref TO], slots := #[] } → G.TypeIs (.ref z) "zip" := fun e => ⟨_, e, rfl⟩
  have hz2 := oth2 z _ (nlt hz) hz
  unfold Builtin.List.listExtendWith
  refine wpAny_bind (wpAny_typeOf (T := "zip") ⟨_, hz2, rfl⟩ ?_)
  have k1 : Builtin.List.listSameRef (.ref s.heap.objs.size) (.ref z) = false := by have := dS z (by simp); simp [Builtin.List.listSameRef, this]
  have k2 : (Value.type "zip" == Value.type "list") = false := by decide
  have k3 : (Value.type "zip" == Value.type "tuple") = false := by decide
  simp only [k1, k2, k3, Bool.or_false, Bool.false_eq_true, if_false]
  refine wpAny_bind (wpAny_pyIter_zip hz2 ?_)
  refine wpAny_bind (wpAny_holding ?_)
  unfold Builtin.List.listLengthHint
  refine wpAny_bind (wpAny_specialOf (T := "zip") ⟨_, hz2, rfl⟩ zip_no_len ?_)
  show wpAny _ _ (specialOf (Value.ref z) (Str.ofString "__length_hint__") >>= _) _ _ _
  refine wpAny_bind (wpAny_specialOf (T := "zip") ⟨_, hz2, rfl⟩ zip_no_hint ?_)
  refine wpAny_pure ?_
  show wpAny _ _ (rule "list.extend.makes-room" >>= fun _ => Builtin.List.listTouch (.ref s.heap.objs.size) >>= fun _ =>
    again (.builtin "list.extend.loop" ⟨[.ref s.heap.objs.size, .ref z, .none], []⟩)) _ _ _
  refine wpAny_bind (wpAny_rule ?_)
  refine wpAny_bind ?_
  show wpAny _ _ (updateSeq s.heap.objs.size (·.push .none) >>= fun _ => updateSeq s.heap.objs.size (·.pop)) _ _ _
  refine wpAny_bind (wpAny_updateSeq S2 rfl ?_)
  have S3 := Heap.get?_update_self (Obj.mapSeq (·.push Value.none)) S2 rfl
  refine wpAny_updateSeq (hz := by seq_fits) S3 rfl ?_
  have S4 := Heap.get?_update_self (Obj.mapSeq (·.pop)) S3 rfl
  have oth : ∀ c o, s.heap.get? c = some o → ((g2.update s.heap.objs.size (Obj.mapSeq (·.push Value.none))).update s.heap.objs.size (Obj.mapSeq (·.pop))).get? c = some o :=
    fun c o e => (Heap.get?_update_other _ _ (Ne.symm (nlt e))).trans ((Heap.get?_update_other _ _ (Ne.symm (nlt e))).trans (oth2 c o (nlt e) e))
  have I1 := I.kept (t' := s.toks) oth
  obtain ⟨x0, y0, hTO⟩ := hTO
  refine wpAny_pure ⟨plainId_quiet PySem.F.plain_extend_loop _, loop_zip (X := X) (pins := pins) (σ := σ) (A := X.A.in1) hh D dS rfl few .none (min xs.length ys.length) 0 _ H #[] _ (by omega) (Nat.zero_le _) I1 (fun c hc => ?_) ha hb (oth _ _ hTI) (h1.at fun o e => oth _ o e) (h2.at fun o e => oth _ o e) (.inl ⟨oth _ _ hz, x0, y0, oth _ _ hTO⟩) ⟨_, oth _ _ hTO⟩ S4 rfl fun s' H' L acc' c' J nt hL hac hSf hS' => ?_⟩
  · rcases List.mem_cons.mp hc with e | e
    · rw [e]; exact I.fpOk (Nat.le_refl _) (I.hok.fresh (Nat.le_refl _))
    · exact hf c e
  · refine ⟨rfl, ?_⟩
    refine hQ s' L H' s.heap.objs.size nt (by rw [hL]; rfl) hSf.1 ?_
    have e : acc'.toList = L.map (fun p => Value.ref p.1) := by rw [hac]; rfl
    have nl : (L.map fun p => V.ref p.1).length ≤ sizeLine := by
      have q := congrArg List.length hL
      rw [List.length_map, List.length_drop, List.length_zip] at q
      rw [List.length_map, sizeLine_eq]; omega
    refine adopt J hSf ⟨nl, acc'.toList, c', ?_, by rw [Array.toArray_toList]; exact hS'⟩
    rw [e]
    clear e hac hL nl nt
    induction L with
    | nil => exact .nil
    | cons p L ih => exact .cons rfl (ih)
end
end Dv

/-! Dv33: list(zip(a, b)), list(range(a, b)) as expressions. -/
namespace Dv
open PySem PySem.Spec PyProof.Rows L2
section
variable {X : Cx}
def tLstZip (ta : TA) : TE := fun σ H Q => ta σ H fun vs H1 => ∃ a b xs ys, vs = [.ref a, .ref b] ∧ H1 a = some (.lst xs) ∧ H1 b = some (.lst ys) ∧ min xs.length ys.length ≤ 2 ^ 24 ∧
  ∀ L H' q, NT H1 L H' → L.map (fun p => (p.2.1, p.2.2)) = xs.zip ys → H' q = none → Q (.ref q) (upd H' q (.lst (L.map fun p => V.ref p.1)))
theorem pe_listZip {e e2 : Expr} {ta : TA} {p p2 pos pos2 : Pos} (hc : X.calm = true) (hg : Gl X "list") (hm : X.mg "list" = none) (hg2 : Gl X "zip") (hm2 : X.mg "zip" = none) (ha : PA X [e, e2] ta)
    (na : starEach [.Call (.Name "zip" p2) [e, e2] [] pos2] X.env = (false, eval (.Call (.Name "zip" p2) [e, e2] [] pos2) X.env) :: starEach [] X.env)
    (hs : starEach [e, e2] X.env = (false, eval e X.env) :: starEach [e2] X.env) (hpl : (backTo pos2 (starEach [e2] X.env)).any (·.1) = false) :
    PE X (.Call (.Name "list" p) [.Call (.Name "zip" p2) [e, e2] [] pos2] [] pos) (tLstZip ta) := by
  refine ⟨fun pins s σ H Q I h => ?_⟩
  refine Call_ (ld_blt I hg hm boot_list (PyProof.Rows.callWith_type1 (args_cons ?_ na) na))
  refine Call_ (ld_blt I hg2 hm2 PyProof.Rows.boot_zip (PyProof.Rows.callWith_type1 (thn (ha.run pos2 pins s σ H _ I h) fun us s1 ⟨vs, H1, I1, r1, q1⟩ => ?_) hs hpl))
  obtain ⟨a, b, xs, ys, ex, ha1, hb1, few, q⟩ := q1
  subst ex
  cases r1 with
  | cons r rr =>
    cases rr with
    | cons r' rr =>
      cases rr
      cases r
      cases r'
      obtain ⟨its, rv, p1, _⟩ := I1.list (SqL.of (K := X.K) ha1)
      obtain ⟨its2, rv2, p2, _⟩ := I1.list (SqL.of (K := X.K) hb1)
      have la : a < s1.heap.objs.size := p1.lt
      have lb : b < s1.heap.objs.size := p2.lt
      refine call_zip_2 p1.isList p2.isList fun h' hz hTI hTO h1 h2 hsz hk => args_nil ?_
      have I2 : Inv X pins σ H1 { s1 with heap := h' } := I1.kept (t' := s1.toks) hk
      refine list_zip (X := X) (pins := pins) (σ := σ) (I2.ok.hd hc) (PySem.W.ktu_apart s1.heap.objs.size a b la lb) I2 (fun c hcm => ?_) ha1 hb1 few hz hTI ⟨_, _, hTO⟩ h1 h2 fun s' L H' q' nt hL hq' J => ⟨.ref q', _, J, rfl, q L H' q' nt hL hq'⟩
      have e' : c = s1.heap.objs.size + 4 ∨ c = s1.heap.objs.size + 2 ∨ c = s1.heap.objs.size + 3 ∨ c = s1.heap.objs.size ∨ c = s1.heap.objs.size + 1 := by simpa using hcm
      have hle : s1.heap.objs.size ≤ c := by
        rcases e' with z | z | z | z | z
        · rw [z]; exact Nat.le_add_right _ _
        · rw [z]; exact Nat.le_add_right _ _
        · rw [z]; exact Nat.le_add_right _ _
        · rw [z]; exact Nat.le_refl _
        · rw [z]; exact Nat.le_add_right _ _
      exact I1.fpOk hle (I1.hok.fresh hle)
def tLstRgA (ta : TA) : TE := fun σ H Q => ta σ H fun vs H1 => ∃ a b : Int, vs = [.int a, .int b] ∧ (b - a).toNat ≤ 2 ^ 24 ∧ ∀ q, H1 q = none → Q (.ref q) (upd H1 q (.lst (rgV a b)))
theorem pe_listRgA {e e2 : Expr} {ta : TA} {p p2 pos pos2 : Pos} (hc : X.calm = true) (hg : Gl X "list") (hm : X.mg "list" = none) (hg2 : Gl X "range") (hm2 : X.mg "range" = none) (ha : PA X [e, e2] ta)
    (na : starEach [.Call (.Name "range" p2) [e, e2] [] pos2] X.env = (false, eval (.Call (.Name "range" p2) [e, e2] [] pos2) X.env) :: starEach [] X.env)
    (hs : starEach [e, e2] X.env = (false, eval e X.env) :: starEach [e2] X.env) (hpl : (backTo pos2 (starEach [e2] X.env)).any (·.1) = false) :
    PE X (.Call (.Name "list" p) [.Call (.Name "range" p2) [e, e2] [] pos2] [] pos) (tLstRgA ta) := by
  refine ⟨fun pins s σ H Q I h => ?_⟩
  refine Call_ (ld_blt I hg hm boot_list (PyProof.Rows.callWith_type1 (args_cons ?_ na) na))
  refine Call_ (ld_blt I hg2 hm2 boot_range (PyProof.Rows.callWith_type1 (thn (ha.run pos2 pins s σ H _ I h) fun us s1 ⟨vs, H1, I1, r1, q1⟩ => ?_) hs hpl))
  obtain ⟨a, b, ex, few, q⟩ := q1
  subst ex
  cases r1 with
  | cons r rr =>
    cases rr with
    | cons r' rr =>
      cases rr
      obtain ⟨t, rfl⟩ := r
      obtain ⟨t', rfl⟩ := r'
      have key : ∀ (g : Heap) (tk0 : Nat) (u : Tok), (∀ b u, s1.heap.get? b = some u → g.get? b = some u) → IsRange g s1.heap.objs.size a b 1 t t' u → wpAny (model X.prog X.w) X.A (call (.type "list") [.ref s1.heap.objs.size]) (EP X pins σ Q) X.xe { s1 with heap := g, toks := tk0 } := fun g tk0 u kp hr => by
        have I2 : Inv X pins σ H1 { s1 with heap := g, toks := tk0 } := I1.kept kp
        have fin : ∀ h' tk acc c', (∀ c o, g.get? c = some o → h'.get? c = some o) → h'.get? g.objs.size = some { cls := .type "list", dict := none, data := .seq acc c', slots := #[] } → AccOf a 1 (b - a).toNat acc → EP X pins σ Q (.ref g.objs.size) { s1 with heap := h', toks := tk } := fun h' tk acc c' hk e' hi => by
          refine ⟨.ref _, upd H1 g.objs.size (.lst (rgV a b)), I2.laid (t' := tk) hk (Nat.le_refl _) (show ObjOk X.prog X.w _ _ _ (.lst (rgV a b)) from ⟨?_, acc.toList, c', vals_rg hi, ?_⟩), rfl, q _ (I2.hok.fresh (Nat.le_refl _))⟩
          · rw [rgV_length, sizeLine_eq]; omega
          · rw [Array.toArray_toList]; exact e'
        cases hsm : Builtin.Range.small a b 1 with
        | true => exact call_list_range (n := (b - a).toNat) (I2.ok.hd hc) hr hsm (rangeSize_nat a b) few fin
        | false => exact list_long (n := (b - a).toNat) (I2.ok.hd hc) hr hsm (rangeSize_nat a b) few fin
      exact call_range_2 (args_nil (key _ _ _ (fun b u e => Heap.get?_push_of_some _ e) (IsRange.new _ _ _ _ _ _ _)))
end
section
variable {Γ : Wd} {X : Cx} {N : List Str} {sc : Scope} {fp : Str → Bool} {k : Nat}
theorem nt_reps {σ : Sg} {H H2 : Hp} {L : List (Addr × V × V)} (n : NT H L H2) : ∀ {F : Hp} {A : List Addr} {ρ : Rho} {vs us : List V} {ds es : List D}, hold Γ σ F H ρ A → L.map (fun p => (p.2.1, p.2.2)) = vs.zip us → repL Γ F vs ds → repL Γ F us es →
    ∃ F2, Ext F H A F2 H2 A ∧ hold Γ σ F2 H2 ρ A ∧ repL Γ F2 (L.map fun p => V.ref p.1) (zipD ds es) := by
  induction n with
  | nil H =>
    intro F A ρ vs us ds es hh e r1 r2
    refine ⟨F, Ext.refl, hh, ?_⟩
    have l1 := RL.length r1
    have l2 := RL.length r2
    have q := congrArg List.length e
    rw [List.length_map, List.length_zip] at q
    have z : zipD ds es = [] := List.eq_nil_of_length_eq_zero (by unfold zipD; rw [List.length_map, List.length_zip]; simp at q; omega)
    rw [z]; exact RL.nil
  | @cons H H' T x y L hT _ ih =>
    intro F A ρ vs us ds es hh e r1 r2
    cases vs with
    | nil => cases e
    | cons v vs =>
      cases us with
      | nil => cases e
      | cons u us =>
        rw [List.map_cons, List.zip_cons_cons] at e
        injection e with e1 e2
        injection e1 with ex ey
        dsimp only at ex ey
        subst ex ey
        cases ds with
        | nil => simp only [RL] at r1; cases r1
        | cons d ds =>
          cases es with
          | nil => simp only [RL] at r2; cases r2
          | cons d2 es =>
            unfold repL RL at r1 r2
            obtain ⟨_, _, ee, q1, q2⟩ := r1
            cases ee
            obtain ⟨_, _, ee, q3, q4⟩ := r2
            cases ee
            obtain ⟨F1, x1, h1, p1⟩ := tup_new (vs := [x, y]) (ds := [d, d2]) hh hT (RL.cons q1 (RL.cons q3 RL.nil))
            obtain ⟨F2, x2, h2, p2⟩ := ih h1 e2 (RL.mono x1.sf q2) (RL.mono x1.sf q4)
            exact ⟨F2, x1.trans x2, h2, RL.cons (Dv.R.mono x2.sf p1) p2⟩
def wLstZip (w : WA) : WE := fun ρ Q E => w ρ (fun svs ρ1 => keepL svs ρ1 fun ds ρ2 => match ds with
  | [.lst xs, .lst ys] => min xs.length ys.length ≤ 2 ^ 24 ∧ Q (.lst (zipD xs ys)) ρ2
  | _ => False) E
theorem se_listZip (C : Ctx Γ X N sc fp k) {w : WA} {e e2 : Expr} {p p2 pos pos2 : Pos} (h : SA Γ X [e, e2] w) (hg : sc.names.lookup ("list" : Str) = some .globalImplicit := by rfl) (hg2 : sc.names.lookup ("zip" : Str) = some .globalImplicit := by rfl)
    (na : starEach [.Call (.Name "zip" p2) [e, e2] [] pos2] X.env = (false, eval (.Call (.Name "zip" p2) [e, e2] [] pos2) X.env) :: starEach [] X.env := by exact star_of rfl)
    (hs : starEach [e, e2] X.env = (false, eval e X.env) :: starEach [e2] X.env := by exact star_of rfl) (hpl : (backTo pos2 (starEach [e2] X.env)).any (·.1) = false := by rfl) :
    SE Γ X (.Call (.Name "list" p) [.Call (.Name "zip" p2) [e, e2] [] pos2] [] pos) (wLstZip w) := .mk fun σ F H A ρ Q E QV W hh tk el hw hq pins s I => by
  refine (pe_listZip C.calm (gl_of C hg) (by rw [C.mg]; exact C.bn _ (by decide +kernel)) (gl_of C hg2) (by rw [C.mg]; exact C.bn _ (by decide +kernel)) pa_x na hs hpl).run pins s σ H QV I ?_
  refine h.run σ F H A ρ _ E _ W hh tk el hw fun svs ρ1 hw1 vs F1 H1 A1 B1 o1 => ?_
  obtain ⟨ds, ρ2, F2, A2, hk, x2, hh2, r2, _⟩ := keepL_ok o1.oh o1.ors o1.ond o1.ofb hw1
  split at hk
  · unfold repL RL RL RL Dv.R at r2
    obtain ⟨v1, r', rfl, ⟨a, us, rfl, fa, ra⟩, v2, r'', rfl, ⟨b, ws, rfl, fb, rb⟩, rfl⟩ := r2
    refine ⟨a, b, us, ws, rfl, hh2.sub a _ fa, hh2.sub b _ fb, by rw [RL.length ra, RL.length rb]; exact hk.1, fun L H' q nt hL hq' => ?_⟩
    obtain ⟨F3, x3, h3, r3⟩ := nt_reps nt hh2 hL ra rb
    exact hq _ ρ2 hk.2 _ _ _ _ _ ((Out.newL h3 hq' r3).pre ((o1.oe.trans x2).trans x3))
  · exact hk.elim
def rgD (a b : Int) : List D := (List.range (b - a).toNat).map fun i => D.int (a + (i : Nat))
theorem rg_reps {F : Hp} (a b : Int) : repL Γ F (rgV a b) (rgD a b) := by
  have e1 : rgV a b = ((List.range (b - a).toNat).map fun i => a + ((i : Nat) : Int)).map V.int := by unfold rgV; rw [List.map_map]; rfl
  have e2 : rgD a b = ((List.range (b - a).toNat).map fun i => a + ((i : Nat) : Int)).map D.int := by unfold rgD; rw [List.map_map]; rfl
  rw [e1, e2]
  exact RL.of_ints
def wLstRg (w : WA) : WE := fun ρ Q E => w ρ (fun svs ρ1 => keepL svs ρ1 fun ds ρ2 => match ds with
  | [.int a, .int b] => (b - a).toNat ≤ 2 ^ 24 ∧ Q (.lst (rgD a b)) ρ2
  | _ => False) E
theorem se_listRg (C : Ctx Γ X N sc fp k) {w : WA} {e e2 : Expr} {p p2 pos pos2 : Pos} (h : SA Γ X [e, e2] w) (hg : sc.names.lookup ("list" : Str) = some .globalImplicit := by rfl) (hg2 : sc.names.lookup ("range" : Str) = some .globalImplicit := by rfl)
    (na : starEach [.Call (.Name "range" p2) [e, e2] [] pos2] X.env = (false, eval (.Call (.Name "range" p2) [e, e2] [] pos2) X.env) :: starEach [] X.env := by exact star_of rfl)
    (hs : starEach [e, e2] X.env = (false, eval e X.env) :: starEach [e2] X.env := by exact star_of rfl) (hpl : (backTo pos2 (starEach [e2] X.env)).any (·.1) = false := by rfl) :
    SE Γ X (.Call (.Name "list" p) [.Call (.Name "range" p2) [e, e2] [] pos2] [] pos) (wLstRg w) := .mk fun σ F H A ρ Q E QV W hh tk el hw hq pins s I => by
  refine (pe_listRgA C.calm (gl_of C hg) (by rw [C.mg]; exact C.bn _ (by decide +kernel)) (gl_of C hg2) (by rw [C.mg]; exact C.bn _ (by decide +kernel)) pa_x na hs hpl).run pins s σ H QV I ?_
  refine h.run σ F H A ρ _ E _ W hh tk el hw fun svs ρ1 hw1 vs F1 H1 A1 B1 o1 => ?_
  obtain ⟨ds, ρ2, F2, A2, hk, x2, hh2, r2, _⟩ := keepL_ok o1.oh o1.ors o1.ond o1.ofb hw1
  split at hk
  · unfold repL RL RL RL Dv.R at r2
    obtain ⟨v1, r', rfl, e1, v2, r'', rfl, e2, rfl⟩ := r2
    subst e1 e2
    exact ⟨_, _, rfl, hk.1, fun q hq' => hq _ ρ2 hk.2 _ _ _ _ _ ((Out.newL hh2 hq' (rg_reps _ _)).pre (o1.oe.trans x2))⟩
  · exact hk.elim
end
end Dv

/-! Dv34: a, b, c = .., where what is owned stays owned. -/
namespace Dv
open PySem PySem.Spec PyProof.Rows L2
section
variable {Γ : Wd} {X : Cx} {N : List Str} {sc : Scope} {fp : Str → Bool} {k : Nat} {lk : List Nat}
end
end Dv

/-! Dv35: parallel assignment of owned with cells among the names. -/
namespace Dv
open PySem PySem.Spec PyProof.Rows L2
section
variable {Γ : Wd} {X : Cx} {N : List Str} {sc : Scope} {fp : Str → Bool} {k : Nat} {lk : List Nat}
theorem ss_parLC (C : Ctx Γ X N sc fp k) {ts es : List Expr} {is : List Nat} {kt k2 n : Nat} {pt pt2 pos : Pos} {wa : WA} (ha : SA Γ X es wa) (hg : NGs X N lk ts is) (hn : (assignEach ts X.env).length = n := by rfl) (hst : (assignEach ts X.env).findIdx? (·.1) = none := by rfl) (hil : n = is.length := by rfl)
    (hs : swapsWithSole [.Tuple ts kt pt] (.Tuple es k2 pt2) pos.line { X.env with scope := sc } = pure false := by rfl) (hw : swappedStores [.Tuple ts kt pt] (.Tuple es k2 pt2) { X.env with scope := sc } = pure none := by rfl)
    (h1 : (assignEach [.Tuple ts kt pt] X.env).map (·.2) = [assign (.Tuple ts kt pt) X.env] := by rfl) : SS Γ lk X (.Assign [.Tuple ts kt pt] (.Tuple es k2 pt2) pos) (wParL is wa) :=
  ss_parL C ha hg hn hst hil (by rw [env_at C] at hs; exact hs) (by rw [env_at C] at hw; exact hw) h1
end
end Dv

/-! Dv36: dicts of one's own, keys ints. -/
namespace Dv
open PySem PySem.Spec PyProof.Rows L2
def lookD (kvs : List (Int × D)) (k : Int) : Option D := (kvs.find? fun p => decide (p.1 = k)).map (·.2)
def putD (kvs : List (Int × D)) (k : Int) (d : D) : List (Int × D) := if (kvs.any fun p => decide (p.1 = k)) = true then kvs.map (fun p => if p.1 = k then (p.1, d) else p) else kvs ++ [(k, d)]
theorem look_pos {p : Int × D} {r : List (Int × D)} {k : Int} (e : p.1 = k) : lookD (p :: r) k = some p.2 := by simp [lookD, List.find?_cons, e]
theorem look_neg {p : Int × D} {r : List (Int × D)} {k : Int} (e : ¬ p.1 = k) : lookD (p :: r) k = lookD r k := by simp [lookD, List.find?_cons, e]
/-- tracked pairs stand for pairs of data -/
inductive Ln (K : PySem.W.Frag) (cl : Nat → Cl) (F : Hp) : List (Key × V) → List (Int × D) → Prop
  | nil : Ln K cl F [] []
  | cons {k : Int} {v : V} {d : D} {us kvs} : Dv.R K cl F v d → Ln K cl F us kvs → Ln K cl F ((.inl k, v) :: us) ((k, d) :: kvs)
section
variable {K : PySem.W.Frag} {cl : Nat → Cl} {F : Hp}
theorem Ln.of : ∀ {us : List (Key × V)} {kvs : List (Int × D)}, us.map Prod.fst = kvs.map (fun p => (Sum.inl p.1 : Key)) → RL K cl F (us.map Prod.snd) (kvs.map Prod.snd) → Ln K cl F us kvs
  | [], [], _, _ => .nil
  | [], _ :: _, h, _ => by cases h
  | _ :: _, [], h, _ => by cases h
  | (k, v) :: us, (j, d) :: kvs, h, r => by
    rw [List.map_cons, List.map_cons] at h r
    simp only [RL] at r
    obtain ⟨v', r', e, h2, h3⟩ := r
    cases e
    injection h with h4 h5
    have h4' : k = .inl j := h4
    subst h4'
    exact .cons h2 (Ln.of h5 h3)
theorem Ln.fst {us : List (Key × V)} {kvs : List (Int × D)} (h : Ln K cl F us kvs) : us.map Prod.fst = kvs.map (fun p => (Sum.inl p.1 : Key)) := by
  induction h with
  | nil => rfl
  | cons _ _ ih => rw [List.map_cons, List.map_cons, ih]
theorem Ln.snd {us : List (Key × V)} {kvs : List (Int × D)} (h : Ln K cl F us kvs) : RL K cl F (us.map Prod.snd) (kvs.map Prod.snd) := by
  induction h with
  | nil => exact RL.nil
  | cons r _ ih => exact RL.cons r ih
theorem Ln.len {us : List (Key × V)} {kvs : List (Int × D)} (h : Ln K cl F us kvs) : us.length = kvs.length := by
  induction h with
  | nil => rfl
  | cons _ _ ih => simp [ih]
theorem Ln.look {us : List (Key × V)} {kvs : List (Int × D)} (h : Ln K cl F us kvs) (k : Int) : (∀ d, lookD kvs k = some d → ∃ v, valV us (.inl k : Key) = some v ∧ Dv.R K cl F v d) ∧ (lookD kvs k = none → valV us (.inl k : Key) = none) := by
  induction h with
  | nil => exact ⟨fun d e => (nomatch e), fun _ => rfl⟩
  | @cons j v d us kvs r _ ih =>
    by_cases e : j = k
    · rw [look_pos (p := (j, d)) e, valV_pos (p := ((.inl j : Key), v)) (by rw [e])]
      exact ⟨fun x h => by cases h; exact ⟨v, rfl, r⟩, fun h => (nomatch h)⟩
    · rw [look_neg (p := (j, d)) e, valV_neg (p := ((.inl j : Key), v)) (fun z => e (Sum.inl.inj z))]
      exact ih
theorem Ln.any {us : List (Key × V)} {kvs : List (Int × D)} (h : Ln K cl F us kvs) (k : Int) : (us.any fun kv => decide (kv.1 = (.inl k : Key))) = kvs.any fun p => decide (p.1 = k) := by
  induction h with
  | nil => rfl
  | @cons j v d us kvs r _ ih =>
    rw [List.any_cons, List.any_cons, ih]
    congr 1
    rw [Bool.eq_iff_iff, decide_eq_true_iff, decide_eq_true_iff]
    exact ⟨fun z => Sum.inl.inj z, fun z => congrArg Sum.inl z⟩
theorem Ln.repl {us : List (Key × V)} {kvs : List (Int × D)} (h : Ln K cl F us kvs) (k : Int) {v : V} {d : D} (r : Dv.R K cl F v d) : Ln K cl F (us.map fun kv => if kv.1 = (.inl k : Key) then (kv.1, v) else kv) (kvs.map fun p => if p.1 = k then (p.1, d) else p) := by
  induction h with
  | nil => exact .nil
  | @cons j w e us kvs q _ ih =>
    rw [List.map_cons, List.map_cons]
    by_cases z : j = k
    · rw [if_pos (show ((.inl j : Key), w).1 = .inl k by rw [z]), if_pos z]
      exact .cons r ih
    · rw [if_neg (fun y : ((.inl j : Key), w).1 = .inl k => z (Sum.inl.inj y)), if_neg z]
      exact .cons q ih
theorem Ln.snoc {us : List (Key × V)} {kvs : List (Int × D)} (h : Ln K cl F us kvs) (k : Int) {v : V} {d : D} (r : Dv.R K cl F v d) : Ln K cl F (us ++ [(.inl k, v)]) (kvs ++ [(k, d)]) := by
  induction h with
  | nil => exact .cons r .nil
  | cons q _ ih => exact .cons q ih
theorem Ln.put {us : List (Key × V)} {kvs : List (Int × D)} (h : Ln K cl F us kvs) (k : Int) {v : V} {d : D} (r : Dv.R K cl F v d) : Ln K cl F (putK us (.inl k : Key) v) (putD kvs k d) := by
  unfold putK putD
  rw [h.any k]
  split
  · exact h.repl k r
  · exact h.snoc k r
end
section
variable {Γ : Wd} {X : Cx} {N : List Str} {sc : Scope} {fp : Str → Bool} {k : Nat} {lk : List Nat}
end
end Dv

/-! Dv37: calls with values written by place and by name, and with the defaults of names alone. -/
namespace Dv
open PySem PySem.Spec PyProof.Rows L2
section
variable {Γ : Wd} {X : Cx} {N : List Str} {sc : Scope} {fp : Str → Bool} {k : Nat}
/-- values by place, then by name, one list for the reading -/
structure SMx (Γ : Wd) (X : Cx) (es : List Expr) (kws : List Keyword) (w : WA) : Prop where
  run : ∀ (σ : Sg) (F H : Hp) (A : List Addr) (ρ : Rho) (Q : List SV → Rho → Prop) (E : EK) (QV : List V → List V → Hp → Prop) (W : WX), hold Γ σ F H ρ A → Takes X W → EL Γ σ F H A E W → w ρ Q E →
    (∀ svs ρ', Q svs ρ' → ∀ vs zs F' H' A' B, vs.length = es.length → OutL Γ σ F H A ρ' svs (vs ++ zs) F' H' A' B → QV vs zs H') → wpXA X es σ H fun vs H1 => wpXK X kws σ H1 fun zs H2 => QV vs zs H2
structure FnD (Γ : Wd) (k : Nat) (x : Str) (ds : List Int) (io : List Bool) (con : Con) : Prop where
  ex : ∃ (f : Addr) (fd : FuncData) (ps : List Str) (us : List Value), Γ.mg x = some (.ref f) ∧ PySem.W.keepIn Γ.K (.ref f) = true ∧ Vals (ds.map V.int) us ∧ Binds Γ.K fd ps us ∧ FnG Γ k f fd ps (spC Γ io con)
theorem FnD.mono {i j : Nat} {x : Str} {ds : List Int} {io : List Bool} {con : Con} (F : FnD Γ i x ds io con) (h : i ≤ j) : FnD Γ j x ds io con := ⟨let ⟨f, fd, ps, us, a, b, c, d, e⟩ := F.ex; ⟨f, fd, ps, us, a, b, c, d, e.mono h⟩⟩
/-- values by place; the defaults behind them -/
structure SDf (Γ : Wd) (X : Cx) (ds : List Int) (es : List Expr) (w : WA) : Prop where
  run : ∀ (σ : Sg) (F H : Hp) (A : List Addr) (ρ : Rho) (Q : List SV → Rho → Prop) (E : EK) (QV : List V → Hp → Prop) (W : WX), hold Γ σ F H ρ A → Takes X W → EL Γ σ F H A E W → w ρ Q E →
    (∀ svs ρ', Q svs ρ' → ∀ vs F' H' A' B, OutL Γ σ F H A ρ' svs (vs ++ ds.map V.int) F' H' A' B → QV vs H') → wpXA X es σ H QV
end
/-! ### range with wide bounds -/
section
variable {Γ : Wd} {X : Cx} {N : List Str} {sc : Scope} {fp : Str → Bool} {k : Nat}
end
end Dv

/-! Dv38: several except clauses, each with a name or without one. -/
namespace Dv
open PySem PySem.Spec PyProof.Rows L2 PySem.W
/-- an exception of a body, caught: it lies at a; sI is the state without it, h the heap with it -/
structure Caught (X : Cx) (pins : List (Addr × Obj)) (a : Addr) (B : Heap) (sI s0 : Shared) (σ : L2.St) (H : Hp) (cls : Value) (d : Option Addr) (h : Heap) : Prop where
  inv : Inv X pins σ H sI
  gnd : ∀ b o, sI.heap.get? b = some o → b ∉ frs X.stack → B.get? b = some o
  upto : sI.heap.UpToSlots h
  fly : HandSPX.FlyingZ B (X.env :: X.outer) a (Zc cls d) h
  new : H a = none
  os : s0.os = sI.os
  bare : AllBare s0.gens
section
variable {X : Cx} {pins : List (Addr × Obj)} {a : Addr} {B : Heap} {sI s0 : Shared} {σ : L2.St} {H : Hp} {cls : Value} {d : Option Addr} {h : Heap}
theorem Caught.obj (k : Caught X pins a B sI s0 σ H cls d h) : ∃ oe vs, h.get? a = some oe ∧ Zc cls d oe ∧ oe.data = .fields vs := k.fly.there
theorem Caught.state (k : Caught X pins a B sI s0 σ H cls d h) : Inv X pins σ H { s0 with heap := h } := k.inv.landed k.gnd k.fly.1 k.upto k.os k.bare
theorem Caught.apart (k : Caught X pins a B sI s0 σ H cls d h) (hf : X.env.frame = some X.env.locals) : a ≠ X.env.locals ∧ a ∉ X.fs := by
  obtain ⟨oe, vs, e1, _, e2⟩ := k.obj
  have no : ∀ E ∈ X.env :: X.outer, E.frame ≠ some a := fun E hE q => by
    obtain ⟨_, o', e3, nf⟩ := k.fly.2.2.1.mem (List.mem_filterMap.mpr ⟨E, hE, q⟩)
    have := e1.symm.trans e3
    cases this
    exact nf _ e2
  refine ⟨fun z => no X.env (by simp) (by rw [hf, z]), fun m => ?_⟩
  obtain ⟨E, h1, h2⟩ := List.mem_filterMap.mp m
  exact no E (by simp [h1]) h2
theorem Caught.hot (k : Caught X pins a B sI s0 σ H cls d h) (hf : X.env.frame = some X.env.locals) : ∃ oe vs, Zc cls d oe ∧ oe.data = .fields vs ∧ h.get? a = some oe ∧ Inv (X.suite a ((a, oe) :: (X.pn ++ pins))) [] σ H { s0 with heap := h } := by
  obtain ⟨oe, vs, e1, e2, e3⟩ := k.obj
  exact ⟨oe, vs, e2, e3, e1, k.state.suite e1 e3 k.new (k.apart hf).1 (k.apart hf).2⟩
theorem Caught.anew (k : Caught X pins a B sI s0 σ H cls d h) {M : Model} {A : Around} {E : Value → Shared → Prop} {Q : Unit → Shared → Prop}
    (q : ∀ g, Caught X pins a B sI s0 σ H cls d g → Q () { s0 with heap := g }) : wpAny M A (setFlight (.ref a) none) Q E { s0 with heap := h } :=
  HandSPX.lands_againZ (s := { s0 with heap := h }) k.fly fun g fl up => q g { k with upto := k.upto.trans up, fly := fl }
/-- it flies on -/
theorem Caught.off (k : Caught X pins a B sI s0 σ H cls d h) (hs : X.stack = X.env :: X.outer) (hf : X.env.frame = some X.env.locals) {W : WX} (tk : Takes X W) (w : W cls d σ H) {Q : Flow → Shared → Prop} :
    wpAny (model X.prog X.w) X.A (handleBy (.ref a) X.env []) Q X.xe { s0 with heap := h } := by
  refine wpAny_handleBy_nil ?_
  obtain ⟨_, _, _, oe, vs, T, oT, ts, e1, e2, e3, e4, _⟩ := id k.fly
  unfold PySem.passOn
  refine wpAny_bind (wpAny_field e1 e3 e4 ?_)
  have on : (Value.ref T == Value.none) = false := by simp
  rw [on, if_neg Bool.false_ne_true]
  have go : wpAny (model X.prog X.w) X.A (setFlight (.ref a) X.env.frame) (fun _ s4 => wpAny (model X.prog X.w) X.A (throw (.ref a) : Sem Flow) Q X.xe s4) X.xe { s0 with heap := h } := by
    rw [hf]
    refine HandSPX.setFlight_upZ k.fly fun g held up => wpAny_throw (tk _ _ ⟨a, B, sI, pins, σ, H, cls, d, rfl, k.inv, k.gnd, k.upto.trans up, ?_, k.new, k.os, k.bare, w⟩)
    rw [hs]; exact .inr (.inr held)
  first
    | exact wpAny_bind (wpAny_pure (wpAny_bind go))
    | exact wpAny_bind go
/-- the end of a suite -/
theorem SP.relay {q : Addr × Obj} {D : Ends} {f : Flow} {s : Shared} (ok : X.Ok) (h : SP (X.suite a (q :: (X.pn ++ pins))) [] D f s) : SP X pins D f s := by
  cases f with
  | ret u => exact let ⟨v, σ', H', J, r, z⟩ := h; ⟨v, σ', H', J.unsuite ok, r, z⟩
  | next => exact let ⟨σ', H', J, z⟩ := h; ⟨σ', H', J.unsuite ok, z⟩
  | brk => exact let ⟨σ', H', J, z⟩ := h; ⟨σ', H', J.unsuite ok, z⟩
  | cont => exact let ⟨σ', H', J, z⟩ := h; ⟨σ', H', J.unsuite ok, z⟩
end
/-- a clause: its class, the slot of its name, what its suite wishes -/
structure Clz where
  c : Value
  i : Option Nat
  ts : Addr → Value → Option Addr → TS
/-- the ends of a suite whose name goes -/
def gone (i : Nat) (D : Ends) : Ends := { nx := fun σ => D.nx (σ.set i none), rt := D.rt, bk := fun σ => D.bk (σ.set i none), ct := fun σ => D.ct (σ.set i none) }
def Clz.wish (z : Clz) (a : Addr) (cls : Value) (d : Option Addr) (D : Ends) (σ : L2.St) (H : Hp) : Prop := match z.i with
  | none => z.ts a cls d D σ H
  | some i => z.ts a cls d (gone i D) (σ.set i (some (.ref a))) H
/-- what the clauses wish of an exception of the body -/
def wMix (K : PySem.W.Frag) (Wout : WX) (D : Ends) : List Clz → WX
  | [] => Wout
  | z :: r => fun cls d σ H => ∃ b, exmOne K cls z.c = some b ∧ (b = true → ∀ a, H a = none → z.wish a cls d D σ H) ∧ (b = false → wMix K Wout D r cls d σ H)
abbrev SuiteOk (X : Cx) (suite : List Stmt) (ts : Addr → Value → Option Addr → TS) : Prop :=
  ∀ (a : Addr) (oe : Obj) (cls : Value) (d : Option Addr) (pn : List (Addr × Obj)), Zc cls d oe → (∃ vs, oe.data = .fields vs) → PSs (X.suite a ((a, oe) :: pn)) suite (ts a cls d)
inductive MixOk (X : Cx) : List ExceptHandler → List Clz → Prop
  | nil : MixOk X [] []
  | plain {x c ts b₀ suite np p hds l} : Names X x c → SuiteOk X (b₀ :: suite) ts → MixOk X hds l → MixOk X (.ExceptHandler (some (.Name x np)) none (b₀ :: suite) p :: hds) (⟨c, none, ts⟩ :: l)
  | named {x n i c ts b₀ suite np p hds l} : X.N[i]? = some n → X.env.kindOf n = some .local → Names X x c → SuiteOk X (b₀ :: suite) ts → MixOk X hds l → MixOk X (.ExceptHandler (some (.Name x np)) (some n) (b₀ :: suite) p :: hds) (⟨c, some i, ts⟩ :: l)
section
variable {X : Cx} {pins : List (Addr × Obj)} {a : Addr} {B : Heap} {sI s0 : Shared} {σ : L2.St} {H : Hp} {cls : Value} {d : Option Addr} {h : Heap}
/-- the class that a clause names, looked up while the error is handled -/
theorem Caught.name (k : Caught X pins a B sI s0 σ H cls d h) (hf : X.env.frame = some X.env.locals) {x : Str} {c : Value} {np : Pos} (hc : Names X x c) {Q : Value → Shared → Prop} {E : Value → Shared → Prop} (q : Q c { s0 with heap := h }) :
    wpAny (model X.prog X.w) (X.A.mark (some (.ref a))) (eval (.Name x np) X.env) Q E { s0 with heap := h } := by
  obtain ⟨oe, _, _, _, _, J⟩ := k.hot hf
  obtain ⟨gl, nd, m | ⟨m, bb, nn⟩⟩ := hc
  · exact ld_glob (X := X.suite a ((a, oe) :: (X.pn ++ pins))) J gl m q nd
  · exact ld_blt (X := X.suite a ((a, oe) :: (X.pn ++ pins))) J gl m bb q nn nd
theorem Caught.isa (k : Caught X pins a B sI s0 σ H cls d h) {c : Value} {b : Bool} (hb : exmOne X.K cls c = some b) : Looks (model X.prog X.w) h (excMatches (.ref a) c) b := by
  obtain ⟨oe, _, e1, e2, _⟩ := k.obj
  exact exm_one (M := model X.prog X.w) k.state.kIn (fun _ _ _ _ st q => wpAny_typeOf_ref (st _ _ e1) (e2.1 ▸ q)) hb
/-- the clauses, one after the other -/
theorem Caught.clauses (hs : X.stack = X.env :: X.outer) (hf : X.env.frame = some X.env.locals) (hN : X.N.Nodup) {W : WX} (tk : Takes X W) {D : Ends} {hds : List ExceptHandler} {l : List Clz} (m : MixOk X hds l) (k : Caught X pins a B sI s0 σ H cls d h) (w : wMix X.K W D l cls d σ H) :
    wpAny (model X.prog X.w) X.A (handleBy (.ref a) X.env hds) (SP X pins D) X.xe { s0 with heap := h } := by
  induction m with
  | nil => exact k.off hs hf tk w
  | plain nm su _ ih =>
    obtain ⟨b, hb, y, n⟩ := w
    refine wpAny_handleBy_cons (codeAny_handlers_test (k.name hf nm ((k.isa hb).here ?_))) (fun z => by cases z)
    cases b with
    | false => exact ih (n rfl)
    | true =>
      refine codeAny_handlers_suite (k.anew fun g kg => ?_)
      obtain ⟨oe, vs, z, dt, _, J⟩ := kg.hot hf
      exact wpAny_mono ((su a oe cls d _ z ⟨vs, dt⟩).run [] _ σ H D J (y rfl a k.new)) (fun f s r => by
        have r' := SP.relay k.inv.ok r
        cases f <;> exact r') fun _ _ r => r.elim
  | named ni kl nm su _ ih =>
    obtain ⟨b, hb, y, n⟩ := w
    refine wpAny_handleBy_cons (codeAny_handlers_test (k.name hf nm ((k.isa hb).here ?_))) (fun z => by cases z)
    cases b with
    | false => exact ih (n rfl)
    | true =>
      refine codeAny_handlers_suite_as (k.anew fun g kg => ?_)
      obtain ⟨oe, vs, z, dt, _, J⟩ := kg.hot hf
      refine store_ok (X := X.suite a ((a, oe) :: (X.pn ++ pins))) (v := .ref a) J hN ni (.inl kl) rfl (fun s1 J1 => ?_) (.inr kl)
      refine wpAny_mono ((su a oe cls d _ z ⟨vs, dt⟩).run [] s1 _ H (gone _ D) J1 (y rfl a k.new)) (fun f s r => ?_) fun _ _ r => r.elim
      have r' := SP.relay k.inv.ok r
      cases f with
      | ret u => exact let ⟨v, σ', H', J2, e, q⟩ := r'; gone_ok J2 hN ni kl fun s2 J3 => ⟨v, _, H', J3, e, q⟩
      | next => exact let ⟨σ', H', J2, q⟩ := r'; gone_ok J2 hN ni kl fun s2 J3 => ⟨_, H', J3, q⟩
      | brk => exact let ⟨σ', H', J2, q⟩ := r'; gone_ok J2 hN ni kl fun s2 J3 => ⟨_, H', J3, q⟩
      | cont => exact let ⟨σ', H', J2, q⟩ := r'; gone_ok J2 hN ni kl fun s2 J3 => ⟨_, H', J3, q⟩
end
end Dv

/-! Dv39: try: .. with several clauses, each of one assignment to the same name. -/
namespace Dv
open PySem PySem.Spec PyProof.Rows L2 PySem.W PySem.Calls
section
variable {Γ : Wd} {X : Cx} {N : List Str} {sc : Scope} {fp : Str → Bool} {k : Nat} {lk : List Nat}
inductive HdOk (Γ : Wd) (X : Cx) (N : List Str) (sc : Scope) (lk : List Nat) (m : Nat) (xs : List Str) (yn : Str) : List ExceptHandler → List (Nat × Option Nat × (Nat → D → WE)) → Prop
  | nil : HdOk Γ X N sc lk m xs yn [] []
  | plain {c : Nat} {cn : Str} {w : WE} {e : Expr} {np yp pos' pos3 : Pos} {hds l} (hc : c < m) (hcn : xs[c]? = some cn) (hg : sc.names.lookup cn = some .globalImplicit) (hdc : (cn == ("__debug__" : Str)) = false)
      (hs : swapsWith e (some (.Name yn yp)) pos3.line X.env = pure false) (hx : ∀ a oe pn, SE Γ (X.suite a ((a, oe) :: pn)) e w) (r : HdOk Γ X N sc lk m xs yn hds l) :
      HdOk Γ X N sc lk m xs yn (.ExceptHandler (some (.Name cn np)) none [.Assign [.Name yn yp] e pos3] pos' :: hds) ((c, none, fun _ _ => w) :: l)
  | named {c i : Nat} {n cn : Str} {we : Nat → D → WE} {e : Expr} {np yp pos' pos3 : Pos} {hds l} (hc : c < m) (hcn : xs[c]? = some cn) (hg : sc.names.lookup cn = some .globalImplicit) (hdc : (cn == ("__debug__" : Str)) = false)
      (hs : swapsWith e (some (.Name yn yp)) pos3.line X.env = pure false) (hi : N[i]? = some n) (hil : sc.names.lookup n = some .local) (fi : lk.contains i = false)
      (hx : ∀ j, j < m → ∀ a dd x oe pn, Zc (.ref (Γ.exc j)) (some dd) oe → (∃ vs, oe.data = .fields vs) → SX Γ (X.suite a ((a, oe) :: pn)) i a dd x e (we j x)) (r : HdOk Γ X N sc lk m xs yn hds l) :
      HdOk Γ X N sc lk m xs yn (.ExceptHandler (some (.Name cn np)) (some n) [.Assign [.Name yn yp] e pos3] pos' :: hds) ((c, some i, we) :: l)
end
end Dv

/-! Dv40: classmethods called by name. -/
namespace Dv
open PySem PySem.Spec PyProof.Rows L2
section
variable {Γ : Wd} {X : Cx} {N : List Str} {sc : Scope} {fp : Str → Bool} {k : Nat}
/-- a classmethod, known by its text -/
structure CmX (Γ : Wd) (k n : Nat) (m : Str) (st : Stmt) (ps : List Str) (io : List Bool) (con : Con) : Prop where
  ex : ∃ (mc : Value) (p f : Addr) (fd : FuncData) (qual : Str), ClX.CRead Γ.K (Γ.cl n).adr mc ∧ ClX.CMet Γ.K (Γ.cl n).adr mc m p f ∧ Fun Γ.K m qual st f fd ∧ FnG Γ k f fd ps (spC Γ io con)
theorem CmX.mono {i j n : Nat} {m : Str} {st : Stmt} {ps : List Str} {io : List Bool} {con : Con} (F : CmX Γ i n m st ps io con) (h : i ≤ j) : CmX Γ j n m st ps io con := ⟨let ⟨mc, p, f, fd, q, a, b, c, d⟩ := F.ex; ⟨mc, p, f, fd, q, a, b, c, d.mono h⟩⟩
end
end Dv

/-! Dv41: generators: a loop that hands out. -/
namespace Dv
open PySem PySem.Spec PyProof.Rows L2 GenW
section
variable {X : Cx} {tg iter : Expr} {body : List Stmt} {wi : TI} {g : TG} {tb : TGn} {pos : Pos}
end
end Dv

/-! Dv42: generator defs: what their bodies are worth, contracts, list(f(..)). -/
namespace Dv
open PySem PySem.Spec PyProof.Rows L2 GenW
/-- what is wanted behind a generator's statement: of what is out so far, and the slots -/
structure Ny where
  nx : List D → Rho → Prop
  rt : List D → SV → Rho → Prop
  bk : List D → Rho → Prop
  ct : List D → Rho → Prop
abbrev WY := List D → Rho → Ny → EK → Prop
def Ny.at (D : Ny) (ds : List Dv.D) : Nd := { nx := D.nx ds, rt := D.rt ds, bk := D.bk ds, ct := D.ct ds }
section
variable {Γ : Wd} {X : Cx} {N : List Str} {sc : Scope} {fp : Str → Bool} {k : Nat} {lk : List Nat}
def wyX (X : Cx) (st : Stmt) : TGn := fun D ys σ H => ∀ (A : Around) (S : Addr) (ip : List (Addr × Obj)) (R : GenEnd) (n : Nat) (s₀ : Shared) (c : Code) (fs : List Frame) (K : Flow → Sem PySem.Fin) (J : Value → Sem PySem.Fin) (gd : Bool → Bool) (lv : List Value → List Value) (s : Shared),
  GC X S ip A c fs gd → n + ys.length = sizeLine → GK X S ip A R c fs K J D → GI X S ip ys σ H s → Seg (model X.prog X.w) A R (GY X S) n s₀ c ((exec st X.env).wrap K J gd lv) fs s
def wyXs (X : Cx) (st : List Stmt) : TGn := fun D ys σ H => ∀ (A : Around) (S : Addr) (ip : List (Addr × Obj)) (R : GenEnd) (n : Nat) (s₀ : Shared) (c : Code) (fs : List Frame) (K : Flow → Sem PySem.Fin) (J : Value → Sem PySem.Fin) (gd : Bool → Bool) (lv : List Value → List Value) (s : Shared),
  GC X S ip A c fs gd → n + ys.length = sizeLine → GK X S ip A R c fs K J D → GI X S ip ys σ H s → Seg (model X.prog X.w) A R (GY X S) n s₀ c ((execs st X.env).wrap K J gd lv) fs s
structure EndsY (Γ : Wd) (lk : List Nat) (σ : Sg) (F H : Hp) (A : List Addr) (D : Ny) (DV : GEnds) : Prop where
  nx : ∀ ds ρ', D.nx ds ρ' → ∀ ys σ' F' H' A', Kp lk σ σ' → Ext F H A F' H' A' → hold Γ σ' F' H' ρ' A' → repL Γ F' ys ds → DV.nx ys σ' H'
  bk : ∀ ds ρ', D.bk ds ρ' → ∀ ys σ' F' H' A', Kp lk σ σ' → Ext F H A F' H' A' → hold Γ σ' F' H' ρ' A' → repL Γ F' ys ds → DV.bk ys σ' H'
  ct : ∀ ds ρ', D.ct ds ρ' → ∀ ys σ' F' H' A', Kp lk σ σ' → Ext F H A F' H' A' → hold Γ σ' F' H' ρ' A' → repL Γ F' ys ds → DV.ct ys σ' H'
  rt : ∀ ds sv ρ', D.rt ds sv ρ' → ∀ ys σ' v F' H' A' B, Kp lk σ σ' → Out Γ σ' F H A ρ' sv v F' H' A' B → repL Γ F' ys ds → DV.rt ys v H'
theorem EndsY.ext {σ σ1 : Sg} {F H F' H' : Hp} {A A' : List Addr} {D : Ny} {DV : GEnds} (h : EndsY Γ lk σ F H A D DV) (x : Ext F H A F' H' A') (q : Kp lk σ σ1) : EndsY Γ lk σ1 F' H' A' D DV where
  nx := fun ds ρ d ys σ F2 H2 A2 r y z => h.nx ds ρ d ys σ F2 H2 A2 (q.trans r) (x.trans y) z
  bk := fun ds ρ d ys σ F2 H2 A2 r y z => h.bk ds ρ d ys σ F2 H2 A2 (q.trans r) (x.trans y) z
  ct := fun ds ρ d ys σ F2 H2 A2 r y z => h.ct ds ρ d ys σ F2 H2 A2 (q.trans r) (x.trans y) z
  rt := fun ds sv ρ d ys σ v F2 H2 A2 B r o => h.rt ds sv ρ d ys σ v F2 H2 A2 B (q.trans r) (o.pre x)
structure SY (Γ : Wd) (lk : List Nat) (X : Cx) (st : Stmt) (w : WY) : Prop where
  run : ∀ (σ : Sg) (F H : Hp) (A : List Addr) (ρ : Rho) (ys : List V) (ds : List D) (D : Ny) (E : EK) (DV : GEnds) (W : WX), hold Γ σ F H ρ A → repL Γ F ys ds → Takes X W → ELs Γ lk σ F H A E W → EndsY Γ lk σ F H A D DV → w ds ρ D E → wyX X st DV ys σ H
structure SYs (Γ : Wd) (lk : List Nat) (X : Cx) (st : List Stmt) (w : WY) : Prop where
  run : ∀ (σ : Sg) (F H : Hp) (A : List Addr) (ρ : Rho) (ys : List V) (ds : List D) (D : Ny) (E : EK) (DV : GEnds) (W : WX), hold Γ σ F H ρ A → repL Γ F ys ds → Takes X W → ELs Γ lk σ F H A E W → EndsY Γ lk σ F H A D DV → w ds ρ D E → wyXs X st DV ys σ H
end
/-! ### contracts -/
abbrev ConG := List SV → (List D → Prop) → (Nat → D → Prop) → Prop
/-- no argument may change -/
abbrev noio (n : Nat) : List Bool := List.replicate n false
section
variable (Γ : Wd)
def spY (n : Nat) (con : ConG) : SpG := fun vs H Q EX => ∃ (F : Hp) (A : List Addr) (svs : List SV) (Qc : List D → Prop) (Ec : Nat → D → Prop),
  ArgOk (noio n) svs ∧ hold Γ (vs.map some) F H (svs.map some) A ∧ con svs Qc Ec ∧
  (∀ os, Qc os → ∀ ys F' H' A', Ext F H A F' H' A' → (Same F' H' ∧ TabsF Γ.cl F' H') → repL Γ F' ys os → Q ys H') ∧
  (∀ j x, Ec j x → ∀ F' H' A' dx v, Ext F H A F' H' A' → (Same F' H' ∧ TabsF Γ.cl F' H') → H' dx = some (.xd [(("value" : Str), v)]) → rep Γ F' v x → EX (.ref (Γ.exc j)) (some dx) H')
abbrev GnG (k : Nat) (f : Addr) (fd : FuncData) (ps : List Str) (sp : SpG) : Prop := GFn Γ.P Γ.w Γ.K Γ.mg Γ.base k f fd ps sp
end
/-- the same world, guards unknown -/
abbrev Wd.low (Γ : Wd) : Wd := { Γ with gk := false }
section
variable {Γ : Wd} {k : Nat}
theorem ClOk.low {n : Nat} (h : ClOk Γ n) : ClOk Γ.low n := ⟨h.cl, h.nd, h.no, h.few⟩
theorem IsiOk.low {n : Nat} {x : Str} (h : IsiOk Γ n x) : IsiOk Γ.low n x := ⟨h.g, h.k.low, h.ca, h.cg, h.ct, h.cm, h.n0, h.n1, h.n2, h.n3, h.n4, h.n5⟩
theorem NeOk.low {n : Nat} (h : NeOk Γ n) : NeOk Γ.low n := ⟨h.ne, h.ob⟩
theorem ErTab.low {m : Nat} {xs : List Str} (h : ErTab Γ m xs) : ErTab Γ.low m xs := ⟨h.mg, h.xc, h.xf, h.no, h.isa, h.exm⟩
theorem ErOk.low {j : Nat} {x : Str} (h : ErOk Γ j x) : ErOk Γ.low j x := ⟨h.g, h.t, h.no, h.init⟩
theorem GnG.mono {i j : Nat} {f : Addr} {fd : FuncData} {ps : List Str} {sp : SpG} (F : GnG Γ i f fd ps sp) (h : i ≤ j) : GnG Γ j f fd ps sp := ⟨F.len, fun A outer s H args us vs Q E hr e0 hb r q => codeAny_mono (F.run A outer s H args us vs Q E (hr.mono h) e0 hb r q) fun r s' z => by
  cases r with
  | error e => exact z
  | ok fl =>
    cases fl with
    | ret u =>
      obtain ⟨a, g, c, h1, h2, h3, h4, h5, h6, h7, h8, h9, wake⟩ := z
      exact ⟨a, g, c, h1, h2, h3, h4, h5, h6, h7, h8, h9, fun A' S s2 hr' => wake A' S s2 (hr'.mono h)⟩
    | _ => exact z⟩
/-- a generator def, known by its name and its text -/
structure GnX (Γ : Wd) (k : Nat) (x : Str) (st : Stmt) (ps : List Str) (n : Nat) (con : ConG) : Prop where
  ex : ∃ (f : Addr) (fd : FuncData), Γ.mg x = some (.ref f) ∧ Fun Γ.K x x st f fd ∧ GnG Γ k f fd ps (spY Γ n con)
theorem GnX.mono {i j : Nat} {x : Str} {st : Stmt} {ps : List Str} {n : Nat} {con : ConG} (F : GnX Γ i x st ps n con) (h : i ≤ j) : GnX Γ j x st ps n con := ⟨let ⟨f, fd, a, b, c⟩ := F.ex; ⟨f, fd, a, b, GnG.mono c h⟩⟩
section
variable {X : Cx} {N : List Str} {sc : Scope} {fp : Str → Bool}
end
end

end Dv

/-! Dv43: ~x, x an own instance. -/
namespace Dv
open PySem PySem.Spec PyProof.Rows L2
section
variable {Γ : Wd} {X : Cx} {N : List Str} {sc : Scope} {fp : Str → Bool} {k : Nat}
end
end Dv

/-! Dv44: lambdas without captured names: made, handed on, called. -/
namespace Dv
open PySem PySem.Spec PyProof.Rows L2
section
variable {X : Cx} {pins : List (Addr × Obj)} {σ : L2.St} {H : Hp} {s : Shared}
end
section
variable {Γ : Wd} {X : Cx} {N : List Str} {sc : Scope} {fp : Str → Bool} {k : Nat}
/-- what a def must be known for that makes the lambda j -/
structure LamMk (Γ : Wd) (X : Cx) (j : Nat) (L : LamD) : Prop where
  is : (Γ.cl j).lam = some L
  nm : X.env.qual ++ "<lambda>" = L.qual
  ex : ∃ c P, X.env.code = .ref c ∧ LamX.TabB Γ.base Γ.mg c P ∧ (c, P, L.qual) ∈ (Γ.cl 0).tab ∧ ∀ p ∈ (Γ.cl 0).tab, p.2.1 = P → p.2.2 = L.qual
/-- the lambda j keeps its contract -/
structure LamE (Γ : Wd) (k j : Nat) (io : List Bool) (con : Con) : Prop where
  ex : ∃ L : LamD, (Γ.cl j).lam = some L ∧ ∀ (A : Around) (outer : List Env) (s : Shared) (H : Hp) (us : List Value) (vs : List V) (Q : VK) (E : XK) (f c' : Addr), Room k A → (Γ.gk = true → A.guards = some []) → Env0 Γ.P Γ.w Γ.K Γ.mg Γ.base A outer s H →
    H f = some (LamO f L c') → H c' = some (LamX.CodeO c' L.qual) → Vals vs us → spC Γ io con vs H Q E → codeAny (model Γ.P Γ.w) A (.call (.ref f) ⟨us, []⟩) (CR (CX Γ.P Γ.w) outer Γ.P Γ.w H s Q E) s
theorem LamE.mono {i k j : Nat} {io : List Bool} {con : Con} (F : LamE Γ i j io con) (h : i ≤ k) : LamE Γ k j io con := let ⟨L, a, b⟩ := F.ex; ⟨L, a, fun A outer s H us vs Q E f c' hr => b A outer s H us vs Q E f c' (hr.mono h)⟩
end
end Dv

/-! Dv45: defs that make lambdas. -/
namespace Dv
open PySem PySem.Spec PyProof.Rows L2
section
variable {Γ : Wd} {X : Cx} {N : List Str} {sc : Scope} {fp : Str → Bool} {k : Nat}
end
end Dv

/-! Dv46: the law's end where defs make lambdas: their tables are tracked. -/
namespace Dv
open PySem PySem.Spec PyProof.Rows L2
section
variable {Γ : Wd} {k : Nat}
end
section
variable {K : PySem.W.Frag} {w : World} {P : Program}
/-- what is known of the tables at the law's call -/
structure Tabs (K : PySem.W.Frag) (ts : List (Addr × Addr × Str)) (h : Heap) : Prop where
  at_ : ∀ p ∈ ts, h.get? p.2.1 = some { cls := .none, data := .fields #[] }
  no : ∀ p ∈ ts, K.lookup p.2.1 = none
  hd : ∀ p ∈ ts, PySem.W.CodeHd h p.1 p.2.1
end
end Dv

set_option maxHeartbeats 0
/-! Dv47: zip of a list and a range. -/
namespace Dv
open PySem PySem.Spec PyProof.Rows L2
section
variable {prog : Program} {w : World} {A : Around} {E : Value → Shared → Prop} {s : Shared}
/-- the objects of the zip stand apart -/
structure Apt (z TI TO i j l : Addr) : Prop where
  d : [z, TI, TO, i, j].Pairwise (fun a b => a ≠ b)
  lz : l ≠ z
  lO : l ≠ TO
  li : l ≠ i
  lj : l ≠ j
theorem Apt.all {z TI TO i j l : Addr} (D : Apt z TI TO i j l) : (z ≠ TI ∧ z ≠ TO ∧ z ≠ i ∧ z ≠ j) ∧ (TI ≠ TO ∧ TI ≠ i ∧ TI ≠ j) ∧ (TO ≠ i ∧ TO ≠ j) ∧ i ≠ j := by
  have := D.d
  simp only [List.pairwise_cons, List.mem_cons, List.not_mem_nil, or_false, forall_eq_or_imp, forall_eq, List.Pairwise.nil, and_true, false_imp_iff, implies_true] at this
  exact this
end
/-! ### the zip is made -/
section
variable {prog : Program} {w : World} {A : Around} {E : Value → Shared → Prop} {s : Shared}
end
/-! ### its walk -/
section
variable {Γ : Wd} {X : Cx} {N : List Str} {sc : Scope} {fp : Str → Bool} {k : Nat}
end
end Dv

/-! Dv48: defs that call themselves: contracts by depth. -/
namespace Dv
open PySem PySem.Spec PyProof.Rows L2
section
variable {Γ : Wd} {k : Nat}
end
end Dv

/-! Dv49: [.. for i, x in enumerate(xs)] over a list that a slot goes on owning. -/
namespace Dv
open PySem PySem.Spec PyProof.Rows L2
section
variable {Γ : Wd} {X : Cx} {N : List Str} {sc : Scope} {fp : Str → Bool} {k : Nat} {lk : List Nat}
/-- slot j holds xs at each turn -/
def compLO (j : Nat) (xs : List D) (g : WG) (wt : WT) (we : WE) (own : List Nat) : List D → List D → Rho → (List D → Rho → Prop) → Prop
  | [], acc, ρ, K => ρ[j]? = some (some (.lst xs)) ∧ K acc ρ
  | d :: ds, acc, ρ, K => ρ[j]? = some (some (.lst xs)) ∧ g d ρ fun ρ1 => wt ρ1 (fun b ρ2 => Br b
      (we ρ2 (fun y ρ3 => keep y ρ3 fun x ρ4 => acc.length < 16777216 ∧ compLO j xs g wt we own ds (acc ++ [x]) (wipeR ρ4 own) K) noE)
      (compLO j xs g wt we own ds acc (wipeR ρ2 own) K)) noE
def wLcEO (j : Nat) (g : WG) (wt : WT) (we : WE) (own : List Nat) : WE := fun ρ Q _ => match ρ[j]? with
  | some (some (.lst xs)) => compLO j xs g wt we own (enD 0 xs) [] (wipeR ρ own) fun acc ρ2 => Q (.lst acc) ρ2
  | _ => False
theorem hold_lst {σ : Sg} {F H : Hp} {A : List Addr} {ρ : Rho} {j : Nat} {xs : List D} (hh : hold Γ σ F H ρ A) (e : ρ[j]? = some (some (.lst xs))) : ∃ a vs, σ[j]? = some (some (.ref a)) ∧ H a = some (.lst vs) ∧ repL Γ F vs xs := by
  obtain ⟨A1, sl, _⟩ := hh.sl
  obtain ⟨v, B, A0, h1, h2, _⟩ := sl.at e
  unfold RS at h2
  obtain ⟨a, vs, rfl, ha, ra, _⟩ := h2
  exact ⟨a, vs, h1, ha, ra⟩
theorem lc_okEO (C : Ctx Γ X N sc fp k) {tg elt : Expr} {ifs : List Expr} {own is : List Nat} {g : WG} {wt : WT} {we : WE} {j : Nat} {scope : Scope} (hjo : j ∉ own) (hsub : ∀ i ∈ is, i ∈ own)
    (hg : ∀ X', Blk Γ N sc scope k X' → SG Γ X' tg g is) (ht : ∀ X', Blk Γ N sc scope k X' → STs Γ X' ifs wt) (he : ∀ X', Blk Γ N sc scope k X' → SE Γ X' elt we)
    {σ : Sg} {F H : Hp} {A : List Addr} {ρ : Rho} {Q : WK} {E : EK} {QV : VK} (hh : hold Γ σ F H ρ A) (hw : wLcEO j g wt we own ρ Q E)
    (hq : ∀ sv ρ', Q sv ρ' → ∀ v F' H' A' B, Out Γ σ F H A ρ' sv v F' H' A' B → QV v H') :
    tLc (iEnum X.K (tCons (tVar j) tNil)) (bG Γ N sc scope k tg) (bT Γ N sc scope k ifs) (bE Γ N sc scope k elt) own σ H QV := by
  unfold wLcEO at hw
  split at hw
  · rename_i xs hj
    obtain ⟨a, us0, sa, ha0, ra0⟩ := hold_lst hh hj
    refine ⟨.ref a, sa, a, us0, rfl, .of ha0, ?_⟩
    intro dst hD
    obtain ⟨hn1, hn2, nF, nA⟩ := hold_new (o := .lst []) hh hD
    obtain ⟨A2, h2, s2⟩ := hold_wipe hn1 own
    have sw : (wipe σ own)[j]? = some (some (.ref a)) := by rw [wipe_out hjo]; exact sa
    have at_ : ∀ {F' H' : Hp} {A' : List Addr} {ρ' : Rho}, hold Γ (wipe σ own) F' H' ρ' A' → ρ'[j]? = some (some (.lst xs)) → ∃ vs, H' a = some (.lst vs) ∧ repL Γ F' vs xs := fun {F' H' A' ρ'} h e => by
      obtain ⟨b, vs, e1, e2, e3⟩ := hold_lst h e
      rw [sw] at e1
      cases e1
      exact ⟨vs, e2, e3⟩
    refine ⟨fun i m H' => m = xs.length - i ∧ i ≤ xs.length ∧ ∃ F' ρ' A' vs acc, Ext F H A F' H' ([dst] ++ A') ∧ hold Γ (wipe σ own) F' H' ρ' A' ∧ H' dst = some (.lst vs) ∧ F' dst = none ∧ dst ∉ A' ∧ repL Γ F' vs acc ∧ compLO j xs g wt we own ((enD 0 xs).drop i) acc ρ' (fun acc ρ2 => Q (.lst acc) ρ2),
      ⟨xs.length, by simp, Nat.zero_le _, F, _, A2, [], [], hn2.sub (fun a m => by simp only [List.cons_append, List.nil_append, List.mem_cons] at m ⊢; exact m.imp id (s2 a)), h2, upd_same, nF, fun m => nA (s2 dst m), RL.nil, by simpa using hw⟩, ?_⟩
    rintro i m H' ⟨rfl, hi', F', ρ', A', vs, acc, x3, h3, hD3, nF3, nA3, r3, hw3⟩
    by_cases hlt : i < xs.length
    · have e2 : (enD 0 xs).drop i = .tup [.int (i : Nat), xs[i]] :: (enD 0 xs).drop (i + 1) := by
        have hj' : i < (enD 0 xs).length := by rw [enD_len]; exact hlt
        rw [List.drop_eq_getElem_cons hj']
        congr 1
        have := enD_get (n := 0) (show xs[i]? = some xs[i] from List.getElem?_eq_getElem hlt)
        rw [List.getElem?_eq_getElem hj'] at this
        simpa using this
      rw [e2] at hw3
      unfold compLO at hw3
      obtain ⟨hj3, hw3⟩ := hw3
      obtain ⟨us, ha3, ra3⟩ := at_ h3 hj3
      refine .inr ⟨⟨us, us[i]'(by rw [RL.length ra3]; exact hlt), .of ha3, by simp⟩, fun H'' => ∃ F' ρ' A' vs acc, Ext F H A F' H'' ([dst] ++ A') ∧ hold Γ (wipe σ own) F' H'' ρ' A' ∧ H'' dst = some (.lst vs) ∧ F' dst = none ∧ dst ∉ A' ∧ repL Γ F' vs acc ∧ compLO j xs g wt we own ((enD 0 xs).drop (i + 1)) acc ρ' (fun acc ρ2 => Q (.lst acc) ρ2),
        fun H'' z => ⟨xs.length - (i + 1), by omega, rfl, hlt, z⟩, fun x H4 y => ?_⟩
      obtain ⟨T, z, rfl, hT, rfl, y⟩ := y
      obtain ⟨d, d1, d2⟩ := RL.get' ra3 (y us (.of ha3))
      have ed : d = xs[i] := by rw [List.getElem?_eq_getElem hlt] at d1; exact (Option.some.inj d1).symm
      subst ed
      obtain ⟨F4, x4, h4, r4⟩ := tup_new (vs := [.int (i : Nat), z]) (ds := [.int (i : Nat), xs[i]]) h3 hT (RL.cons (by unfold Dv.R; rfl) (RL.cons d2 RL.nil))
      have keepD : ∀ {F5 H5 : Hp} {A5 : List Addr}, Ext F' H' A' F5 H5 A5 → H5 dst = some (.lst vs) ∧ F5 dst = none ∧ dst ∉ A5 := fun {F5 H5 A5} z => by
        refine ⟨(z.fr dst _ hD3 nA3).eq (fun _ z => nomatch z), ?_, fun m => ?_⟩
        · cases e : F5 dst with
          | none => rfl
          | some u =>
            rcases z.nf dst u e with q | q | q
            · rw [nF3] at q; cases q
            · rw [hD3] at q; cases q
            · exact absurd q nA3
        · rcases z.na dst m with q | q
          · exact nA3 q
          · rw [hD3] at q; cases q
      intro X' hX'
      have elF : ∀ {σ5 : Sg} {F5 H5 : Hp} {A5 : List Addr}, EL Γ σ5 F5 H5 A5 noE (fun _ _ _ _ => False) := fun {σ5 F5 H5 A5} _ _ _ z => z.elim
      refine (hg X' hX').run _ F4 _ A' ρ' _ _ _ _ h4 r4 hw3 fun ρ5 hk5 σ5 F5 H5 A5 w5 x5 h5 => ?_
      have ew : wipe σ5 own = wipe σ own := (w5 own hsub).trans (wipe_twice σ own)
      refine ⟨ew, fun X' hX' => ?_⟩
      have x45 := x4.trans x5
      refine (ht X' hX').run σ5 F5 H5 A5 ρ5 _ noE _ _ h5 hX'.2 elF hk5 fun b ρ6 hk6 F6 H6 A6 x6 h6 => ?_
      have x46 := x45.trans x6
      have x36 := x3.trans (x46.frame (B := [dst]))
      have fin : ∀ {F7 H7 : Hp} {A7 : List Addr} {ρ7 : Rho} {vs' : List V} {acc' : List D}, Ext F H A F7 H7 ([dst] ++ A7) → hold Γ σ5 F7 H7 ρ7 A7 → H7 dst = some (.lst vs') → F7 dst = none → dst ∉ A7 → repL Γ F7 vs' acc' → compLO j xs g wt we own ((enD 0 xs).drop (i + 1)) acc' (wipeR ρ7 own) (fun acc ρ2 => Q (.lst acc) ρ2) →
          ∃ F' ρ' A' vs acc, Ext F H A F' H7 ([dst] ++ A') ∧ hold Γ (wipe σ own) F' H7 ρ' A' ∧ H7 dst = some (.lst vs) ∧ F' dst = none ∧ dst ∉ A' ∧ repL Γ F' vs acc ∧ compLO j xs g wt we own ((enD 0 xs).drop (i + 1)) acc ρ' (fun acc ρ2 => Q (.lst acc) ρ2) := fun {F7 H7 A7 ρ7 vs' acc'} y1 y2 y3 y4 y5 y6 y7 => by
        obtain ⟨A8, h8, s8⟩ := hold_wipe y2 own
        rw [ew] at h8
        exact ⟨F7, _, A8, vs', acc', y1.sub (fun a m => by simp only [List.cons_append, List.nil_append, List.mem_cons] at m ⊢; exact m.imp id (s8 a)), h8, y3, y4, fun m => y5 (s8 dst m), y6, y7⟩
      cases b with
      | false =>
        rw [if_neg Bool.false_ne_true]
        obtain ⟨z1, z2, z3⟩ := keepD x46
        exact fin x36 h6 z1 z2 z3 (RL.mono x46.sf r3) (hk6.f rfl)
      | true =>
        rw [if_pos rfl]
        intro X' hX'
        refine (he X' hX').use h6 hX'.2 elF (hk6.t rfl) fun sy ρ7 q7 v F7 H7 A7 B7 o => ?_
        obtain ⟨dd, ρ8, F8, A8, ⟨hl8, hk8⟩, x8, h8, r8, _⟩ := keep_ok o.oh o.ors o.ond o.ofb q7
        have x48 := x46.trans (o.oe.trans x8)
        obtain ⟨z1, z2, z3⟩ := keepD x48
        have r3' := RL.mono x48.sf r3
        refine ⟨vs, z1, by rw [RL.length r3', line_eq]; exact hl8, ?_⟩
        refine fin (F7 := F8) (vs' := vs ++ [v]) (acc' := acc ++ [dd]) ?_ (hold_out h8 z2 z3 (.inr ⟨_, z1, fun _ z => nomatch z⟩)) upd_same z2 z3 (r3'.append (RL.cons r8 RL.nil)) hk8
        refine (x3.trans (x48.frame (B := [dst]))).trans ⟨Same.refl _, fun a u e n => .inl ?_, fun a u e => .inl e, fun a m => .inl m⟩
        rw [upd_ne (fun z => n (by simp [z]))]
        exact e
    · have e : i = xs.length := by omega
      subst e
      rw [show (enD 0 xs).drop xs.length = [] from List.drop_eq_nil_of_le (by rw [enD_len]; omega)] at hw3
      unfold compLO at hw3
      obtain ⟨hj3, hw3⟩ := hw3
      obtain ⟨us, ha3, ra3⟩ := at_ h3 hj3
      refine .inl ⟨⟨us, .of ha3, by rw [RL.length ra3]; omega⟩, hq _ ρ' hw3 _ F' H' A' [dst] ⟨x3, hold_back h3, ?_, ?_, fun b m => ?_⟩⟩
      · unfold rs RS
        exact ⟨dst, vs, rfl, hD3, r3, rfl⟩
      · simp only [List.cons_append, List.nil_append, List.nodup_cons]
        exact ⟨nA3, h3.nd⟩
      · rw [List.mem_singleton] at m
        rw [m]
        exact nF3
  · exact hw.elim
/-- name = such a list, on one line -/
theorem ss_asgLcEO (C : Ctx Γ X N sc fp k) (jj : Nat) (fr : lk.contains jj = false := by rfl) (j : Nat) {yy : Str} {py : Pos} {es : List Expr} {kk : Nat} {tpos pn p pos2 : Pos} {y : Str} {elt : Expr} {ifs : List Expr} {scope : Scope} {own : List (Str × Nat)} {is : List Nat} {pos spos : Pos} {g : WG} {wt : WT} {we : WE} (hyy : N[jj]? = some yy) (hyl : sc.names.lookup yy = some .local) (hl : (py.line == pos.line) = true)
    (hany : (scope.names.any fun (n, k) => n == yy && (k == .local || k == .cell)) = false) (ok : blkC N sc scope own = true) (hsub : is.all (fun i => (own.map (·.2)).contains i) = true)
    (hg : ∀ X', Blk Γ N sc scope k X' → SG Γ X' (.Tuple es kk tpos) g is) (ht : ∀ X', Blk Γ N sc scope k X' → STs Γ X' ifs wt) (he : ∀ X', Blk Γ N sc scope k X' → SE Γ X' elt we) (hkind : sc.kind = .function := by rfl)
    (hy : N[j]? = some y := by rfl) (hv : Vis sc y := by first | exact Or.inl rfl | exact Or.inr (Or.inl rfl) | exact Or.inr (Or.inr rfl)) (hd : (y == ("__debug__" : Str)) = false := by decide) (hcd : (y == ("__classdict__" : Str)) = false := by decide)
    (hgl : sc.names.lookup ("enumerate" : Str) = some .globalImplicit := by rfl) (hjo : (own.map (·.2)).contains j = false := by rfl)
    (hse : starEach [.Name y pn] X.env = [(false, eval (.Name y pn) X.env)] := by rfl)
    (hs : ∀ x, foldedSetIterable (.Call (.Name "enumerate" p) [.Name y pn] [] pos2) X.env x = pure x := by intro _; rfl) :
    SS Γ lk X (.Assign [.Name yy py] (.ListComp elt [⟨.Tuple es kk tpos, .Call (.Name "enumerate" p) [.Name y pn] [] pos2, ifs, 0⟩] scope pos) spos) (wAsg jj (wLcEO j g wt we (own.map (·.2)))) := .mk fun σ F H A ρ D' E DV W hh tk el eo hw pins s I => by
  refine (ps_setLc (i := jj) (own := own) (g := bG Γ N sc scope k (.Tuple es kk tpos)) (tt := bT Γ N sc scope k ifs) (te := bE Γ N sc scope k elt) C.calm (by rw [C.hN]; exact C.nd) (by rw [C.hN]; exact hyy) (by rw [C.hs]; exact hyl) (sw_true (by rw [C.hs]; exact hkind) (by rw [C.hs]; exact hyl) hl hany) (pi_enum (gl_of C hgl) (by rw [C.mg]; exact C.bn _ (by decide +kernel)) (pa_cons (pe_var (by rw [C.hN]; exact hy) (by rw [C.hs]; exact hv) hd hcd) pa_nil hse) hse) (by rw [C.hN, C.hs]; exact blkOk_by ok) (fun s H c cl f => ⟨fun pins s' σ H v u Q I r h => h _ (blk_ctx C s _ cl c f) pins s' u I r⟩) (fun s H c cl f => ⟨fun pins s' σ H Q I h => h _ (blk_ctx C s _ cl c f) pins s' I⟩) (fun s H c cl f => ⟨fun pins s' σ H Q I h => h _ (blk_ctx C s _ cl c f) pins s' I⟩) hs).run pins s σ H DV I ?_
  refine lc_okEO C (by simpa using hjo) (fun i m => by simpa using List.all_eq_true.mp hsub i m) hg ht he hh hw fun sv ρ1 q v F1 H1 A1 B1 o => ?_
  obtain ⟨ρ2, F2, A2, hk, x2, h4⟩ := put_ok o (len_of C I hyy) q
  exact eo.nx ρ2 hk _ F2 H1 A2 (.set fr) x2 h4
theorem compLO_ind {j : Nat} {xs : List D} {g : WG} {wt : WT} {we : WE} {own : List Nat} {K : List D → Rho → Prop} (P : List D → List D → Rho → Prop) (nil : ∀ acc ρ, P [] acc ρ → ρ[j]? = some (some (.lst xs)) ∧ K acc ρ) (cons : ∀ d ds acc ρ, P (d :: ds) acc ρ → (∀ acc' ρ', P ds acc' ρ' → compLO j xs g wt we own ds acc' ρ' K) →
    ρ[j]? = some (some (.lst xs)) ∧ g d ρ fun ρ1 => wt ρ1 (fun b ρ2 => Br b (we ρ2 (fun y ρ3 => keep y ρ3 fun x ρ4 => acc.length < 16777216 ∧ compLO j xs g wt we own ds (acc ++ [x]) (wipeR ρ4 own) K) noE) (compLO j xs g wt we own ds acc (wipeR ρ2 own) K)) noE) : ∀ ds acc ρ, P ds acc ρ → compLO j xs g wt we own ds acc ρ K
  | [], acc, ρ, h => nil acc ρ h
  | d :: ds, acc, ρ, h => cons d ds acc ρ h fun acc' ρ' h' => compLO_ind P nil cons ds acc' ρ' h'
end
end Dv

/-! Dv50: defs with one parameter and `*others`: called by position. -/
namespace Dv
open PySem PySem.Spec PyProof.Rows L2
section
variable {Γ : Wd}
/-- as FnG, where the binding lays a tuple of what is given beyond -/
structure FnS (Γ : Wd) (k : Nat) (f : Addr) (fd : FuncData) (sp : Sp) : Prop where
  run : ∀ (A : Around) (outer : List Env) (s s' : Shared) (H' : Hp) (u0 : Value) (us : List Value) (v0 : V) (Q : VK) (E : XK), Room k A → (Γ.gk = true → A.guards = some []) → Γ.K.In s.heap → us.length ≤ sizeLine →
    s' = { s with heap := s.heap.push { cls := .type "tuple", data := .seq us.toArray } } → Env0 Γ.P Γ.w Γ.K Γ.mg Γ.base A outer s' H' → RelV v0 u0 → sp [v0, .ref s.heap.objs.size] H' Q E →
    codeAny (model Γ.P Γ.w) A (.call (.ref f) ⟨u0 :: us, []⟩) (CR (CX Γ.P Γ.w) outer Γ.P Γ.w H' s' Q E) s
abbrev StarBy (a va : Str) (st : Stmt) : Prop := ∀ (x qual : Str) (kV doc pm cdv ct : Value) (an : Option Addr) (u : Value) (us : List Value), bindArgs (PySem.W.fnOf x qual (defArgs st) (defBody st) (defScope st) .none kV doc pm an cdv ct) ⟨u :: us, []⟩ = (do
  let t ← newTuple us
  pure [(a, u), (va, t)])
theorem fnS_run {k : Nat} {f : Addr} {x qual a va : Str} {st : Stmt} {fd : FuncData} {N : List Str} {sp : Sp} (F : Fun Γ.K x qual st f fd) (S : FnScope N [a, va] (defScope st)) (B : StarBy a va st)
    (body : ∀ (cdv : Value), fd.code = cdv → ∀ (A : Around) (outer : List Env) (s : Shared) (H : Hp) (vs : List V) (Q : VK) (E : XK), Room k (A.deeper (envOfC qual (defScope st) s.heap.objs.size f cdv)) → (Γ.gk = true → (A.deeper (envOfC qual (defScope st) s.heap.objs.size f cdv)).guards = some []) → sp vs H Q E →
      wpXSs (cxOf (CX Γ.P Γ.w) Γ.P Γ.w Γ.K Γ.mg Γ.base N qual (defScope st) f cdv A outer s H E) (defBody st) { nx := fun _ H' => Q .non H', rt := Q } (L2.start N vs) H) : FnS Γ (k + 1) f fd sp := by
  obtain ⟨oc, od, kV, doc, pm, an, cdv, ct, osl, rfl, lk, hcd⟩ := F.ex
  refine ⟨fun A outer s s' H' u0 us v0 Q E room guards kin hsz es e0 rv want => ?_⟩
  have hb := B x qual kV doc pm cdv ct an u0 us
  have nolim : s'.heap.NoLimit := e0.mod.nolimit.keeps fun b o z => (e0.bs b o z).1
  have rel : Vals [v0, .ref s.heap.objs.size] [u0, .ref s.heap.objs.size] := .cons rv (.cons rfl .nil)
  have kinds : ∀ y ∈ [a, va].zip [u0, Value.ref s.heap.objs.size], (defScope st).names.lookup y.1 = some .local ∨ ((defScope st).names.lookup y.1 = some .cell ∧ ((cellsFrom (s'.heap.objs.size + 1) (defScope st).names []).lookup y.1).isSome = true) := by
    rintro ⟨n, v⟩ hy
    rcases S.par n (List.of_mem_zip hy).1 with q | q
    · exact Or.inl q
    · exact Or.inr ⟨q, PySem.W.cellsFrom_some _ _ _ (Or.inl q)⟩
  refine codeAny_call_function room.depth (kin _ _ lk) rfl S.co S.gen rfl (PySem.W.codeRec_of kin hcd) ?_
  rw [hb]
  refine wpAny_bind (wpAny_newTuple (wpAny_pure ?_) hsz)
  rw [← es]
  refine wpAny_newFunctionEnv_cells S.kind kinds fun env he s1 xx => ?_
  subst he
  refine ⟨nolim.keeps xx.toInCall.keep, codeAny_func ?_⟩
  have I0 := inv_start (CX := CX Γ.P Γ.w) (P := Γ.P) (w := Γ.w) (E := E) S room.hd e0 (show [v0, V.ref s.heap.objs.size].length = [a, va].length from rfl) rel xx
  refine wpAny_mono (body cdv rfl A outer s' H' _ Q E (room.deeper _) (fun z => by show A.guards = _; exact guards z) want [] s1 I0) (fun fl s2 ends => ?_) fun _ _ z => z
  have done : ∀ {σ' : Sg} {H2 : Hp} {v : V} {u : Value}, Inv (cxOf (CX Γ.P Γ.w) Γ.P Γ.w Γ.K Γ.mg Γ.base N qual (defScope st) f cdv A outer s' H' E) [] σ' H2 s2 → RelV v u → Q v H2 → CE outer Γ.P Γ.w H' s' Q u s2 := by
    intro σ' H2 v u J rv q
    exact ⟨v, H2, J.os, J.bare, J.base, J.hok, rv, q⟩
  cases fl with
  | next => obtain ⟨σ', H2, J, q⟩ := ends; exact done (v := V.non) (u := Value.none) J rfl q
  | ret u => obtain ⟨v, σ', H2, J, rv, q⟩ := ends; exact done J rv q
  | brk => obtain ⟨_, _, _, q⟩ := ends; exact q.elim
  | cont => obtain ⟨_, _, _, q⟩ := ends; exact q.elim
/-- a def's body, as its contract has it -/
theorem def_body {k : Nat} {f : Addr} {qual : Str} {st : Stmt} {fd : FuncData} {N ps : List Str} {io : List Bool} {con : Con} {w : WS} (S : FnScope N ps (defScope st)) (bn : ∀ x ∈ bnames, Γ.mg x = none) (hio : io.length = ps.length)
    (tr : ∀ X, Ctx Γ X N (defScope st) (fun _ => true) k → Own X → DefCx X → SSs Γ (lkOf io 0) X (defBody st) w)
    (law : ∀ svs Q E, ArgOk io svs → con svs Q E → w (startR N svs) (endsOf io svs Q) (errsOf io svs E))
    (cdv : Value) (ecd : fd.code = cdv) (A : Around) (outer : List Env) (s : Shared) (H : Hp) (vs : List V) (Q : VK) (E : XK) (room : Room k (A.deeper (envOfC qual (defScope st) s.heap.objs.size f cdv))) (guards : Γ.gk = true → (A.deeper (envOfC qual (defScope st) s.heap.objs.size f cdv)).guards = some []) (want : spC Γ io con vs H Q E) :
    wpXSs (cxOf (CX Γ.P Γ.w) Γ.P Γ.w Γ.K Γ.mg Γ.base N qual (defScope st) f cdv A outer s H E) (defBody st) { nx := fun _ H' => Q .non H', rt := Q } (L2.start N vs) H := by
  intro pins s1 I
  have hvl : vs.length = ps.length := by
    obtain ⟨F, A, svs, Qc, Ec, ok, hh, _⟩ := want
    have := hh.len
    simp only [List.length_map] at this
    rw [this, ok.length, hio]
  obtain ⟨F0, A0, svs, Qc, Ec, ok, hh, hcon, hq, he⟩ := want
  have hvs : vs.length = io.length := by rw [hvl, hio]
  have hsv : svs.length = vs.length := by rw [ok.length, hvs]
  generalize hX : cxOf (CX Γ.P Γ.w) Γ.P Γ.w Γ.K Γ.mg Γ.base N qual (defScope st) f cdv A outer s H E = X at I ⊢
  have C : Ctx Γ X N (defScope st) (fun _ => true) k := by
    subst hX
    exact ⟨rfl, rfl, rfl, rfl, rfl, rfl, S.nd, rfl, rfl, room, guards, rfl, bn⟩
  have P : Own X := by
    subst hX
    exact passes_of rfl
  have dc : DefCx X := by
    subst hX
    exact ⟨rfl, rfl⟩
  have tk : Takes X fun cls d _ H => E cls d H := by
    subst hX
    exact takes_of rfl rfl rfl rfl
  have hold0 : hold Γ (L2.start N vs) F0 H (startR N svs) A0 := by
    obtain ⟨A1, sl, p⟩ := hh.sl
    refine ⟨⟨A1, ?_, p⟩, hh.sub, hh.nd, hh.av, hh.tb⟩
    unfold L2.start startR
    rw [hsv]
    exact Sl.start _ sl
  -- data arguments stand
  have dat : ∀ (i : Nat) (v : V) (x : D), vs[i]? = some v → svs[i]? = some (SV.d x) → rep Γ F0 v x := fun i v x a b => by
    obtain ⟨A1, sl, _⟩ := hh.sl
    obtain ⟨v', B, _, h1, h2, _⟩ := sl.at (i := i) (sv := .d x) (by rw [List.getElem?_map, b]; rfl)
    rw [List.getElem?_map, a] at h1
    cases h1
    unfold RS at h2
    exact h2.1
  have fin : ∀ {σ' : Sg} {F' H' : Hp} {ρ' : Rho} {A' : List Addr} {svs' : List SV}, Kp (lkOf io 0) (L2.start N vs) σ' → Same F0 F' → hold Γ σ' F' H' ρ' A' → endA io svs ρ' = some svs' → ∃ A'', hold Γ (vs.map some) F' H' (svs'.map some) A'' ∧ ∀ a ∈ A'', a ∈ A' := fun {σ' F' H' ρ' A' svs'} kp sf h' e => by
    refine hold_sub h' fun s => args_end s ok hvs (fun i v a b => ?_) (fun i v x a b => R.mono sf (dat i v x a b)) e
    have hi : i < vs.length := (List.getElem?_eq_some_iff.mp b).1
    rw [kp i (by simpa using lk_mem (n := 0) a)]
    unfold L2.start
    rw [List.getElem?_append_left (by simpa using hi), List.getElem?_map, b]
    rfl
  refine (tr X C P dc).run (L2.start N vs) F0 H A0 (startR N svs) (endsOf io svs Qc) (errsOf io svs Ec) _ _ hold0 tk ?_ ⟨?_, fun _ z => z.elim, fun _ z => z.elim, ?_⟩ (law svs Qc Ec ok hcon) pins s1 I
  · intro σ1 kp n x ρ' z F' H' A' dx v xx h' hd hr
    unfold errsOf at z
    cases e : endA io svs ρ' with
    | none => simp only [e] at z
    | some svs' =>
      simp only [e] at z
      obtain ⟨A2, h2, s2⟩ := fin kp xx.sf h' e
      exact he n x svs' z F' H' A2 dx v (xx.sub s2) h2 hd hr
  · intro ρ' z σ' F' H' A' kp x h'
    unfold endsOf at z
    cases e : endA io svs ρ' with
    | none => simp only [e] at z
    | some svs' =>
      simp only [e] at z
      obtain ⟨A2, h2, s2⟩ := fin kp x.sf h' e
      exact hq _ svs' z .non F' H' A2 [] ((Out.now h2 (rs_d (by unfold rep R; rfl))).pre (x.sub s2))
  · intro sv ρ' z σ' v F' H' A' B kp o
    have z' : (∀ i, sv ≠ .sl i) ∧ (match endA io svs ρ' with
      | some svs' => Qc sv svs'
      | none => False) := by
      unfold endsOf at z
      cases sv with
      | sl i => exact z.elim
      | _ => exact ⟨(fun i q => by cases q), z⟩
    obtain ⟨nsl, z⟩ := z'
    cases e : endA io svs ρ' with
    | none => simp only [e] at z
    | some svs' =>
      simp only [e] at z
      obtain ⟨A2, h2, s2⟩ := fin kp o.oe.sf o.oh e
      have sB : ∀ a ∈ B ++ A2, a ∈ B ++ A' := fun a m => (List.mem_append.mp m).elim (fun q => List.mem_append_left _ q) fun q => List.mem_append_right _ (s2 a q)
      refine hq sv svs' z v F' H' A2 B ⟨o.oe.sub sB, h2, ?_, ?_, o.ofb⟩
      · have r := o.ors
        cases sv with
        | sl i => exact absurd rfl (nsl i)
        | _ => exact r
      · rw [List.nodup_append]
        have nd := List.nodup_append.mp o.ond
        exact ⟨nd.1, h2.nd, fun a m b n => nd.2.2 a m b (s2 b n)⟩
/-- a def of the module with one parameter and `*others`, by its name -/
structure FnSE (Γ : Wd) (k : Nat) (x : Str) (con : Con) : Prop where
  ex : ∃ (f : Addr) (fd : FuncData), Γ.mg x = some (.ref f) ∧ PySem.W.keepIn Γ.K (.ref f) = true ∧ FnS Γ k f fd (spC Γ [false, false] con)
theorem FnSE.mono {j k : Nat} {x : Str} {con : Con} (F : FnSE Γ j x con) (h : j ≤ k) : FnSE Γ k x con :=
  let ⟨f, fd, a, b, c⟩ := F.ex
  ⟨⟨f, fd, a, b, ⟨fun A outer s s' H' u0 us v0 Q E hr hg => c.run A outer s s' H' u0 us v0 Q E (hr.mono h) hg⟩⟩⟩
theorem fnSE_of {k : Nat} {st : Stmt} {N : List Str} {a va : Str} {con : Con} {w : WS} {x : Str} (D : DefAt Γ x st) (S : FnScope N [a, va] (defScope st)) (B : StarBy a va st) (bn : ∀ x ∈ bnames, Γ.mg x = none) (tr : TrOf Γ N [false, false] st k w) (law : LawOf N [false, false] con w) : FnSE Γ (k + 1) x con :=
  let ⟨f, fd, hm, F⟩ := D
  ⟨⟨f, fd, hm, F.kp, fnS_run F S B fun cdv ecd A outer s H vs Q E room guards want => def_body S bn rfl (fun X C P dc => tr X C P dc) law cdv ecd A outer s H vs Q E room guards want⟩⟩
/-- f(e, ..): all is data, what is beyond the first goes into a tuple -/
def wCallS (con : Con) (wa : WA) : WE := fun ρ Q E => wa ρ (fun svs ρ1 => keepL svs ρ1 fun ds ρ2 => match ds with
  | d :: ds => ds.length ≤ 1000 ∧ wCallK [false, false] con [.d d, .d (.tup ds)] ρ2 Q E
  | [] => False) E
variable {X : Cx} {N : List Str} {sc : Scope} {fp : Str → Bool} {k : Nat}
theorem se_callS (C : Ctx Γ X N sc fp k) {x : Str} {con : Con} {e : Expr} {es : List Expr} {wa : WA} {p pos : Pos} (F : FnSE Γ k x con) (ha : SA Γ X (e :: es) wa) (hg : sc.names.lookup x = some .globalImplicit := by rfl) (hdb : (x == ("__debug__" : Str)) = false := by decide)
    (he : starEach (e :: es) X.env = (false, eval e X.env) :: starEach es X.env := by exact star_of rfl) (hpl : (backTo pos (starEach es X.env)).any (·.1) = false := by rfl) : SE Γ X (.Call (.Name x p) (e :: es) [] pos) (wCallS con wa) := .mk fun σ F0 H A ρ Q E QV W hh tk el hw hq pins s I => by
  obtain ⟨f, fd, hm, hk, FF⟩ := F.ex
  refine wpAny_Call_Name_kw (ld_glob I (gl_of C hg) (by rw [C.mg]; exact hm) ?_ hdb)
  refine PySem.W.callWith_K (h₀ := X.base) I.ok.mod.kin (by rw [C.K]; exact hk) (thn (ha.run σ F0 H A ρ _ E (fun vs H1 => ∃ v0 rest, vs = v0 :: rest ∧ rest.length ≤ 1000 ∧ ∀ T, H1 T = none → spC Γ [false, false] con [v0, .ref T] (upd H1 T (.tup rest)) QV (fun cls d H' => W cls d σ H')) W hh tk el hw (fun svs ρ1 hw1 vs F1 H1 A1 B1 o1 => ?_) pos pins s I) fun us s1 ⟨vs, H1, I1, r, q⟩ => ⟨I1.kIn, ?_⟩) he hpl
  · obtain ⟨ds, ρ2, F2, A2, hkk, x2, hh2, r2, _⟩ := keepL_ok o1.oh o1.ors o1.ond o1.ofb hw1
    cases ds with
    | nil => exact hkk.elim
    | cons d ds =>
      obtain ⟨hl, hkk⟩ := hkk
      unfold repL RL at r2
      obtain ⟨v0, rest, rfl, r0, rr⟩ := r2
      refine ⟨v0, rest, rfl, by rw [RL.length rr]; exact hl, fun T hT => ?_⟩
      obtain ⟨F3, x3, h3, r3⟩ := tup_new hh2 hT rr
      have o2 : OutL Γ σ F0 H A ρ2 [.d d, .d (.tup ds)] [v0, .ref T] F3 (upd H1 T (.tup rest)) A2 [] :=
        ⟨(o1.oe.trans x2).trans x3, h3, ⟨v0, [.ref T], [], [], rfl, rs_d (R.mono x3.sf r0), ⟨.ref T, [], [], [], rfl, rs_d r3, ⟨rfl, rfl⟩, rfl⟩, rfl⟩, h3.nd, fun _ m => nomatch m⟩
      exact call_core o2 el hkk hq
  · obtain ⟨v0, rest, rfl, hl, q⟩ := q
    cases r with
    | @cons _ u0 _ us' r0 rr =>
      have hz : us'.length ≤ sizeLine := by rw [← rr.length, line_eq]; omega
      have hT := I1.hok.fresh (Nat.le_refl s1.heap.objs.size)
      have kin := I1.kIn
      have I2 : Inv X pins σ (upd H1 s1.heap.objs.size (.tup rest)) { s1 with heap := s1.heap.push { cls := .type "tuple", data := .seq us'.toArray } } :=
        I1.laid (t' := s1.toks) (fun b o e => Heap.get?_push_of_some _ e) (Nat.le_refl _) ⟨by rw [line_eq]; omega, us', rr, ⟨_, Heap.get?_push_size _ rfl, rfl, 0, rfl⟩⟩
      have e0 := I2.env0
      rw [C.p, C.w, C.K, C.mg, C.base] at e0
      rw [C.K] at kin
      have R := FF.run X.A X.stack s1 _ _ u0 us' v0 QV _ C.room C.gd kin hz rfl e0 r0 (q _ hT)
      rw [← C.p, ← C.w] at R
      refine wpAny_call (codeAny_mono R fun res s' back => ?_)
      cases res with
      | error e => exact tk e s' (XE.of_call I2 (fun _ _ _ z => z) back)
      | ok fl =>
        cases fl with
        | ret u => exact I2.after back
        | next => exact back.elim
        | brk => exact back.elim
        | cont => exact back.elim
end
end Dv

/-! Dv51: zip of two lists with one name as its target: the zip goes on knowing the pair that it handed out. -/
namespace Dv
open PySem PySem.Spec PyProof.Rows L2
section
variable {prog : Program} {w : World} {A : Around} {E : Value → Shared → Prop} {s : Shared}
end
section
variable {Γ : Wd} {X : Cx} {N : List Str} {sc : Scope} {fp : Str → Bool} {k : Nat}
end
end Dv

/-! Dv52: the instance that an expression gives is called. -/
namespace Dv
open PySem PySem.Spec PyProof.Rows L2
section
variable {Γ : Wd} {X : Cx} {N : List Str} {sc : Scope} {fp : Str → Bool} {k : Nat}
end
end Dv

/-! Dv53: an own instance times a whole number. -/
namespace Dv
open PySem PySem.Spec PyProof.Rows L2
section
variable {Γ : Wd} {X : Cx} {N : List Str} {sc : Scope} {fp : Str → Bool} {k : Nat}
/-- the class has a reflected product of its own -/
def MulR (Γ : Wd) (n : Nat) : Prop := ∃ g : Addr, PySem.W.findIn Γ.K (.ref (Γ.cl n).adr) "__rmul__" = some (some (.ref g))
theorem int_mul_look (K : PySem.W.Frag) : ∃ fo, PySem.W.findIn K (.type "int") "__mul__" = some fo := ⟨some (.builtin "int.__mul__"), by show PySem.fastLookup "int" "__mul__" = some (some (.builtin "int.__mul__")); kernel_rfl⟩
theorem int_rmul_look (K : PySem.W.Frag) : ∃ fo, PySem.W.findIn K (.type "int") "__rmul__" = some fo := ⟨some (.builtin "int.__rmul__"), by show PySem.fastLookup "int" "__rmul__" = some (some (.builtin "int.__rmul__")); kernel_rfl⟩
theorem int_not_sub (K : PySem.W.Frag) (C : Addr) : PySem.W.subIn K (.type "int") (.ref C) = some false := by
  have e : ∀ l : List Value, (∀ v ∈ l, ∃ T, v = Value.type T) → l.contains (Value.ref C) = false := fun l hl => by
    rw [List.contains_eq_any_beq, List.any_eq_false]
    intro v hv q
    obtain ⟨T, rfl⟩ := hl v hv
    cases beq_iff_eq.mp q
  show Option.map (fun l : List Value => l.contains (.ref C)) (fastBuiltinMro "int") = some false
  have h : fastBuiltinMro "int" = some [.type "int", .type "object"] := by kernel_rfl
  rw [h]
  show some (List.contains _ _) = _
  rw [e _ (by intro v hv; simp only [List.mem_cons, List.not_mem_nil, or_false] at hv; rcases hv with rfl | rfl <;> exact ⟨_, rfl⟩)]
def isIntS (s : SV) : Prop := ∃ i, s = .d (.int i)
theorem se_mulI (C : Ctx Γ X N sc fp k) {n : Nat} {io : List Bool} {con : Con} {a b : Expr} {wa wb : WE} {pos : Pos} (F : OpE Γ k n "__mul__" io con) (hc : PySem.W.selfFirst Γ.K (Γ.cl n).adr = true) (hm : MulR Γ n) (ha : SE Γ X a wa) (hb : SE Γ X b wb) :
    SE Γ X (.BinOp a .Mult b pos) (wOp2 n io con wa fun ρ Q E => wb ρ (fun sy ρ2 => isIntS sy ∧ Q sy ρ2) E) := .mk fun σ F0 H A ρ Q E QV W hh tk el hw hq pins s I => by
  obtain ⟨f, fd, ps, h1, h2, h3, hbd, FF⟩ := F.ex
  refine wpAny_BinOp (binT pe_x pe_x I (R := fun x y H2 => ∃ a dx fs i, x = .ref a ∧ H2 a = some (.ins (Γ.cl n).adr dx fs) ∧ y = .int i ∧ spC Γ io con [x, y] H2 QV fun cls d H' => W cls d σ H') ?_ fun v u s2 x y H2 I2 rx ry q => ?_)
  · refine ha.use hh tk el hw fun sx ρ1 hw1 v1 F1 H1 A1 B1 o1 => ?_
    refine hb.use o1.oh tk (el.ext o1.ext1) hw1 fun sy ρ2 hw2 v2 F2 H2 A2 B2 o2 => ?_
    obtain ⟨⟨i, ei⟩, hi, hw2⟩ := hw2
    obtain ⟨a, dx, fs, e1, e2, _⟩ := ins_later o1 (out_one o2) hi
    have e3 : v2 = .int i := by
      have := o2.ors
      rw [ei] at this
      unfold rs RS Dv.R at this
      exact this.1
    exact ⟨a, dx, fs, i, e1, e2, e3, call_core (out_two o1 o2) el hw2 hq⟩
  · obtain ⟨a, dx, fs, i, rfl, ea, rfl, q⟩ := q
    cases rx
    obtain ⟨t, rfl⟩ : ∃ t, u = .int i t := ry
    obtain ⟨mA, O, _⟩ := ins_get I2.hok ea
    obtain ⟨od, J, _⟩ := O.look
    obtain ⟨m, FR⟩ := I2.fr
    obtain ⟨g, hg⟩ := hm
    obtain ⟨fo, hfo⟩ := int_mul_look X.K
    obtain ⟨ro, hro⟩ := int_rmul_look X.K
    exact PySem.W.ksp_binT (T := "int") (op := .Mult) FR I2.ok.mod.kin J rfl (by rw [C.K]; exact hc) (by rw [C.K]; exact h1) (by rw [C.K]; exact h2) (by rw [C.K]; exact hg) (.inr ⟨g, rfl⟩) hfo hro (int_not_sub _ _) (wpAny_mono (run_fnA C FF hbd tk C.room C.gd rfl I2 (vs := [.ref a, .int i]) (us := [.ref a, .int i t]) (.cons rfl (.cons ⟨t, rfl⟩ .nil)) q) (fun r s' h => cmpBack h) fun _ _ z => z)
end
end Dv

/-! Dv54: defs with one parameter and `*others`: called by name. -/
namespace Dv
open PySem PySem.Spec PyProof.Rows L2
section
variable {Γ : Wd}
/-- as FnS, called by the name of its one parameter -/
structure FnS1 (Γ : Wd) (k : Nat) (f : Addr) (fd : FuncData) (a : Str) (sp : Sp) : Prop where
  run : ∀ (A : Around) (outer : List Env) (s s' : Shared) (H' : Hp) (u0 : Value) (v0 : V) (Q : VK) (E : XK), Room k A → (Γ.gk = true → A.guards = some []) → Γ.K.In s.heap →
    s' = { s with heap := s.heap.push { cls := .type "tuple", data := .seq ([] : List Value).toArray } } → Env0 Γ.P Γ.w Γ.K Γ.mg Γ.base A outer s' H' → RelV v0 u0 → sp [v0, .ref s.heap.objs.size] H' Q E →
    codeAny (model Γ.P Γ.w) A (.call (.ref f) ⟨[], [(a, u0)]⟩) (CR (CX Γ.P Γ.w) outer Γ.P Γ.w H' s' Q E) s
/-- such a def, called by the name of its parameter -/
structure FnKE (Γ : Wd) (k : Nat) (x a : Str) (con : Con) : Prop where
  ex : ∃ (f : Addr) (fd : FuncData), Γ.mg x = some (.ref f) ∧ PySem.W.keepIn Γ.K (.ref f) = true ∧ FnS1 Γ k f fd a (spC Γ [false, false] con)
theorem FnKE.mono {j k : Nat} {x a : Str} {con : Con} (F : FnKE Γ j x a con) (h : j ≤ k) : FnKE Γ k x a con :=
  let ⟨f, fd, a, b, c⟩ := F.ex
  ⟨⟨f, fd, a, b, ⟨fun A outer s s' H' u0 v0 Q E hr hg => c.run A outer s s' H' u0 v0 Q E (hr.mono h) hg⟩⟩⟩
variable {X : Cx} {N : List Str} {sc : Scope} {fp : Str → Bool} {k : Nat}
end
end Dv

/-! Dv55: a whole number times an own instance. -/
namespace Dv
open PySem PySem.Spec PyProof.Rows L2
theorem int_mul_ref {i : Int} {t : Tok} {x : Addr} : GivesAt (fun s => ∃ o, s.heap.get? x = some o ∧ o.data = .plain) (Builtin.«int.__mul__» ⟨[.int i t, .ref x], []⟩) (.val Value.notImplemented) := by
  intro prog w A R s hP h
  obtain ⟨o, ho, hd⟩ := hP
  obtain ⟨c, dct, dat, sl⟩ := o
  have hd' : dat = .plain := hd
  subst hd'
  obtain ⟨hp, g, d, tk, os⟩ := s
  wp_walk
  exact h
section
open PySem.W
variable {prog : Program} {w : World} {A : Around} {E : Value → Shared → Prop} {s : Shared} {K : Frag} {x C L f g : Addr} {h₀ : Heap} {m : Str → Option Value} {ox : Obj} {od : Option Obj}
/-- int * own: the reflected product -/
theorem ksp_mulR {i : Int} {t : Tok} {Q : Value → Shared → Prop} (F : Fr h₀ L s.heap m) (X₀ : K.In h₀) (I : InstAt s.heap x ox C od) (pd : ox.data = .plain) (hc : selfFirst K C = true)
    (hs : findIn K (.ref C) (PySem.dunder "mul") = some (some (.ref f))) (hr : findIn K (.ref C) (dunderR "mul") = some (some (.ref g))) (hg : isFn K (.ref g) = true) (hsub : subIn K (.ref C) (.type "int") = some false)
    (h : wpAny (model prog w) A (call (.ref g) [.ref x, .int i t]) (PySem.W.CmpBack Q) E s) : wpAny (model prog w) A (binaryOp .Mult (.int i t) (.ref x)) Q E s := by
  have X := X₀.keeps F.keep
  obtain ⟨cd, rest, hcd, hm⟩ := ksp_first hc
  have two := ksp_try X I hr hg h
  have one : wpAny (model prog w) A (tryMethod (.int i t) (PySem.dunder "mul") (.ref x)) (fun r s' => r = none ∧ s' = s) E s := by
    have c1 : wpAny (model prog w) A (call (.builtin "int.__mul__") [.int i t, .ref x]) (fun v s' => v = .notImplemented ∧ s' = s) E s := by
      have hT : s.TypeIs (.int i t) "int" := typeIs_int s i t
      have hP : ∃ o, s.heap.get? x = some o ∧ o.data = .plain := ⟨ox, I.at_, pd⟩
      refine call_givesAt (T := "int") (name := PySem.dunder "mul") (m := .val Value.notImplemented) (P := fun s => ∃ o, s.heap.get? x = some o ∧ o.data = .plain) PySem.F.slot_int_mul hT PySem.F.entry_int_mul (PySem.F.args_int_mul_2 _ _) int_mul_ref hP ?_
      exact ⟨rfl, rfl⟩
    have c2 : wpAny (model prog w) A (callSpecial? (.int i t) (PySem.dunder "mul") [.ref x]) (fun r s' => r = some .notImplemented ∧ s' = s) E s :=
      wpAny_callSpecial?_slot (name := PySem.dunder "mul") (kw := []) (typeIs_int s i t) PySem.F.slot_int_mul (wpAny_mono c1 (fun v s' hv => ⟨by rw [hv.1], hv.2⟩) fun _ _ e => e)
    simp only [tryMethod]
    refine wpAny_bind (wpAny_mono c2 (fun r s' hv => ?_) fun _ _ e => e)
    obtain ⟨rfl, rfl⟩ := hv
    exact wpAny_pure ⟨rfl, rfl⟩
  obtain ⟨hh, gg, d, tt, os⟩ := s
  have L1 : Looks (model prog w) hh (typeOf (.int i t)) (.type "int") := Looks.of_pure rfl
  have L2 : Looks (model prog w) hh (typeOf (.ref x)) (.ref C) := I.type
  have L3 : Looks (model prog w) hh (fillsNumberSlot (.type "int") "mul") true := Looks.of_pure PySem.F.fills_int_mul
  have L4 : Looks (model prog w) hh (fillsNumberSlot (.ref C) "mul") true := fills_K X hcd hm hs
  have L5 : Looks (model prog w) hh (isSubtype (.ref C) (.type "int")) false := looks_subIn X hsub
  have L6 : Looks (model prog w) hh (numberSlotInPython (.type "int") "mul") false := Looks.of_pure rfl
  have hne : (Value.type "int" == Value.ref C) = false := Bool.eq_false_iff.mpr fun q => by cases beq_iff_eq.mp q
  simp only [binaryOp]
  refine wpAny_holding (wpAny_bind ?_)
  show wpAny _ _ (binaryOp1 "mul" _ _) _ _ _
  unfold binaryOp1
  refine wpAny_bind (L1.at (wpAny_bind (L2.at (wpAny_bind (L3.at ?_)))))
  simp only [hne, Bool.false_eq_true, if_false]
  ksp_lk
  refine wpAny_mono one (fun r s' hr' => ?_) fun _ _ e => e
  obtain ⟨rfl, rfl⟩ := hr'
  ksp_lk
  refine wpAny_mono two (fun r s' hr' => ?_) fun _ _ e => e
  obtain ⟨v, rfl, hq⟩ := hr'
  ksp_lk
  exact hq
end
section
variable {Γ : Wd} {X : Cx} {N : List Str} {sc : Scope} {fp : Str → Bool} {k : Nat}
/-- the class has a product of its own and is no kind of int -/
def MulL (Γ : Wd) (n : Nat) : Prop := (∃ f : Addr, PySem.W.findIn Γ.K (.ref (Γ.cl n).adr) "__mul__" = some (some (.ref f))) ∧ PySem.W.subIn Γ.K (.ref (Γ.cl n).adr) (.type "int") = some false
def wMulR (n : Nat) (io : List Bool) (con : Con) (wa wb : WE) : WE := fun ρ Q E => wa ρ (fun sx ρ1 => wb ρ1 (fun sy ρ2 => isIntS sx ∧ isIns n sy ρ2 ∧ wCallK io con [sy, sx] ρ2 Q E) E) E
theorem se_mulR (C : Ctx Γ X N sc fp k) {n : Nat} {io : List Bool} {con : Con} {a b : Expr} {wa wb : WE} {pos : Pos} (F : OpE Γ k n "__rmul__" io con) (hc : PySem.W.selfFirst Γ.K (Γ.cl n).adr = true) (hm : MulL Γ n) (ha : SE Γ X a wa) (hb : SE Γ X b wb) :
    SE Γ X (.BinOp a .Mult b pos) (wMulR n io con wa wb) := .mk fun σ F0 H A ρ Q E QV W hh tk el hw hq pins s I => by
  obtain ⟨f, fd, ps, h1, h2, h3, hbd, FF⟩ := F.ex
  refine wpAny_BinOp (binT pe_x pe_x I (R := fun x y H2 => ∃ a dx fs i, y = .ref a ∧ H2 a = some (.ins (Γ.cl n).adr dx fs) ∧ x = .int i ∧ spC Γ io con [y, x] H2 QV fun cls d H' => W cls d σ H') ?_ fun v u s2 x y H2 I2 rx ry q => ?_)
  · refine ha.use hh tk el hw fun sx ρ1 hw1 v1 F1 H1 A1 B1 o1 => ?_
    refine hb.use o1.oh tk (el.ext o1.ext1) hw1 fun sy ρ2 hw2 v2 F2 H2 A2 B2 o2 => ?_
    obtain ⟨⟨i, ei⟩, hi, hw2⟩ := hw2
    obtain ⟨a, dx, fs, e1, e2, _⟩ := ins_of o2.oh o2.ors hi
    have e3 : v1 = .int i := by
      have := o1.ors
      rw [ei] at this
      unfold rs RS Dv.R at this
      exact this.1
    obtain ⟨B', o3⟩ := out_swap (out_two o1 o2)
    exact ⟨a, dx, fs, i, e1, e2, e3, call_core o3 el hw2 hq⟩
  · obtain ⟨a, dx, fs, i, rfl, ea, rfl, q⟩ := q
    cases ry
    obtain ⟨t, rfl⟩ : ∃ t, v = .int i t := rx
    obtain ⟨mA, O, _⟩ := ins_get I2.hok ea
    obtain ⟨od, J, _⟩ := O.look
    obtain ⟨m, FR⟩ := I2.fr
    obtain ⟨⟨g, hg⟩, hsub⟩ := hm
    exact ksp_mulR FR I2.ok.mod.kin J rfl (by rw [C.K]; exact hc) (by rw [C.K]; exact hg) (by rw [C.K]; exact h1) (by rw [C.K]; exact h2) (by rw [C.K]; exact hsub) (wpAny_mono (run_fnA C FF hbd tk C.room C.gd rfl I2 (vs := [.ref a, .int i]) (us := [.ref a, .int i t]) (.cons rfl (.cons ⟨t, rfl⟩ .nil)) q) (fun r s' h => cmpBack h) fun _ _ z => z)
end
end Dv

set_option maxHeartbeats 0
/-! Dv56: zip of a range and a list. -/
namespace Dv
open PySem PySem.Spec PyProof.Rows L2
section
variable {prog : Program} {w : World} {A : Around} {E : Value → Shared → Prop} {s : Shared}
end
/-! ### the zip is made -/
section
variable {prog : Program} {w : World} {A : Around} {E : Value → Shared → Prop} {s : Shared}
end
/-! ### its walk -/
section
variable {Γ : Wd} {X : Cx} {N : List Str} {sc : Scope} {fp : Str → Bool} {k : Nat}
end
end Dv

set_option maxHeartbeats 0
/-! Dv57: sorted by a key that an own def gives. -/
namespace Dv
open PySem PySem.Spec PyProof.Rows L2
/-! ### nothing is tracked -/
abbrev H0 : Hp := fun _ => none
/-! ### the objects below an address -/
def below (h : Heap) (n : Nat) : Heap := ⟨h.objs.extract 0 n, h.life⟩
section
variable {prog : Program} {w : World} {A : Around} {E : Value → Shared → Prop} {s : Shared} {a kS : Addr} {b : Bool} {vs : List Value} {e1 : Nat} {P : PySem.Fin → Shared → Prop} {fs : List Addr} {h₁ : Heap}
/-- a key: a tuple of two ints, apart from the frames and the keys' list -/
def KT (fs : List Addr) (kS : Addr) (h : Heap) (v : Value) (d : Int × Int) : Prop := ∃ t o n ti tj, v = .ref t ∧ t ∉ fs ∧ t ≠ kS ∧ h.get? t = some o ∧ o.cls = .type "tuple" ∧ o.data = .seq #[.int d.1 ti, .int d.2 tj] n
theorem KT.un {h h' : Heap} {v : Value} {d : Int × Int} (u : Un fs [] H0 H0 h h') (x : KT fs kS h v d) : KT fs kS h' v d := by
  obtain ⟨t, o, n, ti, tj, rfl, n1, n2, q1, q2, q3⟩ := x
  exact ⟨t, o, n, ti, tj, rfl, n1, n2, u.keep t o q1 rfl n1 (fun z => nomatch z), q2, q3⟩
end
section
variable {Γ : Wd} {X : Cx} {N : List Str} {sc : Scope} {fp : Str → Bool} {k : Nat}
end
end Dv

namespace Law
open PySem PySem.Spec PyProof.Rows L2 Dv
def top (i : Nat) : Stmt := PySem.Challenge.pw_dueclocks_k38_rules_far_apart.main.body.getD i (.Pass ⟨0, 0, 0, 0⟩)
abbrev st_law_pool : Stmt := top 33
abbrev N_law_pool : List Str := ["script", "spot", "cell"]
abbrev st_law_draw : Stmt := top 34
abbrev N_law_draw : List Str := ["pool", "span", "mixed", "drawn"]
abbrev st_check_weeks : Stmt := top 9
abbrev N_check_weeks : List Str := ["week", "other_week"]
abbrev st_rows_of : Stmt := top 10
abbrev N_rows_of : List Str := ["base", "changes", "week", "rows", "rest", "offset", "mine", "change", "spot", "later"]
abbrev st_count_up_to : Stmt := top 11
abbrev N_count_up_to : List Str := ["spots", "moment", "low", "high", "middle"]
abbrev st_offset_at : Stmt := top 12
abbrev N_offset_at : List Str := ["rows", "moment", "spots", "offsets"]
abbrev st_value_at : Stmt := top 13
abbrev N_value_at : List Str := ["rows", "moment"]
abbrev st_extent_of : Stmt := top 14
abbrev N_extent_of : List Str := ["rows", "least", "spots", "offsets"]
abbrev st_latest_start : Stmt := top 15
abbrev N_latest_start : List Str := ["rows", "extent", "moment", "low", "high", "middle"]
abbrev st_first_start : Stmt := top 16
abbrev N_first_start : List Str := ["rows", "extent", "moment"]
abbrev st_normal_changes : Stmt := top 17
abbrev N_normal_changes : List Str := ["base", "pairs", "week", "here", "found", "moment", "offset"]
abbrev st_asked_moments : Stmt := top 18
abbrev N_asked_moments : List Str := ["week", "spots", "later", "first", "turn"]
abbrev st_gathered : Stmt := top 19
abbrev N_gathered : List Str := ["week", "asked", "offsets", "base", "moment", "offset", "turn"]
abbrev st_nearer : Stmt := top 20
abbrev N_nearer : List Str := ["one", "other"]
abbrev st_nearest_between : Stmt := top 21
abbrev N_nearest_between : List Str := ["low", "high", "rest", "week", "above", "below", "here"]
abbrev st_shared_parts : Stmt := top 22
abbrev N_shared_parts : List Str := ["one", "other", "spots", "found", "at", "low", "high"]
abbrev st_first_falling : Stmt := top 23
abbrev N_first_falling : List Str := ["rows", "week", "found", "rest", "row", "spots", "offsets", "low", "high", "offset", "later", "spot"]
abbrev st_steps_in_turn : Stmt := top 24
abbrev N_steps_in_turn : List Str := ["rows", "extent", "changes", "other_changes", "spots", "moment", "offset", "spot"]
abbrev st_Rule_init : Stmt := inClass (top 28) 0
abbrev N_Rule_init : List Str := ["self", "base", "changes", "index", "change", "normal", "rows", "falling"]
abbrev st_Rule_week : Stmt := inClass (top 28) 1
abbrev N_Rule_week : List Str := ["self"]
abbrev st_Rule_base : Stmt := inClass (top 28) 2
abbrev N_Rule_base : List Str := ["self"]
abbrev st_Rule_changes : Stmt := inClass (top 28) 3
abbrev N_Rule_changes : List Str := ["self"]
abbrev st_Rule_eq : Stmt := inClass (top 28) 6
abbrev st_Rule_call : Stmt := inClass (top 28) 4
abbrev N_Rule_call : List Str := ["self", "moment"]
abbrev st_Rule_rshift : Stmt := inClass (top 28) 7
abbrev N_Rule_rshift : List Str := ["self", "other", "spots", "asked", "values", "offsets", "base", "changes", "moment", "value"]
abbrev st_Rule_mul : Stmt := inClass (top 28) 11
abbrev N_Rule_mul : List Str := ["self", "number", "found", "turn", "offset"]
abbrev st_Rule_rmul : Stmt := inClass (top 28) 12
abbrev N_Rule_rmul : List Str := ["self", "number"]
abbrev st_Rule_or : Stmt := inClass (top 28) 8
abbrev N_Rule_or : List Str := ["self", "other", "asked", "offsets", "base", "changes", "moment", "change"]
abbrev st_Rule_and : Stmt := inClass (top 28) 9
abbrev N_Rule_and : List Str := ["self", "other", "asked", "offsets", "base", "changes", "moment", "change"]
abbrev st_in_turn : Stmt := top 29
abbrev N_in_turn : List Str := ["rule", "others", "other", "whole"]
abbrev st_later_of : Stmt := top 30
abbrev N_later_of : List Str := ["rule", "others", "other", "whole"]
abbrev st_earlier_of : Stmt := top 31
abbrev N_earlier_of : List Str := ["rule", "others", "other", "whole"]
abbrev st_law_offset : Stmt := top 35
abbrev N_law_offset : List Str := ["plan", "spot", "size", "found", "at", "offset_here"]
abbrev st_law_rising : Stmt := top 36
abbrev N_law_rising : List Str := ["pool", "size", "turn"]
abbrev st_law_lone : Stmt := top 37
abbrev N_law_lone : List Str := ["pool", "size", "reach", "gap", "start", "tops", "base_here", "spot", "shifts", "turn", "rest", "low", "high", "at", "here"]
abbrev st_law_shape : Stmt := top 42
abbrev N_law_shape : List Str := ["made"]
abbrev st_law_wide : Stmt := top 38
abbrev N_law_wide : List Str := ["pool", "size", "leap", "start", "base_here", "shifts", "spot", "turn", "later", "low", "at", "here"]
abbrev st_law_far : Stmt := top 39
abbrev N_law_far : List Str := ["pool", "size", "leap"]
abbrev st_law_start : Stmt := top 40
abbrev N_law_start : List Str := ["plan", "spot", "offsets_here", "low", "high", "middle", "at", "here"]
abbrev st_law_groups : Stmt := top 41
abbrev N_law_groups : List Str := ["shifts", "size", "found", "at", "here"]
abbrev st_law_wait : Stmt := top 43
abbrev N_law_wait : List Str := ["sign", "one", "two", "spot", "first_here", "second_here"]
abbrev st_law_both : Stmt := top 44
abbrev N_law_both : List Str := ["sign", "one", "two", "size", "spots", "start", "base_here", "found", "first_here", "last_here", "rest", "at", "here", "pair"]
abbrev st_law_made : Stmt := top 45
abbrev N_law_made : List Str := ["sign", "left", "right"]
abbrev st_law_twice : Stmt := top 46
abbrev N_law_twice : List Str := ["one", "left", "size", "base_here", "shifts", "owed", "third", "at", "spot", "made", "step", "here"]
abbrev st_law_right : Stmt := top 47
abbrev N_law_right : List Str := ["pool", "kind", "size", "one", "two", "left", "right", "before", "sign", "base_here", "shifts", "owed", "made", "at", "here"]
abbrev st_law : Stmt := top 48
abbrev N_law : List Str := ["script", "spot", "pool", "turn"]
structure Tx (Γ : Wd) : Prop where
  bn : ∀ x ∈ bnames, Γ.mg x = none
  c_MOST_WEEK : ∃ t, Γ.mg "MOST_WEEK" = some (.int 12 t)
  K_0 : ClOk Γ 0
  F_0 : (Γ.cl 0).fld = [("kept_base" : Str), ("kept_changes" : Str), ("rows" : Str), ("extent" : Str)]
  I_0 : IsiOk Γ 0 "Rule"
  ML_0 : MulL Γ 0
  MR_0 : MulR Γ 0
  S_0 : PySem.W.selfFirst Γ.K (Γ.cl 0).adr = true
  d_law_pool : DefAt Γ "_law_pool" st_law_pool
  d_law_draw : DefAt Γ "_law_draw" st_law_draw
  d_check_weeks : DefAt Γ "check_weeks" st_check_weeks
  d_rows_of : DefAt Γ "rows_of" st_rows_of
  d_count_up_to : DefAt Γ "count_up_to" st_count_up_to
  d_offset_at : DefAt Γ "offset_at" st_offset_at
  d_value_at : DefAt Γ "value_at" st_value_at
  d_extent_of : DefAt Γ "extent_of" st_extent_of
  d_latest_start : DefAt Γ "latest_start" st_latest_start
  d_first_start : DefAt Γ "first_start" st_first_start
  d_normal_changes : DefAt Γ "normal_changes" st_normal_changes
  d_asked_moments : DefAt Γ "asked_moments" st_asked_moments
  d_gathered : DefAt Γ "gathered" st_gathered
  d_nearer : DefAt Γ "nearer" st_nearer
  d_nearest_between : DefAt Γ "nearest_between" st_nearest_between
  d_shared_parts : DefAt Γ "shared_parts" st_shared_parts
  d_first_falling : DefAt Γ "first_falling" st_first_falling
  d_steps_in_turn : DefAt Γ "steps_in_turn" st_steps_in_turn
  d_Rule_init : InitAt Γ 0 "Rule" "Rule.__init__" st_Rule_init
  d_Rule_week : PropAt Γ 0 "week" "Rule.week" st_Rule_week
  d_Rule_base : PropAt Γ 0 "base" "Rule.base" st_Rule_base
  d_Rule_changes : PropAt Γ 0 "changes" "Rule.changes" st_Rule_changes
  d_Rule_eq : MethAt Γ 0 "__eq__" "Rule.__eq__" st_Rule_eq
  d_Rule_call : MethAt Γ 0 "__call__" "Rule.__call__" st_Rule_call
  d_Rule_rshift : MethAt Γ 0 "__rshift__" "Rule.__rshift__" st_Rule_rshift
  d_Rule_mul : MethAt Γ 0 "__mul__" "Rule.__mul__" st_Rule_mul
  d_Rule_rmul : MethAt Γ 0 "__rmul__" "Rule.__rmul__" st_Rule_rmul
  d_Rule_or : MethAt Γ 0 "__or__" "Rule.__or__" st_Rule_or
  d_Rule_and : MethAt Γ 0 "__and__" "Rule.__and__" st_Rule_and
  d_in_turn : DefAt Γ "in_turn" st_in_turn
  d_later_of : DefAt Γ "later_of" st_later_of
  d_earlier_of : DefAt Γ "earlier_of" st_earlier_of
  d_law_offset : DefAt Γ "_law_offset" st_law_offset
  d_law_rising : DefAt Γ "_law_rising" st_law_rising
  d_law_lone : DefAt Γ "_law_lone" st_law_lone
  d_law_shape : DefAt Γ "_law_shape" st_law_shape
  d_law_wide : DefAt Γ "_law_wide" st_law_wide
  d_law_far : DefAt Γ "_law_far" st_law_far
  d_law_start : DefAt Γ "_law_start" st_law_start
  d_law_groups : DefAt Γ "_law_groups" st_law_groups
  d_law_wait : DefAt Γ "_law_wait" st_law_wait
  d_law_both : DefAt Γ "_law_both" st_law_both
  d_law_made : DefAt Γ "_law_made" st_law_made
  d_law_twice : DefAt Γ "_law_twice" st_law_twice
  d_law_right : DefAt Γ "_law_right" st_law_right
  d_law : DefAt Γ "law" st_law

/-- a well of numbers: n draws at most were made -/
def Pool (n : Nat) (sv : SV) : Prop := ∃ a b c : Int, sv = .lst [.int a, .int b, .int c] ∧ -(2 ^ 100) < b ∧ b < 2 ^ 100 ∧ 0 ≤ c ∧ c ≤ n
theorem Pool.mono {n m : Nat} {sv : SV} (h : Pool n sv) (k : n ≤ m) : Pool m sv := by
  obtain ⟨a, b, c, e, h1, h2, h3, h4⟩ := h
  exact ⟨a, b, c, e, h1, h2, h3, by omega⟩
/-- a week's speeds: some open moment, none above 3 -/
structure Week (ps : List Int) : Prop where
  pos : ∃ x ∈ ps, 0 < x
  bd : ∀ x ∈ ps, 0 ≤ x ∧ x ≤ 3

theorem pool_b (X i : Int) (h0 : 0 ≤ i) (h1 : i < 64) : -(2 ^ 100) < X % 2305843009213693951 + 7368787 * (i + 1) ∧ X % 2305843009213693951 + 7368787 * (i + 1) < 2 ^ 100 := by omega
def c_law_pool : Con := fun svs Q _ => ∃ (ns : List Int) (i : Int), svs = [.d (.scr ns), .d (.int i)] ∧ 0 ≤ i ∧ i < 64 ∧ ∀ p, Pool 0 p → Q p svs
/-! _law_pool: script 0, spot 1, cell 2 -/
theorem sc_law_pool : FnScope N_law_pool ["script", "spot"] (defScope st_law_pool) := ⟨rfl, rfl, rfl, by decide +kernel, rfl, by decide +kernel, by decide +kernel⟩
abbrev w_law_pool_1 : WS := wRet (wLst (wCons (wB kMax (wCons (wC (.int 0)) (wCons (w2 kSub (wB kAbs (wCons (wVar 2) (wNil))) (w2 kPow (wC (.int 10)) (wC (.int 18)))) (wNil)))) (wCons (w2 kAdd (w2 kMod (wB kInt (wCons (wVar 2) (wNil))) (wC (.int 2305843009213693951))) (w2 kMul (wC (.int 7368787)) (w2 kAdd (wVar 1) (wC (.int 1))))) (wCons (wC (.int 0)) (wNil)))))
abbrev w_law_pool_2 : WS := wSeq (wIf (wTst (w2 kLt (wVar 1) (wB kLen (wCons (wVar 0) (wNil))))) (wAsg 2 (w2 kIdx (wVar 0) (wVar 1))) (wNext)) w_law_pool_1
def w_law_pool : WS :=
  wSeq (wAsg 2 (wC (.int 0))) w_law_pool_2
theorem tr_law_pool {Γ : Wd} (T : Tx Γ) (X : Cx) (C : Ctx Γ X N_law_pool (defScope st_law_pool) (fun _ => true) 0) (P : Own X) (dc : DefCx X) : SSs Γ [] X (defBody st_law_pool) w_law_pool :=
  sss_cons (ss_asg C 2 (se_int))
  (sss_cons (ss_if (st_lt  (se_var C 1) (se_len C (sa_cons (se_var C 0) (sa_nil)))) (sss_one (ss_asg C 2 (se_idx C (fun _ _ => rfl) (se_var C 0) (se_var C 1)))) (sss_nil))
  (sss_one (ss_ret (se_lst (sa_cons (se_max C (sa_cons (se_int) (sa_cons (se_sub (se_abs C (sa_cons (se_var C 2) (sa_nil))) (se_pow (se_int) (se_int))) (sa_nil)))) (sa_cons (se_add (se_mod (se_intc C (sa_cons (se_var C 2) (sa_nil))) (se_int)) (se_mul (se_int) (se_add (se_var C 1) (se_int)))) (sa_cons (se_int) (sa_nil))))))))

theorem law_law_pool : LawOf N_law_pool [false, false] c_law_pool w_law_pool := by
  rintro svs Q E - ⟨ns, i, rfl, h0, h1, hq⟩
  ((conv => whnf); try dsimp only [List.set_cons_zero, List.set_cons_succ])
  refine Br.of (fun h => ?_) (fun h => ?_)
  · ((conv => whnf); try dsimp only [List.set_cons_zero, List.set_cons_succ])
    refine ⟨ns[i.toNat]'(by omega), at_nat h0 (List.getElem?_eq_getElem _), ?_⟩
    ((conv => whnf); try dsimp only [List.set_cons_zero, List.set_cons_succ]); refine ⟨cpw (by decide) (by decide) (by decide), ?_⟩
    ((conv => whnf); try dsimp only [List.set_cons_zero, List.set_cons_succ]); refine ⟨(by show (0 : Int) < _; decide), ?_⟩
    ((conv => whnf); try dsimp only [List.set_cons_zero, List.set_cons_succ]); refine ⟨cml (by decide) (by decide), ?_⟩
    ((conv => whnf); try dsimp only [List.set_cons_zero, List.set_cons_succ]); refine ⟨few3 (by show 3 ≤ 1000; decide), ?_⟩
    ((conv => whnf); try dsimp only [List.set_cons_zero, List.set_cons_succ]); exact hq _ ⟨_, _, _, rfl, (pool_b _ _ h0 h1).1, (pool_b _ _ h0 h1).2, by decide, by decide⟩
  · ((conv => whnf); try dsimp only [List.set_cons_zero, List.set_cons_succ]); refine ⟨cpw (by decide) (by decide) (by decide), ?_⟩
    ((conv => whnf); try dsimp only [List.set_cons_zero, List.set_cons_succ]); refine ⟨(by show (0 : Int) < _; decide), ?_⟩
    ((conv => whnf); try dsimp only [List.set_cons_zero, List.set_cons_succ]); refine ⟨cml (by decide) (by decide), ?_⟩
    ((conv => whnf); try dsimp only [List.set_cons_zero, List.set_cons_succ]); refine ⟨few3 (by show 3 ≤ 1000; decide), ?_⟩
    ((conv => whnf); try dsimp only [List.set_cons_zero, List.set_cons_succ]); exact hq _ ⟨_, _, _, rfl, (pool_b _ _ h0 h1).1, (pool_b _ _ h0 h1).2, by decide, by decide⟩
theorem ok_law_pool {Γ : Wd} (T : Tx Γ) : FnE Γ 1 "_law_pool" [false, false] c_law_pool :=
  fnE_of T.d_law_pool sc_law_pool (by intro _ _ _ _ _ _ _ _ us hl; exact match us, hl with | [_, _], _ => rfl) T.bn rfl (tr_law_pool T) law_law_pool

def c_law_draw : Con := fun svs Q _ => ∃ (n : Nat) (p : SV) (m : Int), svs = [p, .d (.int m)] ∧ Pool n p ∧ n < 10 ^ 9 ∧ 0 < m ∧ m < 2 ^ 250 ∧ ∀ r p', 0 ≤ r → r < m → Pool (n + 1) p' → Q (.d (.int r)) [p', .d (.int m)]
/-! _law_draw: pool 0, span 1, mixed 2, drawn 3 -/
theorem sc_law_draw : FnScope N_law_draw ["pool", "span"] (defScope st_law_draw) := ⟨rfl, rfl, rfl, by decide +kernel, rfl, by decide +kernel, by decide +kernel⟩
abbrev w_law_draw_1 : WS := wRetF (wVar 3)
abbrev w_law_draw_2 : WS := wSeq (wSetI 0 (w2 kFdiv (w2 kIdx (wVar 0) (wC (.int 0))) (wVar 1)) (wC (.int 0))) w_law_draw_1
abbrev w_law_draw_3 : WS := wRetF (w2 kMod (wB kInt (wCons (w2 kFdiv (wVar 2) (wC (.int 1048576))) (wNil))) (wVar 1))
abbrev w_law_draw_4 : WS := wSeq (wAsg 2 (w2 kMod (wB kInt (wCons (w2 kPow (w2 kAdd (wVar 2) (w2 kMul (wC (.int 32452843)) (w2 kIdx (wVar 0) (wC (.int 2))))) (wC (.int 3))) (wNil))) (wC (.int 170141183460469231731687303715884105727)))) w_law_draw_3
abbrev w_law_draw_5 : WS := wSeq (wAsg 2 (w2 kMod (wB kInt (wCons (w2 kPow (w2 kAdd (w2 kIdx (wVar 0) (wC (.int 1))) (w2 kMul (wC (.int 15485863)) (w2 kIdx (wVar 0) (wC (.int 2))))) (wC (.int 3))) (wNil))) (wC (.int 162259276829213363391578010288127)))) w_law_draw_4
abbrev w_law_draw_6 : WS := wSeq (wSetI 0 (w2 kAdd (w2 kIdx (wVar 0) (wC (.int 2))) (wC (.int 1))) (wC (.int 2))) w_law_draw_5
def w_law_draw : WS :=
  wSeq (wIf (wTst (w2 kGt (w2 kIdx (wVar 0) (wC (.int 0))) (wC (.int 0)))) (wSeq (wAsg 3 (w2 kMod (wB kInt (wCons (w2 kIdx (wVar 0) (wC (.int 0))) (wNil))) (wVar 1))) w_law_draw_2) (wNext)) w_law_draw_6
theorem tr_law_draw {Γ : Wd} (T : Tx Γ) (X : Cx) (C : Ctx Γ X N_law_draw (defScope st_law_draw) (fun _ => true) 0) (P : Own X) (dc : DefCx X) : SSs Γ [0] X (defBody st_law_draw) w_law_draw :=
  sss_cons (ss_if (st_gt  (se_idx C (fun _ _ => rfl) (se_var C 0) (se_int)) (se_int)) (sss_cons (ss_asg C 3 (se_mod (se_intc C (sa_cons (se_idx C (fun _ _ => rfl) (se_var C 0) (se_int)) (sa_nil))) (se_var C 1)))
  (sss_cons (ss_seti C 0 (se_fdiv (se_idx C (fun _ _ => rfl) (se_var C 0) (se_int)) (se_var C 1)) (se_int))
  (sss_one (ss_retF (se_var C 3))))) (sss_nil))
  (sss_cons (ss_seti C 0 (se_add (se_idx C (fun _ _ => rfl) (se_var C 0) (se_int)) (se_int)) (se_int))
  (sss_cons (ss_asg C 2 (se_mod (se_intc C (sa_cons (se_pow (se_add (se_idx C (fun _ _ => rfl) (se_var C 0) (se_int)) (se_mul (se_int) (se_idx C (fun _ _ => rfl) (se_var C 0) (se_int)))) (se_int)) (sa_nil))) (se_int)))
  (sss_cons (ss_asg C 2 (se_mod (se_intc C (sa_cons (se_pow (se_add (se_var C 2) (se_mul (se_int) (se_idx C (fun _ _ => rfl) (se_var C 0) (se_int)))) (se_int)) (sa_nil))) (se_int)))
  (sss_one (ss_retF (se_mod (se_intc C (sa_cons (se_fdiv (se_var C 2) (se_int)) (sa_nil))) (se_var C 1)))))))

theorem draw_b1 (b c : Int) (n : Nat) (h1 : -(2 ^ 100) < b) (h2 : b < 2 ^ 100) (h3 : 0 ≤ c) (h4 : c ≤ n) (h5 : n < 10 ^ 9) : (b + 15485863 * (c + 1)).natAbs < 2 ^ 250 := by omega
theorem draw_b2 (X c : Int) (n : Nat) (h3 : 0 ≤ c) (h4 : c ≤ n) (h5 : n < 10 ^ 9) : (X % 162259276829213363391578010288127 + 32452843 * (c + 1)).natAbs < 2 ^ 250 := by omega
theorem law_law_draw : LawOf N_law_draw [true, false] c_law_draw w_law_draw := by
  rintro svs Q E - ⟨n, p, m, rfl, ⟨a, b, c, rfl, h1, h2, h3, h4⟩, h5, h6, h7, hq⟩
  ((conv => whnf); try dsimp only [List.set_cons_zero, List.set_cons_succ]); refine ⟨_, at0, ?_⟩
  ((conv => whnf); try dsimp only [List.set_cons_zero, List.set_cons_succ]); refine Br.of (fun h => ?_) (fun h => ?_)
  · ((conv => whnf); try dsimp only [List.set_cons_zero, List.set_cons_succ]); refine ⟨_, at0, ?_⟩
    ((conv => whnf); try dsimp only [List.set_cons_zero, List.set_cons_succ]); refine ⟨h6, ?_⟩
    ((conv => whnf); try dsimp only [List.set_cons_zero, List.set_cons_succ]); refine ⟨_, at0, ?_⟩
    ((conv => whnf); try dsimp only [List.set_cons_zero, List.set_cons_succ]); refine ⟨cdv h6 h7, ?_⟩
    ((conv => whnf); try dsimp only [List.set_cons_zero, List.set_cons_succ]); refine ⟨0, ix3.1, ?_⟩
    ((conv => whnf); try dsimp only [List.set_cons_zero, List.set_cons_succ]); exact hq _ _ (Int.emod_nonneg _ (by omega)) (Int.emod_lt_of_pos _ h6) ⟨_, _, _, rfl, h1, h2, h3, by omega⟩
  · ((conv => whnf); try dsimp only [List.set_cons_zero, List.set_cons_succ]); refine ⟨_, at2, ?_⟩
    ((conv => whnf); try dsimp only [List.set_cons_zero, List.set_cons_succ]); refine ⟨2, ix3.2.2, ?_⟩
    ((conv => whnf); try dsimp only [List.set_cons_zero, List.set_cons_succ]); refine ⟨_, at1, ?_⟩
    ((conv => whnf); try dsimp only [List.set_cons_zero, List.set_cons_succ]); refine ⟨_, at2, ?_⟩
    ((conv => whnf); try dsimp only [List.set_cons_zero, List.set_cons_succ]); refine ⟨cml (by decide) (by decide), ?_⟩
    ((conv => whnf); try dsimp only [List.set_cons_zero, List.set_cons_succ]); refine ⟨cpw (by decide) (by decide) (draw_b1 b c n h1 h2 h3 h4 h5), ?_⟩
    ((conv => whnf); try dsimp only [List.set_cons_zero, List.set_cons_succ]); refine ⟨(by show (0 : Int) < _; decide), ?_⟩
    ((conv => whnf); try dsimp only [List.set_cons_zero, List.set_cons_succ]); refine ⟨_, at2, ?_⟩
    ((conv => whnf); try dsimp only [List.set_cons_zero, List.set_cons_succ]); refine ⟨cml (by decide) (by decide), ?_⟩
    ((conv => whnf); try dsimp only [List.set_cons_zero, List.set_cons_succ]); refine ⟨cpw (by decide) (by decide) (draw_b2 _ c n h3 h4 h5), ?_⟩
    ((conv => whnf); try dsimp only [List.set_cons_zero, List.set_cons_succ]); refine ⟨(by show (0 : Int) < _; decide), ?_⟩
    ((conv => whnf); try dsimp only [List.set_cons_zero, List.set_cons_succ]); refine ⟨cdv (by decide) (by decide), ?_⟩
    ((conv => whnf); try dsimp only [List.set_cons_zero, List.set_cons_succ]); refine ⟨h6, ?_⟩
    ((conv => whnf); try dsimp only [List.set_cons_zero, List.set_cons_succ]); exact hq _ _ (Int.emod_nonneg _ (by omega)) (Int.emod_lt_of_pos _ h6) ⟨_, _, _, rfl, h1, h2, by omega, by omega⟩
theorem ok_law_draw {Γ : Wd} (T : Tx Γ) : FnE Γ 1 "_law_draw" [true, false] c_law_draw :=
  fnE_of T.d_law_draw sc_law_draw (by intro _ _ _ _ _ _ _ _ us hl; exact match us, hl with | [_, _], _ => rfl) T.bn rfl (tr_law_draw T) law_law_draw


def c_law_rising : Con := fun svs Q _ => ∃ (n : Nat) (p : SV) (s : Int), svs = [p, .d (.int s)] ∧ Pool n p ∧ n < 10 ^ 7 ∧ 1 ≤ s ∧ s ≤ 12 ∧ ∀ (xs : List Int) p', (xs.length : Int) = s → xs.Pairwise (· ≤ ·) → (∀ x ∈ xs, 0 ≤ x ∧ x ≤ s) → Pool (n + 12) p' → Q (.lst (xs.map D.int)) [p', .d (.int s)]
/-! _law_rising: pool 0, size 1, turn 2 -/
theorem sc_law_rising : FnScope N_law_rising ["pool", "size"] (defScope st_law_rising) := ⟨rfl, rfl, rfl, by decide +kernel, rfl, by decide +kernel, by decide +kernel⟩
def w_law_rising : WS :=
  wRet (wB kSorted (wCons (wLc (wRng1 (wCons (wVar 1) (wNil))) (gNm 2) (wYes) (wCall [true, false] c_law_draw (wCons (wRef 0) (wCons (w2 kAdd (wVar 1) (wC (.int 1))) (wNil)))) [2]) (wNil)))
theorem tr_law_rising {Γ : Wd} (T : Tx Γ) (X : Cx) (C : Ctx Γ X N_law_rising (defScope st_law_rising) (fun _ => true) 1) (P : Own X) (dc : DefCx X) : SSs Γ [0] X (defBody st_law_rising) w_law_rising :=
  sss_one (ss_ret (se_sorted C (sa_cons (se_lc C (own := [("turn", 2)]) (is := [2]) (by decide +kernel) (by decide +kernel) (si_range1 C (sa_cons (se_var C 1) (sa_nil))) (fun _ hX => sg_name hX.1 2) (fun _ hX => sts_nil) (fun _ hX => se_call hX.1 (FnE.mono (ok_law_draw T) (by decide)) (sa_cons (se_ref hX.1 0) (sa_cons (se_add (se_var hX.1 1) (se_int)) (sa_nil))))) (sa_nil))))

theorem law_law_rising : LawOf N_law_rising [true, false] c_law_rising w_law_rising := by
  rintro svs Q E - ⟨n, p, s, rfl, hp, hn, s1, s2, hq⟩
  ((conv => whnf); try dsimp only [List.set_cons_zero, List.set_cons_succ]); refine ⟨by omega, by omega, ?_⟩
  refine compL_ind (fun ds acc ρ => ∃ (xs : List Int) (q : SV), (xs.length : Int) + ds.length = s ∧ acc = xs.map D.int ∧ (∀ x ∈ xs, 0 ≤ x ∧ x ≤ s) ∧ Pool (n + xs.length) q ∧ ρ = [some q, some (.d (.int s)), none]) ?_ ?_ _ _ _ ⟨[], p, by simp [rngD] <;> omega, rfl, fun x hx => (nomatch hx), hp, rfl⟩
  · rintro acc ρ ⟨xs, q, hl, rfl, bx, hq1, rfl⟩
    simp only [List.length_nil] at hl
    ((conv => whnf); try dsimp only [List.set_cons_zero, List.set_cons_succ]); refine ⟨xs, rfl, fun ys pm so => ?_⟩
    have ly := pm.length_eq
    ((conv => whnf); try dsimp only [List.set_cons_zero, List.set_cons_succ]); exact hq ys q (by omega) so (fun x hx => bx x (pm.mem_iff.mp hx)) (hq1.mono (by omega))
  · rintro d ds acc ρ ⟨xs, q, hl, rfl, bx, hq1, rfl⟩ ih
    simp only [List.length_cons] at hl
    ((conv => whnf); try dsimp only [List.set_cons_zero, List.set_cons_succ]); refine Br.tt ?_
    ((conv => whnf); try dsimp only [List.set_cons_zero, List.set_cons_succ]); refine ⟨rfl, ?_⟩
    ((conv => whnf); try dsimp only [List.set_cons_zero, List.set_cons_succ]); refine ⟨n + xs.length, _, _, rfl, hq1, by omega, (by show 0 < s + 1; omega), (by show s + 1 < _; omega), fun v p4 v0 v1 hp4 => ?_⟩
    have v1' : v < s + 1 := v1
    ((conv => whnf); try dsimp only [List.set_cons_zero, List.set_cons_succ]); refine ⟨by simp; omega, ?_⟩
    exact ih _ _ ⟨xs ++ [v], p4, by simp; omega, by simp, fun x hx => by
      rcases List.mem_append.mp hx with e | e
      · exact bx x e
      · simp at e; subst e; exact ⟨v0, by omega⟩, hp4.mono (by simp; omega), rfl⟩
theorem ok_law_rising {Γ : Wd} (T : Tx Γ) : FnE Γ 2 "_law_rising" [true, false] c_law_rising :=
  fnE_of T.d_law_rising sc_law_rising (by intro _ _ _ _ _ _ _ _ us hl; exact match us, hl with | [_, _], _ => rfl) T.bn rfl (tr_law_rising T) law_law_rising


/-! ascending lists, each once -/
def insU (x : Int) : List Int → List Int
  | [] => [x]
  | y :: ys => if x < y then x :: y :: ys else if x = y then y :: ys else y :: insU x ys
def ups : List Int → List Int
  | [] => []
  | x :: xs => insU x (ups xs)
theorem mem_insU {x a : Int} : ∀ {ys : List Int}, a ∈ insU x ys ↔ a = x ∨ a ∈ ys
  | [] => by simp [insU]
  | y :: ys => by
    unfold insU
    split
    · simp
    · split
      · rename_i h; subst h; simp
      · rw [List.mem_cons, mem_insU, List.mem_cons]
        exact ⟨fun h => h.elim (fun q => .inr (.inl q)) (fun q => q.elim .inl fun q => .inr (.inr q)), fun h => h.elim (fun q => .inr (.inl q)) fun q => q.elim .inl fun q => .inr (.inr q)⟩
theorem up_insU {x : Int} : ∀ {ys : List Int}, ys.Pairwise (· < ·) → (insU x ys).Pairwise (· < ·)
  | [], _ => by simp [insU]
  | y :: ys, h => by
    obtain ⟨h1, h2⟩ := List.pairwise_cons.mp h
    unfold insU
    split
    · rename_i q
      refine List.pairwise_cons.mpr ⟨fun a ha => ?_, h⟩
      rcases List.mem_cons.mp ha with e | e
      · omega
      · have := h1 a e; omega
    · split
      · exact h
      · refine List.pairwise_cons.mpr ⟨fun a ha => ?_, up_insU h2⟩
        rcases mem_insU.mp ha with e | e
        · omega
        · exact h1 a e
theorem len_insU (x : Int) : ∀ ys : List Int, (insU x ys).length ≤ ys.length + 1
  | [] => by simp [insU]
  | y :: ys => by
    unfold insU
    have := len_insU x ys
    split
    · simp
    · split <;> simp <;> omega
theorem mem_ups {a : Int} : ∀ {xs : List Int}, a ∈ ups xs ↔ a ∈ xs
  | [] => by simp [ups]
  | x :: xs => by unfold ups; rw [mem_insU, mem_ups, List.mem_cons]
theorem up_ups : ∀ xs : List Int, (ups xs).Pairwise (· < ·)
  | [] => .nil
  | x :: xs => up_insU (up_ups xs)
theorem len_ups : ∀ xs : List Int, (ups xs).length ≤ xs.length
  | [] => Nat.le_refl _
  | x :: xs => by
    have := len_ups xs
    have := len_insU x (ups xs)
    show (insU x (ups xs)).length ≤ _
    simp only [List.length_cons]
    omega
theorem up_ext {α : Type} (f : α → Int) : ∀ {xs ys : List α}, (xs.Pairwise fun x y => f x < f y) → (ys.Pairwise fun x y => f x < f y) → (∀ a, a ∈ xs ↔ a ∈ ys) → xs = ys
  | [], [], _, _, _ => rfl
  | [], y :: ys, _, _, h => absurd ((h y).mpr (by simp)) (by simp)
  | x :: xs, [], _, _, h => absurd ((h x).mp (by simp)) (by simp)
  | x :: xs, y :: ys, hx, hy, h => by
    obtain ⟨x1, x2⟩ := List.pairwise_cons.mp hx
    obtain ⟨y1, y2⟩ := List.pairwise_cons.mp hy
    have e : x = y := by
      rcases List.mem_cons.mp ((h x).mp (by simp)) with q | q
      · exact q
      · rcases List.mem_cons.mp ((h y).mpr (by simp)) with p | p
        · exact p.symm
        · have := y1 x q; have := x1 y p; omega
    subst e
    congr 1
    refine up_ext f x2 y2 fun a => ⟨fun m => ?_, fun m => ?_⟩
    · rcases List.mem_cons.mp ((h a).mp (by simp [m])) with q | q
      · subst q; have := x1 a m; omega
      · exact q
    · rcases List.mem_cons.mp ((h a).mpr (by simp [m])) with q | q
      · subst q; have := y1 a m; omega
      · exact q
theorem ups_is {xs ns : List Int} (up : ns.Pairwise (· < ·)) (mem : ∀ k, k ∈ ns ↔ k ∈ xs) : ns = ups xs := up_ext id up (up_ups xs) fun a => by rw [mem a, mem_ups]

/-! rules, plain -/
def wkF (b : List Int) (a : Int) : Int := (b[(a % (b.length : Int)).toNat]?).getD 0
/-- the offset, from what there is without the changes -/
def offG (n a : Int) : Int → List (Int × Int) → Int
  | x, [] => x
  | x, m :: ms => offG n a (if m.1 ≤ a ∧ (a - m.1) % n = 0 then m.2 else x) ms
def offF (b : List Int) (ms : List (Int × Int)) (a : Int) : Int := offG b.length a (wkF b a) ms
def valF (b : List Int) (ms : List (Int × Int)) (a : Int) : Int := a + offF b ms a
/-- ascending moments -/
abbrev Asc (ms : List (Int × Int)) : Prop := ms.Pairwise fun x y => x.1 < y.1
theorem offG_late {n a : Int} : ∀ {x : Int} {ms : List (Int × Int)}, (∀ m ∈ ms, a < m.1) → offG n a x ms = x
  | _, [], _ => rfl
  | x, m :: ms, h => by
    show offG n a (if m.1 ≤ a ∧ (a - m.1) % n = 0 then m.2 else x) ms = x
    have := h m (by simp)
    rw [if_neg (by omega)]
    exact offG_late fun r hr => h r (by simp [hr])
theorem cong_iff {n a m : Int} (hn : 0 < n) : (a - m) % n = 0 ↔ m % n = a % n := by
  rw [Int.emod_eq_emod_iff_emod_sub_eq_zero]
  constructor
  · intro h
    rw [show m - a = -(a - m) by omega, Int.neg_emod, if_pos (Int.dvd_of_emod_eq_zero h)]
  · intro h
    rw [show a - m = -(m - a) by omega, Int.neg_emod, if_pos (Int.dvd_of_emod_eq_zero h)]
/-- the changes with a remainder -/
def rowM (n r : Int) (ms : List (Int × Int)) : List (Int × Int) := ms.filter fun m => decide (m.1 % n = r)
/-- how many are at most a moment -/
def cntF (xs : List Int) (a : Int) : Nat := (xs.filter fun x => decide (x ≤ a)).length
theorem cntF_le (xs : List Int) (a : Int) : cntF xs a ≤ xs.length := List.length_filter_le _ _
theorem cntF_late {xs : List Int} {a : Int} (h : ∀ x ∈ xs, a < x) : cntF xs a = 0 := by
  unfold cntF
  rw [List.filter_eq_nil_iff.mpr fun x hx => by have := h x hx; simp; omega]; rfl
theorem cntF_cons {x : Int} {xs : List Int} {a : Int} (h : x ≤ a) : cntF (x :: xs) a = cntF xs a + 1 := by
  unfold cntF
  rw [List.filter_cons, if_pos (by simpa using h)]; rfl
theorem cntF_iff : ∀ {xs : List Int} {a : Int} (_ : xs.Pairwise fun x y => x < y) (i : Nat) (hi : i < xs.length), xs[i] ≤ a ↔ i < cntF xs a
  | x :: xs, a, up, i, hi => by
    obtain ⟨h1, h2⟩ := List.pairwise_cons.mp up
    by_cases c : x ≤ a
    · rw [cntF_cons c]
      cases i with
      | zero => simp [c]
      | succ i =>
        have := cntF_iff (a := a) h2 i (by simpa using hi)
        simp only [List.getElem_cons_succ]
        rw [this]; omega
    · rw [cntF_late fun y hy => by
        rcases List.mem_cons.mp hy with e | e
        · omega
        · have := h1 y e; omega]
      cases i with
      | zero => simp [c]
      | succ i =>
        have := h1 _ (List.getElem_mem (show i < xs.length by simpa using hi))
        simp only [List.getElem_cons_succ]
        omega
theorem offG_row {n a : Int} (hn : 0 < n) : ∀ {x : Int} {ms : List (Int × Int)}, Asc ms → (x :: (rowM n (a % n) ms).map Prod.snd)[cntF ((rowM n (a % n) ms).map Prod.fst) a]? = some (offG n a x ms)
  | _, [], _ => rfl
  | x, m :: ms, up => by
    obtain ⟨h1, h2⟩ := List.pairwise_cons.mp up
    unfold rowM
    rw [List.filter_cons]
    show _ = some (offG n a (if m.1 ≤ a ∧ (a - m.1) % n = 0 then m.2 else x) ms)
    by_cases c : m.1 % n = a % n
    · rw [if_pos (by simpa using c)]
      by_cases l : m.1 ≤ a
      · rw [if_pos ⟨l, (cong_iff hn).mpr c⟩, List.map_cons, List.map_cons, cntF_cons l]
        exact offG_row hn h2
      · rw [if_neg fun z => l z.1]
        have late : ∀ r ∈ ms, a < r.1 := fun r hr => by have := h1 r hr; omega
        rw [offG_late late, List.map_cons, List.map_cons, cntF_late fun y hy => by
          rcases List.mem_cons.mp hy with e | e
          · omega
          · obtain ⟨r, hr, rfl⟩ := List.mem_map.mp e
            exact late r (List.mem_filter.mp hr).1]
        rfl
    · rw [if_neg (by simpa using c), if_neg fun z => c ((cong_iff hn).mp z.2)]
      exact offG_row hn h2
theorem wkF_at {b : List Int} (hb : 0 < b.length) (a : Int) : ∃ h : (a % (b.length : Int)).toNat < b.length, b[(a % (b.length : Int)).toNat]'h = wkF b a := by
  have h1 := Int.emod_nonneg a (show (b.length : Int) ≠ 0 by omega)
  have h2 := Int.emod_lt_of_pos a (show (0 : Int) < b.length by omega)
  have h3 : (a % (b.length : Int)).toNat < b.length := by omega
  exact ⟨h3, by unfold wkF; rw [List.getElem?_eq_getElem h3]; rfl⟩
/-! the normal form -/
def normG (n : Int) : List Int → List (Int × Int) → List (Int × Int)
  | _, [] => []
  | h, m :: ms => if (h[(m.1 % n).toNat]?).getD 0 = m.2 then normG n h ms else m :: normG n (h.set (m.1 % n).toNat m.2) ms
def normF (b : List Int) (ms : List (Int × Int)) : List (Int × Int) := normG b.length b ms
theorem normG_sub (n : Int) : ∀ (h : List Int) (ms : List (Int × Int)), (normG n h ms).Sublist ms
  | _, [] => .slnil
  | h, m :: ms => by
    unfold normG
    split
    · exact (normG_sub n h ms).cons m
    · exact (normG_sub n _ ms).cons₂ m
theorem norm_asc {b : List Int} {ms : List (Int × Int)} (h : Asc ms) : Asc (normF b ms) := h.sublist (normG_sub _ _ _)
theorem norm_len (b : List Int) (ms : List (Int × Int)) : (normF b ms).length ≤ ms.length := (normG_sub _ _ _).length_le
theorem offG_norm {n a : Int} (hn : 0 < n) : ∀ {h : List Int} {ms : List (Int × Int)}, (h.length : Int) = n → Asc ms → offG n a ((h[(a % n).toNat]?).getD 0) (normG n h ms) = offG n a ((h[(a % n).toNat]?).getD 0) ms
  | _, [], _, _ => rfl
  | h, m :: ms, hl, up => by
    obtain ⟨h1, h2⟩ := List.pairwise_cons.mp up
    have a0 := Int.emod_nonneg a (show n ≠ 0 by omega)
    have a1 := Int.emod_lt_of_pos a hn
    have m0 := Int.emod_nonneg m.1 (show n ≠ 0 by omega)
    have m1 := Int.emod_lt_of_pos m.1 hn
    unfold normG
    by_cases k : (h[(m.1 % n).toNat]?).getD 0 = m.2
    · rw [if_pos k, offG_norm hn hl h2]
      show _ = offG n a (if m.1 ≤ a ∧ (a - m.1) % n = 0 then m.2 else _) ms
      by_cases c : m.1 ≤ a ∧ (a - m.1) % n = 0
      · rw [if_pos c, ← k, (cong_iff hn).mp c.2]
      · rw [if_neg c]
    · rw [if_neg k]
      show offG n a (if m.1 ≤ a ∧ (a - m.1) % n = 0 then m.2 else _) (normG n _ ms) = offG n a (if m.1 ≤ a ∧ (a - m.1) % n = 0 then m.2 else _) ms
      have hl' : ((h.set (m.1 % n).toNat m.2).length : Int) = n := by rw [List.length_set]; exact hl
      by_cases c : m.1 % n = a % n
      · by_cases l : m.1 ≤ a
        · rw [if_pos ⟨l, (cong_iff hn).mpr c⟩]
          have ih := offG_norm (a := a) hn hl' h2
          have e : ((h.set (m.1 % n).toNat m.2)[(a % n).toNat]?).getD 0 = m.2 := by
            rw [c, List.getElem?_set_self (by omega)]; rfl
          rw [e] at ih
          exact ih
        · rw [if_neg fun z => l z.1]
          have late : ∀ r ∈ ms, a < r.1 := fun r hr => by have := h1 r hr; omega
          rw [offG_late late, offG_late fun r hr => late r ((normG_sub n _ ms).subset hr)]
      · rw [if_neg fun z => c ((cong_iff hn).mp z.2)]
        have ih := offG_norm (a := a) hn hl' h2
        have e : (h.set (m.1 % n).toNat m.2)[(a % n).toNat]? = h[(a % n).toNat]? := List.getElem?_set_ne (by omega)
        rw [e] at ih
        exact ih
theorem offF_norm {b : List Int} {ms : List (Int × Int)} (hb : 0 < b.length) (up : Asc ms) (a : Int) : offF b (normF b ms) a = offF b ms a :=
  offG_norm (by omega) rfl up

/-! lemmas that other parts bring along, for laws without those parts -/
theorem up_le {f : Int → Int} (h : ∀ m, f m ≤ f (m + 1)) (a : Int) : ∀ k : Nat, f a ≤ f (a + k)
  | 0 => by simp
  | k + 1 => by
    have := up_le h a k
    have := h (a + k)
    rw [show a + ((k + 1 : Nat) : Int) = a + k + 1 by omega]; omega
theorem near_ne {n a : Int} {i j : Nat} (hi : (i : Int) < n) (hj : (j : Int) < n) (h : (a + i) % n = (a + j) % n) : i = j := by
  have := Int.emod_emod_of_dvd
  have e := Int.emod_eq_emod_iff_emod_sub_eq_zero.mp h
  rw [show a + (i : Int) - (a + j) = i - j by omega] at e
  obtain ⟨k, hk⟩ := Int.dvd_of_emod_eq_zero e
  rcases Int.lt_trichotomy k 0 with c | c | c
  · have : n * k ≤ n * (-1) := Int.mul_le_mul_of_nonneg_left (by omega) (by omega)
    omega
  · subst c; omega
  · have : n * 1 ≤ n * k := Int.mul_le_mul_of_nonneg_left (by omega) (by omega)
    omega
theorem up_le' {f : Int → Int} (h : ∀ m, f m ≤ f (m + 1)) {a b : Int} (l : a ≤ b) : f a ≤ f b := by
  have := up_le h a (b - a).toNat
  rwa [Int.toNat_of_nonneg (by omega), show a + (b - a) = b by omega] at this
theorem cover {n : Int} (hn : 0 < n) (s : Int) {r : Int} (r0 : 0 ≤ r) (r1 : r < n) : ∃ j : Nat, (j : Int) < n ∧ (s + j) % n = r := by
  have h0 := Int.emod_nonneg (r - s) (show n ≠ 0 by omega)
  have h1 := Int.emod_lt_of_pos (r - s) hn
  refine ⟨((r - s) % n).toNat, by omega, ?_⟩
  rw [Int.toNat_of_nonneg h0, Int.add_emod, Int.emod_emod_of_dvd _ (Int.dvd_refl n), ← Int.add_emod, show s + (r - s) = r by omega, Int.emod_eq_of_lt r0 r1]
theorem wkF_set {L : List Int} (hb : 0 < L.length) (a c v : Int) : wkF (L.set (a % (L.length : Int)).toNat v) c = if c % (L.length : Int) = a % (L.length : Int) then v else wkF L c := by
  have a0 := Int.emod_nonneg a (show (L.length : Int) ≠ 0 by omega)
  have a1 := Int.emod_lt_of_pos a (show (0 : Int) < L.length by omega)
  have c0 := Int.emod_nonneg c (show (L.length : Int) ≠ 0 by omega)
  unfold wkF
  rw [List.length_set]
  split
  · rename_i e; rw [e, List.getElem?_set_self (by omega)]; rfl
  · rw [List.getElem?_set_ne (by omega)]

/-! stretches without a change -/
def partsG {α : Type} (f : Option Int → α) : Option Int → List Int → List (Option Int × Option Int × α)
  | lo, [] => [(lo, none, f lo)]
  | lo, u :: us => (lo, some (u - 1), f lo) :: partsG f (some u) us
def above (lo : Option Int) (a : Int) : Prop := ∀ l, lo = some l → l ≤ a
def below (a : Int) (hi : Option Int) : Prop := ∀ h, hi = some h → a ≤ h
instance (lo : Option Int) (a : Int) : Decidable (above lo a) := match lo with
  | none => isTrue fun l h => by cases h
  | some l => if h : l ≤ a then isTrue fun l' e => by cases e; exact h else isFalse fun z => h (z l rfl)
instance (a : Int) (hi : Option Int) : Decidable (below a hi) := match hi with
  | none => isTrue fun l h => by cases h
  | some l => if h : a ≤ l then isTrue fun l' e => by cases e; exact h else isFalse fun z => h (z l rfl)
/-- each moment lies in a stretch, behind whose low no change comes up to it -/
theorem parts_mem {α : Type} (f : Option Int → α) : ∀ {lo : Option Int} {us : List Int} {a : Int}, us.Pairwise (fun x y => x < y) → above lo a → ∃ p ∈ partsG f lo us, above p.1 a ∧ below a p.2.1
  | lo, [], a, _, h => ⟨(lo, none, f lo), by simp [partsG], h, fun _ e => (nomatch e)⟩
  | lo, u :: us, a, up, h => by
    by_cases c : u ≤ a
    · obtain ⟨p, hp, q⟩ := parts_mem f (lo := some u) (a := a) (List.pairwise_cons.mp up).2 fun l e => by cases e; exact c
      exact ⟨p, by unfold partsG; simp [hp], q⟩
    · exact ⟨_, by unfold partsG; exact List.mem_cons_self .., h, fun b e => by cases e; show a ≤ u - 1; omega⟩
theorem parts_ok {α : Type} (f : Option Int → α) : ∀ {lo : Option Int} {us : List Int}, us.Pairwise (fun x y => x < y) → (∀ u ∈ us, ∀ l, lo = some l → l < u) → ∀ p ∈ partsG f lo us, p.2.2 = f p.1 ∧ (p.1 = lo ∨ ∃ u ∈ us, p.1 = some u) ∧ ∀ a, above p.1 a → below a p.2.1 → ∀ u ∈ us, u ≤ a → ∃ l, p.1 = some l ∧ u ≤ l
  | lo, [], _, _, p, hp => by
    simp only [partsG, List.mem_singleton] at hp
    subst hp
    exact ⟨rfl, .inl rfl, fun a _ _ u hu => nomatch hu⟩
  | lo, u :: us, up, hl, p, hp => by
    obtain ⟨h1, h2⟩ := List.pairwise_cons.mp up
    unfold partsG at hp
    rcases List.mem_cons.mp hp with e | e
    · subst e
      refine ⟨rfl, .inl rfl, fun a _ hb v hv hva => ?_⟩
      exfalso
      have := hb (u - 1) rfl
      rcases List.mem_cons.mp hv with e | e
      · omega
      · have := h1 v e; omega
    · obtain ⟨q1, q2, q3⟩ := parts_ok f (lo := some u) h2 (fun v hv l e => by cases e; exact h1 v hv) p e
      have low : ∃ l, p.1 = some l ∧ u ≤ l := by
        rcases q2 with e | ⟨v, hv, e⟩
        · exact ⟨u, e, Int.le_refl _⟩
        · exact ⟨v, e, Int.le_of_lt (h1 v hv)⟩
      refine ⟨q1, .inr ?_, fun a ha hb v hv hva => ?_⟩
      · rcases q2 with e | ⟨v, hv, e⟩
        · exact ⟨u, by simp, e⟩
        · exact ⟨v, by simp [hv], e⟩
      · rcases List.mem_cons.mp hv with e | e
        · subst e; exact low
        · exact q3 a ha hb v e hva
/-! the nearest one -/
def nearBy (m a : Int) : Prop := m.natAbs < a.natAbs ∨ (m.natAbs = a.natAbs ∧ a ≤ m)
/-- r is the nearest one of a set of moments -/
structure NearW (S : Int → Prop) (r : Option Int) : Prop where
  no : r = none → ∀ a, ¬ S a
  at_ : ∀ m, r = some m → S m
  by_ : ∀ m, r = some m → ∀ a, S a → nearBy m a
theorem nearW_none {S : Int → Prop} (h : ∀ a, ¬ S a) : NearW S none := ⟨fun _ => h, fun _ e => (nomatch e), fun _ e => (nomatch e)⟩
theorem nearW_some {S : Int → Prop} {m : Int} (h : S m) (g : ∀ a, S a → nearBy m a) : NearW S (some m) := ⟨fun e => (nomatch e), fun _ e => (by cases e; exact h), fun _ e => (by cases e; exact g)⟩
theorem NearW.congr {S T : Int → Prop} {r : Option Int} (h : NearW S r) (e : ∀ a, S a ↔ T a) : NearW T r := ⟨fun q a z => h.no q a ((e a).mpr z), fun m q => (e m).mp (h.at_ m q), fun m q a z => h.by_ m q a ((e a).mpr z)⟩
theorem nearBy_trans {a b c : Int} (h : nearBy a b) (g : nearBy b c) : nearBy a c := by unfold nearBy at *; omega
theorem nearBy_refl (a : Int) : nearBy a a := .inr ⟨rfl, Int.le_refl _⟩
theorem NearW.uniq {S : Int → Prop} {r q : Option Int} (h : NearW S r) (g : NearW S q) : r = q := by
  cases r with
  | none => cases q with
    | none => rfl
    | some m => exact absurd (g.at_ m rfl) (h.no rfl m)
  | some k => cases q with
    | none => exact absurd (h.at_ k rfl) (g.no rfl k)
    | some m =>
      have h1 := h.by_ k rfl m (g.at_ m rfl)
      have h2 := g.by_ m rfl k (h.at_ k rfl)
      unfold nearBy at h1 h2
      have : k = m := by omega
      rw [this]
def nearF : Option Int → Option Int → Option Int
  | none, y => y
  | x, none => x
  | some a, some b => if a.natAbs = b.natAbs then some (if b > a then b else a) else if a.natAbs < b.natAbs then some a else some b
theorem NearW.or {S T : Int → Prop} {r q : Option Int} (h : NearW S r) (g : NearW T q) : NearW (fun a => S a ∨ T a) (nearF r q) := by
  cases r with
  | none =>
    have : nearF none q = q := by cases q <;> rfl
    rw [this]
    exact g.congr fun a => ⟨.inr, fun z => z.elim (fun z => absurd z (h.no rfl a)) id⟩
  | some k => cases q with
    | none => exact h.congr fun a => ⟨.inl, fun z => z.elim id fun z => absurd z (g.no rfl a)⟩
    | some m =>
      have hk := h.at_ k rfl
      have hm := g.at_ m rfl
      have key : ∀ w : Int, (w = k ∨ w = m) → nearBy w k → nearBy w m → NearW (fun a => S a ∨ T a) (Option.some w) := fun w hw w1 w2 =>
        nearW_some (by rcases hw with e | e <;> subst e; exact .inl hk; exact .inr hm) fun a ha => ha.elim (fun z => nearBy_trans w1 (h.by_ k rfl a z)) fun z => nearBy_trans w2 (g.by_ m rfl a z)
      show NearW _ (if k.natAbs = m.natAbs then some (if m > k then m else k) else if k.natAbs < m.natAbs then some k else some m)
      by_cases c : k.natAbs = m.natAbs
      · rw [if_pos c]
        refine key _ (by split <;> simp) ?_ ?_ <;> unfold nearBy <;> split <;> omega
      · rw [if_neg c]
        by_cases d : k.natAbs < m.natAbs
        · rw [if_pos d]; exact key k (.inl rfl) (nearBy_refl k) (.inl d)
        · rw [if_neg d]; exact key m (.inr rfl) (.inl (by omega)) (nearBy_refl m)
def optI : Option Int → D
  | none => .non
  | some a => .int a

def mkP (m : Int × Int) : D := .tup [.int m.1, .int m.2]
def rowD (n : Int) (b : List Int) (ms : List (Int × Int)) (r : Nat) : D := .tup [.lst (((rowM n r ms).map Prod.fst).map D.int), .lst (((b[r]?).getD 0 :: (rowM n r ms).map Prod.snd).map D.int)]
def rowsD (b : List Int) (ms : List (Int × Int)) : List D := (List.range' 0 b.length).map (rowD b.length b ms)
theorem rowsD_length (b : List Int) (ms : List (Int × Int)) : (rowsD b ms).length = b.length := by unfold rowsD; simp
theorem at_rows {b : List Int} {ms : List (Int × Int)} {r : Nat} (h : r < b.length) : atI (rowsD b ms) (r : Int) = some (rowD b.length b ms r) := by
  refine at_nat (by omega) ?_
  rw [Int.toNat_natCast]
  unfold rowsD
  rw [List.getElem?_map, List.getElem?_range' (by omega)]
  simp
def c_count_up_to : Con := fun svs Q _ => ∃ (xs : List Int) (a : Int), svs = [.d (.lst (xs.map D.int)), .d (.int a)] ∧ xs.Pairwise (fun x y => x < y) ∧ xs.length ≤ 100000 ∧ Q (.d (.int (cntF xs a))) svs
/-! count_up_to: spots 0, moment 1, low 2, high 3, middle 4 -/
theorem sc_count_up_to : FnScope N_count_up_to ["spots", "moment"] (defScope st_count_up_to) := ⟨rfl, rfl, rfl, by decide +kernel, rfl, by decide +kernel, by decide +kernel⟩
abbrev w_count_up_to_1 : WS := wIf (wTst (w2 kLe (w2 kIdx (wVar 0) (wVar 4)) (wVar 1))) (wAsg 2 (w2 kAdd (wVar 4) (wC (.int 1)))) (wAsg 3 (wVar 4))
abbrev w_count_up_to_2 : WS := wSeq (wAsg 4 (w2 kFdiv (w2 kAdd (wVar 2) (wVar 3)) (wC (.int 2)))) w_count_up_to_1
abbrev w_count_up_to_3 : WS := wRetF (wVar 2)
abbrev w_count_up_to_4 : WS := wSeq (wWh (wTst (w2 kLt (wVar 2) (wVar 3))) w_count_up_to_2) w_count_up_to_3
def w_count_up_to : WS :=
  wSeq (wPar2 2 3 (wCons (wC (.int 0)) (wCons (wB kLen (wCons (wVar 0) (wNil))) (wNil)))) w_count_up_to_4
theorem tr_count_up_to {Γ : Wd} (T : Tx Γ) (X : Cx) (C : Ctx Γ X N_count_up_to (defScope st_count_up_to) (fun _ => true) 0) (P : Own X) (dc : DefCx X) : SSs Γ [] X (defBody st_count_up_to) w_count_up_to :=
  sss_cons (ss_par2 C 2 3 (sa_cons (se_int) (sa_cons (se_len C (sa_cons (se_var C 0) (sa_nil))) (sa_nil))))
  (sss_cons (ss_while P (st_lt  (se_var C 2) (se_var C 3)) (sss_cons (ss_asg C 4 (se_fdiv (se_add (se_var C 2) (se_var C 3)) (se_int)))
  (sss_one (ss_if (st_le  (se_idx C (fun _ _ => rfl) (se_var C 0) (se_var C 4)) (se_var C 1)) (sss_one (ss_asg C 2 (se_add (se_var C 4) (se_int)))) (sss_one (ss_asg C 3 (se_var C 4)))))))
  (sss_one (ss_retF (se_var C 2))))

theorem law_count_up_to : LawOf N_count_up_to [false, false] c_count_up_to w_count_up_to := by
  rintro svs Q E - ⟨xs, a, rfl, up, lx, hq⟩
  ((conv => whnf); try dsimp only [List.set_cons_zero, List.set_cons_succ])
  refine ⟨fun k ρ => ∃ (lo hi : Int) (x : Option SV), 0 ≤ lo ∧ lo ≤ cntF xs a ∧ (cntF xs a : Int) ≤ hi ∧ hi ≤ xs.length ∧ (k : Int) = hi - lo ∧ ρ = [some (.d (.lst (xs.map D.int))), some (.d (.int a)), some (.d (.int lo)), some (.d (.int hi)), x], ⟨xs.length, 0, xs.length, none, by omega, by omega, by have := cntF_le xs a; omega, by omega, by omega, by simp; rfl⟩, ?_⟩
  rintro k ρ ⟨lo, hi, x, h0, h1, h2, h3, hk, rfl⟩
  ((conv => whnf); try dsimp only [List.set_cons_zero, List.set_cons_succ]); refine Br.of (fun h => ?_) (fun h => ?_)
  · have h' : lo < hi := h
    have d1 : lo ≤ (lo + hi) / 2 := by omega
    have d2 : (lo + hi) / 2 < hi := by omega
    ((conv => whnf); try dsimp only [List.set_cons_zero, List.set_cons_succ]); refine ⟨cdv (by decide) (by decide), ?_⟩
    generalize (lo + hi) / 2 = mid at *
    have hm : mid.toNat < xs.length := by omega
    have it := cntF_iff (a := a) up mid.toNat hm
    have ex : atI (xs.map D.int) mid = some (.int (xs[mid.toNat]'hm)) := at_nat (by omega) (by rw [List.getElem?_map, List.getElem?_eq_getElem hm]; rfl)
    ((conv => whnf); try dsimp only [List.set_cons_zero, List.set_cons_succ]); refine ⟨_, ex, ?_⟩
    ((conv => whnf); try dsimp only [List.set_cons_zero, List.set_cons_succ]); refine Br.of (fun c => ?_) (fun c => ?_)
    · have c' := it.mp c
      exact ⟨_, Fgt.refl _, (hi - (mid + 1)).toNat, by omega, mid + 1, hi, some (.d (.int mid)), by omega, by omega, h2, h3, by omega, rfl⟩
    · have c' : ¬ mid.toNat < cntF xs a := fun z => c (it.mpr z)
      exact ⟨_, Fgt.refl _, (mid - lo).toNat, by omega, lo, mid, some (.d (.int mid)), h0, h1, by omega, by omega, by omega, rfl⟩
  · have h' : ¬ lo < hi := h
    have e : lo = cntF xs a := by omega
    subst e
    ((conv => whnf); try dsimp only [List.set_cons_zero, List.set_cons_succ]); exact hq
theorem ok_count_up_to {Γ : Wd} (T : Tx Γ) : FnE Γ 1 "count_up_to" [false, false] c_count_up_to :=
  fnE_of T.d_count_up_to sc_count_up_to (by intro _ _ _ _ _ _ _ _ us hl; exact match us, hl with | [_, _], _ => rfl) T.bn rfl (tr_count_up_to T) law_count_up_to

/-- the rows are read for base and changes that ascend -/
structure Rw (b : List Int) (ms : List (Int × Int)) : Prop where
  pos : 0 < b.length
  le : b.length ≤ 12
  up : Asc ms
  few : ms.length ≤ 1900
theorem Rw.row_up {b : List Int} {ms : List (Int × Int)} (R : Rw b ms) (n r : Int) : ((rowM n r ms).map Prod.fst).Pairwise fun x y => x < y := (R.up.sublist List.filter_sublist).map _ fun _ _ h => h
theorem Rw.row_len {b : List Int} {ms : List (Int × Int)} (R : Rw b ms) (n r : Int) : (rowM n r ms).length ≤ 1900 := Nat.le_trans (List.length_filter_le _ _) R.few
def c_offset_at : Con := fun svs Q _ => ∃ (b : List Int) (ms : List (Int × Int)) (a : Int), svs = [.d (.lst (rowsD b ms)), .d (.int a)] ∧ Rw b ms ∧ Q (.d (.int (offF b ms a))) svs
/-! offset_at: rows 0, moment 1, spots 2, offsets 3 -/
theorem sc_offset_at : FnScope N_offset_at ["rows", "moment"] (defScope st_offset_at) := ⟨rfl, rfl, rfl, by decide +kernel, rfl, by decide +kernel, by decide +kernel⟩
abbrev w_offset_at_1 : WS := wRetF (w2 kIdx (wVar 3) (wCall [false, false] c_count_up_to (wCons (wVar 2) (wCons (wVar 1) (wNil)))))
def w_offset_at : WS :=
  wSeq (wUnp (w2 kIdx (wVar 0) (w2 kMod (wVar 1) (wB kLen (wCons (wVar 0) (wNil))))) (gTp 2 (gsCons (gNm 2) (gsCons (gNm 3) (gsNil))))) w_offset_at_1
theorem tr_offset_at {Γ : Wd} (T : Tx Γ) (X : Cx) (C : Ctx Γ X N_offset_at (defScope st_offset_at) (fun _ => true) 1) (P : Own X) (dc : DefCx X) : SSs Γ [] X (defBody st_offset_at) w_offset_at :=
  sss_cons (ss_unp (is := [2, 3]) (se_idx C (fun _ _ => rfl) (se_var C 0) (se_mod (se_var C 1) (se_len C (sa_cons (se_var C 0) (sa_nil))))) (sg_tup C (sgs_cons (sg_name C 2) (sgs_cons (sg_name C 3) (sgs_nil)))))
  (sss_one (ss_retF (se_idx C (fun _ _ => rfl) (se_var C 3) (se_call C (FnE.mono (ok_count_up_to T) (by decide)) (sa_cons (se_var C 2) (sa_cons (se_var C 1) (sa_nil)))))))

theorem law_offset_at : LawOf N_offset_at [false, false] c_offset_at w_offset_at := by
  rintro svs Q E - ⟨b, ms, a, rfl, R, hq⟩
  have p := R.pos
  have h0 := Int.emod_nonneg a (show (b.length : Int) ≠ 0 by omega)
  have h1 := Int.emod_lt_of_pos a (show (0 : Int) < b.length by omega)
  have e := at_rows (b := b) (ms := ms) (r := (a % (b.length : Int)).toNat) (by omega)
  unfold rowD at e
  rw [Int.toNat_of_nonneg h0] at e
  have g := offG_row (n := b.length) (a := a) (x := wkF b a) (by omega) R.up
  have e2 : atI ((wkF b a :: (rowM b.length (a % (b.length : Int)) ms).map Prod.snd).map D.int) (cntF ((rowM b.length (a % (b.length : Int)) ms).map Prod.fst) a : Int) = some (.int (offF b ms a)) :=
    at_nat (by omega) (by rw [Int.toNat_natCast, List.getElem?_map, g]; rfl)
  ((conv => whnf); try dsimp only [List.set_cons_zero, List.set_cons_succ]); rw [rowsD_length]; refine ⟨by omega, ?_⟩
  ((conv => whnf); try dsimp only [List.set_cons_zero, List.set_cons_succ]); refine ⟨_, e, ?_⟩
  ((conv => whnf); try dsimp only [List.set_cons_zero, List.set_cons_succ]); refine ⟨rfl, ?_⟩
  ((conv => whnf); try dsimp only [List.set_cons_zero, List.set_cons_succ]); refine ⟨(rowM b.length (a % (b.length : Int)) ms).map Prod.fst, a, rfl, R.row_up _ _, by rw [List.length_map]; have := R.row_len b.length (a % (b.length : Int)); omega, ?_⟩
  ((conv => whnf); try dsimp only [List.set_cons_zero, List.set_cons_succ]); refine ⟨_, e2, ?_⟩
  ((conv => whnf); try dsimp only [List.set_cons_zero, List.set_cons_succ]); exact hq
theorem ok_offset_at {Γ : Wd} (T : Tx Γ) : FnE Γ 2 "offset_at" [false, false] c_offset_at :=
  fnE_of T.d_offset_at sc_offset_at (by intro _ _ _ _ _ _ _ _ us hl; exact match us, hl with | [_, _], _ => rfl) T.bn rfl (tr_offset_at T) law_offset_at

def c_value_at : Con := fun svs Q _ => ∃ (b : List Int) (ms : List (Int × Int)) (a : Int), svs = [.d (.lst (rowsD b ms)), .d (.int a)] ∧ Rw b ms ∧ Q (.d (.int (valF b ms a))) svs
/-! value_at: rows 0, moment 1 -/
theorem sc_value_at : FnScope N_value_at ["rows", "moment"] (defScope st_value_at) := ⟨rfl, rfl, rfl, by decide +kernel, rfl, by decide +kernel, by decide +kernel⟩
def w_value_at : WS :=
  wRetF (w2 kAdd (wVar 1) (wCall [false, false] c_offset_at (wCons (wVar 0) (wCons (wVar 1) (wNil)))))
theorem tr_value_at {Γ : Wd} (T : Tx Γ) (X : Cx) (C : Ctx Γ X N_value_at (defScope st_value_at) (fun _ => true) 2) (P : Own X) (dc : DefCx X) : SSs Γ [] X (defBody st_value_at) w_value_at :=
  sss_one (ss_retF (se_add (se_var C 1) (se_call C (FnE.mono (ok_offset_at T) (by decide)) (sa_cons (se_var C 0) (sa_cons (se_var C 1) (sa_nil))))))

theorem law_value_at : LawOf N_value_at [false, false] c_value_at w_value_at := by
  rintro svs Q E - ⟨b, ms, a, rfl, R, hq⟩
  ((conv => whnf); try dsimp only [List.set_cons_zero, List.set_cons_succ]); refine ⟨b, ms, a, rfl, R, ?_⟩
  ((conv => whnf); try dsimp only [List.set_cons_zero, List.set_cons_succ]); exact hq
theorem ok_value_at {Γ : Wd} (T : Tx Γ) : FnE Γ 3 "value_at" [false, false] c_value_at :=
  fnE_of T.d_value_at sc_value_at (by intro _ _ _ _ _ _ _ _ us hl; exact match us, hl with | [_, _], _ => rfl) T.bn rfl (tr_value_at T) law_value_at

def c_rows_of : Con := fun svs Q _ => ∃ (b : List Int) (ms : List (Int × Int)), svs = [.d (.lst (b.map D.int)), .d (.lst (ms.map mkP))] ∧ Rw b ms ∧ Q (.lst (rowsD b ms)) svs
/-! rows_of: base 0, changes 1, week 2, rows 3, rest 4, offset 5, mine 6, change 7, spot 8, later 9 -/
theorem sc_rows_of : FnScope N_rows_of ["base", "changes"] (defScope st_rows_of) := ⟨rfl, rfl, rfl, by decide +kernel, rfl, by decide +kernel, by decide +kernel⟩
abbrev w_rows_of_1 : WS := wApp 3 (wTup (wCons (wLc (wIt (wVar 6)) (gTp 2 (gsCons (gNm 8) (gsCons (gNm 9) (gsNil)))) (wYes) (wVar 8) [8, 9]) (wCons (w2 kAdd (wLst (wCons (wVar 5) (wNil))) (wLc (wIt (wVar 6)) (gTp 2 (gsCons (gNm 8) (gsCons (gNm 9) (gsNil)))) (wYes) (wVar 9) [8, 9])) (wNil))))
abbrev w_rows_of_2 : WS := wSeq (wAsg 6 (wLc (wIt (wVar 1)) (gNm 7) (wTst (w2 kEq (w2 kMod (w2 kIdx (wVar 7) (wC (.int 0))) (wVar 2)) (wVar 4))) (wVar 7) [7])) w_rows_of_1
abbrev w_rows_of_3 : WS := wRet (wVar 3)
abbrev w_rows_of_4 : WS := wSeq (wFor (wEnum (wCons (wVar 0) (wNil))) (gTp 2 (gsCons (gNm 4) (gsCons (gNm 5) (gsNil)))) w_rows_of_2) w_rows_of_3
abbrev w_rows_of_5 : WS := wSeq (wAsg 3 (wLst (wNil))) w_rows_of_4
def w_rows_of : WS :=
  wSeq (wAsg 2 (wB kLen (wCons (wVar 0) (wNil)))) w_rows_of_5
theorem tr_rows_of {Γ : Wd} (T : Tx Γ) (X : Cx) (C : Ctx Γ X N_rows_of (defScope st_rows_of) (fun _ => true) 0) (P : Own X) (dc : DefCx X) : SSs Γ [] X (defBody st_rows_of) w_rows_of :=
  sss_cons (ss_asg C 2 (se_len C (sa_cons (se_var C 0) (sa_nil))))
  (sss_cons (ss_asg C 3 (se_lst (sa_nil)))
  (sss_cons (ss_for C P (is := [4, 5]) (si_enum C (sa_cons (se_var C 0) (sa_nil))) (sg_tup C (sgs_cons (sg_name C 4) (sgs_cons (sg_name C 5) (sgs_nil)))) (sss_cons (ss_asgLc C 6 (own := [("change", 7)]) (is := [7]) rfl rfl rfl rfl (by decide +kernel) (by decide +kernel) (by decide +kernel) (si_seq (se_var C 1)) (fun _ hX => sg_name hX.1 7) (fun _ hX => sts_one (st_eq hX.1 (se_mod (se_idx hX.1 (fun _ _ => rfl) (se_var hX.1 7) (se_int)) (se_var hX.1 2)) (se_var hX.1 4))) (fun _ hX => se_var hX.1 7))
  (sss_one (ss_app C 3 (se_tup (sa_cons (se_lc C (own := [("spot", 8), ("later", 9)]) (is := [8, 9]) (by decide +kernel) (by decide +kernel) (si_seq (se_var C 6)) (fun _ hX => sg_tup hX.1 (sgs_cons (sg_name hX.1 8) (sgs_cons (sg_name hX.1 9) (sgs_nil)))) (fun _ hX => sts_nil) (fun _ hX => se_var hX.1 8)) (sa_cons (se_add (se_lst (sa_cons (se_var C 5) (sa_nil))) (se_lc C (own := [("spot", 8), ("later", 9)]) (is := [8, 9]) (by decide +kernel) (by decide +kernel) (si_seq (se_var C 6)) (fun _ hX => sg_tup hX.1 (sgs_cons (sg_name hX.1 8) (sgs_cons (sg_name hX.1 9) (sgs_nil)))) (fun _ hX => sts_nil) (fun _ hX => se_var hX.1 9))) (sa_nil))))))))
  (sss_one (ss_ret (se_var C 3)))))

theorem law_rows_of : LawOf N_rows_of [false, false] c_rows_of w_rows_of := by
  rintro svs Q E - ⟨b, ms, rfl, R, hq⟩
  have lenB : (((b.map D.int).length : Nat) : Int) = b.length := by rw [List.length_map]
  have le := R.le
  have few := R.few
  show w_rows_of [some (.d (.lst (b.map D.int))), some (.d (.lst (ms.map mkP))), none, none, none, none, none, none, none, none] _ _
  ((conv => whnf); try dsimp only [List.set_cons_zero, List.set_cons_succ]); rw [lenB]; refine ⟨few3 (by show 0 ≤ 1000; decide), ?_⟩
  ((conv => whnf); try dsimp only [List.set_cons_zero, List.set_cons_succ])
  refine forL_ind (fun ds ρ => ∃ (as rs : List Int) (x4 x5 x6 : Option SV), b = as ++ rs ∧ ds = enD as.length (rs.map D.int) ∧
    ρ = [some (.d (.lst (b.map D.int))), some (.d (.lst (ms.map mkP))), some (.d (.int b.length)), some (.lst ((List.range' 0 as.length).map (rowD b.length b ms))), x4, x5, x6, none, none, none]) ?_ ?_ _ _ ⟨[], b, none, none, none, rfl, rfl, rfl⟩
  · rintro ρ ⟨as, rs, x4, x5, x6, e, e2, rfl⟩
    obtain rfl : rs = [] := by cases rs with
      | nil => rfl
      | cons _ _ => cases e2
    rw [List.append_nil] at e
    rw [← e]
    ((conv => whnf); try dsimp only [List.set_cons_zero, List.set_cons_succ]); exact hq
  · rintro d ds ρ ⟨as, rs, x4, x5, x6, e, e2, rfl⟩ ih
    cases rs with
    | nil => cases e2
    | cons o rs =>
      cases e2
      have la : as.length < b.length := by rw [e]; simp
      ((conv => whnf); try dsimp only [List.set_cons_zero, List.set_cons_succ]); refine ⟨rfl, ?_⟩
      ((conv => whnf); try dsimp only [List.set_cons_zero, List.set_cons_succ])
      refine compL_ind (fun ds acc ρ => ∃ (cs ts : List (Int × Int)), ms = cs ++ ts ∧ ds = ts.map mkP ∧ acc = (rowM b.length as.length cs).map mkP ∧ ρ = [some (.d (.lst (b.map D.int))), some (.d (.lst (ms.map mkP))), some (.d (.int b.length)), some (.lst ((List.range' 0 as.length).map (rowD b.length b ms))), some (.d (.int as.length)), some (.d (.int o)), x6, none, none, none]) ?_ ?_ _ _ _ ⟨[], ms, rfl, rfl, rfl, rfl⟩
      · rintro acc ρ ⟨cs, ts, q1, q2, rfl, rfl⟩
        obtain rfl : ts = [] := by cases ts with
          | nil => rfl
          | cons _ _ => cases q2
        rw [List.append_nil] at q1
        rw [← q1]
        have lm := R.row_len b.length as.length
        generalize eL : rowM b.length as.length ms = L at *
        ((conv => whnf); try dsimp only [List.set_cons_zero, List.set_cons_succ])
        refine compL_ind (fun ds acc ρ => ∃ (cs ts : List (Int × Int)), L = cs ++ ts ∧ ds = ts.map mkP ∧ acc = (cs.map Prod.fst).map D.int ∧ ρ = [some (.d (.lst (b.map D.int))), some (.d (.lst (ms.map mkP))), some (.d (.int b.length)), some (.lst ((List.range' 0 as.length).map (rowD b.length b ms))), some (.d (.int as.length)), some (.d (.int o)), some (.d (.lst (L.map mkP))), none, none, none]) ?_ ?_ _ _ _ ⟨[], L, rfl, rfl, rfl, rfl⟩
        · rintro acc ρ ⟨cs, ts, q1, q2, rfl, rfl⟩
          obtain rfl : ts = [] := by cases ts with
            | nil => rfl
            | cons _ _ => cases q2
          rw [List.append_nil] at q1
          rw [← q1]
          ((conv => whnf); try dsimp only [List.set_cons_zero, List.set_cons_succ]); refine ⟨few3 (by show 1 ≤ 1000; decide), ?_⟩
          ((conv => whnf); try dsimp only [List.set_cons_zero, List.set_cons_succ])
          refine compL_ind (fun ds acc ρ => ∃ (cs ts : List (Int × Int)), L = cs ++ ts ∧ ds = ts.map mkP ∧ acc = (cs.map Prod.snd).map D.int ∧ ρ = [some (.d (.lst (b.map D.int))), some (.d (.lst (ms.map mkP))), some (.d (.int b.length)), some (.lst ((List.range' 0 as.length).map (rowD b.length b ms))), some (.d (.int as.length)), some (.d (.int o)), some (.d (.lst (L.map mkP))), none, none, none]) ?_ ?_ _ _ _ ⟨[], L, rfl, rfl, rfl, rfl⟩
          · rintro acc ρ ⟨cs, ts, q1, q2, rfl, rfl⟩
            obtain rfl : ts = [] := by cases ts with
              | nil => rfl
              | cons _ _ => cases q2
            rw [List.append_nil] at q1
            rw [← q1]
            ((conv => whnf); try dsimp only [List.set_cons_zero, List.set_cons_succ]); refine ⟨by simp; omega, ?_⟩
            ((conv => whnf); try dsimp only [List.set_cons_zero, List.set_cons_succ]); refine ⟨few3 (by show 2 ≤ 1000; decide), ?_⟩
            ((conv => whnf); try dsimp only [List.set_cons_zero, List.set_cons_succ]); refine ⟨by simp; omega, ?_⟩
            refine ⟨_, Fgt.refl _, ih _ ⟨as ++ [o], rs, some (.d (.int as.length)), some (.d (.int o)), some (.d (.lst (L.map mkP))), by rw [e]; simp, by simp, ?_⟩⟩
            have er : rowD b.length b ms as.length = .tup [.lst ((L.map Prod.fst).map D.int), .lst (D.int o :: (L.map Prod.snd).map D.int)] := by
              unfold rowD
              rw [eL, e]
              simp
            rw [List.length_append, List.length_singleton, List.range'_1_concat, List.map_append, Nat.zero_add]
            rw [show [as.length].map (rowD b.length b ms) = [rowD b.length b ms as.length] from rfl, er]
            rfl
          · rintro d ds acc ρ ⟨cs, ts, q1, q2, rfl, rfl⟩ ih2
            cases ts with
            | nil => cases q2
            | cons t ts =>
              cases q2
              have lc : cs.length ≤ L.length := by rw [q1]; simp
              ((conv => whnf); try dsimp only [List.set_cons_zero, List.set_cons_succ]); refine ⟨rfl, ?_⟩
              ((conv => whnf); try dsimp only [List.set_cons_zero, List.set_cons_succ]); refine Br.tt ?_
              ((conv => whnf); try dsimp only [List.set_cons_zero, List.set_cons_succ]); refine ⟨by simp; omega, ?_⟩
              exact ih2 _ _ ⟨cs ++ [t], ts, by rw [q1]; simp, rfl, by simp, rfl⟩
        · rintro d ds acc ρ ⟨cs, ts, q1, q2, rfl, rfl⟩ ih2
          cases ts with
          | nil => cases q2
          | cons t ts =>
            cases q2
            have lc : cs.length ≤ L.length := by rw [q1]; simp
            ((conv => whnf); try dsimp only [List.set_cons_zero, List.set_cons_succ]); refine ⟨rfl, ?_⟩
            ((conv => whnf); try dsimp only [List.set_cons_zero, List.set_cons_succ]); refine Br.tt ?_
            ((conv => whnf); try dsimp only [List.set_cons_zero, List.set_cons_succ]); refine ⟨by simp; omega, ?_⟩
            exact ih2 _ _ ⟨cs ++ [t], ts, by rw [q1]; simp, rfl, by simp, rfl⟩
      · rintro d ds acc ρ ⟨cs, ts, q1, q2, rfl, rfl⟩ ih2
        cases ts with
        | nil => cases q2
        | cons t ts =>
          cases q2
          have lc : (rowM b.length as.length cs).length ≤ cs.length := List.length_filter_le _ _
          have lc2 : cs.length ≤ ms.length := by rw [q1]; simp
          ((conv => whnf); try dsimp only [List.set_cons_zero, List.set_cons_succ]); refine ⟨_, at0, ?_⟩
          ((conv => whnf); try dsimp only [List.set_cons_zero, List.set_cons_succ]); refine ⟨by omega, ?_⟩
          ((conv => whnf); try dsimp only [List.set_cons_zero, List.set_cons_succ]); refine Br.of (fun h => ?_) (fun h => ?_)
          · have h' : t.1 % (b.length : Int) = as.length := h
            ((conv => whnf); try dsimp only [List.set_cons_zero, List.set_cons_succ]); refine ⟨by simp; omega, ?_⟩
            exact ih2 _ _ ⟨cs ++ [t], ts, by rw [q1]; simp, rfl, by unfold rowM; rw [List.filter_append, List.filter_cons, if_pos (by simpa using h'), List.map_append]; rfl, rfl⟩
          · have h' : ¬ t.1 % (b.length : Int) = as.length := h
            exact ih2 _ _ ⟨cs ++ [t], ts, by rw [q1]; simp, rfl, by unfold rowM; rw [List.filter_append, List.filter_cons, if_neg (by simpa using h')]; simp, rfl⟩
theorem ok_rows_of {Γ : Wd} (T : Tx Γ) : FnE Γ 1 "rows_of" [false, false] c_rows_of :=
  fnE_of T.d_rows_of sc_rows_of (by intro _ _ _ _ _ _ _ _ us hl; exact match us, hl with | [_, _], _ => rfl) T.bn rfl (tr_rows_of T) law_rows_of

def c_normal_changes : Con := fun svs Q _ => ∃ (b : List Int) (ms : List (Int × Int)), svs = [.d (.lst (b.map D.int)), .d (.lst (ms.map mkP))] ∧ Rw b ms ∧ Q (.lst ((normF b ms).map mkP)) svs
/-! normal_changes: base 0, pairs 1, week 2, here 3, found 4, moment 5, offset 6 -/
theorem sc_normal_changes : FnScope N_normal_changes ["base", "pairs"] (defScope st_normal_changes) := ⟨rfl, rfl, rfl, by decide +kernel, rfl, by decide +kernel, by decide +kernel⟩
abbrev w_normal_changes_1 : WS := wApp 4 (wTup (wCons (wVar 5) (wCons (wVar 6) (wNil))))
abbrev w_normal_changes_2 : WS := wIf (wTst (w2 kNe (w2 kIdx (wVar 3) (w2 kMod (wVar 5) (wVar 2))) (wVar 6))) (wSeq (wSetI 3 (wVar 6) (w2 kMod (wVar 5) (wVar 2))) w_normal_changes_1) (wNext)
abbrev w_normal_changes_3 : WS := wRet (wVar 4)
abbrev w_normal_changes_4 : WS := wSeq (wFor (wIt (wVar 1)) (gTp 2 (gsCons (gNm 5) (gsCons (gNm 6) (gsNil)))) w_normal_changes_2) w_normal_changes_3
abbrev w_normal_changes_5 : WS := wSeq (wAsg 4 (wLst (wNil))) w_normal_changes_4
abbrev w_normal_changes_6 : WS := wSeq (wAsg 3 (wB kList (wCons (wVar 0) (wNil)))) w_normal_changes_5
def w_normal_changes : WS :=
  wSeq (wAsg 2 (wB kLen (wCons (wVar 0) (wNil)))) w_normal_changes_6
theorem tr_normal_changes {Γ : Wd} (T : Tx Γ) (X : Cx) (C : Ctx Γ X N_normal_changes (defScope st_normal_changes) (fun _ => true) 0) (P : Own X) (dc : DefCx X) : SSs Γ [] X (defBody st_normal_changes) w_normal_changes :=
  sss_cons (ss_asg C 2 (se_len C (sa_cons (se_var C 0) (sa_nil))))
  (sss_cons (ss_asg C 3 (se_listc C (sa_cons (se_var C 0) (sa_nil))))
  (sss_cons (ss_asg C 4 (se_lst (sa_nil)))
  (sss_cons (ss_for C P (is := [5, 6]) (si_seq (se_var C 1)) (sg_tup C (sgs_cons (sg_name C 5) (sgs_cons (sg_name C 6) (sgs_nil)))) (sss_one (ss_if (st_ne C (se_idx C (fun _ _ => rfl) (se_var C 3) (se_mod (se_var C 5) (se_var C 2))) (se_var C 6)) (sss_cons (ss_seti C 3 (se_var C 6) (se_mod (se_var C 5) (se_var C 2)))
  (sss_one (ss_app C 4 (se_tup (sa_cons (se_var C 5) (sa_cons (se_var C 6) (sa_nil))))))) (sss_nil))))
  (sss_one (ss_ret (se_var C 4))))))

theorem law_normal_changes : LawOf N_normal_changes [false, false] c_normal_changes w_normal_changes := by
  rintro svs Q E - ⟨b, ms, rfl, R, hq⟩
  have lenB : (((b.map D.int).length : Nat) : Int) = b.length := by rw [List.length_map]
  have p := R.pos
  have few := R.few
  show w_normal_changes [some (.d (.lst (b.map D.int))), some (.d (.lst (ms.map mkP))), none, none, none, none, none] _ _
  ((conv => whnf); try dsimp only [List.set_cons_zero, List.set_cons_succ]); rw [lenB]; refine ⟨few3 (by show 0 ≤ 1000; decide), ?_⟩
  ((conv => whnf); try dsimp only [List.set_cons_zero, List.set_cons_succ])
  refine forL_ind (fun ds ρ => ∃ (done h : List Int) (as ts : List (Int × Int)) (x5 x6 : Option SV), h.length = b.length ∧ as.length + ts.length ≤ ms.length ∧ normF b ms = as ++ normG b.length h ts ∧ ds = ts.map mkP ∧
    ρ = [some (.d (.lst (b.map D.int))), some (.d (.lst (ms.map mkP))), some (.d (.int b.length)), some (.lst (h.map D.int)), some (.lst (as.map mkP)), x5, x6]) ?_ ?_ _ _ ⟨[], b, [], ms, none, none, rfl, by simp, rfl, rfl, rfl⟩
  · rintro ρ ⟨_, h, as, ts, x5, x6, hl, ll, e, e2, rfl⟩
    obtain rfl : ts = [] := by cases ts with
      | nil => rfl
      | cons _ _ => cases e2
    have e3 : normF b ms = as := by rw [e]; exact List.append_nil as
    rw [e3] at hq
    ((conv => whnf); try dsimp only [List.set_cons_zero, List.set_cons_succ]); exact hq
  · rintro d ds ρ ⟨_, h, as, ts, x5, x6, hl, ll, e, e2, rfl⟩ ih
    cases ts with
    | nil => cases e2
    | cons t ts =>
      cases e2
      simp only [List.length_cons] at ll
      have m0 := Int.emod_nonneg t.1 (show (b.length : Int) ≠ 0 by omega)
      have m1 := Int.emod_lt_of_pos t.1 (show (0 : Int) < b.length by omega)
      have hi : (t.1 % (b.length : Int)).toNat < h.length := by omega
      have ex : atI (h.map D.int) (t.1 % (b.length : Int)) = some (.int (h[(t.1 % (b.length : Int)).toNat]'hi)) := at_nat m0 (by rw [List.getElem?_map, List.getElem?_eq_getElem hi]; rfl)
      have un : normG b.length h (t :: ts) = if h[(t.1 % (b.length : Int)).toNat]'hi = t.2 then normG b.length h ts else t :: normG b.length (h.set (t.1 % (b.length : Int)).toNat t.2) ts := by
        show (if (h[(t.1 % (b.length : Int)).toNat]?).getD 0 = t.2 then _ else _) = _
        rw [List.getElem?_eq_getElem hi]; rfl
      ((conv => whnf); try dsimp only [List.set_cons_zero, List.set_cons_succ]); refine ⟨rfl, ?_⟩
      ((conv => whnf); try dsimp only [List.set_cons_zero, List.set_cons_succ]); refine ⟨by omega, ?_⟩
      ((conv => whnf); try dsimp only [List.set_cons_zero, List.set_cons_succ]); refine ⟨_, ex, ?_⟩
      ((conv => whnf); try dsimp only [List.set_cons_zero, List.set_cons_succ]); refine Br.ofN (fun c => ?_) (fun c => ?_)
      · have c' : ¬ h[(t.1 % (b.length : Int)).toNat]'hi = t.2 := c
        ((conv => whnf); try dsimp only [List.set_cons_zero, List.set_cons_succ]); refine ⟨by omega, ?_⟩
        ((conv => whnf); try dsimp only [List.set_cons_zero, List.set_cons_succ]); refine ⟨(t.1 % (b.length : Int)).toNat, ?_, ?_⟩
        · unfold ixN
          rw [if_pos m0, if_pos (by simp; omega)]
        · ((conv => whnf); try dsimp only [List.set_cons_zero, List.set_cons_succ]); refine ⟨few3 (by show 2 ≤ 1000; decide), ?_⟩
          ((conv => whnf); try dsimp only [List.set_cons_zero, List.set_cons_succ]); refine ⟨by simp; omega, ?_⟩
          exact ⟨_, Fgt.refl _, ih _ ⟨[], h.set (t.1 % (b.length : Int)).toNat t.2, as ++ [t], ts, _, _, by rw [List.length_set]; exact hl, by simp; omega, by rw [e, un, if_neg c']; simp, rfl, by rw [List.map_set, List.map_append]; rfl⟩⟩
      · have c' : h[(t.1 % (b.length : Int)).toNat]'hi = t.2 := c
        exact ⟨_, Fgt.refl _, ih _ ⟨[], h, as, ts, _, _, hl, by omega, by rw [e, un, if_pos c'], rfl, rfl⟩⟩
theorem ok_normal_changes {Γ : Wd} (T : Tx Γ) : FnE Γ 1 "normal_changes" [false, false] c_normal_changes :=
  fnE_of T.d_normal_changes sc_normal_changes (by intro _ _ _ _ _ _ _ _ us hl; exact match us, hl with | [_, _], _ => rfl) T.bn rfl (tr_normal_changes T) law_normal_changes


def c_nearer : Con := fun svs Q _ => ∃ x y : Option Int, svs = [.d (optI x), .d (optI y)] ∧ Q (.d (optI (nearF x y))) svs
/-! nearer: one 0, other 1 -/
theorem sc_nearer : FnScope N_nearer ["one", "other"] (defScope st_nearer) := ⟨rfl, rfl, rfl, by decide +kernel, rfl, by decide +kernel, by decide +kernel⟩
abbrev w_nearer_1 : WS := wRetF (wIfE (wTst (w2 kLt (wB kAbs (wCons (wVar 0) (wNil))) (wB kAbs (wCons (wVar 1) (wNil))))) (wVar 0) (wVar 1))
abbrev w_nearer_2 : WS := wSeq (wIf (wTst (w2 kEq (wB kAbs (wCons (wVar 0) (wNil))) (wB kAbs (wCons (wVar 1) (wNil))))) (wRetF (wB kMax (wCons (wVar 0) (wCons (wVar 1) (wNil))))) (wNext)) w_nearer_1
def w_nearer : WS :=
  wSeq (wIf (wOrT (wTst (w2 (kIs false) (wVar 0) (wC .non))) (wTst (w2 (kIs false) (wVar 1) (wC .non)))) (wRetF (wIfE (wTst (w2 (kIs false) (wVar 0) (wC .non))) (wVar 1) (wVar 0))) (wNext)) w_nearer_2
theorem tr_nearer {Γ : Wd} (T : Tx Γ) (X : Cx) (C : Ctx Γ X N_nearer (defScope st_nearer) (fun _ => true) 0) (P : Own X) (dc : DefCx X) : SSs Γ [] X (defBody st_nearer) w_nearer :=
  sss_cons (ss_if (SW.st (sw_or (st_is  (se_var C 0) (se_non)) (sw_or1 (st_is  (se_var C 1) (se_non))))) (sss_one (ss_retF (se_if (st_is  (se_var C 0) (se_non)) (se_var C 1) (se_var C 0)))) (sss_nil))
  (sss_cons (ss_if (st_eq C (se_abs C (sa_cons (se_var C 0) (sa_nil))) (se_abs C (sa_cons (se_var C 1) (sa_nil)))) (sss_one (ss_retF (se_max C (sa_cons (se_var C 0) (sa_cons (se_var C 1) (sa_nil)))))) (sss_nil))
  (sss_one (ss_retF (se_if (st_lt  (se_abs C (sa_cons (se_var C 0) (sa_nil))) (se_abs C (sa_cons (se_var C 1) (sa_nil)))) (se_var C 0) (se_var C 1)))))

theorem abs_eq (i : Int) : (if i < 0 then -i else i) = (i.natAbs : Int) := by split <;> omega
theorem law_nearer : LawOf N_nearer [false, false] c_nearer w_nearer := by
  rintro svs Q E - ⟨x, y, rfl, hq⟩
  cases x with
  | none =>
    ((conv => whnf); try dsimp only [List.set_cons_zero, List.set_cons_succ]); refine Br.tt ?_
    ((conv => whnf); try dsimp only [List.set_cons_zero, List.set_cons_succ]); refine Br.tt ?_
    ((conv => whnf); try dsimp only [List.set_cons_zero, List.set_cons_succ]); refine Br.tt ?_
    cases y <;> (((conv => whnf); try dsimp only [List.set_cons_zero, List.set_cons_succ]); exact hq)
  | some a =>
    ((conv => whnf); try dsimp only [List.set_cons_zero, List.set_cons_succ]); refine Br.ff ?_
    cases y with
    | none =>
      ((conv => whnf); try dsimp only [List.set_cons_zero, List.set_cons_succ]); refine Br.tt ?_
      ((conv => whnf); try dsimp only [List.set_cons_zero, List.set_cons_succ]); refine Br.ff ?_
      ((conv => whnf); try dsimp only [List.set_cons_zero, List.set_cons_succ]); exact hq
    | some b =>
      have hq' : Q (.d (optI (if a.natAbs = b.natAbs then some (if b > a then b else a) else if a.natAbs < b.natAbs then some a else some b))) [.d (.int a), .d (.int b)] := hq
      clear hq
      ((conv => whnf); try dsimp only [List.set_cons_zero, List.set_cons_succ]); refine Br.ff ?_
      ((conv => whnf); try dsimp only [List.set_cons_zero, List.set_cons_succ]); rw [abs_eq, abs_eq]
      refine Br.of (fun h => ?_) (fun h => ?_)
      · have h' : (a.natAbs : Int) = b.natAbs := h
        rw [if_pos (by omega)] at hq'
        ((conv => whnf); try dsimp only [List.set_cons_zero, List.set_cons_succ]); exact hq'
      · have h' : ¬ (a.natAbs : Int) = b.natAbs := h
        rw [if_neg (by omega)] at hq'
        ((conv => whnf); try dsimp only [List.set_cons_zero, List.set_cons_succ]); rw [abs_eq, abs_eq]
        refine Br.of (fun k => ?_) (fun k => ?_)
        · have k' : (a.natAbs : Int) < b.natAbs := k
          rw [if_pos (by omega)] at hq'
          ((conv => whnf); try dsimp only [List.set_cons_zero, List.set_cons_succ]); exact hq'
        · have k' : ¬ (a.natAbs : Int) < b.natAbs := k
          rw [if_neg (by omega)] at hq'
          ((conv => whnf); try dsimp only [List.set_cons_zero, List.set_cons_succ]); exact hq'
theorem ok_nearer {Γ : Wd} (T : Tx Γ) : FnE Γ 1 "nearer" [false, false] c_nearer :=
  fnE_of T.d_nearer sc_nearer (by intro _ _ _ _ _ _ _ _ us hl; exact match us, hl with | [_, _], _ => rfl) T.bn rfl (tr_nearer T) law_nearer

/-- the moments of a stretch with a remainder -/
def InP (lo hi : Option Int) (r n : Int) (a : Int) : Prop := above lo a ∧ below a hi ∧ a % n = r
def c_nearest_between : Con := fun svs Q _ => ∃ (lo hi : Option Int) (r n : Int), svs = [.d (optI lo), .d (optI hi), .d (.int r), .d (.int n)] ∧ 0 < n ∧ 0 ≤ r ∧ r < n ∧ ∀ x, NearW (InP lo hi r n) x → Q (.d (optI x)) svs
/-! nearest_between: low 0, high 1, rest 2, week 3, above 4, below 5, here 6 -/
theorem sc_nearest_between : FnScope N_nearest_between ["low", "high", "rest", "week"] (defScope st_nearest_between) := ⟨rfl, rfl, rfl, by decide +kernel, rfl, by decide +kernel, by decide +kernel⟩
abbrev w_nearest_between_1 : WS := wRetF (wIfE (wOrT (wTst (w2 (kIs false) (wVar 1) (wC .non))) (wTst (w2 kLe (wVar 6) (wVar 1)))) (wVar 6) (wC .non))
abbrev w_nearest_between_2 : WS := wRetF (wIfE (wOrT (wTst (w2 (kIs false) (wVar 0) (wC .non))) (wTst (w2 kGe (wVar 6) (wVar 0)))) (wVar 6) (wC .non))
abbrev w_nearest_between_3 : WS := wRetF (wCall [false, false] c_nearer (wCons (wIfE (wOrT (wTst (w2 (kIs false) (wVar 1) (wC .non))) (wTst (w2 kLe (wVar 4) (wVar 1)))) (wVar 4) (wC .non)) (wCons (wIfE (wOrT (wTst (w2 (kIs false) (wVar 0) (wC .non))) (wTst (w2 kGe (wVar 5) (wVar 0)))) (wVar 5) (wC .non)) (wNil))))
abbrev w_nearest_between_4 : WS := wSeq (wAsg 5 (w2 kSub (wVar 4) (wVar 3))) w_nearest_between_3
abbrev w_nearest_between_5 : WS := wSeq (wAsg 4 (w2 kMod (wVar 2) (wVar 3))) w_nearest_between_4
abbrev w_nearest_between_6 : WS := wSeq (wIf (wAndT (wTst (w2 (kIs true) (wVar 1) (wC .non))) (wTst (w2 kLt (wVar 1) (wC (.int 0))))) (wSeq (wAsg 6 (w2 kSub (wVar 1) (w2 kMod (w2 kSub (wVar 1) (wVar 2)) (wVar 3)))) w_nearest_between_2) (wNext)) w_nearest_between_5
def w_nearest_between : WS :=
  wSeq (wIf (wAndT (wTst (w2 (kIs true) (wVar 0) (wC .non))) (wTst (w2 kGt (wVar 0) (wC (.int 0))))) (wSeq (wAsg 6 (w2 kAdd (wVar 0) (w2 kMod (w2 kSub (wVar 2) (wVar 0)) (wVar 3)))) w_nearest_between_1) (wNext)) w_nearest_between_6
theorem tr_nearest_between {Γ : Wd} (T : Tx Γ) (X : Cx) (C : Ctx Γ X N_nearest_between (defScope st_nearest_between) (fun _ => true) 1) (P : Own X) (dc : DefCx X) : SSs Γ [] X (defBody st_nearest_between) w_nearest_between :=
  sss_cons (ss_if (SW.st (sw_and (st_isnot  (se_var C 0) (se_non)) (sw_and1 (st_gt  (se_var C 0) (se_int))))) (sss_cons (ss_asg C 6 (se_add (se_var C 0) (se_mod (se_sub (se_var C 2) (se_var C 0)) (se_var C 3))))
  (sss_one (ss_retF (se_if (SW.st (sw_or (st_is  (se_var C 1) (se_non)) (sw_or1 (st_le  (se_var C 6) (se_var C 1))))) (se_var C 6) (se_non))))) (sss_nil))
  (sss_cons (ss_if (SW.st (sw_and (st_isnot  (se_var C 1) (se_non)) (sw_and1 (st_lt  (se_var C 1) (se_int))))) (sss_cons (ss_asg C 6 (se_sub (se_var C 1) (se_mod (se_sub (se_var C 1) (se_var C 2)) (se_var C 3))))
  (sss_one (ss_retF (se_if (SW.st (sw_or (st_is  (se_var C 0) (se_non)) (sw_or1 (st_ge  (se_var C 6) (se_var C 0))))) (se_var C 6) (se_non))))) (sss_nil))
  (sss_cons (ss_asg C 4 (se_mod (se_var C 2) (se_var C 3)))
  (sss_cons (ss_asg C 5 (se_sub (se_var C 4) (se_var C 3)))
  (sss_one (ss_retF (se_call C (FnE.mono (ok_nearer T) (by decide)) (sa_cons (se_if (SW.st (sw_or (st_is  (se_var C 1) (se_non)) (sw_or1 (st_le  (se_var C 4) (se_var C 1))))) (se_var C 4) (se_non)) (sa_cons (se_if (SW.st (sw_or (st_is  (se_var C 0) (se_non)) (sw_or1 (st_ge  (se_var C 5) (se_var C 0))))) (se_var C 5) (se_non)) (sa_nil)))))))))

theorem up_to {l r n : Int} (hn : 0 < n) (r0 : 0 ≤ r) (r1 : r < n) : (l + (r - l) % n) % n = r ∧ l ≤ l + (r - l) % n ∧ ∀ a, l ≤ a → a % n = r → l + (r - l) % n ≤ a := by
  have e0 := Int.emod_nonneg (r - l) (show n ≠ 0 by omega)
  have e1 := Int.emod_lt_of_pos (r - l) hn
  have q := Int.mul_ediv_add_emod (r - l) n
  have em : (l + (r - l) % n) % n = r := by
    rw [show l + (r - l) % n = r + n * (-((r - l) / n)) by rw [Int.mul_neg]; omega, Int.add_mul_emod_self_left, Int.emod_eq_of_lt r0 r1]
  refine ⟨em, by omega, fun a ha har => ?_⟩
  have h1 : (a - (l + (r - l) % n)) % n = 0 := by
    rw [Int.sub_emod, har, em]; simp
  obtain ⟨k, hk⟩ := Int.dvd_of_emod_eq_zero h1
  by_cases c : 0 ≤ k
  · have := Int.mul_nonneg (Int.le_of_lt hn) c; omega
  · have : n * k ≤ n * (-1) := Int.mul_le_mul_of_nonneg_left (by omega) (by omega)
    omega
theorem down_to {h r n : Int} (hn : 0 < n) (r0 : 0 ≤ r) (r1 : r < n) : (h - (h - r) % n) % n = r ∧ h - (h - r) % n ≤ h ∧ ∀ a, a ≤ h → a % n = r → a ≤ h - (h - r) % n := by
  have e0 := Int.emod_nonneg (h - r) (show n ≠ 0 by omega)
  have e1 := Int.emod_lt_of_pos (h - r) hn
  have q := Int.mul_ediv_add_emod (h - r) n
  have em : (h - (h - r) % n) % n = r := by
    rw [show h - (h - r) % n = r + n * ((h - r) / n) by omega, Int.add_mul_emod_self_left, Int.emod_eq_of_lt r0 r1]
  refine ⟨em, by omega, fun a ha har => ?_⟩
  have h1 : (h - (h - r) % n - a) % n = 0 := by
    rw [Int.sub_emod, har, em]; simp
  obtain ⟨k, hk⟩ := Int.dvd_of_emod_eq_zero h1
  by_cases c : 0 ≤ k
  · have := Int.mul_nonneg (Int.le_of_lt hn) c; omega
  · have : n * k ≤ n * (-1) := Int.mul_le_mul_of_nonneg_left (by omega) (by omega)
    omega
theorem near_low {l r n : Int} {hi : Option Int} (hl : 0 < l) (hn : 0 < n) (r0 : 0 ≤ r) (r1 : r < n) : NearW (InP (some l) hi r n) (if below (l + (r - l) % n) hi then some (l + (r - l) % n) else none) := by
  obtain ⟨e, le, mn⟩ := up_to (l := l) hn r0 r1
  have out : ∀ a, InP (some l) hi r n a → l + (r - l) % n ≤ a := fun a h => mn a (h.1 l rfl) h.2.2
  split
  · rename_i b
    exact nearW_some ⟨fun q z => by cases z; exact le, b, e⟩ fun a h => by have := out a h; unfold nearBy; omega
  · rename_i b
    exact nearW_none fun a h => b fun q z => by have := out a h; have := h.2.1 q z; omega
theorem near_high {h r n : Int} {lo : Option Int} (hh : h < 0) (hn : 0 < n) (r0 : 0 ≤ r) (r1 : r < n) : NearW (InP lo (some h) r n) (if above lo (h - (h - r) % n) then some (h - (h - r) % n) else none) := by
  obtain ⟨e, le, mx⟩ := down_to (h := h) hn r0 r1
  have out : ∀ a, InP lo (some h) r n a → a ≤ h - (h - r) % n := fun a g => mx a (g.2.1 h rfl) g.2.2
  split
  · rename_i b
    exact nearW_some ⟨b, fun q z => by cases z; exact le, e⟩ fun a g => by have := out a g; unfold nearBy; omega
  · rename_i b
    exact nearW_none fun a g => b fun q z => by have := out a g; have := g.1 q z; omega
theorem near_mid {r n : Int} {lo hi : Option Int} (hl : ∀ l, lo = some l → l ≤ 0) (hh : ∀ h, hi = some h → 0 ≤ h) (hn : 0 < n) (r0 : 0 ≤ r) (r1 : r < n) :
    NearW (InP lo hi r n) (nearF (if below r hi then some r else none) (if above lo (r - n) then some (r - n) else none)) := by
  have e1 : r % n = r := Int.emod_eq_of_lt r0 r1
  have e2 : (r - n) % n = r := by rw [show r - n = r + n * (-1) by omega, Int.add_mul_emod_self_left, e1]
  have up : ∀ a, 0 ≤ a → a % n = r → r ≤ a := fun a h e => by have q := Int.mul_ediv_add_emod a n; have : 0 ≤ a / n := Int.ediv_nonneg h (by omega); have := Int.mul_nonneg (Int.le_of_lt hn) this; omega
  have dn : ∀ a, a < 0 → a % n = r → a ≤ r - n := fun a h e => by
    have q := Int.mul_ediv_add_emod a n
    have : a / n < 0 := Int.ediv_neg_of_neg_of_pos h hn
    have : n * (a / n) ≤ n * (-1) := Int.mul_le_mul_of_nonneg_left (by omega) (by omega)
    omega
  have P : NearW (fun a => InP lo hi r n a ∧ 0 ≤ a) (if below r hi then some r else none) := by
    split
    · rename_i b
      exact nearW_some ⟨⟨fun l z => by have := hl l z; omega, b, e1⟩, r0⟩ fun a h => by have := up a h.2 h.1.2.2; unfold nearBy; omega
    · rename_i b
      exact nearW_none fun a h => b fun q z => by have := h.1.2.1 q z; have := up a h.2 h.1.2.2; omega
  have M : NearW (fun a => InP lo hi r n a ∧ a < 0) (if above lo (r - n) then some (r - n) else none) := by
    split
    · rename_i b
      exact nearW_some ⟨⟨b, fun h z => by have := hh h z; omega, e2⟩, by omega⟩ fun a h => by have := dn a h.2 h.1.2.2; unfold nearBy; omega
    · rename_i b
      exact nearW_none fun a h => b fun q z => by have := h.1.1 q z; have := dn a h.2 h.1.2.2; omega
  exact (P.or M).congr fun a => ⟨fun h => h.elim (·.1) (·.1), fun h => by
    by_cases c : 0 ≤ a
    · exact .inl ⟨h, c⟩
    · exact .inr ⟨h, by omega⟩⟩
theorem above_none (a : Int) : above none a := fun _ e => nomatch e
theorem below_none (a : Int) : below a none := fun _ e => nomatch e
theorem above_some {l a : Int} (h : l ≤ a) : above (some l) a := fun _ e => by cases e; exact h
theorem below_some {h a : Int} (g : a ≤ h) : below a (some h) := fun _ e => by cases e; exact g
theorem law_nearest_between : LawOf N_nearest_between [false, false, false, false] c_nearest_between w_nearest_between := by
  rintro svs Q E - ⟨lo, hi, r, n, rfl, hn, r0, r1, hq⟩
  have second : ∀ x : Option Int, Q (.d (optI (nearF x (if above lo (r - n) then some (r - n) else none)))) [.d (optI lo), .d (optI hi), .d (.int r), .d (.int n)] →
      wCons (wIfE (wOrT (wTst (w2 (kIs false) (wVar 0) (wC .non))) (wTst (w2 kGe (wVar 5) (wVar 0)))) (wVar 5) (wC .non)) wNil [some (.d (optI lo)), some (.d (optI hi)), some (.d (.int r)), some (.d (.int n)), some (.d (.int r)), some (.d (.int (r - n))), none] (fun xs ρ2 => wCallK [false, false] c_nearer (.d (optI x) :: xs) ρ2 (fun sv ρ1 => keep sv ρ1 fun x ρ2 => (endsOf [false, false, false, false] [.d (optI lo), .d (optI hi), .d (.int r), .d (.int n)] Q).rt (.d x) ρ2) (errsOf [false, false, false, false] [.d (optI lo), .d (optI hi), .d (.int r), .d (.int n)] E)) (errsOf [false, false, false, false] [.d (optI lo), .d (optI hi), .d (.int r), .d (.int n)] E) := fun x hx => by
    cases lo with
    | none =>
      rw [if_pos (above_none _)] at hx
      ((conv => whnf); try dsimp only [List.set_cons_zero, List.set_cons_succ]); refine Br.tt (Br.tt ?_)
      cases x <;> (((conv => whnf); try dsimp only [List.set_cons_zero, List.set_cons_succ]); refine ⟨_, some (r - n), rfl, ?_⟩; ((conv => whnf); try dsimp only [List.set_cons_zero, List.set_cons_succ]); exact hx)
    | some l =>
      ((conv => whnf); try dsimp only [List.set_cons_zero, List.set_cons_succ]); refine Br.ff ?_
      ((conv => whnf); try dsimp only [List.set_cons_zero, List.set_cons_succ]); refine Br.of (fun c => ?_) (fun c => ?_)
      · have c' : l ≤ r - n := c
        rw [if_pos (above_some c')] at hx
        cases x with
        | none => ((conv => whnf); try dsimp only [List.set_cons_zero, List.set_cons_succ]); refine ⟨none, some (r - n), rfl, ?_⟩; ((conv => whnf); try dsimp only [List.set_cons_zero, List.set_cons_succ]); exact hx
        | some y => ((conv => whnf); try dsimp only [List.set_cons_zero, List.set_cons_succ]); refine ⟨some y, some (r - n), rfl, ?_⟩; ((conv => whnf); try dsimp only [List.set_cons_zero, List.set_cons_succ]); exact hx
      · have c' : ¬ l ≤ r - n := c
        rw [if_neg fun z => c' (z l rfl)] at hx
        cases x with
        | none => ((conv => whnf); try dsimp only [List.set_cons_zero, List.set_cons_succ]); refine ⟨none, none, rfl, ?_⟩; ((conv => whnf); try dsimp only [List.set_cons_zero, List.set_cons_succ]); exact hx
        | some y => ((conv => whnf); try dsimp only [List.set_cons_zero, List.set_cons_succ]); refine ⟨some y, none, rfl, ?_⟩; ((conv => whnf); try dsimp only [List.set_cons_zero, List.set_cons_succ]); exact hx
  have tail : (∀ l, lo = some l → l ≤ 0) → (∀ h, hi = some h → 0 ≤ h) → w_nearest_between_5 [some (.d (optI lo)), some (.d (optI hi)), some (.d (.int r)), some (.d (.int n)), none, none, none] (endsOf [false, false, false, false] [.d (optI lo), .d (optI hi), .d (.int r), .d (.int n)] Q) (errsOf [false, false, false, false] [.d (optI lo), .d (optI hi), .d (.int r), .d (.int n)] E) := fun hl hh => by
    have g := hq _ (near_mid hl hh hn r0 r1)
    have em : r % n = r := Int.emod_eq_of_lt r0 r1
    ((conv => whnf); try dsimp only [List.set_cons_zero, List.set_cons_succ]); refine ⟨by omega, ?_⟩
    rw [em]
    cases hi with
    | none =>
      rw [if_pos (below_none _)] at g
      ((conv => whnf); try dsimp only [List.set_cons_zero, List.set_cons_succ]); refine Br.tt (Br.tt ?_)
      exact second _ g
    | some h =>
      ((conv => whnf); try dsimp only [List.set_cons_zero, List.set_cons_succ]); refine Br.ff ?_
      ((conv => whnf); try dsimp only [List.set_cons_zero, List.set_cons_succ]); refine Br.of (fun c => ?_) (fun c => ?_)
      · have c' : r ≤ h := c
        rw [if_pos (below_some c')] at g
        exact second (some r) g
      · have c' : ¬ r ≤ h := c
        rw [if_neg fun z => c' (z h rfl)] at g
        exact second none g
  have mid6 : (∀ l, lo = some l → l ≤ 0) → w_nearest_between_6 [some (.d (optI lo)), some (.d (optI hi)), some (.d (.int r)), some (.d (.int n)), none, none, none] (endsOf [false, false, false, false] [.d (optI lo), .d (optI hi), .d (.int r), .d (.int n)] Q) (errsOf [false, false, false, false] [.d (optI lo), .d (optI hi), .d (.int r), .d (.int n)] E) := fun hl => by
    cases hi with
    | none =>
      ((conv => whnf); try dsimp only [List.set_cons_zero, List.set_cons_succ]); refine Br.ff ?_
      exact Br.ff (tail hl fun h z => (nomatch z))
    | some h =>
      ((conv => whnf); try dsimp only [List.set_cons_zero, List.set_cons_succ]); refine Br.tt ?_
      ((conv => whnf); try dsimp only [List.set_cons_zero, List.set_cons_succ]); refine Br.of (fun c => ?_) (fun c => ?_)
      · have g := hq _ (near_high (lo := lo) (h := h) c hn r0 r1)
        ((conv => whnf); try dsimp only [List.set_cons_zero, List.set_cons_succ]); refine ⟨by omega, ?_⟩
        cases lo with
        | none =>
          rw [if_pos (above_none _)] at g
          ((conv => whnf); try dsimp only [List.set_cons_zero, List.set_cons_succ]); refine Br.tt (Br.tt ?_)
          ((conv => whnf); try dsimp only [List.set_cons_zero, List.set_cons_succ]); exact g
        | some l =>
          ((conv => whnf); try dsimp only [List.set_cons_zero, List.set_cons_succ]); refine Br.ff ?_
          ((conv => whnf); try dsimp only [List.set_cons_zero, List.set_cons_succ]); refine Br.of (fun k => ?_) (fun k => ?_)
          · have k' : l ≤ h - (h - r) % n := k
            rw [if_pos (above_some k')] at g
            ((conv => whnf); try dsimp only [List.set_cons_zero, List.set_cons_succ]); exact g
          · have k' : ¬ l ≤ h - (h - r) % n := k
            rw [if_neg fun z => k' (z l rfl)] at g
            ((conv => whnf); try dsimp only [List.set_cons_zero, List.set_cons_succ]); exact g
      · exact tail hl fun h' z => by cases z; exact Int.not_lt.mp c
  cases lo with
  | none =>
    ((conv => whnf); try dsimp only [List.set_cons_zero, List.set_cons_succ]); refine Br.ff ?_
    exact Br.ff (mid6 fun h z => (nomatch z))
  | some l =>
    ((conv => whnf); try dsimp only [List.set_cons_zero, List.set_cons_succ]); refine Br.tt ?_
    ((conv => whnf); try dsimp only [List.set_cons_zero, List.set_cons_succ]); refine Br.of (fun c => ?_) (fun c => ?_)
    · have g := hq _ (near_low (hi := hi) (l := l) c hn r0 r1)
      ((conv => whnf); try dsimp only [List.set_cons_zero, List.set_cons_succ]); refine ⟨by omega, ?_⟩
      cases hi with
      | none =>
        rw [if_pos (below_none _)] at g
        ((conv => whnf); try dsimp only [List.set_cons_zero, List.set_cons_succ]); refine Br.tt (Br.tt ?_)
        ((conv => whnf); try dsimp only [List.set_cons_zero, List.set_cons_succ]); exact g
      | some h =>
        ((conv => whnf); try dsimp only [List.set_cons_zero, List.set_cons_succ]); refine Br.ff ?_
        ((conv => whnf); try dsimp only [List.set_cons_zero, List.set_cons_succ]); refine Br.of (fun k => ?_) (fun k => ?_)
        · have k' : l + (r - l) % n ≤ h := k
          rw [if_pos (below_some k')] at g
          ((conv => whnf); try dsimp only [List.set_cons_zero, List.set_cons_succ]); exact g
        · have k' : ¬ l + (r - l) % n ≤ h := k
          rw [if_neg fun z => k' (z h rfl)] at g
          ((conv => whnf); try dsimp only [List.set_cons_zero, List.set_cons_succ]); exact g
    · exact mid6 fun l' z => by cases z; exact Int.not_lt.mp c
theorem ok_nearest_between {Γ : Wd} (T : Tx Γ) : FnE Γ 2 "nearest_between" [false, false, false, false] c_nearest_between :=
  fnE_of T.d_nearest_between sc_nearest_between (by intro _ _ _ _ _ _ _ _ us hl; exact match us, hl with | [_, _, _, _], _ => rfl) T.bn rfl (tr_nearest_between T) law_nearest_between


def atO (o s : List Int) : Option Int → Int
  | none => (o[0]?).getD 0
  | some u => (o[cntF s u]?).getD 0
def pairO (s1 o1 s2 o2 : List Int) (lo : Option Int) : Int × Int := (atO o1 s1 lo, atO o2 s2 lo)
def partD (p : Option Int × Option Int × Int × Int) : D := .tup [optI p.1, optI p.2.1, .int p.2.2.1, .int p.2.2.2]
def tailP {α : Type} (f : Option Int → α) : List Int → List (Option Int × Option Int × α)
  | [] => []
  | u :: us => partsG f (some u) us
def nextO : List Int → Option Int
  | [] => none
  | u :: _ => some (u - 1)
theorem partsG_head {α : Type} (f : Option Int → α) (lo : Option Int) (us : List Int) : partsG f lo us = (lo, nextO us, f lo) :: tailP f us := by cases us <;> rfl
def rowT (s o : List Int) : D := .tup [.lst (s.map D.int), .lst (o.map D.int)]
/-- a row as it is asked here -/
structure Row (s o : List Int) : Prop where
  up : s.Pairwise fun x y => x < y
  len : o.length = s.length + 1
  few : s.length ≤ 1900
theorem Row.at_ {s o : List Int} (R : Row s o) (a : Int) : atI (o.map D.int) (cntF s a : Int) = some (.int (atO o s (some a))) := by
  have h : cntF s a < o.length := by have := cntF_le s a; rw [R.len]; omega
  refine at_nat (by omega) ?_
  rw [Int.toNat_natCast, List.getElem?_map, List.getElem?_eq_getElem h]
  show _ = some (D.int ((o[cntF s a]?).getD 0))
  rw [List.getElem?_eq_getElem h]; rfl
theorem Row.at0 {s o : List Int} (R : Row s o) : atI (o.map D.int) 0 = some (.int (atO o s none)) := by
  have h : 0 < o.length := by rw [R.len]; omega
  refine at_nat (by omega) ?_
  show (o.map D.int)[0]? = _
  rw [List.getElem?_map, List.getElem?_eq_getElem h]
  show _ = some (D.int ((o[0]?).getD 0))
  rw [List.getElem?_eq_getElem h]; rfl
def c_shared_parts : Con := fun svs Q _ => ∃ (s1 o1 s2 o2 : List Int), svs = [.d (rowT s1 o1), .d (rowT s2 o2)] ∧ Row s1 o1 ∧ Row s2 o2 ∧ Q (.lst ((partsG (pairO s1 o1 s2 o2) none (ups (s1 ++ s2))).map partD)) svs
/-! shared_parts: one 0, other 1, spots 2, found 3, at 4, low 5, high 6 -/
theorem sc_shared_parts : FnScope N_shared_parts ["one", "other"] (defScope st_shared_parts) := ⟨rfl, rfl, rfl, by decide +kernel, rfl, by decide +kernel, by decide +kernel⟩
abbrev w_shared_parts_1 : WS := wApp 3 (wTup (wCons (wVar 5) (wCons (wVar 6) (wCons (w2 kIdx (w2 kIdx (wVar 0) (wC (.int 1))) (wCall [false, false] c_count_up_to (wCons (w2 kIdx (wVar 0) (wC (.int 0))) (wCons (wVar 5) (wNil))))) (wCons (w2 kIdx (w2 kIdx (wVar 1) (wC (.int 1))) (wCall [false, false] c_count_up_to (wCons (w2 kIdx (wVar 1) (wC (.int 0))) (wCons (wVar 5) (wNil))))) (wNil))))))
abbrev w_shared_parts_2 : WS := wSeq (wAsg 6 (wIfE (wTst (w2 kLt (w2 kAdd (wVar 4) (wC (.int 1))) (wB kLen (wCons (wVar 2) (wNil))))) (w2 kSub (w2 kIdx (wVar 2) (w2 kAdd (wVar 4) (wC (.int 1)))) (wC (.int 1))) (wC .non))) w_shared_parts_1
abbrev w_shared_parts_3 : WS := wRet (wVar 3)
abbrev w_shared_parts_4 : WS := wSeq (wFor (wEnum (wCons (wVar 2) (wNil))) (gTp 2 (gsCons (gNm 4) (gsCons (gNm 5) (gsNil)))) w_shared_parts_2) w_shared_parts_3
abbrev w_shared_parts_5 : WS := wSeq (wAsg 3 (wLst (wCons (wTup (wCons (wC .non) (wCons (wIfE (wTst (w2 kNe (wVar 2) (wLst (wNil)))) (w2 kSub (w2 kIdx (wVar 2) (wC (.int 0))) (wC (.int 1))) (wC .non)) (wCons (w2 kIdx (w2 kIdx (wVar 0) (wC (.int 1))) (wC (.int 0))) (wCons (w2 kIdx (w2 kIdx (wVar 1) (wC (.int 1))) (wC (.int 0))) (wNil)))))) (wNil)))) w_shared_parts_4
def w_shared_parts : WS :=
  wSeq (wAsg 2 (wSortS (w2 kAdd (w2 kIdx (wVar 0) (wC (.int 0))) (w2 kIdx (wVar 1) (wC (.int 0)))))) w_shared_parts_5
theorem tr_shared_parts {Γ : Wd} (T : Tx Γ) (X : Cx) (C : Ctx Γ X N_shared_parts (defScope st_shared_parts) (fun _ => true) 1) (P : Own X) (dc : DefCx X) : SSs Γ [] X (defBody st_shared_parts) w_shared_parts :=
  sss_cons (ss_asg C 2 (se_sortS C (se_add (se_idx C (fun _ _ => rfl) (se_var C 0) (se_int)) (se_idx C (fun _ _ => rfl) (se_var C 1) (se_int)))))
  (sss_cons (ss_asg C 3 (se_lst (sa_cons (se_tup (sa_cons (se_non) (sa_cons (se_if (st_ne C (se_var C 2) (se_lst (sa_nil))) (se_sub (se_idx C (fun _ _ => rfl) (se_var C 2) (se_int)) (se_int)) (se_non)) (sa_cons (se_idx C (fun _ _ => rfl) (se_idx C (fun _ _ => rfl) (se_var C 0) (se_int)) (se_int)) (sa_cons (se_idx C (fun _ _ => rfl) (se_idx C (fun _ _ => rfl) (se_var C 1) (se_int)) (se_int)) (sa_nil)))))) (sa_nil))))
  (sss_cons (ss_for C P (is := [4, 5]) (si_enum C (sa_cons (se_var C 2) (sa_nil))) (sg_tup C (sgs_cons (sg_name C 4) (sgs_cons (sg_name C 5) (sgs_nil)))) (sss_cons (ss_asg C 6 (se_if (st_lt  (se_add (se_var C 4) (se_int)) (se_len C (sa_cons (se_var C 2) (sa_nil)))) (se_sub (se_idx C (fun _ _ => rfl) (se_var C 2) (se_add (se_var C 4) (se_int))) (se_int)) (se_non)))
  (sss_one (ss_app C 3 (se_tup (sa_cons (se_var C 5) (sa_cons (se_var C 6) (sa_cons (se_idx C (fun _ _ => rfl) (se_idx C (fun _ _ => rfl) (se_var C 0) (se_int)) (se_call C (FnE.mono (ok_count_up_to T) (by decide)) (sa_cons (se_idx C (fun _ _ => rfl) (se_var C 0) (se_int)) (sa_cons (se_var C 5) (sa_nil))))) (sa_cons (se_idx C (fun _ _ => rfl) (se_idx C (fun _ _ => rfl) (se_var C 1) (se_int)) (se_call C (FnE.mono (ok_count_up_to T) (by decide)) (sa_cons (se_idx C (fun _ _ => rfl) (se_var C 1) (se_int)) (sa_cons (se_var C 5) (sa_nil))))) (sa_nil))))))))))
  (sss_one (ss_ret (se_var C 3)))))

theorem law_shared_parts : LawOf N_shared_parts [false, false] c_shared_parts w_shared_parts := by
  rintro svs Q E - ⟨s1, o1, s2, o2, rfl, R1, R2, hq⟩
  have f1 := R1.few
  have f2 := R2.few
  show w_shared_parts [some (.d (rowT s1 o1)), some (.d (rowT s2 o2)), none, none, none, none, none] _ _
  ((conv => whnf); try dsimp only [List.set_cons_zero, List.set_cons_succ]); refine ⟨_, at0, ?_⟩
  ((conv => whnf); try dsimp only [List.set_cons_zero, List.set_cons_succ]); refine ⟨_, at0, ?_⟩
  ((conv => whnf); try dsimp only [List.set_cons_zero, List.set_cons_succ]); refine ⟨by simp; omega, ?_⟩
  ((conv => whnf); try dsimp only [List.set_cons_zero, List.set_cons_succ]); rw [← List.map_append]; refine ⟨s1 ++ s2, rfl, by simp; omega, fun us up mem => ?_⟩
  obtain rfl := ups_is up mem
  generalize eU : ups (s1 ++ s2) = us at *
  ((conv => whnf); try dsimp only [List.set_cons_zero, List.set_cons_succ]); refine ⟨few3 (by show 0 ≤ 1000; decide), ?_⟩
  ((conv => whnf); try dsimp only [List.set_cons_zero, List.set_cons_succ]); refine ⟨⟨shp_ints us, shp_ints []⟩, ?_⟩
  ((conv => whnf); try dsimp only [List.set_cons_zero, List.set_cons_succ]); rw [show deq (.lst (us.map D.int)) (.lst []) = decide (us = []) from deq_lints us []]
  have lu : us.length ≤ 3800 := by
    have := len_ups (s1 ++ s2)
    rw [eU] at this
    simp only [List.length_append] at this
    omega
  have loop : w_shared_parts_4 [some (.d (rowT s1 o1)), some (.d (rowT s2 o2)), some (.lst (us.map D.int)), some (.lst [partD (none, nextO us, pairO s1 o1 s2 o2 none)]), none, none, none] (endsOf [false, false] [.d (rowT s1 o1), .d (rowT s2 o2)] Q) (errsOf [false, false] [.d (rowT s1 o1), .d (rowT s2 o2)] E) := by
    rw [partsG_head] at hq
    ((conv => whnf); try dsimp only [List.set_cons_zero, List.set_cons_succ])
    refine forL_ind (fun ds ρ => ∃ (as rs : List Int) (acc : List (Option Int × Option Int × Int × Int)) (x4 x5 x6 : Option SV), us = as ++ rs ∧ tailP (pairO s1 o1 s2 o2) us = acc ++ tailP (pairO s1 o1 s2 o2) rs ∧ acc.length = as.length ∧ ds = enD as.length (rs.map D.int) ∧
      ρ = [some (.d (rowT s1 o1)), some (.d (rowT s2 o2)), some (.d (.lst (us.map D.int))), some (.lst (partD (none, nextO us, pairO s1 o1 s2 o2 none) :: acc.map partD)), x4, x5, x6]) ?_ ?_ _ _ ⟨[], us, [], none, none, none, rfl, rfl, rfl, rfl, rfl⟩
    · rintro ρ ⟨as, rs, acc, x4, x5, x6, e, ea, el, e2, rfl⟩
      obtain rfl : rs = [] := by cases rs with
        | nil => rfl
        | cons _ _ => cases e2
      have ea' : tailP (pairO s1 o1 s2 o2) us = acc := by rw [ea]; exact List.append_nil acc
      rw [ea'] at hq
      ((conv => whnf); try dsimp only [List.set_cons_zero, List.set_cons_succ]); exact hq
    · rintro d ds ρ ⟨as, rs, acc, x4, x5, x6, e, ea, el, e2, rfl⟩ ih
      cases rs with
      | nil => cases e2
      | cons u rs =>
        cases e2
        have lU : (((us.map D.int).length : Nat) : Int) = us.length := by rw [List.length_map]
        have la : us.length = as.length + (rs.length + 1) := by rw [e]; simp
        have fin : ∀ hi : Option Int, hi = nextO rs → w_shared_parts_1 [some (.d (rowT s1 o1)), some (.d (rowT s2 o2)), some (.d (.lst (us.map D.int))), some (.lst (partD (none, nextO us, pairO s1 o1 s2 o2 none) :: acc.map partD)), some (.d (.int as.length)), some (.d (.int u)), some (.d (optI hi))] ⟨fun ρ2 => Nxt ρ2 fun ρ3 => forL (gTp 2 (gsCons (gNm 4) (gsCons (gNm 5) gsNil))) w_shared_parts_2 (enD (as.length + 1) (rs.map D.int)) ρ3 ⟨fun ρ1 => w_shared_parts_3 ρ1 (endsOf [false, false] [.d (rowT s1 o1), .d (rowT s2 o2)] Q) (errsOf [false, false] [.d (rowT s1 o1), .d (rowT s2 o2)] E), (endsOf [false, false] [.d (rowT s1 o1), .d (rowT s2 o2)] Q).rt, (endsOf [false, false] [.d (rowT s1 o1), .d (rowT s2 o2)] Q).bk, (endsOf [false, false] [.d (rowT s1 o1), .d (rowT s2 o2)] Q).ct⟩ (errsOf [false, false] [.d (rowT s1 o1), .d (rowT s2 o2)] E), (endsOf [false, false] [.d (rowT s1 o1), .d (rowT s2 o2)] Q).rt, fun ρ1 => w_shared_parts_3 ρ1 (endsOf [false, false] [.d (rowT s1 o1), .d (rowT s2 o2)] Q) (errsOf [false, false] [.d (rowT s1 o1), .d (rowT s2 o2)] E), fun ρ2 => Nxt ρ2 fun ρ3 => forL (gTp 2 (gsCons (gNm 4) (gsCons (gNm 5) gsNil))) w_shared_parts_2 (enD (as.length + 1) (rs.map D.int)) ρ3 ⟨fun ρ1 => w_shared_parts_3 ρ1 (endsOf [false, false] [.d (rowT s1 o1), .d (rowT s2 o2)] Q) (errsOf [false, false] [.d (rowT s1 o1), .d (rowT s2 o2)] E), (endsOf [false, false] [.d (rowT s1 o1), .d (rowT s2 o2)] Q).rt, (endsOf [false, false] [.d (rowT s1 o1), .d (rowT s2 o2)] Q).bk, (endsOf [false, false] [.d (rowT s1 o1), .d (rowT s2 o2)] Q).ct⟩ (errsOf [false, false] [.d (rowT s1 o1), .d (rowT s2 o2)] E)⟩ (errsOf [false, false] [.d (rowT s1 o1), .d (rowT s2 o2)] E) := fun hi hhi => by
          ((conv => whnf); try dsimp only [List.set_cons_zero, List.set_cons_succ]); refine ⟨_, at1, ?_⟩
          ((conv => whnf); try dsimp only [List.set_cons_zero, List.set_cons_succ]); refine ⟨_, at0, ?_⟩
          ((conv => whnf); try dsimp only [List.set_cons_zero, List.set_cons_succ]); refine ⟨s1, u, rfl, R1.up, by omega, ?_⟩
          ((conv => whnf); try dsimp only [List.set_cons_zero, List.set_cons_succ]); refine ⟨_, R1.at_ u, ?_⟩
          ((conv => whnf); try dsimp only [List.set_cons_zero, List.set_cons_succ]); refine ⟨_, at1, ?_⟩
          ((conv => whnf); try dsimp only [List.set_cons_zero, List.set_cons_succ]); refine ⟨_, at0, ?_⟩
          ((conv => whnf); try dsimp only [List.set_cons_zero, List.set_cons_succ]); refine ⟨s2, u, rfl, R2.up, by omega, ?_⟩
          ((conv => whnf); try dsimp only [List.set_cons_zero, List.set_cons_succ]); refine ⟨_, R2.at_ u, ?_⟩
          ((conv => whnf); try dsimp only [List.set_cons_zero, List.set_cons_succ]); refine ⟨few3 (by show 4 ≤ 1000; decide), ?_⟩
          ((conv => whnf); try dsimp only [List.set_cons_zero, List.set_cons_succ]); refine ⟨by simp; omega, ?_⟩
          refine ⟨_, Fgt.refl _, ih _ ⟨as ++ [u], rs, acc ++ [(some u, hi, pairO s1 o1 s2 o2 (some u))], some (.d (.int as.length)), some (.d (.int u)), some (.d (optI hi)), by rw [e]; simp, ?_, by simp [el], by simp, by rw [List.map_append]; rfl⟩⟩
          rw [ea, hhi]
          show acc ++ partsG (pairO s1 o1 s2 o2) (some u) rs = _
          rw [partsG_head]; simp
        ((conv => whnf); try dsimp only [List.set_cons_zero, List.set_cons_succ]); refine ⟨rfl, ?_⟩
        ((conv => whnf); try dsimp only [List.set_cons_zero, List.set_cons_succ]); rw [lU]
        refine Br.of (fun c => ?_) (fun c => ?_)
        · have c' : (as.length : Int) + 1 < us.length := c
          cases rs with
          | nil => exfalso; simp at la; omega
          | cons v rs =>
            have ex : atI (us.map D.int) ((as.length : Int) + 1) = some (.int v) := by
              refine at_nat (by omega) ?_
              rw [show ((as.length : Int) + 1).toNat = as.length + 1 by omega, e, List.getElem?_map, List.getElem?_append_right (by omega), show as.length + 1 - as.length = 1 by omega]
              rfl
            ((conv => whnf); try dsimp only [List.set_cons_zero, List.set_cons_succ]); refine ⟨_, ex, ?_⟩
            exact fin (some (v - 1)) rfl
        · have c' : ¬ (as.length : Int) + 1 < us.length := c
          cases rs with
          | nil => exact fin none rfl
          | cons v rs => exfalso; simp at la; omega
  refine Br.ofN (fun c => ?_) (fun c => ?_)
  · have c' : ¬ us = [] := c
    obtain ⟨u, rs, rfl⟩ : ∃ u rs, us = u :: rs := by cases us with
      | nil => exact absurd rfl c'
      | cons u rs => exact ⟨u, rs, rfl⟩
    ((conv => whnf); try dsimp only [List.set_cons_zero, List.set_cons_succ]); refine ⟨_, at0, ?_⟩
    ((conv => whnf); try dsimp only [List.set_cons_zero, List.set_cons_succ]); refine ⟨_, at1, ?_⟩
    ((conv => whnf); try dsimp only [List.set_cons_zero, List.set_cons_succ]); refine ⟨_, R1.at0, ?_⟩
    ((conv => whnf); try dsimp only [List.set_cons_zero, List.set_cons_succ]); refine ⟨_, at1, ?_⟩
    ((conv => whnf); try dsimp only [List.set_cons_zero, List.set_cons_succ]); refine ⟨_, R2.at0, ?_⟩
    ((conv => whnf); try dsimp only [List.set_cons_zero, List.set_cons_succ]); refine ⟨few3 (by show 4 ≤ 1000; decide), ?_⟩
    ((conv => whnf); try dsimp only [List.set_cons_zero, List.set_cons_succ]); refine ⟨few3 (by show 1 ≤ 1000; decide), ?_⟩
    exact loop
  · have c' : us = [] := c
    subst c'
    ((conv => whnf); try dsimp only [List.set_cons_zero, List.set_cons_succ]); refine ⟨_, at1, ?_⟩
    ((conv => whnf); try dsimp only [List.set_cons_zero, List.set_cons_succ]); refine ⟨_, R1.at0, ?_⟩
    ((conv => whnf); try dsimp only [List.set_cons_zero, List.set_cons_succ]); refine ⟨_, at1, ?_⟩
    ((conv => whnf); try dsimp only [List.set_cons_zero, List.set_cons_succ]); refine ⟨_, R2.at0, ?_⟩
    ((conv => whnf); try dsimp only [List.set_cons_zero, List.set_cons_succ]); refine ⟨few3 (by show 4 ≤ 1000; decide), ?_⟩
    ((conv => whnf); try dsimp only [List.set_cons_zero, List.set_cons_succ]); refine ⟨few3 (by show 1 ≤ 1000; decide), ?_⟩
    exact loop
theorem ok_shared_parts {Γ : Wd} (T : Tx Γ) : FnE Γ 2 "shared_parts" [false, false] c_shared_parts :=
  fnE_of T.d_shared_parts sc_shared_parts (by intro _ _ _ _ _ _ _ _ us hl; exact match us, hl with | [_, _], _ => rfl) T.bn rfl (tr_shared_parts T) law_shared_parts


def offsR (b : List Int) (ms : List (Int × Int)) (r : Nat) : List Int := (b[r]?).getD 0 :: (rowM b.length r ms).map Prod.snd
def spotR (b : List Int) (ms : List (Int × Int)) (r : Nat) : List Int := (rowM b.length r ms).map Prod.fst
theorem Rw.row {b : List Int} {ms : List (Int × Int)} (R : Rw b ms) (r : Nat) : Row (spotR b ms r) (offsR b ms r) := ⟨R.row_up _ _, by unfold offsR spotR; simp, by unfold spotR; rw [List.length_map]; exact R.row_len _ _⟩
theorem Row.back {s o : List Int} (R : Row s o) : Row (s.map fun x => x - 1) o := ⟨R.up.map _ fun a b h => by omega, by rw [List.length_map]; exact R.len, by rw [List.length_map]; exact R.few⟩
theorem cntF_back (s : List Int) (a : Int) : cntF (s.map fun x => x - 1) a = cntF s (a + 1) := by
  unfold cntF
  rw [List.filter_map, List.length_map]
  congr 1
  refine List.filter_congr fun x _ => ?_
  show decide (x - 1 ≤ a) = decide (x ≤ a + 1)
  rw [decide_eq_decide]; omega
theorem off_row {b : List Int} {ms : List (Int × Int)} (R : Rw b ms) {a : Int} {r : Nat} (h : a % (b.length : Int) = r) : offF b ms a = ((offsR b ms r)[cntF (spotR b ms r) a]?).getD 0 := by
  have p := R.pos
  have g := offG_row (n := b.length) (a := a) (x := wkF b a) (by omega) R.up
  have e : wkF b a = (b[r]?).getD 0 := by unfold wkF; rw [h, Int.toNat_natCast]
  rw [h, e] at g
  unfold offsR spotR offF
  rw [g, e]; rfl
/-- in a stretch without a change nothing changes -/
theorem atO_same {s o : List Int} {lo : Option Int} {a : Int} (ha : above lo a) (h : ∀ u ∈ s, u ≤ a → ∃ l, lo = some l ∧ u ≤ l) : atO o s lo = (o[cntF s a]?).getD 0 := by
  cases lo with
  | none =>
    rw [cntF_late fun u hu => Int.not_le.mp fun c => by
      obtain ⟨l, e, _⟩ := h u hu c
      cases e]
    rfl
  | some l =>
    have hl := ha l rfl
    have e : cntF s a = cntF s l := by
      unfold cntF
      congr 1
      refine List.filter_congr fun u hu => ?_
      rw [decide_eq_decide]
      constructor
      · intro c
        obtain ⟨l', e, q⟩ := h u hu c
        cases e; exact q
      · intro c; omega
    rw [e]; rfl
/-- the stretches of two rows, told by moments -/
theorem parts_val {s1 o1 s2 o2 : List Int} {p : Option Int × Option Int × Int × Int} (hp : p ∈ partsG (pairO s1 o1 s2 o2) none (ups (s1 ++ s2))) {a : Int} (ha : above p.1 a) (hb : below a p.2.1) :
    p.2.2.1 = (o1[cntF s1 a]?).getD 0 ∧ p.2.2.2 = (o2[cntF s2 a]?).getD 0 := by
  obtain ⟨e, _, g⟩ := parts_ok (pairO s1 o1 s2 o2) (lo := none) (up_ups (s1 ++ s2)) (fun u _ l z => (nomatch z)) p hp
  have g' := g a ha hb
  rw [e]
  exact ⟨atO_same ha fun u hu c => g' u (mem_ups.mpr (by simp [hu])) c, atO_same ha fun u hu c => g' u (mem_ups.mpr (by simp [hu])) c⟩
/-- values that fall -/
def Fall (b : List Int) (ms : List (Int × Int)) (a : Int) : Prop := valF b ms (a + 1) < valF b ms a
def nxR (n r : Nat) : Nat := (r + 1) % n
def fallP (b : List Int) (ms : List (Int × Int)) (r : Nat) : List (Option Int × Option Int × Int × Int) :=
  partsG (pairO (spotR b ms r) (offsR b ms r) ((spotR b ms (nxR b.length r)).map fun x => x - 1) (offsR b ms (nxR b.length r))) none (ups (spotR b ms r ++ (spotR b ms (nxR b.length r)).map fun x => x - 1))
theorem fall_iff {b : List Int} {ms : List (Int × Int)} (R : Rw b ms) {r : Nat} (hr : r < b.length) (a : Int) :
    (∃ p ∈ fallP b ms r, InP p.1 p.2.1 r b.length a ∧ p.2.2.2 + 1 < p.2.2.1) ↔ (Fall b ms a ∧ a % (b.length : Int) = r) := by
  have p := R.pos
  have key : a % (b.length : Int) = r → (a + 1) % (b.length : Int) = (nxR b.length r : Nat) := fun h => by
    unfold nxR
    rw [Int.natCast_emod, Int.natCast_add, ← h]
    exact (Int.emod_add_emod a b.length 1).symm
  have val : ∀ q ∈ fallP b ms r, InP q.1 q.2.1 r b.length a → (q.2.2.2 + 1 < q.2.2.1 ↔ Fall b ms a) := fun q hq hi => by
    obtain ⟨e1, e2⟩ := parts_val hq hi.1 hi.2.1
    rw [cntF_back, ← off_row R (key hi.2.2)] at e2
    rw [← off_row R hi.2.2] at e1
    unfold Fall valF
    omega
  constructor
  · rintro ⟨q, hq, hi, hv⟩
    exact ⟨(val q hq hi).mp hv, hi.2.2⟩
  · rintro ⟨hf, hr⟩
    obtain ⟨q, hq, h1, h2⟩ := parts_mem (pairO (spotR b ms r) (offsR b ms r) ((spotR b ms (nxR b.length r)).map fun x => x - 1) (offsR b ms (nxR b.length r))) (lo := none) (a := a) (up_ups (spotR b ms r ++ (spotR b ms (nxR b.length r)).map fun x => x - 1)) fun l z => (nomatch z)
    exact ⟨q, hq, ⟨h1, h2, hr⟩, (val q hq ⟨h1, h2, hr⟩).mpr hf⟩
def c_first_falling : Con := fun svs Q _ => ∃ (b : List Int) (ms : List (Int × Int)), svs = [.d (.lst (rowsD b ms))] ∧ Rw b ms ∧ ∀ x, NearW (Fall b ms) x → Q (.d (optI x)) svs
/-! first_falling: rows 0, week 1, found 2, rest 3, row 4, spots 5, offsets 6, low 7, high 8, offset 9, later 10, spot 11 -/
theorem sc_first_falling : FnScope N_first_falling ["rows"] (defScope st_first_falling) := ⟨rfl, rfl, rfl, by decide +kernel, rfl, by decide +kernel, by decide +kernel⟩
abbrev w_first_falling_1 : WS := wIf (wTst (w2 kGt (wVar 9) (w2 kAdd (wVar 10) (wC (.int 1))))) (wAsg 2 (wCall [false, false] c_nearer (wCons (wVar 2) (wCons (wCall [false, false, false, false] c_nearest_between (wCons (wVar 7) (wCons (wVar 8) (wCons (wVar 3) (wCons (wVar 1) (wNil)))))) (wNil))))) (wNext)
abbrev w_first_falling_2 : WS := wFor (wIt (wCall [false, false] c_shared_parts (wCons (wVar 4) (wCons (wTup (wCons (wLc (wIt (wVar 5)) (gNm 11) (wYes) (w2 kSub (wVar 11) (wC (.int 1))) [11]) (wCons (wVar 6) (wNil)))) (wNil))))) (gTp 4 (gsCons (gNm 7) (gsCons (gNm 8) (gsCons (gNm 9) (gsCons (gNm 10) (gsNil)))))) w_first_falling_1
abbrev w_first_falling_3 : WS := wSeq (wUnp (w2 kIdx (wVar 0) (w2 kMod (w2 kAdd (wVar 3) (wC (.int 1))) (wVar 1))) (gTp 2 (gsCons (gNm 5) (gsCons (gNm 6) (gsNil))))) w_first_falling_2
abbrev w_first_falling_4 : WS := wRetF (wVar 2)
abbrev w_first_falling_5 : WS := wSeq (wFor (wEnum (wCons (wVar 0) (wNil))) (gTp 2 (gsCons (gNm 3) (gsCons (gNm 4) (gsNil)))) w_first_falling_3) w_first_falling_4
abbrev w_first_falling_6 : WS := wSeq (wAsg 2 (wC .non)) w_first_falling_5
def w_first_falling : WS :=
  wSeq (wAsg 1 (wB kLen (wCons (wVar 0) (wNil)))) w_first_falling_6
theorem tr_first_falling {Γ : Wd} (T : Tx Γ) (X : Cx) (C : Ctx Γ X N_first_falling (defScope st_first_falling) (fun _ => true) 2) (P : Own X) (dc : DefCx X) : SSs Γ [] X (defBody st_first_falling) w_first_falling :=
  sss_cons (ss_asg C 1 (se_len C (sa_cons (se_var C 0) (sa_nil))))
  (sss_cons (ss_asg C 2 (se_non))
  (sss_cons (ss_for C P (is := [3, 4]) (si_enum C (sa_cons (se_var C 0) (sa_nil))) (sg_tup C (sgs_cons (sg_name C 3) (sgs_cons (sg_name C 4) (sgs_nil)))) (sss_cons (ss_unp (is := [5, 6]) (se_idx C (fun _ _ => rfl) (se_var C 0) (se_mod (se_add (se_var C 3) (se_int)) (se_var C 1))) (sg_tup C (sgs_cons (sg_name C 5) (sgs_cons (sg_name C 6) (sgs_nil)))))
  (sss_one (ss_for C P (is := [7, 8, 9, 10]) (si_seq (se_call C (FnE.mono (ok_shared_parts T) (by decide)) (sa_cons (se_var C 4) (sa_cons (se_tup (sa_cons (se_lc C (own := [("spot", 11)]) (is := [11]) (by decide +kernel) (by decide +kernel) (si_seq (se_var C 5)) (fun _ hX => sg_name hX.1 11) (fun _ hX => sts_nil) (fun _ hX => se_sub (se_var hX.1 11) (se_int))) (sa_cons (se_var C 6) (sa_nil)))) (sa_nil))))) (sg_tup C (sgs_cons (sg_name C 7) (sgs_cons (sg_name C 8) (sgs_cons (sg_name C 9) (sgs_cons (sg_name C 10) (sgs_nil)))))) (sss_one (ss_if (st_gt  (se_var C 9) (se_add (se_var C 10) (se_int))) (sss_one (ss_asg C 2 (se_call C (FnE.mono (ok_nearer T) (by decide)) (sa_cons (se_var C 2) (sa_cons (se_call C (FnE.mono (ok_nearest_between T) (by decide)) (sa_cons (se_var C 7) (sa_cons (se_var C 8) (sa_cons (se_var C 3) (sa_cons (se_var C 1) (sa_nil)))))) (sa_nil)))))) (sss_nil)))))))
  (sss_one (ss_retF (se_var C 2)))))

theorem law_first_falling : LawOf N_first_falling [false] c_first_falling w_first_falling := by
  rintro svs Q E - ⟨b, ms, rfl, R, hq⟩
  have pos := R.pos
  have le := R.le
  show w_first_falling [some (.d (.lst (rowsD b ms))), none, none, none, none, none, none, none, none, none, none, none] _ _
  ((conv => whnf); try dsimp only [List.set_cons_zero, List.set_cons_succ]); rw [rowsD_length]
  refine forL_ind (fun ds ρ => ∃ (i k : Nat) (x : Option Int) (x3 x4 x5 x6 x7 x8 x9 x10 : Option SV), i + k = b.length ∧ ds = enD i ((List.range' i k).map (rowD b.length b ms)) ∧ NearW (fun a => Fall b ms a ∧ a % (b.length : Int) < i) x ∧
    ρ = [some (.d (.lst (rowsD b ms))), some (.d (.int b.length)), some (.d (optI x)), x3, x4, x5, x6, x7, x8, x9, x10, none]) ?_ ?_ _ _ ⟨0, b.length, none, none, none, none, none, none, none, none, none, by omega, rfl, nearW_none fun a h => by have := Int.emod_nonneg a (show (b.length : Int) ≠ 0 by omega); omega, rfl⟩
  · rintro ρ ⟨i, k, x, x3, x4, x5, x6, x7, x8, x9, x10, hik, e, N, rfl⟩
    obtain rfl : k = 0 := by cases k with
      | zero => rfl
      | succ k => rw [List.range'_succ] at e; cases e
    ((conv => whnf); try dsimp only [List.set_cons_zero, List.set_cons_succ]); exact hq x (N.congr fun a => ⟨(·.1), fun h => ⟨h, by have := Int.emod_lt_of_pos a (show (0 : Int) < b.length by omega); omega⟩⟩)
  · rintro d ds ρ ⟨i, k, x, x3, x4, x5, x6, x7, x8, x9, x10, hik, e, N, rfl⟩ ih
    cases k with
    | zero => cases e
    | succ k =>
      rw [List.range'_succ, List.map_cons] at e
      cases e
      have R1 := R.row i
      have R2 := R.row (nxR b.length i)
      have en : ((nxR b.length i : Nat) : Int) = ((i : Int) + 1) % (b.length : Int) := by unfold nxR; simp
      have er := at_rows (b := b) (ms := ms) (r := nxR b.length i) (Nat.mod_lt _ pos)
      rw [en] at er
      ((conv => whnf); try dsimp only [List.set_cons_zero, List.set_cons_succ]); refine ⟨rfl, ?_⟩
      ((conv => whnf); try dsimp only [List.set_cons_zero, List.set_cons_succ]); refine ⟨by omega, ?_⟩
      ((conv => whnf); try dsimp only [List.set_cons_zero, List.set_cons_succ]); refine ⟨_, er, ?_⟩
      ((conv => whnf); try dsimp only [List.set_cons_zero, List.set_cons_succ]); refine ⟨rfl, ?_⟩
      ((conv => whnf); try dsimp only [List.set_cons_zero, List.set_cons_succ])
      refine compL_ind (fun ds acc ρ => ∃ (as rs : List Int), spotR b ms (nxR b.length i) = as ++ rs ∧ ds = rs.map D.int ∧ acc = (as.map fun x => x - 1).map D.int ∧ ρ = [some (.d (.lst (rowsD b ms))), some (.d (.int b.length)), some (.d (optI x)), some (.d (.int i)), some (.d (rowT (spotR b ms i) (offsR b ms i))), some (.d (.lst ((spotR b ms (nxR b.length i)).map D.int))), some (.d (.lst ((offsR b ms (nxR b.length i)).map D.int))), x7, x8, x9, x10, none]) ?_ ?_ _ _ _ ⟨[], spotR b ms (nxR b.length i), rfl, rfl, rfl, rfl⟩
      · rintro acc ρ ⟨as, rs, e1, e2, rfl, rfl⟩
        obtain rfl : rs = [] := by cases rs with
          | nil => rfl
          | cons _ _ => cases e2
        rw [List.append_nil] at e1
        rw [← e1]
        ((conv => whnf); try dsimp only [List.set_cons_zero, List.set_cons_succ]); refine ⟨few3 (by show 2 ≤ 1000; decide), ?_⟩
        ((conv => whnf); try dsimp only [List.set_cons_zero, List.set_cons_succ]); refine ⟨spotR b ms i, offsR b ms i, (spotR b ms (nxR b.length i)).map fun x => x - 1, offsR b ms (nxR b.length i), rfl, R1, R2.back, ?_⟩
        refine forL_ind (fun ds ρ => ∃ (as rs : List (Option Int × Option Int × Int × Int)) (x : Option Int) (x7 x8 x9 x10 : Option SV), fallP b ms i = as ++ rs ∧ ds = rs.map partD ∧ NearW (fun a => (Fall b ms a ∧ a % (b.length : Int) < i) ∨ ∃ p ∈ as, InP p.1 p.2.1 i b.length a ∧ p.2.2.2 + 1 < p.2.2.1) x ∧
          ρ = [some (.d (.lst (rowsD b ms))), some (.d (.int b.length)), some (.d (optI x)), some (.d (.int i)), some (.d (rowT (spotR b ms i) (offsR b ms i))), some (.d (.lst ((spotR b ms (nxR b.length i)).map D.int))), some (.d (.lst ((offsR b ms (nxR b.length i)).map D.int))), x7, x8, x9, x10, none]) ?_ ?_ _ _ ⟨[], fallP b ms i, x, x7, x8, x9, x10, rfl, rfl, N.congr fun a => ⟨.inl, fun h => h.elim id fun ⟨p, hp, _⟩ => (nomatch hp)⟩, rfl⟩
        · rintro ρ ⟨as, rs, x, x7, x8, x9, x10, e1, e2, N2, rfl⟩
          obtain rfl : rs = [] := by cases rs with
            | nil => rfl
            | cons _ _ => cases e2
          rw [List.append_nil] at e1
          rw [← e1] at N2
          refine ⟨_, Fgt.refl _, ih _ ⟨i + 1, k, x, _, _, _, _, _, _, _, _, by omega, rfl, N2.congr fun a => ?_, rfl⟩⟩
          rw [fall_iff R (by omega)]
          constructor
          · rintro (⟨h1, h2⟩ | ⟨h1, h2⟩)
            · exact ⟨h1, by omega⟩
            · exact ⟨h1, by omega⟩
          · rintro ⟨h1, h2⟩
            by_cases c : a % (b.length : Int) < i
            · exact .inl ⟨h1, c⟩
            · exact .inr ⟨h1, by omega⟩
        · rintro d ds ρ ⟨as, rs, x, x7, x8, x9, x10, e1, e2, N2, rfl⟩ ih2
          cases rs with
          | nil => cases e2
          | cons q rs =>
            cases e2
            obtain ⟨lo, hi, v1, v2⟩ := q
            ((conv => whnf); try dsimp only [List.set_cons_zero, List.set_cons_succ]); refine ⟨rfl, ?_⟩
            ((conv => whnf); try dsimp only [List.set_cons_zero, List.set_cons_succ]); refine Br.of (fun c => ?_) (fun c => ?_)
            · have c' : v2 + 1 < v1 := c
              ((conv => whnf); try dsimp only [List.set_cons_zero, List.set_cons_succ]); refine ⟨lo, hi, i, b.length, rfl, by omega, by omega, by omega, fun y hy => ?_⟩
              ((conv => whnf); try dsimp only [List.set_cons_zero, List.set_cons_succ]); refine ⟨x, y, rfl, ?_⟩
              refine ⟨_, Fgt.refl _, ih2 _ ⟨as ++ [(lo, hi, v1, v2)], rs, nearF x y, _, _, _, _, by rw [e1]; simp, rfl, (N2.or hy).congr fun a => ?_, rfl⟩⟩
              constructor
              · rintro ((h | ⟨p, hp, h⟩) | h)
                · exact .inl h
                · exact .inr ⟨p, by simp [hp], h⟩
                · exact .inr ⟨(lo, hi, v1, v2), by simp, h, c'⟩
              · rintro (h | ⟨p, hp, h⟩)
                · exact .inl (.inl h)
                · rcases List.mem_append.mp hp with q | q
                  · exact .inl (.inr ⟨p, q, h⟩)
                  · simp only [List.mem_singleton] at q; subst q; exact .inr h.1
            · have c' : ¬ v2 + 1 < v1 := c
              refine ⟨_, Fgt.refl _, ih2 _ ⟨as ++ [(lo, hi, v1, v2)], rs, x, _, _, _, _, by rw [e1]; simp, rfl, N2.congr fun a => ?_, rfl⟩⟩
              constructor
              · rintro (h | ⟨p, hp, h⟩)
                · exact .inl h
                · exact .inr ⟨p, by simp [hp], h⟩
              · rintro (h | ⟨p, hp, h⟩)
                · exact .inl h
                · rcases List.mem_append.mp hp with q | q
                  · exact .inr ⟨p, q, h⟩
                  · simp only [List.mem_singleton] at q; subst q; exact absurd h.2 c'
      · rintro d ds acc ρ ⟨as, rs, e1, e2, rfl, rfl⟩ ih2
        cases rs with
        | nil => cases e2
        | cons u rs =>
          cases e2
          have la : as.length ≤ (spotR b ms (nxR b.length i)).length := by rw [e1]; simp
          have lf := R2.few
          ((conv => whnf); try dsimp only [List.set_cons_zero, List.set_cons_succ]); refine Br.tt ?_
          ((conv => whnf); try dsimp only [List.set_cons_zero, List.set_cons_succ]); refine ⟨by simp; omega, ?_⟩
          exact ih2 _ _ ⟨as ++ [u], rs, by rw [e1]; simp, rfl, by simp, rfl⟩
theorem ok_first_falling {Γ : Wd} (T : Tx Γ) : FnE Γ 3 "first_falling" [false] c_first_falling :=
  fnE_of T.d_first_falling sc_first_falling (by intro _ _ _ _ _ _ _ _ us hl; exact match us, hl with | [_], _ => rfl) T.bn rfl (tr_first_falling T) law_first_falling


/-! the least and the greatest offset -/
def minI : List Int → Int
  | [] => 0
  | [x] => x
  | x :: y :: ys => let m := minI (y :: ys); if x < m then x else m
def maxI : List Int → Int
  | [] => 0
  | [x] => x
  | x :: y :: ys => let m := maxI (y :: ys); if m < x then x else m
theorem minI_ok : ∀ {xs : List Int}, xs ≠ [] → minI xs ∈ xs ∧ ∀ y ∈ xs, minI xs ≤ y
  | [], h => absurd rfl h
  | [x], _ => ⟨by simp [minI], fun y hy => by simp at hy; subst hy; exact Int.le_refl _⟩
  | x :: y :: ys, _ => by
    obtain ⟨h1, h2⟩ := minI_ok (xs := y :: ys) (by simp)
    show (if x < minI (y :: ys) then x else minI (y :: ys)) ∈ _ ∧ ∀ z ∈ _, (if x < minI (y :: ys) then x else minI (y :: ys)) ≤ z
    split
    · refine ⟨by simp, fun z hz => ?_⟩
      rcases List.mem_cons.mp hz with e | e
      · omega
      · have := h2 z e; omega
    · refine ⟨List.mem_cons_of_mem _ h1, fun z hz => ?_⟩
      rcases List.mem_cons.mp hz with e | e
      · omega
      · exact h2 z e
theorem maxI_ok : ∀ {xs : List Int}, xs ≠ [] → maxI xs ∈ xs ∧ ∀ y ∈ xs, y ≤ maxI xs
  | [], h => absurd rfl h
  | [x], _ => ⟨by simp [maxI], fun y hy => by simp at hy; subst hy; exact Int.le_refl _⟩
  | x :: y :: ys, _ => by
    obtain ⟨h1, h2⟩ := maxI_ok (xs := y :: ys) (by simp)
    show (if maxI (y :: ys) < x then x else maxI (y :: ys)) ∈ _ ∧ ∀ z ∈ _, z ≤ (if maxI (y :: ys) < x then x else maxI (y :: ys))
    split
    · refine ⟨by simp, fun z hz => ?_⟩
      rcases List.mem_cons.mp hz with e | e
      · omega
      · have := h2 z e; omega
    · refine ⟨List.mem_cons_of_mem _ h1, fun z hz => ?_⟩
      rcases List.mem_cons.mp hz with e | e
      · omega
      · exact h2 z e
/-- all offsets -/
def allO (b : List Int) (ms : List (Int × Int)) : List Int := b ++ ms.map Prod.snd
theorem mem_allO {b : List Int} {ms : List (Int × Int)} (hb : 0 < b.length) (y : Int) : y ∈ allO b ms ↔ ∃ r < b.length, y ∈ offsR b ms r := by
  unfold allO offsR
  constructor
  · intro h
    rcases List.mem_append.mp h with e | e
    · obtain ⟨r, hr, rfl⟩ := List.getElem_of_mem e
      exact ⟨r, hr, by rw [List.getElem?_eq_getElem hr]; simp⟩
    · obtain ⟨m, hm, rfl⟩ := List.mem_map.mp e
      have m0 := Int.emod_nonneg m.1 (show (b.length : Int) ≠ 0 by omega)
      have m1 := Int.emod_lt_of_pos m.1 (show (0 : Int) < b.length by omega)
      refine ⟨(m.1 % (b.length : Int)).toNat, by omega, List.mem_cons_of_mem _ (List.mem_map_of_mem (List.mem_filter.mpr ⟨hm, ?_⟩))⟩
      simp only [decide_eq_true_eq]; omega
  · rintro ⟨r, hr, h⟩
    rcases List.mem_cons.mp h with e | e
    · rw [List.getElem?_eq_getElem hr] at e
      exact List.mem_append.mpr (.inl (by rw [e]; exact List.getElem_mem hr))
    · obtain ⟨m, hm, rfl⟩ := List.mem_map.mp e
      exact List.mem_append.mpr (.inr (List.mem_map_of_mem (List.mem_filter.mp hm).1))
def c_extent_of : Con := fun svs Q _ => ∃ (b : List Int) (ms : List (Int × Int)), svs = [.d (.lst (rowsD b ms))] ∧ Rw b ms ∧ Q (.d (.tup [.int (minI (allO b ms)), .int (maxI (allO b ms))])) svs
/-! extent_of: rows 0, least 1, spots 2, offsets 3 -/
theorem sc_extent_of : FnScope N_extent_of ["rows"] (defScope st_extent_of) := ⟨rfl, rfl, rfl, by decide +kernel, rfl, by decide +kernel, by decide +kernel⟩
abbrev w_extent_of_1 : WS := wRetF (wTup (wCons (wVar 1) (wCons (wB kMax (wCons (wLc (wIt (wVar 0)) (gTp 2 (gsCons (gNm 2) (gsCons (gNm 3) (gsNil)))) (wYes) (wB kMax (wCons (wVar 3) (wNil))) [2, 3]) (wNil))) (wNil))))
def w_extent_of : WS :=
  wSeq (wAsg 1 (wB kMin (wCons (wLc (wIt (wVar 0)) (gTp 2 (gsCons (gNm 2) (gsCons (gNm 3) (gsNil)))) (wYes) (wB kMin (wCons (wVar 3) (wNil))) [2, 3]) (wNil)))) w_extent_of_1
theorem tr_extent_of {Γ : Wd} (T : Tx Γ) (X : Cx) (C : Ctx Γ X N_extent_of (defScope st_extent_of) (fun _ => true) 0) (P : Own X) (dc : DefCx X) : SSs Γ [] X (defBody st_extent_of) w_extent_of :=
  sss_cons (ss_asg C 1 (se_min C (sa_cons (se_lc C (own := [("spots", 2), ("offsets", 3)]) (is := [2, 3]) (by decide +kernel) (by decide +kernel) (si_seq (se_var C 0)) (fun _ hX => sg_tup hX.1 (sgs_cons (sg_name hX.1 2) (sgs_cons (sg_name hX.1 3) (sgs_nil)))) (fun _ hX => sts_nil) (fun _ hX => se_min hX.1 (sa_cons (se_var hX.1 3) (sa_nil)))) (sa_nil))))
  (sss_one (ss_retF (se_tup (sa_cons (se_var C 1) (sa_cons (se_max C (sa_cons (se_lc C (own := [("spots", 2), ("offsets", 3)]) (is := [2, 3]) (by decide +kernel) (by decide +kernel) (si_seq (se_var C 0)) (fun _ hX => sg_tup hX.1 (sgs_cons (sg_name hX.1 2) (sgs_cons (sg_name hX.1 3) (sgs_nil)))) (fun _ hX => sts_nil) (fun _ hX => se_max hX.1 (sa_cons (se_var hX.1 3) (sa_nil)))) (sa_nil))) (sa_nil))))))

theorem law_extent_of : LawOf N_extent_of [false] c_extent_of w_extent_of := by
  rintro svs Q E - ⟨b, ms, rfl, R, hq⟩
  have pos := R.pos
  have le := R.le
  have ne : allO b ms ≠ [] := fun z => by
    have := congrArg List.length z
    unfold allO at this
    simp at this
    rw [this.1] at pos; simp at pos
  ((conv => whnf); try dsimp only [List.set_cons_zero, List.set_cons_succ])
  refine compL_ind (fun ds acc ρ => ∃ (i k : Nat) (xs : List Int), i + k = b.length ∧ xs.length = i ∧ ds = (List.range' i k).map (rowD b.length b ms) ∧ acc = xs.map D.int ∧ (∀ x ∈ xs, x ∈ allO b ms) ∧ (∀ r < i, ∀ y ∈ offsR b ms r, ∃ x ∈ xs, x ≤ y) ∧ ρ = [some (.d (.lst (rowsD b ms))), none, none, none]) ?_ ?_ _ _ _ ⟨0, b.length, [], by omega, rfl, rfl, rfl, fun x hx => (nomatch hx), fun r hr => absurd hr (Nat.not_lt_zero _), rfl⟩
  · rintro acc ρ ⟨i, k, xs, hik, hl, e, rfl, sub, low, rfl⟩
    obtain rfl : k = 0 := by cases k with
      | zero => rfl
      | succ k => rw [List.range'_succ] at e; cases e
    obtain rfl : i = b.length := by omega
    ((conv => whnf); try dsimp only [List.set_cons_zero, List.set_cons_succ]); refine ⟨xs, rfl, by omega, fun m hm mx => ?_⟩
    have em : m = minI (allO b ms) := by
      have h1 := (minI_ok ne).2 m (sub m hm)
      obtain ⟨r, hr, hy⟩ := (mem_allO pos _).mp (minI_ok ne).1
      obtain ⟨x, hx, xl⟩ := low r hr _ hy
      have := mx x hx
      omega
    subst em
    clear sub low hm mx hl e hik
    ((conv => whnf); try dsimp only [List.set_cons_zero, List.set_cons_succ])
    refine compL_ind (fun ds acc ρ => ∃ (i k : Nat) (xs : List Int), i + k = b.length ∧ xs.length = i ∧ ds = (List.range' i k).map (rowD b.length b ms) ∧ acc = xs.map D.int ∧ (∀ x ∈ xs, x ∈ allO b ms) ∧ (∀ r < i, ∀ y ∈ offsR b ms r, ∃ x ∈ xs, y ≤ x) ∧ ρ = [some (.d (.lst (rowsD b ms))), some (.d (.int (minI (allO b ms)))), none, none]) ?_ ?_ _ _ _ ⟨0, b.length, [], by omega, rfl, rfl, rfl, fun x hx => (nomatch hx), fun r hr => absurd hr (Nat.not_lt_zero _), rfl⟩
    · rintro acc ρ ⟨i, k, xs, hik, hl, e, rfl, sub, low, rfl⟩
      obtain rfl : k = 0 := by cases k with
        | zero => rfl
        | succ k => rw [List.range'_succ] at e; cases e
      obtain rfl : i = b.length := by omega
      ((conv => whnf); try dsimp only [List.set_cons_zero, List.set_cons_succ]); refine ⟨xs, rfl, by omega, fun m hm mx => ?_⟩
      have em : m = maxI (allO b ms) := by
        have h1 := (maxI_ok ne).2 m (sub m hm)
        obtain ⟨r, hr, hy⟩ := (mem_allO pos _).mp (maxI_ok ne).1
        obtain ⟨x, hx, xl⟩ := low r hr _ hy
        have := mx x hx
        omega
      subst em
      ((conv => whnf); try dsimp only [List.set_cons_zero, List.set_cons_succ]); refine ⟨few3 (by show 2 ≤ 1000; decide), ?_⟩
      ((conv => whnf); try dsimp only [List.set_cons_zero, List.set_cons_succ]); exact hq
    · rintro d ds acc ρ ⟨i, k, xs, hik, hl, e, rfl, sub, low, rfl⟩ ih
      cases k with
      | zero => cases e
      | succ k =>
        rw [List.range'_succ, List.map_cons] at e
        cases e
        ((conv => whnf); try dsimp only [List.set_cons_zero, List.set_cons_succ]); refine ⟨rfl, ?_⟩
        ((conv => whnf); try dsimp only [List.set_cons_zero, List.set_cons_succ]); refine Br.tt ?_
        ((conv => whnf); try dsimp only [List.set_cons_zero, List.set_cons_succ]); refine ⟨offsR b ms i, rfl, by unfold offsR; simp, fun m hm mx => ?_⟩
        ((conv => whnf); try dsimp only [List.set_cons_zero, List.set_cons_succ]); refine ⟨by simp; omega, ?_⟩
        refine ih _ _ ⟨i + 1, k, xs ++ [m], by omega, by simp [hl], rfl, by simp, fun x hx => ?_, fun r hr y hy => ?_, rfl⟩
        · rcases List.mem_append.mp hx with q | q
          · exact sub x q
          · simp at q; subst q; exact (mem_allO pos _).mpr ⟨i, by omega, hm⟩
        · by_cases c : r < i
          · obtain ⟨x, hx, xl⟩ := low r c y hy
            exact ⟨x, by simp [hx], xl⟩
          · obtain rfl : r = i := by omega
            exact ⟨m, by simp, mx y hy⟩
  · rintro d ds acc ρ ⟨i, k, xs, hik, hl, e, rfl, sub, low, rfl⟩ ih
    cases k with
    | zero => cases e
    | succ k =>
      rw [List.range'_succ, List.map_cons] at e
      cases e
      ((conv => whnf); try dsimp only [List.set_cons_zero, List.set_cons_succ]); refine ⟨rfl, ?_⟩
      ((conv => whnf); try dsimp only [List.set_cons_zero, List.set_cons_succ]); refine Br.tt ?_
      ((conv => whnf); try dsimp only [List.set_cons_zero, List.set_cons_succ]); refine ⟨offsR b ms i, rfl, by unfold offsR; simp, fun m hm mx => ?_⟩
      ((conv => whnf); try dsimp only [List.set_cons_zero, List.set_cons_succ]); refine ⟨by simp; omega, ?_⟩
      refine ih _ _ ⟨i + 1, k, xs ++ [m], by omega, by simp [hl], rfl, by simp, fun x hx => ?_, fun r hr y hy => ?_, rfl⟩
      · rcases List.mem_append.mp hx with q | q
        · exact sub x q
        · simp at q; subst q; exact (mem_allO pos _).mpr ⟨i, by omega, hm⟩
      · by_cases c : r < i
        · obtain ⟨x, hx, xl⟩ := low r c y hy
          exact ⟨x, by simp [hx], xl⟩
        · obtain rfl : r = i := by omega
          exact ⟨m, by simp, mx y hy⟩
theorem ok_extent_of {Γ : Wd} (T : Tx Γ) : FnE Γ 1 "extent_of" [false] c_extent_of :=
  fnE_of T.d_extent_of sc_extent_of (by intro _ _ _ _ _ _ _ _ us hl; exact match us, hl with | [_], _ => rfl) T.bn rfl (tr_extent_of T) law_extent_of


def ruleFs (b : List Int) (ms : List (Int × Int)) : List D := [.tup (b.map D.int), .tup ((normF b ms).map mkP), .lst (rowsD b (normF b ms)), .tup [.int (minI (allO b (normF b ms))), .int (maxI (allO b (normF b ms)))]]
def ruleD (b : List Int) (ms : List (Int × Int)) : D := .obj 0 (ruleFs b ms)
theorem Rw.norm {b : List Int} {ms : List (Int × Int)} (R : Rw b ms) : Rw b (normF b ms) := ⟨R.pos, R.le, norm_asc R.up, Nat.le_trans (norm_len b ms) R.few⟩
theorem valF_norm {b : List Int} {ms : List (Int × Int)} (R : Rw b ms) (a : Int) : valF b (normF b ms) a = valF b ms a := by
  unfold valF
  rw [offF_norm R.pos R.up]
def c_Rule_init : Con := fun svs Q _ => ∃ (b : List Int) (ms : List (Int × Int)), svs = [.ins 0 [], .d (.lst (b.map D.int)), .d (.lst (ms.map mkP))] ∧ Rw b ms ∧ (∀ a, ¬ Fall b ms a) ∧ Q (.d .non) [.ins 0 ((ruleFs b ms).map SV.d), .d (.lst (b.map D.int)), .d (.lst (ms.map mkP))]
/-! Rule.__init__: self 0, base 1, changes 2, index 3, change 4, normal 5, rows 6, falling 7 -/
theorem sc_Rule_init : FnScope N_Rule_init ["self", "base", "changes"] (defScope st_Rule_init) := ⟨rfl, rfl, rfl, by decide +kernel, rfl, by decide +kernel, by decide +kernel⟩
abbrev w_Rule_init_1 : WS := wIf (wAndT (wTst (w2 kGt (wVar 3) (wC (.int 0)))) (wTst (w2 kLe (w2 kIdx (wVar 4) (wC (.int 0))) (w2 kIdx (w2 kIdx (wVar 2) (w2 kSub (wVar 3) (wC (.int 1)))) (wC (.int 0)))))) (wBad) (wNext)
abbrev w_Rule_init_2 : WS := wFldS 0 0 3 (wCall [false] c_extent_of (wCons (wVar 6) (wNil)))
abbrev w_Rule_init_3 : WS := wSeq (wFldS 0 0 2 (wVar 6)) w_Rule_init_2
abbrev w_Rule_init_4 : WS := wSeq (wFldS 0 0 1 (wB kTuple (wCons (wVar 5) (wNil)))) w_Rule_init_3
abbrev w_Rule_init_5 : WS := wSeq (wFldS 0 0 0 (wB kTuple (wCons (wVar 1) (wNil)))) w_Rule_init_4
abbrev w_Rule_init_6 : WS := wSeq (wIf (wTst (w2 (kIs true) (wVar 7) (wC .non))) (wBad) (wNext)) w_Rule_init_5
abbrev w_Rule_init_7 : WS := wSeq (wAsg 7 (wCall [false] c_first_falling (wCons (wVar 6) (wNil)))) w_Rule_init_6
abbrev w_Rule_init_8 : WS := wSeq (wAsg 6 (wCall [false, false] c_rows_of (wCons (wVar 1) (wCons (wVar 5) (wNil))))) w_Rule_init_7
abbrev w_Rule_init_9 : WS := wSeq (wAsg 5 (wCall [false, false] c_normal_changes (wCons (wVar 1) (wCons (wVar 2) (wNil))))) w_Rule_init_8
abbrev w_Rule_init_10 : WS := wSeq (wFor (wEnum (wCons (wVar 2) (wNil))) (gTp 2 (gsCons (gNm 3) (gsCons (gNm 4) (gsNil)))) w_Rule_init_1) w_Rule_init_9
def w_Rule_init : WS :=
  wSeq (wIf (wNotT (wTst (wChain gLe gLe (wC (.int 1)) (wB kLen (wCons (wVar 1) (wNil))) (wC (.int 12))))) (wBad) (wNext)) w_Rule_init_10
theorem tr_Rule_init {Γ : Wd} (T : Tx Γ) (X : Cx) (C : Ctx Γ X N_Rule_init (defScope st_Rule_init) (fun _ => true) 3) (P : Own X) (dc : DefCx X) : SSs Γ [0] X (defBody st_Rule_init) w_Rule_init :=
  sss_cons (ss_if (st_not (st_chain op_leB op_leB (se_int) (se_len C (sa_cons (se_var C 1) (sa_nil))) (se_gintE C rfl T.c_MOST_WEEK))) (sss_one (ss_bad)) (sss_nil))
  (sss_cons (ss_for C P (is := [3, 4]) (si_enum C (sa_cons (se_var C 2) (sa_nil))) (sg_tup C (sgs_cons (sg_name C 3) (sgs_cons (sg_name C 4) (sgs_nil)))) (sss_one (ss_if (SW.st (sw_and (st_gt  (se_var C 3) (se_int)) (sw_and1 (st_le  (se_idx C (fun _ _ => rfl) (se_var C 4) (se_int)) (se_idx C (fun _ _ => rfl) (se_idx C (fun _ _ => rfl) (se_var C 2) (se_sub (se_var C 3) (se_int))) (se_int)))))) (sss_one (ss_bad)) (sss_nil))))
  (sss_cons (ss_asg C 5 (se_call C (FnE.mono (ok_normal_changes T) (by decide)) (sa_cons (se_var C 1) (sa_cons (se_var C 2) (sa_nil)))))
  (sss_cons (ss_asg C 6 (se_call C (FnE.mono (ok_rows_of T) (by decide)) (sa_cons (se_var C 1) (sa_cons (se_var C 5) (sa_nil)))))
  (sss_cons (ss_asg C 7 (se_call C (FnE.mono (ok_first_falling T) (by decide)) (sa_cons (se_var C 6) (sa_nil))))
  (sss_cons (ss_if (st_isnot  (se_var C 7) (se_non)) (sss_one (ss_bad)) (sss_nil))
  (sss_cons (ss_flds C 0 T.K_0 (by rw [T.F_0]; rfl) (se_tuplec C (sa_cons (se_var C 1) (sa_nil))))
  (sss_cons (ss_flds C 0 T.K_0 (by rw [T.F_0]; rfl) (se_tuplec C (sa_cons (se_var C 5) (sa_nil))))
  (sss_cons (ss_flds C 0 T.K_0 (by rw [T.F_0]; rfl) (se_var C 6))
  (sss_one (ss_flds C 0 T.K_0 (by rw [T.F_0]; rfl) (se_call C (FnE.mono (ok_extent_of T) (by decide)) (sa_cons (se_var C 6) (sa_nil)))))))))))))

theorem law_Rule_init : LawOf N_Rule_init [true, false, false] c_Rule_init w_Rule_init := by
  rintro svs Q E - ⟨b, ms, rfl, R, nf, hq⟩
  have lenB : (((b.map D.int).length : Nat) : Int) = b.length := by rw [List.length_map]
  have pos := R.pos
  have le := R.le
  show w_Rule_init [some (.ins 0 []), some (.d (.lst (b.map D.int))), some (.d (.lst (ms.map mkP))), none, none, none, none, none] _ _
  ((conv => whnf); try dsimp only [List.set_cons_zero, List.set_cons_succ]); rw [lenB]
  refine Br.of (fun _ => ?_) (fun h => absurd (show (1 : Int) ≤ b.length by omega) h)
  ((conv => whnf); try dsimp only [List.set_cons_zero, List.set_cons_succ])
  refine Br.ofN (fun h => absurd (show (b.length : Int) ≤ 12 by omega) h) (fun _ => ?_)
  ((conv => whnf); try dsimp only [List.set_cons_zero, List.set_cons_succ])
  refine forL_ind (fun ds ρ => ∃ (as rs : List (Int × Int)) (x3 x4 : Option SV), ms = as ++ rs ∧ ds = enD as.length (rs.map mkP) ∧ ρ = [some (.ins 0 []), some (.d (.lst (b.map D.int))), some (.d (.lst (ms.map mkP))), x3, x4, none, none, none]) ?_ ?_ _ _ ⟨[], ms, none, none, rfl, rfl, rfl⟩
  · rintro ρ ⟨as, rs, x3, x4, e, e2, rfl⟩
    ((conv => whnf); try dsimp only [List.set_cons_zero, List.set_cons_succ]); refine ⟨b, ms, rfl, R, ?_⟩
    ((conv => whnf); try dsimp only [List.set_cons_zero, List.set_cons_succ]); refine ⟨b, normF b ms, rfl, R.norm, ?_⟩
    ((conv => whnf); try dsimp only [List.set_cons_zero, List.set_cons_succ]); refine ⟨b, normF b ms, rfl, R.norm, fun x hx => ?_⟩
    have ex : x = none := hx.uniq (nearW_none fun a h => nf a (by unfold Fall at h ⊢; rw [valF_norm R, valF_norm R] at h; exact h))
    subst ex
    ((conv => whnf); try dsimp only [List.set_cons_zero, List.set_cons_succ]); refine Br.ff ?_
    ((conv => whnf); try dsimp only [List.set_cons_zero, List.set_cons_succ]); refine ⟨rfl, ?_⟩
    ((conv => whnf); try dsimp only [List.set_cons_zero, List.set_cons_succ]); refine ⟨.inl rfl, ?_⟩
    ((conv => whnf); try dsimp only [List.set_cons_zero, List.set_cons_succ]); refine ⟨rfl, ?_⟩
    ((conv => whnf); try dsimp only [List.set_cons_zero, List.set_cons_succ]); refine ⟨.inl rfl, ?_⟩
    ((conv => whnf); try dsimp only [List.set_cons_zero, List.set_cons_succ]); refine ⟨rfl, ?_⟩
    ((conv => whnf); try dsimp only [List.set_cons_zero, List.set_cons_succ]); refine ⟨.inl rfl, ?_⟩
    ((conv => whnf); try dsimp only [List.set_cons_zero, List.set_cons_succ]); refine ⟨b, normF b ms, rfl, R.norm, ?_⟩
    ((conv => whnf); try dsimp only [List.set_cons_zero, List.set_cons_succ]); refine ⟨rfl, ?_⟩
    ((conv => whnf); try dsimp only [List.set_cons_zero, List.set_cons_succ]); refine ⟨.inl rfl, ?_⟩
    ((conv => whnf); try dsimp only [List.set_cons_zero, List.set_cons_succ]); exact hq
  · rintro d ds ρ ⟨as, rs, x3, x4, e, e2, rfl⟩ ih
    cases rs with
    | nil => cases e2
    | cons r rs =>
      cases e2
      have done : forL (gTp 2 (gsCons (gNm 3) (gsCons (gNm 4) gsNil))) w_Rule_init_1 (enD (as.length + 1) (rs.map mkP)) [some (.ins 0 []), some (.d (.lst (b.map D.int))), some (.d (.lst (ms.map mkP))), some (.d (.int as.length)), some (.d (mkP r)), none, none, none] ⟨fun ρ1 => w_Rule_init_9 ρ1 (endsOf [true, false, false] [.ins 0 [], .d (.lst (b.map D.int)), .d (.lst (ms.map mkP))] Q) (errsOf [true, false, false] [.ins 0 [], .d (.lst (b.map D.int)), .d (.lst (ms.map mkP))] E), (endsOf [true, false, false] [.ins 0 [], .d (.lst (b.map D.int)), .d (.lst (ms.map mkP))] Q).rt, (endsOf [true, false, false] [.ins 0 [], .d (.lst (b.map D.int)), .d (.lst (ms.map mkP))] Q).bk, (endsOf [true, false, false] [.ins 0 [], .d (.lst (b.map D.int)), .d (.lst (ms.map mkP))] Q).ct⟩ (errsOf [true, false, false] [.ins 0 [], .d (.lst (b.map D.int)), .d (.lst (ms.map mkP))] E) :=
        ih _ ⟨as ++ [r], rs, _, _, by rw [e]; simp, by simp, rfl⟩
      ((conv => whnf); try dsimp only [List.set_cons_zero, List.set_cons_succ]); refine ⟨rfl, ?_⟩
      ((conv => whnf); try dsimp only [List.set_cons_zero, List.set_cons_succ]); refine Br.of (fun h => ?_) (fun h => ?_)
      · have h0 : (0 : Int) < as.length := h
        have hi : as.length - 1 < as.length := by omega
        have q : atI (ms.map mkP) ((as.length : Int) - 1) = some (mkP (as[as.length - 1]'hi)) := by
          refine at_nat (by omega) ?_
          rw [show ((as.length : Int) - 1).toNat = as.length - 1 by omega, e, List.map_append, List.getElem?_append_left (by simp; omega), List.getElem?_map, List.getElem?_eq_getElem hi]
          rfl
        ((conv => whnf); try dsimp only [List.set_cons_zero, List.set_cons_succ]); refine ⟨_, at0, ?_⟩
        ((conv => whnf); try dsimp only [List.set_cons_zero, List.set_cons_succ]); refine ⟨_, q, ?_⟩
        ((conv => whnf); try dsimp only [List.set_cons_zero, List.set_cons_succ]); refine ⟨_, at0, ?_⟩
        ((conv => whnf); try dsimp only [List.set_cons_zero, List.set_cons_succ]); refine Br.of (fun h2 => ?_) (fun _ => ?_)
        · exfalso
          have h2' : r.1 ≤ (as[as.length - 1]'hi).1 := h2
          have up := R.up
          rw [e] at up
          have := (List.pairwise_append.mp up).2.2 _ (List.getElem_mem hi) r (by simp)
          omega
        · exact ⟨_, Fgt.refl _, done⟩
      · ((conv => whnf); try dsimp only [List.set_cons_zero, List.set_cons_succ]); exact Br.ff ⟨_, Fgt.refl _, done⟩
theorem ok_Rule_init {Γ : Wd} (T : Tx Γ) : MkE Γ 4 0 "Rule" [false, false] c_Rule_init :=
  mkE_of T.d_Rule_init sc_Rule_init (by intro _ _ _ _ _ _ _ _ us hl; exact match us, hl with | [_, _, _], _ => rfl) T.bn rfl (tr_Rule_init T) law_Rule_init

def c_Rule_week : Con := fun svs Q _ => ∃ (b : List Int) (ms : List (Int × Int)), svs = [.d (ruleD b ms)] ∧ Q (.d (.int b.length)) svs
/-! Rule.week: self 0 -/
theorem sc_Rule_week : FnScope N_Rule_week ["self"] (defScope st_Rule_week) := ⟨rfl, rfl, rfl, by decide +kernel, rfl, by decide +kernel, by decide +kernel⟩
def w_Rule_week : WS :=
  wRetF (wB kLen (wCons (wFld 0 0 (wVar 0)) (wNil)))
theorem tr_Rule_week {Γ : Wd} (T : Tx Γ) (X : Cx) (C : Ctx Γ X N_Rule_week (defScope st_Rule_week) (fun _ => true) 0) (P : Own X) (dc : DefCx X) : SSs Γ [] X (defBody st_Rule_week) w_Rule_week :=
  sss_one (ss_retF (se_len C (sa_cons (se_fld C T.K_0 (by rw [T.F_0]; rfl) (se_var C 0)) (sa_nil))))

theorem law_Rule_week : LawOf N_Rule_week [false] c_Rule_week w_Rule_week := by
  rintro svs Q E - ⟨b, ms, rfl, hq⟩
  have lenB : (((b.map D.int).length : Nat) : Int) = b.length := by rw [List.length_map]
  ((conv => whnf); try dsimp only [List.set_cons_zero, List.set_cons_succ]); refine ⟨rfl, ?_⟩
  ((conv => whnf); try dsimp only [List.set_cons_zero, List.set_cons_succ]); rw [lenB]; exact hq
theorem ok_Rule_week {Γ : Wd} (T : Tx Γ) : PrE Γ 1 0 "week" [false] c_Rule_week :=
  prE_of T.d_Rule_week sc_Rule_week (by intro _ _ _ _ _ _ _ _ us hl; exact match us, hl with | [_], _ => rfl) T.bn rfl (tr_Rule_week T) law_Rule_week

def c_Rule_base : Con := fun svs Q _ => ∃ (b : List Int) (ms : List (Int × Int)), svs = [.d (ruleD b ms)] ∧ Q (.lst (b.map D.int)) svs
/-! Rule.base: self 0 -/
theorem sc_Rule_base : FnScope N_Rule_base ["self"] (defScope st_Rule_base) := ⟨rfl, rfl, rfl, by decide +kernel, rfl, by decide +kernel, by decide +kernel⟩
def w_Rule_base : WS :=
  wRet (wB kList (wCons (wFld 0 0 (wVar 0)) (wNil)))
theorem tr_Rule_base {Γ : Wd} (T : Tx Γ) (X : Cx) (C : Ctx Γ X N_Rule_base (defScope st_Rule_base) (fun _ => true) 0) (P : Own X) (dc : DefCx X) : SSs Γ [] X (defBody st_Rule_base) w_Rule_base :=
  sss_one (ss_ret (se_listc C (sa_cons (se_fld C T.K_0 (by rw [T.F_0]; rfl) (se_var C 0)) (sa_nil))))

theorem law_Rule_base : LawOf N_Rule_base [false] c_Rule_base w_Rule_base := by
  rintro svs Q E - ⟨b, ms, rfl, hq⟩
  ((conv => whnf); try dsimp only [List.set_cons_zero, List.set_cons_succ]); refine ⟨rfl, ?_⟩
  ((conv => whnf); try dsimp only [List.set_cons_zero, List.set_cons_succ]); exact hq
theorem ok_Rule_base {Γ : Wd} (T : Tx Γ) : PrE Γ 1 0 "base" [false] c_Rule_base :=
  prE_of T.d_Rule_base sc_Rule_base (by intro _ _ _ _ _ _ _ _ us hl; exact match us, hl with | [_], _ => rfl) T.bn rfl (tr_Rule_base T) law_Rule_base

def c_Rule_changes : Con := fun svs Q _ => ∃ (b : List Int) (ms : List (Int × Int)), svs = [.d (ruleD b ms)] ∧ Q (.lst ((normF b ms).map mkP)) svs
/-! Rule.changes: self 0 -/
theorem sc_Rule_changes : FnScope N_Rule_changes ["self"] (defScope st_Rule_changes) := ⟨rfl, rfl, rfl, by decide +kernel, rfl, by decide +kernel, by decide +kernel⟩
def w_Rule_changes : WS :=
  wRet (wB kList (wCons (wFld 0 1 (wVar 0)) (wNil)))
theorem tr_Rule_changes {Γ : Wd} (T : Tx Γ) (X : Cx) (C : Ctx Γ X N_Rule_changes (defScope st_Rule_changes) (fun _ => true) 0) (P : Own X) (dc : DefCx X) : SSs Γ [] X (defBody st_Rule_changes) w_Rule_changes :=
  sss_one (ss_ret (se_listc C (sa_cons (se_fld C T.K_0 (by rw [T.F_0]; rfl) (se_var C 0)) (sa_nil))))

theorem law_Rule_changes : LawOf N_Rule_changes [false] c_Rule_changes w_Rule_changes := by
  rintro svs Q E - ⟨b, ms, rfl, hq⟩
  ((conv => whnf); try dsimp only [List.set_cons_zero, List.set_cons_succ]); refine ⟨rfl, ?_⟩
  ((conv => whnf); try dsimp only [List.set_cons_zero, List.set_cons_succ]); exact hq
theorem ok_Rule_changes {Γ : Wd} (T : Tx Γ) : PrE Γ 1 0 "changes" [false] c_Rule_changes :=
  prE_of T.d_Rule_changes sc_Rule_changes (by intro _ _ _ _ _ _ _ _ us hl; exact match us, hl with | [_], _ => rfl) T.bn rfl (tr_Rule_changes T) law_Rule_changes


def c_Rule_call : Con := fun svs Q _ => ∃ (b : List Int) (ms : List (Int × Int)) (a : Int), svs = [.d (ruleD b ms), .d (.int a)] ∧ Rw b ms ∧ Q (.d (.int (valF b ms a))) svs
/-! Rule.__call__: self 0, moment 1 -/
theorem sc_Rule_call : FnScope N_Rule_call ["self", "moment"] (defScope st_Rule_call) := ⟨rfl, rfl, rfl, by decide +kernel, rfl, by decide +kernel, by decide +kernel⟩
def w_Rule_call : WS :=
  wRetF (wCall [false, false] c_value_at (wCons (wFld 0 2 (wVar 0)) (wCons (wVar 1) (wNil))))
theorem tr_Rule_call {Γ : Wd} (T : Tx Γ) (X : Cx) (C : Ctx Γ X N_Rule_call (defScope st_Rule_call) (fun _ => true) 3) (P : Own X) (dc : DefCx X) : SSs Γ [] X (defBody st_Rule_call) w_Rule_call :=
  sss_one (ss_retF (se_call C (FnE.mono (ok_value_at T) (by decide)) (sa_cons (se_fld C T.K_0 (by rw [T.F_0]; rfl) (se_var C 0)) (sa_cons (se_var C 1) (sa_nil)))))

theorem law_Rule_call : LawOf N_Rule_call [false, false] c_Rule_call w_Rule_call := by
  rintro svs Q E - ⟨b, ms, a, rfl, R, hq⟩
  ((conv => whnf); try dsimp only [List.set_cons_zero, List.set_cons_succ]); refine ⟨rfl, ?_⟩
  ((conv => whnf); try dsimp only [List.set_cons_zero, List.set_cons_succ]); refine ⟨b, normF b ms, a, rfl, R.norm, ?_⟩
  rw [valF_norm R]
  ((conv => whnf); try dsimp only [List.set_cons_zero, List.set_cons_succ]); exact hq
theorem ok_Rule_call {Γ : Wd} (T : Tx Γ) : OpE Γ 4 0 "__call__" [false, false] c_Rule_call :=
  opE_of T.d_Rule_call sc_Rule_call (by intro _ _ _ _ _ _ _ _ us hl; exact match us, hl with | [_, _], _ => rfl) T.bn rfl (tr_Rule_call T) law_Rule_call


/-! rules put together, plain -/
theorem offG_app {n a : Int} : ∀ {x : Int} {ms ts : List (Int × Int)}, offG n a x (ms ++ ts) = offG n a (offG n a x ms) ts
  | _, [], _ => rfl
  | x, m :: ms, ts => by
    show offG n a (if m.1 ≤ a ∧ (a - m.1) % n = 0 then m.2 else x) (ms ++ ts) = offG n a (offG n a (if m.1 ≤ a ∧ (a - m.1) % n = 0 then m.2 else x) ms) ts
    exact offG_app
theorem offF_app (b : List Int) (ms : List (Int × Int)) (u o a : Int) : offF b (ms ++ [(u, o)]) a = if u ≤ a ∧ (a - u) % (b.length : Int) = 0 then o else offF b ms a := by
  unfold offF
  rw [offG_app]
  rfl
theorem offG_at {n a v : Int} : ∀ {x : Int} {ms : List (Int × Int)}, Asc ms → (a, v) ∈ ms → offG n a x ms = v
  | x, m :: ms, up, h => by
    obtain ⟨h1, h2⟩ := List.pairwise_cons.mp up
    show offG n a (if m.1 ≤ a ∧ (a - m.1) % n = 0 then m.2 else x) ms = v
    rcases List.mem_cons.mp h with e | e
    · subst e
      rw [if_pos ⟨Int.le_refl _, by simp⟩]
      exact offG_late fun r hr => h1 r hr
    · exact offG_at h2 e
theorem back_iff {n a m : Int} (hn : 0 < n) (ne : m ≠ a) : (m ≤ a ∧ (a - m) % n = 0) ↔ (m ≤ a - n ∧ (a - n - m) % n = 0) := by
  have e : (a - n - m) % n = (a - m) % n := by rw [show a - n - m = a - m + n * (-1) by omega, Int.add_mul_emod_self_left]
  rw [e]
  constructor
  · rintro ⟨h1, h2⟩
    refine ⟨?_, h2⟩
    obtain ⟨k, hk⟩ := Int.dvd_of_emod_eq_zero h2
    have : 0 < k := by
      rcases Int.lt_or_le 0 k with c | c
      · exact c
      · have : n * k ≤ n * 0 := Int.mul_le_mul_of_nonneg_left c (by omega)
        omega
    have : n * 1 ≤ n * k := Int.mul_le_mul_of_nonneg_left (by omega) (by omega)
    omega
  · rintro ⟨h1, h2⟩
    exact ⟨by omega, h2⟩
theorem offG_back {n a : Int} (hn : 0 < n) : ∀ {x : Int} {ms : List (Int × Int)}, (∀ m ∈ ms, m.1 ≠ a) → offG n a x ms = offG n (a - n) x ms
  | _, [], _ => rfl
  | x, m :: ms, h => by
    show offG n a (if m.1 ≤ a ∧ (a - m.1) % n = 0 then m.2 else x) ms = offG n (a - n) (if m.1 ≤ a - n ∧ (a - n - m.1) % n = 0 then m.2 else x) ms
    simp only [back_iff hn (h m (by simp))]
    exact offG_back hn fun r hr => h r (by simp [hr])
theorem wkF_per (b : List Int) (a : Int) : wkF b (a - b.length) = wkF b a := by
  unfold wkF
  rw [show a - (b.length : Int) = a + b.length * (-1) by omega, Int.add_mul_emod_self_left]
theorem offF_back {b : List Int} {ms : List (Int × Int)} {a : Int} (hb : 0 < b.length) (h : ∀ m ∈ ms, m.1 ≠ a) : offF b ms a = offF b ms (a - b.length) := by
  unfold offF
  rw [wkF_per]
  exact offG_back (by omega) h
theorem offF_late {b : List Int} {ms : List (Int × Int)} {a : Int} (h : ∀ m ∈ ms, a < m.1) : offF b ms a = wkF b a := offG_late h
/-- the row of offsets h, and what comes -/
def rowH (h : List Int) (n a : Int) : Int := (h[(a % n).toNat]?).getD 0
theorem mem_normG {n : Int} (hn : 0 < n) : ∀ {h : List Int} {ms : List (Int × Int)}, (h.length : Int) = n → Asc ms → ∀ a v : Int, (a, v) ∈ normG n h ms ↔ (v = offG n a (rowH h n a) ms ∧ v ≠ offG n (a - n) (rowH h n a) ms)
  | h, [], _, _, a, v => by
    show _ ∈ [] ↔ v = rowH h n a ∧ v ≠ rowH h n a
    simp
  | h, m :: ms, hl, up, a, v => by
    obtain ⟨h1, h2⟩ := List.pairwise_cons.mp up
    have m0 := Int.emod_nonneg m.1 (show n ≠ 0 by omega)
    have m1 := Int.emod_lt_of_pos m.1 hn
    have a0 := Int.emod_nonneg a (show n ≠ 0 by omega)
    show (a, v) ∈ (if (h[(m.1 % n).toNat]?).getD 0 = m.2 then normG n h ms else m :: normG n (h.set (m.1 % n).toNat m.2) ms) ↔
      (v = offG n a (if m.1 ≤ a ∧ (a - m.1) % n = 0 then m.2 else rowH h n a) ms ∧ v ≠ offG n (a - n) (if m.1 ≤ a - n ∧ (a - n - m.1) % n = 0 then m.2 else rowH h n a) ms)
    have ea : (a - n - m.1) % n = (a - m.1) % n := by rw [show a - n - m.1 = a - m.1 + n * (-1) by omega, Int.add_mul_emod_self_left]
    rw [ea]
    by_cases k : (h[(m.1 % n).toNat]?).getD 0 = m.2
    · rw [if_pos k, mem_normG hn hl h2]
      have e1 : (if m.1 ≤ a ∧ (a - m.1) % n = 0 then m.2 else rowH h n a) = rowH h n a := by
        split
        · rename_i c; rw [← k]; unfold rowH; rw [(cong_iff hn).mp c.2]
        · rfl
      have e2 : (if m.1 ≤ a - n ∧ (a - m.1) % n = 0 then m.2 else rowH h n a) = rowH h n a := by
        split
        · rename_i c; rw [← k]; unfold rowH; rw [(cong_iff hn).mp c.2]
        · rfl
      rw [e1, e2]
    · rw [if_neg k]
      have hl' : ((h.set (m.1 % n).toNat m.2).length : Int) = n := by rw [List.length_set]; exact hl
      have ih := mem_normG hn hl' h2 a v
      rw [List.mem_cons, ih]
      by_cases c : (a - m.1) % n = 0
      · have ce := (cong_iff hn).mp c
        have r1 : rowH (h.set (m.1 % n).toNat m.2) n a = m.2 := by
          unfold rowH; rw [← ce, List.getElem?_set_self (by omega)]; rfl
        have r2 : rowH h n a = (h[(m.1 % n).toNat]?).getD 0 := by unfold rowH; rw [ce]
        rw [r1]
        simp only [c, and_true]
        by_cases l : m.1 ≤ a
        · rw [if_pos l]
          by_cases e : m.1 = a
          · have late : ∀ r ∈ ms, a < r.1 := fun r hr => by have := h1 r hr; omega
            have late2 : ∀ r ∈ ms, a - n < r.1 := fun r hr => by have := h1 r hr; omega
            rw [offG_late late, offG_late late2, if_neg (by omega), offG_late late2, r2]
            constructor
            · rintro (q | ⟨q1, q2⟩)
              · cases q; exact ⟨rfl, Ne.symm k⟩
              · exact absurd q1 q2
            · rintro ⟨q, _⟩
              left; rw [q, ← e]
          · have l2 : m.1 ≤ a - n := ((back_iff hn e).mp ⟨l, c⟩).1
            rw [if_pos l2]
            constructor
            · rintro (q | q)
              · cases q; exact absurd rfl e
              · exact q
            · exact .inr
        · have late : ∀ r ∈ ms, a < r.1 := fun r hr => by have := h1 r hr; omega
          have late2 : ∀ r ∈ ms, a - n < r.1 := fun r hr => by have := h1 r hr; omega
          rw [if_neg l, if_neg (by omega), offG_late late, offG_late late2, offG_late late, offG_late late2]
          constructor
          · rintro (q | ⟨q1, q2⟩)
            · cases q; exact absurd (Int.le_refl _) l
            · exact absurd q1 q2
          · rintro ⟨q1, q2⟩; exact absurd q1 q2
      · have ne : ¬ m.1 % n = a % n := fun z => c ((cong_iff hn).mpr z)
        have r1 : rowH (h.set (m.1 % n).toNat m.2) n a = rowH h n a := by
          unfold rowH; rw [List.getElem?_set_ne (by omega)]
        rw [r1, if_neg fun z => c z.2, if_neg fun z => c z.2]
        constructor
        · rintro (q | q)
          · cases q; exact absurd (by simp) c
          · exact q
        · exact .inr
theorem mem_norm {b : List Int} {ms : List (Int × Int)} (hb : 0 < b.length) (up : Asc ms) (a v : Int) : (a, v) ∈ normF b ms ↔ (v = offF b ms a ∧ v ≠ offF b ms (a - b.length)) := by
  unfold normF
  rw [mem_normG (by omega) rfl up]
  unfold offF
  rw [wkF_per]
  rfl
/-- far enough back -/
theorem far_back (n : Int) (hn : 0 < n) (a : Int) : ∀ ms : List (Int × Int), ∃ k : Nat, ∀ m ∈ ms, a - k * n < m.1
  | [] => ⟨0, fun _ h => nomatch h⟩
  | m :: ms => by
    obtain ⟨k, hk⟩ := far_back n hn a ms
    refine ⟨k + (a - m.1).toNat + 1, fun r hr => ?_⟩
    have e : ((k + (a - m.1).toNat + 1 : Nat) : Int) * n = k * n + ((a - m.1).toNat + 1) * n := by
      rw [show ((k + (a - m.1).toNat + 1 : Nat) : Int) = k + ((a - m.1).toNat + 1) by omega, Int.add_mul]
    have p : ((a - m.1).toNat + 1 : Int) * 1 ≤ ((a - m.1).toNat + 1) * n := Int.mul_le_mul_of_nonneg_left (by omega) (by omega)
    have q : (0 : Int) ≤ k * n := Int.mul_nonneg (by omega) (by omega)
    rcases List.mem_cons.mp hr with z | z
    · subst z; omega
    · have := hk r z; omega
theorem back_k {b : List Int} {ms : List (Int × Int)} {s : Int} (hb : 0 < b.length) (h : ∀ a, a < s → offF b ms a = offF b ms (a - b.length)) : ∀ (k : Nat) (a : Int), a < s → offF b ms a = offF b ms (a - k * b.length)
  | 0, a, _ => by simp
  | k + 1, a, ha => by
    rw [h a ha, back_k hb h k (a - b.length) (by omega)]
    congr 1
    rw [show ((k + 1 : Nat) : Int) = k + 1 by omega, Int.add_mul]; omega
theorem wkF_k (b : List Int) (a : Int) (k : Nat) : wkF b (a - k * b.length) = wkF b a := by
  unfold wkF
  rw [show a - (k : Int) * b.length = a + b.length * (-(k : Int)) by rw [Int.mul_neg, Int.mul_comm]; omega, Int.add_mul_emod_self_left]
/-- ahead of what changes there is the base -/
theorem off_first {b : List Int} {ms : List (Int × Int)} {s : Int} (hb : 0 < b.length) (h : ∀ a, a < s → offF b ms a = offF b ms (a - b.length)) {a : Int} (ha : a < s) : offF b ms a = wkF b a := by
  obtain ⟨k, hk⟩ := far_back b.length (by omega) a ms
  rw [back_k hb h k a ha, offF_late hk, wkF_k]
theorem wkF_eq {b c : List Int} (hl : b.length = c.length) (h : ∀ a, wkF b a = wkF c a) : b = c := by
  refine List.ext_getElem hl fun i h1 h2 => ?_
  have e : ((i : Int) % b.length).toNat = i := by rw [Int.emod_eq_of_lt (by omega) (by omega)]; omega
  have q := h i
  unfold wkF at q
  rw [← hl, e, List.getElem?_eq_getElem h1, List.getElem?_eq_getElem h2] at q
  exact q
/-- base and normal form are those of the offsets alone -/
theorem norm_uniq {b c : List Int} {ms ts : List (Int × Int)} (hb : 0 < b.length) (hl : b.length = c.length) (u1 : Asc ms) (u2 : Asc ts) (h : ∀ a, offF b ms a = offF c ts a) : b = c ∧ normF b ms = normF c ts := by
  have e : b = c := wkF_eq hl fun a => by
    obtain ⟨k, hk⟩ := far_back b.length (by omega) a (ms ++ ts)
    rw [← wkF_k b a k, ← wkF_k c a k, ← offF_late (b := b) (ms := ms) (a := a - k * b.length) fun m hm => hk m (by simp [hm]), h, hl]
    exact offF_late fun m hm => by have := hk m (by simp [hm]); rw [hl] at this; exact this
  subst e
  refine ⟨rfl, up_ext Prod.fst (norm_asc u1) (norm_asc u2) fun p => ?_⟩
  obtain ⟨a, v⟩ := p
  rw [mem_norm hb u1, mem_norm hb u2, h, h]
/-- the offsets at all that is asked -/
def pts (f : Int → Int) (us : List Int) : List (Int × Int) := us.map fun u => (u, f u)
theorem pts_asc {f : Int → Int} {us : List Int} (up : us.Pairwise fun x y => x < y) : Asc (pts f us) := up.map _ fun _ _ h => h
theorem off_pts {b : List Int} {f : Int → Int} {us : List Int} (hb : 0 < b.length) (up : us.Pairwise fun x y => x < y) (h : ∀ a, f a ≠ f (a - b.length) → a ∈ us) (h0 : ∀ a, (∀ u ∈ us, a < u) → f a = wkF b a) : ∀ (k : Nat) (a : Int), (∀ u ∈ us, a - k * b.length < u) → offF b (pts f us) a = f a
  | 0, a, hk => by
    have hk' : ∀ u ∈ us, a < u := fun u hu => by have := hk u hu; simpa using this
    rw [offF_late fun m hm => by obtain ⟨u, hu, rfl⟩ := List.mem_map.mp hm; exact hk' u hu, h0 a hk']
  | k + 1, a, hk => by
    by_cases c : a ∈ us
    · exact offG_at (pts_asc up) (List.mem_map.mpr ⟨a, c, rfl⟩)
    · rw [offF_back hb fun m hm z => by obtain ⟨u, hu, rfl⟩ := List.mem_map.mp hm; exact c (z ▸ hu)]
      have e : f a = f (a - b.length) := Decidable.byContradiction fun z => c (h a z)
      rw [e]
      refine off_pts hb up h h0 k _ fun u hu => ?_
      have := hk u hu
      rw [show ((k + 1 : Nat) : Int) = k + 1 by omega, Int.add_mul] at this
      omega
theorem off_pts' {b : List Int} {f : Int → Int} {us : List Int} (hb : 0 < b.length) (up : us.Pairwise fun x y => x < y) (h : ∀ a, f a ≠ f (a - b.length) → a ∈ us) (h0 : ∀ a, (∀ u ∈ us, a < u) → f a = wkF b a) (a : Int) : offF b (pts f us) a = f a := by
  obtain ⟨k, hk⟩ := far_back b.length (by omega) a (pts f us)
  exact off_pts hb up h h0 k a fun u hu => hk (u, f u) (List.mem_map.mpr ⟨u, hu, rfl⟩)
/-- gathered from what is asked, a rule is what it was -/
theorem gath {b : List Int} {ms : List (Int × Int)} {us : List Int} (hb : 0 < b.length) (um : Asc ms) (up : us.Pairwise fun x y => x < y) (h : ∀ a, offF b ms a ≠ offF b ms (a - b.length) → a ∈ us) : normF b (pts (offF b ms) us) = normF b ms := by
  refine (norm_uniq hb rfl (pts_asc up) um fun a => off_pts' hb up h (fun a ha => ?_) a).2
  by_cases c : us = []
  · subst c
    exact off_first (s := a + 1) hb (fun a _ => Decidable.byContradiction fun z => nomatch h a z) (by omega)
  · obtain ⟨u, rs, rfl⟩ : ∃ u rs, us = u :: rs := by cases us with
      | nil => exact absurd rfl c
      | cons u rs => exact ⟨u, rs, rfl⟩
    refine off_first (s := u) hb (fun x hx => Decidable.byContradiction fun z => ?_) (ha u (by simp))
    have q := h x z
    rcases List.mem_cons.mp q with e | e
    · omega
    · have := (List.pairwise_cons.mp up).1 x e; omega

/-! rules put together: what the code does -/
theorem off_bd {n a : Int} : ∀ {x : Int} {ms : List (Int × Int)}, offG n a x ms = x ∨ offG n a x ms ∈ ms.map Prod.snd
  | x, [] => .inl rfl
  | x, m :: ms => by
    show offG n a (if m.1 ≤ a ∧ (a - m.1) % n = 0 then m.2 else x) ms = x ∨ offG n a (if m.1 ≤ a ∧ (a - m.1) % n = 0 then m.2 else x) ms ∈ _
    rcases off_bd (n := n) (a := a) (x := if m.1 ≤ a ∧ (a - m.1) % n = 0 then m.2 else x) (ms := ms) with h | h
    · rw [h]
      split
      · right; simp
      · left; rfl
    · right
      rw [List.map_cons]
      exact List.mem_cons_of_mem _ h
theorem off_all {b : List Int} {ms : List (Int × Int)} (hb : 0 < b.length) (a : Int) : offF b ms a ∈ allO b ms := by
  unfold allO
  rcases off_bd (n := b.length) (a := a) (x := wkF b a) (ms := ms) with h | h
  · obtain ⟨h1, h2⟩ := wkF_at hb a
    exact List.mem_append.mpr (.inl (by show offG _ _ _ _ ∈ b; rw [h, ← h2]; exact List.getElem_mem h1))
  · exact List.mem_append.mpr (.inr h)
theorem allO_ne {b : List Int} {ms : List (Int × Int)} (hb : 0 < b.length) : allO b ms ≠ [] := fun z => by
  have := congrArg List.length z
  unfold allO at this
  simp at this
  rw [this.1] at hb; simp at hb
theorem off_ext {b : List Int} {ms : List (Int × Int)} (hb : 0 < b.length) (a : Int) : minI (allO b ms) ≤ offF b ms a ∧ offF b ms a ≤ maxI (allO b ms) :=
  ⟨(minI_ok (allO_ne hb)).2 _ (off_all hb a), (maxI_ok (allO_ne hb)).2 _ (off_all hb a)⟩
def extD (b : List Int) (ms : List (Int × Int)) : D := .tup [.int (minI (allO b ms)), .int (maxI (allO b ms))]
abbrev Ris (b : List Int) (ms : List (Int × Int)) : Prop := ∀ a, valF b ms a ≤ valF b ms (a + 1)
theorem ris_of {b : List Int} {ms : List (Int × Int)} (h : ∀ a, ¬ Fall b ms a) : Ris b ms := fun a => Int.not_lt.mp (h a)
theorem ris_norm {b : List Int} {ms : List (Int × Int)} (R : Rw b ms) (h : Ris b ms) : Ris b (normF b ms) := fun a => by rw [valF_norm R, valF_norm R]; exact h a
theorem ris_le {b : List Int} {ms : List (Int × Int)} (h : Ris b ms) {x y : Int} (l : x ≤ y) : valF b ms x ≤ valF b ms y := up_le' h l
def c_check_weeks : Con := fun svs Q _ => ∃ a : Int, svs = [.d (.int a), .d (.int a)] ∧ Q (.d .non) svs
/-! check_weeks: week 0, other_week 1 -/
theorem sc_check_weeks : FnScope N_check_weeks ["week", "other_week"] (defScope st_check_weeks) := ⟨rfl, rfl, rfl, by decide +kernel, rfl, by decide +kernel, by decide +kernel⟩
def w_check_weeks : WS :=
  wIf (wTst (w2 kNe (wVar 0) (wVar 1))) (wBad) (wNext)
theorem tr_check_weeks {Γ : Wd} (T : Tx Γ) (X : Cx) (C : Ctx Γ X N_check_weeks (defScope st_check_weeks) (fun _ => true) 0) (P : Own X) (dc : DefCx X) : SSs Γ [] X (defBody st_check_weeks) w_check_weeks :=
  sss_one (ss_if (st_ne C (se_var C 0) (se_var C 1)) (sss_one (ss_bad)) (sss_nil))

theorem law_check_weeks : LawOf N_check_weeks [false, false] c_check_weeks w_check_weeks := by
  rintro svs Q E - ⟨a, rfl, hq⟩
  ((conv => whnf); try dsimp only [List.set_cons_zero, List.set_cons_succ]); refine Br.ofN (fun h => absurd rfl h) (fun _ => ?_)
  ((conv => whnf); try dsimp only [List.set_cons_zero, List.set_cons_succ]); exact hq
theorem ok_check_weeks {Γ : Wd} (T : Tx Γ) : FnE Γ 1 "check_weeks" [false, false] c_check_weeks :=
  fnE_of T.d_check_weeks sc_check_weeks (by intro _ _ _ _ _ _ _ _ us hl; exact match us, hl with | [_, _], _ => rfl) T.bn rfl (tr_check_weeks T) law_check_weeks

def c_latest_start : Con := fun svs Q _ => ∃ (b : List Int) (ms : List (Int × Int)) (a : Int), svs = [.d (.lst (rowsD b ms)), .d (extD b ms), .d (.int a)] ∧ Rw b ms ∧ Ris b ms ∧ ∀ r, valF b ms r ≤ a → a < valF b ms (r + 1) → Q (.d (.int r)) svs
/-! latest_start: rows 0, extent 1, moment 2, low 3, high 4, middle 5 -/
theorem sc_latest_start : FnScope N_latest_start ["rows", "extent", "moment"] (defScope st_latest_start) := ⟨rfl, rfl, rfl, by decide +kernel, rfl, by decide +kernel, by decide +kernel⟩
abbrev w_latest_start_1 : WS := wIf (wTst (w2 kLe (wCall [false, false] c_value_at (wCons (wVar 0) (wCons (wVar 5) (wNil)))) (wVar 2))) (wAsg 3 (wVar 5)) (wAsg 4 (w2 kSub (wVar 5) (wC (.int 1))))
abbrev w_latest_start_2 : WS := wSeq (wAsg 5 (w2 kFdiv (w2 kAdd (w2 kAdd (wVar 3) (wVar 4)) (wC (.int 1))) (wC (.int 2)))) w_latest_start_1
abbrev w_latest_start_3 : WS := wRetF (wVar 3)
abbrev w_latest_start_4 : WS := wSeq (wWh (wTst (w2 kLt (wVar 3) (wVar 4))) w_latest_start_2) w_latest_start_3
def w_latest_start : WS :=
  wSeq (wPar2 3 4 (wCons (w2 kSub (wVar 2) (w2 kIdx (wVar 1) (wC (.int 1)))) (wCons (w2 kSub (wVar 2) (w2 kIdx (wVar 1) (wC (.int 0)))) (wNil)))) w_latest_start_4
theorem tr_latest_start {Γ : Wd} (T : Tx Γ) (X : Cx) (C : Ctx Γ X N_latest_start (defScope st_latest_start) (fun _ => true) 3) (P : Own X) (dc : DefCx X) : SSs Γ [] X (defBody st_latest_start) w_latest_start :=
  sss_cons (ss_par2 C 3 4 (sa_cons (se_sub (se_var C 2) (se_idx C (fun _ _ => rfl) (se_var C 1) (se_int))) (sa_cons (se_sub (se_var C 2) (se_idx C (fun _ _ => rfl) (se_var C 1) (se_int))) (sa_nil))))
  (sss_cons (ss_while P (st_lt  (se_var C 3) (se_var C 4)) (sss_cons (ss_asg C 5 (se_fdiv (se_add (se_add (se_var C 3) (se_var C 4)) (se_int)) (se_int)))
  (sss_one (ss_if (st_le  (se_call C (FnE.mono (ok_value_at T) (by decide)) (sa_cons (se_var C 0) (sa_cons (se_var C 5) (sa_nil)))) (se_var C 2)) (sss_one (ss_asg C 3 (se_var C 5))) (sss_one (ss_asg C 4 (se_sub (se_var C 5) (se_int))))))))
  (sss_one (ss_retF (se_var C 3))))

theorem law_latest_start : LawOf N_latest_start [false, false, false] c_latest_start w_latest_start := by
  rintro svs Q E - ⟨b, ms, a, rfl, R, up, hq⟩
  have ex := off_ext (b := b) (ms := ms) R.pos
  have dv : ∀ x, valF b ms x = x + offF b ms x := fun _ => rfl
  have e1 := ex (a - maxI (allO b ms))
  have e2 := ex (a - minI (allO b ms) + 1)
  show w_latest_start [some (.d (.lst (rowsD b ms))), some (.d (extD b ms)), some (.d (.int a)), none, none, none] _ _
  ((conv => whnf); try dsimp only [List.set_cons_zero, List.set_cons_succ]); refine ⟨_, at1, ?_⟩
  ((conv => whnf); try dsimp only [List.set_cons_zero, List.set_cons_succ]); refine ⟨_, at0, ?_⟩
  ((conv => whnf); try dsimp only [List.set_cons_zero, List.set_cons_succ])
  refine ⟨fun k ρ => ∃ (lo hi : Int) (x : Option SV), lo ≤ hi ∧ valF b ms lo ≤ a ∧ a < valF b ms (hi + 1) ∧ (k : Int) = hi - lo ∧ ρ = [some (.d (.lst (rowsD b ms))), some (.d (extD b ms)), some (.d (.int a)), some (.d (.int lo)), some (.d (.int hi)), x],
    ⟨(maxI (allO b ms) - minI (allO b ms)).toNat, a - maxI (allO b ms), a - minI (allO b ms), none, by omega, by rw [dv]; omega, by rw [dv]; omega, by omega, rfl⟩, ?_⟩
  rintro k ρ ⟨lo, hi, x, h0, h1, h2, hk, rfl⟩
  ((conv => whnf); try dsimp only [List.set_cons_zero, List.set_cons_succ]); refine Br.of (fun h => ?_) (fun h => ?_)
  · have h' : lo < hi := h
    have d1 : lo < (lo + hi + 1) / 2 := by omega
    have d2 : (lo + hi + 1) / 2 ≤ hi := by omega
    ((conv => whnf); try dsimp only [List.set_cons_zero, List.set_cons_succ]); refine ⟨cdv (by decide) (by decide), ?_⟩
    generalize (lo + hi + 1) / 2 = mid at *
    ((conv => whnf); try dsimp only [List.set_cons_zero, List.set_cons_succ]); refine ⟨b, ms, mid, rfl, R, ?_⟩
    ((conv => whnf); try dsimp only [List.set_cons_zero, List.set_cons_succ]); refine Br.of (fun c => ?_) (fun c => ?_)
    · have c' : valF b ms mid ≤ a := c
      exact ⟨_, Fgt.refl _, (hi - mid).toNat, by omega, mid, hi, some (.d (.int mid)), d2, c', h2, by omega, rfl⟩
    · have c' : ¬ valF b ms mid ≤ a := c
      exact ⟨_, Fgt.refl _, (mid - 1 - lo).toNat, by omega, lo, mid - 1, some (.d (.int mid)), by omega, h1, by rw [show mid - 1 + 1 = mid by omega]; omega, by omega, rfl⟩
  · have h' : ¬ lo < hi := h
    obtain rfl : lo = hi := by omega
    ((conv => whnf); try dsimp only [List.set_cons_zero, List.set_cons_succ]); exact hq lo h1 h2
theorem ok_latest_start {Γ : Wd} (T : Tx Γ) : FnE Γ 4 "latest_start" [false, false, false] c_latest_start :=
  fnE_of T.d_latest_start sc_latest_start (by intro _ _ _ _ _ _ _ _ us hl; exact match us, hl with | [_, _, _], _ => rfl) T.bn rfl (tr_latest_start T) law_latest_start

def c_first_start : Con := fun svs Q _ => ∃ (b : List Int) (ms : List (Int × Int)) (a : Int), svs = [.d (.lst (rowsD b ms)), .d (extD b ms), .d (.int a)] ∧ Rw b ms ∧ Ris b ms ∧ ∀ r, valF b ms (r - 1) < a → a ≤ valF b ms r → Q (.d (.int r)) svs
/-! first_start: rows 0, extent 1, moment 2 -/
theorem sc_first_start : FnScope N_first_start ["rows", "extent", "moment"] (defScope st_first_start) := ⟨rfl, rfl, rfl, by decide +kernel, rfl, by decide +kernel, by decide +kernel⟩
def w_first_start : WS :=
  wRetF (w2 kAdd (wCall [false, false, false] c_latest_start (wCons (wVar 0) (wCons (wVar 1) (wCons (w2 kSub (wVar 2) (wC (.int 1))) (wNil))))) (wC (.int 1)))
theorem tr_first_start {Γ : Wd} (T : Tx Γ) (X : Cx) (C : Ctx Γ X N_first_start (defScope st_first_start) (fun _ => true) 4) (P : Own X) (dc : DefCx X) : SSs Γ [] X (defBody st_first_start) w_first_start :=
  sss_one (ss_retF (se_add (se_call C (FnE.mono (ok_latest_start T) (by decide)) (sa_cons (se_var C 0) (sa_cons (se_var C 1) (sa_cons (se_sub (se_var C 2) (se_int)) (sa_nil))))) (se_int)))

theorem law_first_start : LawOf N_first_start [false, false, false] c_first_start w_first_start := by
  rintro svs Q E - ⟨b, ms, a, rfl, R, up, hq⟩
  ((conv => whnf); try dsimp only [List.set_cons_zero, List.set_cons_succ]); refine ⟨b, ms, a - 1, rfl, R, up, fun r h1 h2 => ?_⟩
  ((conv => whnf); try dsimp only [List.set_cons_zero, List.set_cons_succ]); exact hq (r + 1) (by rw [show r + 1 - 1 = r by omega]; omega) (by omega)
theorem ok_first_start {Γ : Wd} (T : Tx Γ) : FnE Γ 5 "first_start" [false, false, false] c_first_start :=
  fnE_of T.d_first_start sc_first_start (by intro _ _ _ _ _ _ _ _ us hl; exact match us, hl with | [_, _, _], _ => rfl) T.bn rfl (tr_first_start T) law_first_start

def hdU (us : List Int) : Int := ((ups us)[0]?).getD 0
def preU (n : Nat) (us : List Int) : List Int := (List.range' 0 n).map fun (i : Nat) => hdU us - n + (0 + (i : Int))
theorem preU_len (n : Nat) (us : List Int) : (preU n us).length = n := by unfold preU; simp
def c_asked_moments : Con := fun svs Q _ => ∃ (n : Nat) (us : List Int), svs = [.d (.int n), .d (.lst (us.map D.int))] ∧ 1 ≤ n ∧ n ≤ 12 ∧ us.length < 4000 ∧ Q (.lst ((preU n us ++ ups us).map D.int)) svs
/-! asked_moments: week 0, spots 1, later 2, first 3, turn 4 -/
theorem sc_asked_moments : FnScope N_asked_moments ["week", "spots"] (defScope st_asked_moments) := ⟨rfl, rfl, rfl, by decide +kernel, rfl, by decide +kernel, by decide +kernel⟩
abbrev w_asked_moments_1 : WS := wRet (w2 kAdd (wLc (wRng1 (wCons (wVar 0) (wNil))) (gNm 4) (wYes) (w2 kAdd (w2 kSub (wVar 3) (wVar 0)) (wVar 4)) [4]) (wVar 2))
abbrev w_asked_moments_2 : WS := wSeq (wAsg 3 (wIfE (wTst (w2 kNe (wVar 2) (wLst (wNil)))) (w2 kIdx (wVar 2) (wC (.int 0))) (wC (.int 0)))) w_asked_moments_1
def w_asked_moments : WS :=
  wSeq (wAsg 2 (wSortS (wVar 1))) w_asked_moments_2
theorem tr_asked_moments {Γ : Wd} (T : Tx Γ) (X : Cx) (C : Ctx Γ X N_asked_moments (defScope st_asked_moments) (fun _ => true) 0) (P : Own X) (dc : DefCx X) : SSs Γ [] X (defBody st_asked_moments) w_asked_moments :=
  sss_cons (ss_asg C 2 (se_sortS C (se_var C 1)))
  (sss_cons (ss_asg C 3 (se_if (st_ne C (se_var C 2) (se_lst (sa_nil))) (se_idx C (fun _ _ => rfl) (se_var C 2) (se_int)) (se_int)))
  (sss_one (ss_ret (se_add (se_lc C (own := [("turn", 4)]) (is := [4]) (by decide +kernel) (by decide +kernel) (si_range1 C (sa_cons (se_var C 0) (sa_nil))) (fun _ hX => sg_name hX.1 4) (fun _ hX => sts_nil) (fun _ hX => se_add (se_sub (se_var hX.1 3) (se_var hX.1 0)) (se_var hX.1 4))) (se_var C 2)))))

theorem law_asked_moments : LawOf N_asked_moments [false, false] c_asked_moments w_asked_moments := by
  rintro svs Q E - ⟨n, us, rfl, n1, n2, few, hq⟩
  show w_asked_moments [some (.d (.int n)), some (.d (.lst (us.map D.int))), none, none, none] _ _
  ((conv => whnf); try dsimp only [List.set_cons_zero, List.set_cons_succ]); refine ⟨us, rfl, few, fun ns up mem => ?_⟩
  obtain rfl := ups_is up mem
  have lu := len_ups us
  ((conv => whnf); try dsimp only [List.set_cons_zero, List.set_cons_succ]); refine ⟨few3 (by show 0 ≤ 1000; decide), ?_⟩
  ((conv => whnf); try dsimp only [List.set_cons_zero, List.set_cons_succ]); refine ⟨⟨shp_ints (ups us), shp_ints []⟩, ?_⟩
  ((conv => whnf); try dsimp only [List.set_cons_zero, List.set_cons_succ]); rw [show deq (.lst ((ups us).map D.int)) (.lst []) = decide (ups us = []) from deq_lints (ups us) []]
  have pl := preU_len n us
  have fin : ∀ ρ, ρ = [some (.d (.int n)), some (.d (.lst (us.map D.int))), some (.lst ((ups us).map D.int)), some (.d (.int (hdU us))), none] → w_asked_moments_1 ρ (endsOf [false, false] [.d (.int n), .d (.lst (us.map D.int))] Q) (errsOf [false, false] [.d (.int n), .d (.lst (us.map D.int))] E) := by
    rintro ρ rfl
    ((conv => whnf); try dsimp only [List.set_cons_zero, List.set_cons_succ]); refine ⟨by omega, by omega, ?_⟩
    refine compL_ind (fun ds acc ρ => ∃ (i k : Nat), i + k = n ∧ ds = (List.range' i k).map (fun (i : Nat) => D.int (0 + (i : Int))) ∧ acc = ((List.range' 0 i).map fun (i : Nat) => hdU us - n + (0 + (i : Int))).map D.int ∧
      ρ = [some (.d (.int n)), some (.d (.lst (us.map D.int))), some (.lst ((ups us).map D.int)), some (.d (.int (hdU us))), none]) ?_ ?_ _ _ _ ⟨0, n, by omega, by simp [rngD, List.range_eq_range'], rfl, rfl⟩
    · rintro acc ρ ⟨i, k, hik, e, rfl, rfl⟩
      obtain rfl : k = 0 := by cases k with
        | zero => rfl
        | succ k => cases e
      obtain rfl : i = n := by omega
      ((conv => whnf); try dsimp only [List.set_cons_zero, List.set_cons_succ]); refine ⟨by simp; omega, ?_⟩
      rw [List.map_append] at hq
      exact hq
    · rintro d ds acc ρ ⟨i, k, hik, e, rfl, rfl⟩ ih
      cases k with
      | zero => cases e
      | succ k =>
        rw [List.range'_succ, List.map_cons] at e
        cases e
        ((conv => whnf); try dsimp only [List.set_cons_zero, List.set_cons_succ]); refine Br.tt ?_
        ((conv => whnf); try dsimp only [List.set_cons_zero, List.set_cons_succ]); refine ⟨by simp; omega, ?_⟩
        exact ih _ _ ⟨i + 1, k, by omega, rfl, by rw [List.range'_1_concat, List.map_append, List.map_append, Nat.zero_add]; rfl, rfl⟩
  refine Br.ofN (fun c => ?_) (fun c => ?_)
  · have c' : ¬ ups us = [] := c
    obtain ⟨u, rs, hu⟩ : ∃ u rs, ups us = u :: rs := by cases h : ups us with
      | nil => exact absurd h c'
      | cons u rs => exact ⟨u, rs, rfl⟩
    have hd : hdU us = u := by unfold hdU; rw [hu]; rfl
    ((conv => whnf); try dsimp only [List.set_cons_zero, List.set_cons_succ]); refine ⟨.int (hdU us), by rw [hd, hu]; exact at0, ?_⟩
    exact fin _ rfl
  · have c' : ups us = [] := c
    have hd : hdU us = 0 := by unfold hdU; rw [c']; rfl
    have g := fin _ rfl
    rw [hd] at g
    exact g
theorem ok_asked_moments {Γ : Wd} (T : Tx Γ) : FnE Γ 1 "asked_moments" [false, false] c_asked_moments :=
  fnE_of T.d_asked_moments sc_asked_moments (by intro _ _ _ _ _ _ _ _ us hl; exact match us, hl with | [_, _], _ => rfl) T.bn rfl (tr_asked_moments T) law_asked_moments

theorem sIx_pos {n d : Nat} {r : Int} (h : 0 ≤ r) : HT.sIx n d (some r) = min r.toNat n := by
  show (if r < 0 then _ else _) = _
  rw [if_neg (by omega)]
theorem cut_pre (xs ys : List Int) : cutL ((xs ++ ys).map D.int) none (some (xs.length : Int)) = xs.map D.int := by
  unfold cutL
  have e : HT.sIx ((xs ++ ys).map D.int).length ((xs ++ ys).map D.int).length (some (xs.length : Int)) = xs.length := by
    rw [sIx_pos (by omega), List.length_map, List.length_append]; omega
  rw [e]
  show List.take (xs.length - 0) (List.drop 0 _) = _
  rw [List.drop_zero, Nat.sub_zero, List.map_append, List.take_left' (by simp)]
theorem cut_post (xs ys : List Int) : cutL ((xs ++ ys).map D.int) (some (xs.length : Int)) none = ys.map D.int := by
  unfold cutL
  have e : HT.sIx ((xs ++ ys).map D.int).length 0 (some (xs.length : Int)) = xs.length := by
    rw [sIx_pos (by omega), List.length_map, List.length_append]; omega
  rw [e]
  show List.take (((xs ++ ys).map D.int).length - _) _ = _
  rw [List.map_append, List.drop_left' (by simp), List.take_of_length_le (by simp)]
theorem zip_pts (f : Int → Int) : ∀ us : List Int, zipD (us.map D.int) ((us.map f).map D.int) = (pts f us).map mkP
  | [] => rfl
  | u :: us => by
    have := zip_pts f us
    unfold zipD at this
    show D.tup [.int u, .int (f u)] :: ((us.map D.int).zip ((us.map f).map D.int)).map (fun p => D.tup [p.1, p.2]) = mkP (u, f u) :: (pts f us).map mkP
    rw [this]; rfl
def c_gathered : Con := fun svs Q _ => ∃ (b : List Int) (ms : List (Int × Int)) (us : List Int), svs = [.d (.int b.length), .d (.lst ((preU b.length us ++ ups us).map D.int)), .d (.lst (((preU b.length us ++ ups us).map (offF b ms)).map D.int))] ∧
  Rw b ms ∧ us.length ≤ 1900 ∧ (∀ a, offF b ms a ≠ offF b ms (a - b.length) → a ∈ us) ∧ Q (.d (.tup [.lst (b.map D.int), .lst ((normF b ms).map mkP)])) svs
/-! gathered: week 0, asked 1, offsets 2, base 3, moment 4, offset 5, turn 6 -/
theorem sc_gathered : FnScope N_gathered ["week", "asked", "offsets"] (defScope st_gathered) := ⟨rfl, rfl, rfl, by decide +kernel, rfl, by decide +kernel, by decide +kernel⟩
abbrev w_gathered_1 : WS := wSetI 3 (wVar 5) (w2 kMod (wVar 4) (wVar 0))
abbrev w_gathered_2 : WS := wRetF (wTup (wCons (wVar 3) (wCons (wCall [false, false] c_normal_changes (wCons (wVar 3) (wCons (wLstZip (wCons (wSl (wVar 1) (wP (wVar 0)) (wNoP)) (wCons (wSl (wVar 2) (wP (wVar 0)) (wNoP)) (wNil)))) (wNil)))) (wNil))))
abbrev w_gathered_3 : WS := wSeq (wFor (wZip (wCons (wSl (wVar 1) (wNoP) (wP (wVar 0))) (wCons (wSl (wVar 2) (wNoP) (wP (wVar 0))) (wNil)))) (gTp 2 (gsCons (gNm 4) (gsCons (gNm 5) (gsNil)))) w_gathered_1) w_gathered_2
def w_gathered : WS :=
  wSeq (wAsg 3 (wLc (wRng1 (wCons (wVar 0) (wNil))) (gNm 6) (wYes) (wC (.int 0)) [6])) w_gathered_3
theorem tr_gathered {Γ : Wd} (T : Tx Γ) (X : Cx) (C : Ctx Γ X N_gathered (defScope st_gathered) (fun _ => true) 1) (P : Own X) (dc : DefCx X) : SSs Γ [] X (defBody st_gathered) w_gathered :=
  sss_cons (ss_asgLc C 3 (own := [("turn", 6)]) (is := [6]) rfl rfl rfl rfl (by decide +kernel) (by decide +kernel) (by decide +kernel) (si_range1 C (sa_cons (se_var C 0) (sa_nil))) (fun _ hX => sg_name hX.1 6) (fun _ hX => sts_nil) (fun _ hX => se_int))
  (sss_cons (ss_for C P (is := [4, 5]) (si_zip C (sa_cons (se_slice C (se_var C 1) (so_none) (so_some (se_var C 0))) (sa_cons (se_slice C (se_var C 2) (so_none) (so_some (se_var C 0))) (sa_nil)))) (sg_tup C (sgs_cons (sg_name C 4) (sgs_cons (sg_name C 5) (sgs_nil)))) (sss_one (ss_seti C 3 (se_var C 5) (se_mod (se_var C 4) (se_var C 0)))))
  (sss_one (ss_retF (se_tup (sa_cons (se_var C 3) (sa_cons (se_call C (FnE.mono (ok_normal_changes T) (by decide)) (sa_cons (se_var C 3) (sa_cons (se_listZip C (sa_cons (se_slice C (se_var C 1) (so_some (se_var C 0)) (so_none)) (sa_cons (se_slice C (se_var C 2) (so_some (se_var C 0)) (so_none)) (sa_nil)))) (sa_nil)))) (sa_nil)))))))

theorem law_gathered : LawOf N_gathered [false, false, false] c_gathered w_gathered := by
  rintro svs Q E - ⟨b, ms, us, rfl, R, few, hus, hq⟩
  have pos := R.pos
  have le := R.le
  have pl := preU_len b.length us
  have lu := len_ups us
  generalize hA : D.lst ((preU b.length us ++ ups us).map D.int) = A at *
  generalize hO : D.lst (((preU b.length us ++ ups us).map (offF b ms)).map D.int) = O at *
  show w_gathered [some (.d (.int b.length)), some (.d A), some (.d O), none, none, none, none] _ _
  have first : ∀ a, a < hdU us → offF b ms a = wkF b a := fun a ha => by
    refine off_first (s := hdU us) pos (fun x hx => Decidable.byContradiction fun z => ?_) ha
    have q := mem_ups.mpr (hus x z)
    unfold hdU at hx
    cases h : ups us with
    | nil => rw [h] at q; cases q
    | cons u rs =>
      rw [h] at q hx
      have up := up_ups us
      rw [h] at up
      simp at hx
      rcases List.mem_cons.mp q with e | e
      · omega
      · have := (List.pairwise_cons.mp up).1 x e; omega
  ((conv => whnf); try dsimp only [List.set_cons_zero, List.set_cons_succ]); refine ⟨by omega, by omega, ?_⟩
  refine compL_ind (fun ds acc ρ => ∃ (i k : Nat), i + k = b.length ∧ ds = (List.range' i k).map (fun (i : Nat) => D.int (0 + (i : Int))) ∧ acc = (List.replicate i (0 : Int)).map D.int ∧ ρ = [some (.d (.int b.length)), some (.d A), some (.d O), none, none, none, none]) ?_ ?_ _ _ _ ⟨0, b.length, by omega, by simp [rngD, List.range_eq_range'], rfl, rfl⟩
  · rintro acc ρ ⟨i, k, hik, e, rfl, rfl⟩
    obtain rfl : k = 0 := by cases k with
      | zero => rfl
      | succ k => cases e
    obtain rfl : i = b.length := by omega
    subst hA hO
    have c1 := cut_pre (preU b.length us) (ups us)
    have c2 := cut_pre ((preU b.length us).map (offF b ms)) ((ups us).map (offF b ms))
    have c3 := cut_post (preU b.length us) (ups us)
    have c4 := cut_post ((preU b.length us).map (offF b ms)) ((ups us).map (offF b ms))
    rw [← List.map_append, List.length_map] at c2 c4
    rw [pl] at c1 c2 c3 c4
    ((conv => whnf); try dsimp only [List.set_cons_zero, List.set_cons_succ]); rw [c1, c2, zip_pts]
    refine forL_ind (fun ds ρ => ∃ (i k : Nat) (h : List Int) (x4 x5 : Option SV), i + k = b.length ∧ ds = (pts (offF b ms) ((List.range' i k).map fun (i : Nat) => hdU us - b.length + (0 + (i : Int)))).map mkP ∧ h.length = b.length ∧ (∀ j : Nat, j < i → wkF h (hdU us - b.length + j) = offF b ms (hdU us - b.length + j)) ∧
      ρ = [some (.d (.int b.length)), some (.d (.lst ((preU b.length us ++ ups us).map D.int))), some (.d (.lst (((preU b.length us ++ ups us).map (offF b ms)).map D.int))), some (.lst (h.map D.int)), x4, x5, none]) ?_ ?_ _ _ ⟨0, b.length, List.replicate b.length 0, none, none, by omega, rfl, by simp, fun j hj => by omega, rfl⟩
    · rintro ρ ⟨i, k, h, x4, x5, hik, e, hl, hw, rfl⟩
      obtain rfl : k = 0 := by cases k with
        | zero => rfl
        | succ k => cases e
      obtain rfl : h = b := wkF_eq hl fun a => by
        have a0 := Int.emod_nonneg a (show (b.length : Int) ≠ 0 by omega)
        have a1 := Int.emod_lt_of_pos a (show (0 : Int) < b.length by omega)
        obtain ⟨j, hj, ej⟩ := cover (n := b.length) (by omega) (hdU us - b.length) a0 a1
        have q := hw j (by omega)
        rw [first _ (by omega)] at q
        unfold wkF at q ⊢
        rw [hl] at q ⊢
        rw [ej] at q
        exact q
      ((conv => whnf); try dsimp only [List.set_cons_zero, List.set_cons_succ]); rw [c3, c4, zip_pts]
      refine ⟨by simp; omega, ?_⟩
      ((conv => whnf); try dsimp only [List.set_cons_zero, List.set_cons_succ]); refine ⟨h, pts (offF h ms) (ups us), rfl, ⟨pos, le, pts_asc (up_ups us), by unfold pts; simp; omega⟩, ?_⟩
      ((conv => whnf); try dsimp only [List.set_cons_zero, List.set_cons_succ]); refine ⟨few3 (by show 2 ≤ 1000; decide), ?_⟩
      rw [← gath pos R.up (up_ups us) fun a z => mem_ups.mpr (hus a z)] at hq
      ((conv => whnf); try dsimp only [List.set_cons_zero, List.set_cons_succ]); exact hq
    · rintro d ds ρ ⟨i, k, h, x4, x5, hik, e, hl, hw, rfl⟩ ih
      cases k with
      | zero => cases e
      | succ k =>
        rw [List.range'_succ, List.map_cons] at e
        cases e
        have m0 := Int.emod_nonneg (hdU us - b.length + (0 + (i : Int))) (show (b.length : Int) ≠ 0 by omega)
        have m1 := Int.emod_lt_of_pos (hdU us - b.length + (0 + (i : Int))) (show (0 : Int) < b.length by omega)
        ((conv => whnf); try dsimp only [List.set_cons_zero, List.set_cons_succ]); refine ⟨rfl, ?_⟩
        ((conv => whnf); try dsimp only [List.set_cons_zero, List.set_cons_succ]); refine ⟨by omega, ?_⟩
        have st := fun c v => wkF_set (L := h) (by omega) (hdU us - b.length + (0 + (i : Int))) c v
        rw [hl] at st
        ((conv => whnf); try dsimp only [List.set_cons_zero, List.set_cons_succ]); refine ⟨((hdU us - b.length + (0 + (i : Int))) % (b.length : Int)).toNat, ?_, ?_⟩
        · unfold ixN
          rw [if_pos m0, if_pos (by rw [List.length_map, hl]; exact m1)]
        · refine ⟨_, Fgt.refl _, ih _ ⟨i + 1, k, h.set ((hdU us - b.length + (0 + (i : Int))) % (b.length : Int)).toNat (offF b ms (hdU us - b.length + (0 + (i : Int)))), _, _, by omega, rfl, by rw [List.length_set]; exact hl, fun j hj => ?_, by rw [List.map_set]⟩⟩
          rw [st]
          split
          · rename_i c
            rw [Int.zero_add] at c
            have : j = i := near_ne (n := b.length) (by omega) (by omega) c
            subst this; rw [Int.zero_add]
          · rename_i c
            refine hw j ?_
            have : j ≠ i := fun z => c (by rw [z, Int.zero_add])
            omega
  · rintro d ds acc ρ ⟨i, k, hik, e, rfl, rfl⟩ ih
    cases k with
    | zero => cases e
    | succ k =>
      rw [List.range'_succ, List.map_cons] at e
      cases e
      ((conv => whnf); try dsimp only [List.set_cons_zero, List.set_cons_succ]); refine Br.tt ?_
      ((conv => whnf); try dsimp only [List.set_cons_zero, List.set_cons_succ]); refine ⟨by simp; omega, ?_⟩
      exact ih _ _ ⟨i + 1, k, by omega, rfl, by rw [List.replicate_succ', List.map_append]; rfl, rfl⟩
theorem ok_gathered {Γ : Wd} (T : Tx Γ) : FnE Γ 2 "gathered" [false, false, false] c_gathered :=
  fnE_of T.d_gathered sc_gathered (by intro _ _ _ _ _ _ _ _ us hl; exact match us, hl with | [_, _, _], _ => rfl) T.bn rfl (tr_gathered T) law_gathered

-- the second one without changes

/-! ranges, plain -/
def rgI (a b : Int) : List Int := (List.range (b - a).toNat).map fun i => a + ((i : Nat) : Int)
theorem rgD_eq (a b : Int) : rgD a b = (rgI a b).map D.int := by unfold rgD rgI; rw [List.map_map]; rfl
theorem mem_rgI {a b t : Int} : t ∈ rgI a b ↔ a ≤ t ∧ t < b := by
  unfold rgI
  constructor
  · intro h
    obtain ⟨i, hi, rfl⟩ := List.mem_map.mp h
    have := List.mem_range.mp hi
    omega
  · intro h
    exact List.mem_map.mpr ⟨(t - a).toNat, List.mem_range.mpr (by omega), by omega⟩
theorem len_rgI (a b : Int) : (rgI a b).length = (b - a).toNat := by unfold rgI; simp

/-! one rule and then another, both with changes -/
theorem nodup_len : ∀ {xs L : List Int}, xs.Pairwise (· < ·) → (∀ x ∈ xs, x ∈ L) → xs.length ≤ L.length
  | [], _, _, _ => Nat.zero_le _
  | x :: xs, L, up, h => by
    obtain ⟨u1, u2⟩ := List.pairwise_cons.mp up
    have m := h x (by simp)
    have ih := nodup_len (L := L.erase x) u2 fun y hy => (List.mem_erase_of_ne (by have := u1 y hy; omega)).mpr (h y (by simp [hy]))
    rw [List.length_erase_of_mem m] at ih
    have := List.length_pos_of_mem m
    simp only [List.length_cons]
    omega
theorem up_rgI (a b : Int) : (rgI a b).Pairwise (· < ·) := by
  unfold rgI
  rw [List.pairwise_map]
  exact List.pairwise_lt_range.imp fun h => by omega
def c_steps_in_turn : Con := fun svs Q _ => ∃ (b : List Int) (N N1 N2 : List (Int × Int)) (L : List Int), svs = [.d (.lst (rowsD b N)), .d (extD b N), .d (.tup (N1.map mkP)), .d (.tup (N2.map mkP))] ∧ Rw b N ∧ Ris b N ∧ Asc N2 ∧
  (∀ m ∈ N2, ∀ s, valF b N s = m.1 → s ∈ L) ∧ N1.length + L.length ≤ 3900 ∧
  ∀ us : List Int, us.length ≤ N1.length + L.length → (∀ x, x ∈ us ↔ x ∈ N1.map Prod.fst ∨ ∃ m ∈ N2, valF b N x = m.1) → Q (.lst (us.map D.int)) svs
/-! steps_in_turn: rows 0, extent 1, changes 2, other_changes 3, spots 4, moment 5, offset 6, spot 7 -/
theorem sc_steps_in_turn : FnScope N_steps_in_turn ["rows", "extent", "changes", "other_changes"] (defScope st_steps_in_turn) := ⟨rfl, rfl, rfl, by decide +kernel, rfl, by decide +kernel, by decide +kernel⟩
abbrev w_steps_in_turn_1 : WS := wAsg 4 (w2 kAdd (wVar 4) (wLstRg (wCons (wCall [false, false, false] c_first_start (wCons (wVar 0) (wCons (wVar 1) (wCons (wVar 5) (wNil))))) (wCons (w2 kAdd (wCall [false, false, false] c_latest_start (wCons (wVar 0) (wCons (wVar 1) (wCons (wVar 5) (wNil))))) (wC (.int 1))) (wNil)))))
abbrev w_steps_in_turn_2 : WS := wRet (wVar 4)
abbrev w_steps_in_turn_3 : WS := wSeq (wFor (wIt (wVar 3)) (gTp 2 (gsCons (gNm 5) (gsCons (gNm 6) (gsNil)))) w_steps_in_turn_1) w_steps_in_turn_2
def w_steps_in_turn : WS :=
  wSeq (wAsg 4 (wLc (wIt (wVar 2)) (gTp 2 (gsCons (gNm 7) (gsCons (gNm 6) (gsNil)))) (wYes) (wVar 7) [7, 6])) w_steps_in_turn_3
theorem tr_steps_in_turn {Γ : Wd} (T : Tx Γ) (X : Cx) (C : Ctx Γ X N_steps_in_turn (defScope st_steps_in_turn) (fun _ => true) 5) (P : Own X) (dc : DefCx X) : SSs Γ [] X (defBody st_steps_in_turn) w_steps_in_turn :=
  sss_cons (ss_asgLc C 4 (own := [("spot", 7), ("offset", 6)]) (is := [7, 6]) rfl rfl rfl rfl (by decide +kernel) (by decide +kernel) (by decide +kernel) (si_seq (se_var C 2)) (fun _ hX => sg_tup hX.1 (sgs_cons (sg_name hX.1 7) (sgs_cons (sg_name hX.1 6) (sgs_nil)))) (fun _ hX => sts_nil) (fun _ hX => se_var hX.1 7))
  (sss_cons (ss_for C P (is := [5, 6]) (si_seq (se_var C 3)) (sg_tup C (sgs_cons (sg_name C 5) (sgs_cons (sg_name C 6) (sgs_nil)))) (sss_one (ss_asg C 4 (se_add (se_var C 4) (se_listRg C (sa_cons (se_call C (FnE.mono (ok_first_start T) (by decide)) (sa_cons (se_var C 0) (sa_cons (se_var C 1) (sa_cons (se_var C 5) (sa_nil))))) (sa_cons (se_add (se_call C (FnE.mono (ok_latest_start T) (by decide)) (sa_cons (se_var C 0) (sa_cons (se_var C 1) (sa_cons (se_var C 5) (sa_nil))))) (se_int)) (sa_nil))))))))
  (sss_one (ss_ret (se_var C 4))))

theorem law_steps_in_turn : LawOf N_steps_in_turn [false, false, false, false] c_steps_in_turn w_steps_in_turn := by
  rintro svs Q E - ⟨b, N, ms, N2, L, rfl, R, up, asc, hL, few, hq⟩
  have lef := fun x y (l : x ≤ y) => ris_le up l
  show w_steps_in_turn [some (.d (.lst (rowsD b N))), some (.d (extD b N)), some (.d (.tup (ms.map mkP))), some (.d (.tup (N2.map mkP))), none, none, none, none] _ _
  ((conv => whnf); try dsimp only [List.set_cons_zero, List.set_cons_succ])
  refine compL_ind (fun ds acc ρ => ∃ (cs ts : List (Int × Int)), ms = cs ++ ts ∧ ds = ts.map mkP ∧ acc = (cs.map Prod.fst).map D.int ∧ ρ = [some (.d (.lst (rowsD b N))), some (.d (extD b N)), some (.d (.tup (ms.map mkP))), some (.d (.tup (N2.map mkP))), none, none, none, none]) ?_ ?_ _ _ _ ⟨[], ms, rfl, rfl, rfl, rfl⟩
  · rintro acc ρ ⟨cs, ts, q1, q2, rfl, rfl⟩
    obtain rfl : ts = [] := by cases ts with
      | nil => rfl
      | cons _ _ => cases q2
    rw [List.append_nil] at q1
    rw [← q1]
    ((conv => whnf); try dsimp only [List.set_cons_zero, List.set_cons_succ])
    refine forL_ind (fun ds ρ => ∃ (as ts : List (Int × Int)) (vs : List Int) (x5 x6 : Option SV), N2 = as ++ ts ∧ ds = ts.map mkP ∧ vs.Pairwise (· < ·) ∧ (∀ x, x ∈ vs ↔ ∃ m ∈ as, valF b N x = m.1) ∧
      ρ = [some (.d (.lst (rowsD b N))), some (.d (extD b N)), some (.d (.tup (ms.map mkP))), some (.d (.tup (N2.map mkP))), some (.lst ((ms.map Prod.fst ++ vs).map D.int)), x5, x6, none]) ?_ ?_ _ _ ⟨[], N2, [], _, _, rfl, rfl, .nil, fun x => ⟨fun h => (nomatch h), fun ⟨m, hm, _⟩ => (nomatch hm)⟩, by rw [List.append_nil]⟩
    · rintro ρ ⟨as, ts, vs, x5, x6, q3, q4, lu, mu, rfl⟩
      obtain rfl : ts = [] := by cases ts with
        | nil => rfl
        | cons _ _ => cases q4
      rw [List.append_nil] at q3
      subst q3
      have lv := nodup_len lu fun x hx => by obtain ⟨m, hm, e⟩ := (mu x).mp hx; exact hL m hm x e
      ((conv => whnf); try dsimp only [List.set_cons_zero, List.set_cons_succ]); exact hq _ (by rw [List.length_append, List.length_map]; omega) fun x => by rw [List.mem_append, mu x]
    · rintro d ds ρ ⟨as, ts, vs, x5, x6, q3, q4, lu, mu, rfl⟩ ih
      cases ts with
      | nil => cases q4
      | cons m ts =>
        cases q4
        have hm : m ∈ N2 := by rw [q3]; simp
        ((conv => whnf); try dsimp only [List.set_cons_zero, List.set_cons_succ]); refine ⟨rfl, ?_⟩
        ((conv => whnf); try dsimp only [List.set_cons_zero, List.set_cons_succ]); refine ⟨b, N, m.1, rfl, R, up, fun f f1 f2 => ?_⟩
        ((conv => whnf); try dsimp only [List.set_cons_zero, List.set_cons_succ]); refine ⟨b, N, m.1, rfl, R, up, fun l l1 l2 => ?_⟩
        have at_ : ∀ x, x ∈ rgI f (l + 1) ↔ valF b N x = m.1 := fun x => by
          rw [mem_rgI]
          constructor
          · rintro ⟨h1, h2⟩
            have := lef f x h1
            have := lef x l (by omega)
            omega
          · intro h
            constructor
            · by_cases c : f ≤ x
              · exact c
              · have := lef x (f - 1) (by omega); omega
            · by_cases c : x < l + 1
              · exact c
              · have := lef (l + 1) x (by omega); omega
        have asc2 := asc
        rw [q3] at asc2
        have a2 := (List.pairwise_append.mp asc2).2.2
        have lu2 : (vs ++ rgI f (l + 1)).Pairwise (· < ·) := List.pairwise_append.mpr ⟨lu, up_rgI _ _, fun x hx y hy => by
          obtain ⟨z, hz, e⟩ := (mu x).mp hx
          have e2 := (at_ y).mp hy
          have := a2 z hz m (by simp)
          by_cases c : x < y
          · exact c
          · have := lef y x (by omega); omega⟩
        have mu2 : ∀ x, x ∈ vs ++ rgI f (l + 1) ↔ ∃ z ∈ as ++ [m], valF b N x = z.1 := fun x => by
          rw [List.mem_append, mu x, at_ x]
          constructor
          · rintro (⟨z, hz, e⟩ | h)
            · exact ⟨z, by simp [hz], e⟩
            · exact ⟨m, by simp, h⟩
          · rintro ⟨z, hz, e⟩
            rcases List.mem_append.mp hz with h | h
            · exact .inl ⟨z, h, e⟩
            · rw [List.mem_singleton.mp h] at e; exact .inr e
        have lv := nodup_len lu2 fun x hx => by
          obtain ⟨z, hz, e⟩ := (mu2 x).mp hx
          refine hL z ?_ x e
          rw [q3]
          rcases List.mem_append.mp hz with h | h
          · exact List.mem_append_left _ h
          · rw [List.mem_singleton.mp h]; simp
        rw [List.length_append] at lv
        have ll := len_rgI f (l + 1)
        ((conv => whnf); try dsimp only [List.set_cons_zero, List.set_cons_succ]); refine ⟨by omega, ?_⟩
        rw [rgD_eq]
        ((conv => whnf); try dsimp only [List.set_cons_zero, List.set_cons_succ]); refine ⟨by simp only [List.length_map, List.length_append]; omega, ?_⟩
        rw [← List.map_append, List.append_assoc]
        exact ⟨_, Fgt.refl _, ih _ ⟨as ++ [m], ts, vs ++ rgI f (l + 1), _, _, by rw [q3]; simp, rfl, lu2, mu2, rfl⟩⟩
  · rintro d ds acc ρ ⟨cs, ts, q1, q2, rfl, rfl⟩ ih2
    cases ts with
    | nil => cases q2
    | cons t ts =>
      cases q2
      have lc : cs.length ≤ ms.length := by rw [q1]; simp
      ((conv => whnf); try dsimp only [List.set_cons_zero, List.set_cons_succ]); refine ⟨rfl, ?_⟩
      ((conv => whnf); try dsimp only [List.set_cons_zero, List.set_cons_succ]); refine Br.tt ?_
      ((conv => whnf); try dsimp only [List.set_cons_zero, List.set_cons_succ]); refine ⟨by simp; omega, ?_⟩
      exact ih2 _ _ ⟨cs ++ [t], ts, by rw [q1]; simp, rfl, by simp, rfl⟩
theorem ok_steps_in_turn {Γ : Wd} (T : Tx Γ) : FnE Γ 6 "steps_in_turn" [false, false, false, false] c_steps_in_turn :=
  fnE_of T.d_steps_in_turn sc_steps_in_turn (by intro _ _ _ _ _ _ _ _ us hl; exact match us, hl with | [_, _, _, _], _ => rfl) T.bn rfl (tr_steps_in_turn T) law_steps_in_turn


/-! rules put together: the signs -/
theorem bareL_pairs : ∀ ms : List (Int × Int), bareL (ms.map mkP) = true ∧ deepL (ms.map mkP) ≤ 1
  | [] => ⟨rfl, Nat.zero_le _⟩
  | m :: ms => by
    obtain ⟨a, b⟩ := bareL_pairs ms
    exact ⟨a, by
      have e : deepL ((m :: ms).map mkP) = max (deepD (mkP m)) (deepL (ms.map mkP)) := rfl
      have : deepD (mkP m) = 1 := rfl
      omega⟩
theorem norm_norm {b : List Int} {ms : List (Int × Int)} (R : Rw b ms) : normF b (normF b ms) = normF b ms :=
  (norm_uniq R.pos rfl (norm_asc R.up) R.up fun a => offF_norm R.pos R.up a).2
theorem ruleD_norm {b : List Int} {ms : List (Int × Int)} (R : Rw b ms) : ruleD b (normF b ms) = ruleD b ms := by
  unfold ruleD ruleFs
  rw [norm_norm R]
theorem fall_norm {b : List Int} {ms : List (Int × Int)} (R : Rw b ms) (h : ∀ a, ¬ Fall b ms a) : ∀ a, ¬ Fall b (normF b ms) a := fun a z => h a (by unfold Fall at z ⊢; rwa [valF_norm R, valF_norm R] at z)
theorem norm_mem {b : List Int} {ms : List (Int × Int)} (R : Rw b ms) {a : Int} (h : offF b ms a ≠ offF b ms (a - b.length)) : a ∈ (normF b ms).map Prod.fst :=
  List.mem_map.mpr ⟨(a, offF b ms a), (mem_norm R.pos R.up a _).mpr ⟨rfl, h⟩, rfl⟩
abbrev mx (i j : Int) : Int := if j > i then j else i
abbrev mn (i j : Int) : Int := if j < i then j else i
/-! Rule.__eq__: self 0, other 1 -/
def c_Rule_or : Con := fun svs Q _ => ∃ (b1 b2 b : List Int) (m1 m2 ms : List (Int × Int)), svs = [.d (ruleD b1 m1), .d (ruleD b2 m2)] ∧ Rw b1 m1 ∧ Rw b2 m2 ∧ Rw b ms ∧ b1.length = b.length ∧ b2.length = b.length ∧ m1.length + m2.length ≤ 1900 ∧ (∀ a, ¬ Fall b ms a) ∧
  (∀ a, offF b ms a = mx (offF b1 m1 a) (offF b2 m2 a)) ∧ Q (.d (ruleD b ms)) svs
/-! Rule.__or__: self 0, other 1, asked 2, offsets 3, base 4, changes 5, moment 6, change 7 -/
theorem sc_Rule_or : FnScope N_Rule_or ["self", "other"] (defScope st_Rule_or) := ⟨rfl, rfl, rfl, by decide +kernel, rfl, by decide +kernel, by decide +kernel⟩
abbrev w_Rule_or_1 : WS := wRetF (wMake 0 [false, false] c_Rule_init (wCons (wVar 4) (wCons (wVar 5) (wNil))))
abbrev w_Rule_or_2 : WS := wSeq (wUnp (wCall [false, false, false] c_gathered (wCons (wB kLen (wCons (wFld 0 0 (wVar 0)) (wNil))) (wCons (wVar 2) (wCons (wVar 3) (wNil))))) (gTp 2 (gsCons (gNm 4) (gsCons (gNm 5) (gsNil))))) w_Rule_or_1
abbrev w_Rule_or_3 : WS := wSeq (wAsg 3 (wLc (wIt (wVar 2)) (gNm 6) (wYes) (wB kMax (wCons (wCall [false, false] c_offset_at (wCons (wFld 0 2 (wVar 0)) (wCons (wVar 6) (wNil)))) (wCons (wCall [false, false] c_offset_at (wCons (wFld 0 2 (wVar 1)) (wCons (wVar 6) (wNil)))) (wNil)))) [6])) w_Rule_or_2
abbrev w_Rule_or_4 : WS := wSeq (wAsg 2 (wCall [false, false] c_asked_moments (wCons (wB kLen (wCons (wFld 0 0 (wVar 0)) (wNil))) (wCons (wLc (wIt (w2 kAdd (wFld 0 1 (wVar 0)) (wFld 0 1 (wVar 1)))) (gNm 7) (wYes) (w2 kIdx (wVar 7) (wC (.int 0))) [7]) (wNil))))) w_Rule_or_3
def w_Rule_or : WS :=
  wSeq (wExp (wCall [false, false] c_check_weeks (wCons (wB kLen (wCons (wFld 0 0 (wVar 0)) (wNil))) (wCons (wB kLen (wCons (wFld 0 0 (wVar 1)) (wNil))) (wNil))))) w_Rule_or_4
theorem tr_Rule_or {Γ : Wd} (T : Tx Γ) (X : Cx) (C : Ctx Γ X N_Rule_or (defScope st_Rule_or) (fun _ => true) 5) (P : Own X) (dc : DefCx X) : SSs Γ [] X (defBody st_Rule_or) w_Rule_or :=
  sss_cons (ss_exp (se_call C (FnE.mono (ok_check_weeks T) (by decide)) (sa_cons (se_len C (sa_cons (se_fld C T.K_0 (by rw [T.F_0]; rfl) (se_var C 0)) (sa_nil))) (sa_cons (se_len C (sa_cons (se_fld C T.K_0 (by rw [T.F_0]; rfl) (se_var C 1)) (sa_nil))) (sa_nil)))))
  (sss_cons (ss_asg C 2 (se_call C (FnE.mono (ok_asked_moments T) (by decide)) (sa_cons (se_len C (sa_cons (se_fld C T.K_0 (by rw [T.F_0]; rfl) (se_var C 0)) (sa_nil))) (sa_cons (se_lc C (own := [("change", 7)]) (is := [7]) (by decide +kernel) (by decide +kernel) (si_seq (se_add (se_fld C T.K_0 (by rw [T.F_0]; rfl) (se_var C 0)) (se_fld C T.K_0 (by rw [T.F_0]; rfl) (se_var C 1)))) (fun _ hX => sg_name hX.1 7) (fun _ hX => sts_nil) (fun _ hX => se_idx hX.1 (fun _ _ => rfl) (se_var hX.1 7) (se_int))) (sa_nil)))))
  (sss_cons (ss_asgLc C 3 (own := [("moment", 6)]) (is := [6]) rfl rfl rfl rfl (by decide +kernel) (by decide +kernel) (by decide +kernel) (si_seq (se_var C 2)) (fun _ hX => sg_name hX.1 6) (fun _ hX => sts_nil) (fun _ hX => se_max hX.1 (sa_cons (se_call hX.1 (FnE.mono (ok_offset_at T) (by decide)) (sa_cons (se_fld hX.1 T.K_0 (by rw [T.F_0]; rfl) (se_var hX.1 0)) (sa_cons (se_var hX.1 6) (sa_nil)))) (sa_cons (se_call hX.1 (FnE.mono (ok_offset_at T) (by decide)) (sa_cons (se_fld hX.1 T.K_0 (by rw [T.F_0]; rfl) (se_var hX.1 1)) (sa_cons (se_var hX.1 6) (sa_nil)))) (sa_nil)))))
  (sss_cons (ss_unp (is := [4, 5]) (se_call C (FnE.mono (ok_gathered T) (by decide)) (sa_cons (se_len C (sa_cons (se_fld C T.K_0 (by rw [T.F_0]; rfl) (se_var C 0)) (sa_nil))) (sa_cons (se_var C 2) (sa_cons (se_var C 3) (sa_nil))))) (sg_tup C (sgs_cons (sg_name C 4) (sgs_cons (sg_name C 5) (sgs_nil)))))
  (sss_one (ss_retF (se_make C (MkE.mono (ok_Rule_init T) (by decide)) (sa_cons (se_var C 4) (sa_cons (se_var C 5) (sa_nil)))))))))

theorem law_Rule_or : LawOf N_Rule_or [false, false] c_Rule_or w_Rule_or := by
  rintro svs Q E - ⟨b1, b2, b, m1, m2, ms, rfl, R1, R2, R, l1, l2, few, nf, ho, hq⟩
  have le := R.le
  have lenB1 : (((b1.map D.int).length : Nat) : Int) = b.length := by rw [List.length_map, l1]
  have lenB2 : (((b2.map D.int).length : Nat) : Int) = b.length := by rw [List.length_map, l2]
  have n1 := norm_len b1 m1
  have n2 := norm_len b2 m2
  show w_Rule_or [some (.d (ruleD b1 m1)), some (.d (ruleD b2 m2)), none, none, none, none, none, none] _ _
  ((conv => whnf); try dsimp only [List.set_cons_zero, List.set_cons_succ]); refine ⟨rfl, ?_⟩
  ((conv => whnf); try dsimp only [List.set_cons_zero, List.set_cons_succ]); refine ⟨rfl, ?_⟩
  ((conv => whnf); try dsimp only [List.set_cons_zero, List.set_cons_succ]); rw [lenB1, lenB2]; refine ⟨_, rfl, ?_⟩
  ((conv => whnf); try dsimp only [List.set_cons_zero, List.set_cons_succ]); refine ⟨rfl, ?_⟩
  ((conv => whnf); try dsimp only [List.set_cons_zero, List.set_cons_succ]); refine ⟨rfl, ?_⟩
  ((conv => whnf); try dsimp only [List.set_cons_zero, List.set_cons_succ]); refine ⟨rfl, ?_⟩
  ((conv => whnf); try dsimp only [List.set_cons_zero, List.set_cons_succ]); refine ⟨by simp; omega, ?_⟩
  ((conv => whnf); try dsimp only [List.set_cons_zero, List.set_cons_succ]); rw [lenB1, ← List.map_append]
  generalize hC : normF b1 m1 ++ normF b2 m2 = cs at *
  have lc : cs.length ≤ 1900 := by rw [← hC, List.length_append]; omega
  refine compL_ind (fun ds acc ρ => ∃ (as ts : List (Int × Int)), cs = as ++ ts ∧ ds = ts.map mkP ∧ acc = (as.map Prod.fst).map D.int ∧ ρ = [some (.d (ruleD b1 m1)), some (.d (ruleD b2 m2)), none, none, none, none, none, none]) ?_ ?_ _ _ _ ⟨[], cs, rfl, rfl, rfl, rfl⟩
  · rintro acc ρ ⟨as, ts, q1, q2, rfl, rfl⟩
    obtain rfl : ts = [] := by cases ts with
      | nil => rfl
      | cons _ _ => cases q2
    rw [List.append_nil] at q1
    rw [← q1]
    have lu := len_ups (cs.map Prod.fst)
    have pl := preU_len b.length (cs.map Prod.fst)
    ((conv => whnf); try dsimp only [List.set_cons_zero, List.set_cons_succ]); refine ⟨b.length, cs.map Prod.fst, rfl, R.pos, le, by rw [List.length_map]; omega, ?_⟩
    have la : (preU b.length (cs.map Prod.fst) ++ ups (cs.map Prod.fst)).length ≤ 2000 := by rw [List.length_append, pl]; rw [List.length_map] at lu; omega
    generalize hW : preU b.length (cs.map Prod.fst) ++ ups (cs.map Prod.fst) = ws at *
    ((conv => whnf); try dsimp only [List.set_cons_zero, List.set_cons_succ])
    refine compL_ind (fun ds acc ρ => ∃ (as ts : List Int), ws = as ++ ts ∧ ds = ts.map D.int ∧ acc = (as.map (offF b ms)).map D.int ∧ ρ = [some (.d (ruleD b1 m1)), some (.d (ruleD b2 m2)), some (.d (.lst (ws.map D.int))), none, none, none, none, none]) ?_ ?_ _ _ _ ⟨[], ws, rfl, rfl, rfl, rfl⟩
    · rintro acc ρ ⟨as, ts, q3, q4, rfl, rfl⟩
      obtain rfl : ts = [] := by cases ts with
        | nil => rfl
        | cons _ _ => cases q4
      rw [List.append_nil] at q3
      rw [← q3]
      ((conv => whnf); try dsimp only [List.set_cons_zero, List.set_cons_succ]); refine ⟨rfl, ?_⟩
      ((conv => whnf); try dsimp only [List.set_cons_zero, List.set_cons_succ]); rw [lenB1]; refine ⟨b, ms, cs.map Prod.fst, by rw [hW], R, by rw [List.length_map]; omega, fun a ha => ?_, ?_⟩
      · rw [← hC, List.map_append]
        rw [ho, ho] at ha
        by_cases c : offF b1 m1 a = offF b1 m1 (a - b.length)
        · refine List.mem_append.mpr (.inr (norm_mem R2 fun z => ha ?_))
          rw [l2] at z
          rw [c, z]
        · refine List.mem_append.mpr (.inl (norm_mem R1 ?_))
          rwa [l1]
      · ((conv => whnf); try dsimp only [List.set_cons_zero, List.set_cons_succ]); refine ⟨rfl, ?_⟩
        ((conv => whnf); try dsimp only [List.set_cons_zero, List.set_cons_succ]); refine ⟨b, normF b ms, rfl, R.norm, fall_norm R nf, rfl, _, _, rfl, ?_⟩
        rw [← ruleD_norm R] at hq
        exact hq
    · rintro d ds acc ρ ⟨as, ts, q3, q4, rfl, rfl⟩ ih2
      cases ts with
      | nil => cases q4
      | cons t ts =>
        cases q4
        have lc : as.length ≤ ws.length := by rw [q3]; simp
        ((conv => whnf); try dsimp only [List.set_cons_zero, List.set_cons_succ]); refine Br.tt ?_
        ((conv => whnf); try dsimp only [List.set_cons_zero, List.set_cons_succ]); refine ⟨rfl, ?_⟩
        ((conv => whnf); try dsimp only [List.set_cons_zero, List.set_cons_succ]); refine ⟨b1, normF b1 m1, t, rfl, R1.norm, ?_⟩
        rw [offF_norm R1.pos R1.up]
        ((conv => whnf); try dsimp only [List.set_cons_zero, List.set_cons_succ]); refine ⟨rfl, ?_⟩
        ((conv => whnf); try dsimp only [List.set_cons_zero, List.set_cons_succ]); refine ⟨b2, normF b2 m2, t, rfl, R2.norm, ?_⟩
        rw [offF_norm R2.pos R2.up]
        ((conv => whnf); try dsimp only [List.set_cons_zero, List.set_cons_succ]); refine ⟨by simp; omega, ?_⟩
        exact ih2 _ _ ⟨as ++ [t], ts, by rw [q3]; simp, rfl, by rw [List.map_append, List.map_append]; simp [ho], rfl⟩
  · rintro d ds acc ρ ⟨as, ts, q1, q2, rfl, rfl⟩ ih2
    cases ts with
    | nil => cases q2
    | cons t ts =>
      cases q2
      have lc : as.length ≤ cs.length := by rw [q1]; simp
      ((conv => whnf); try dsimp only [List.set_cons_zero, List.set_cons_succ]); refine Br.tt ?_
      ((conv => whnf); try dsimp only [List.set_cons_zero, List.set_cons_succ]); refine ⟨_, at0, ?_⟩
      ((conv => whnf); try dsimp only [List.set_cons_zero, List.set_cons_succ]); refine ⟨by simp; omega, ?_⟩
      exact ih2 _ _ ⟨as ++ [t], ts, by rw [q1]; simp, rfl, by simp, rfl⟩
theorem ok_Rule_or {Γ : Wd} (T : Tx Γ) : OpE Γ 6 0 "__or__" [false, false] c_Rule_or :=
  opE_of T.d_Rule_or sc_Rule_or (by intro _ _ _ _ _ _ _ _ us hl; exact match us, hl with | [_, _], _ => rfl) T.bn rfl (tr_Rule_or T) law_Rule_or

def c_Rule_and : Con := fun svs Q _ => ∃ (b1 b2 b : List Int) (m1 m2 ms : List (Int × Int)), svs = [.d (ruleD b1 m1), .d (ruleD b2 m2)] ∧ Rw b1 m1 ∧ Rw b2 m2 ∧ Rw b ms ∧ b1.length = b.length ∧ b2.length = b.length ∧ m1.length + m2.length ≤ 1900 ∧ (∀ a, ¬ Fall b ms a) ∧
  (∀ a, offF b ms a = mn (offF b1 m1 a) (offF b2 m2 a)) ∧ Q (.d (ruleD b ms)) svs
/-! Rule.__and__: self 0, other 1, asked 2, offsets 3, base 4, changes 5, moment 6, change 7 -/
theorem sc_Rule_and : FnScope N_Rule_and ["self", "other"] (defScope st_Rule_and) := ⟨rfl, rfl, rfl, by decide +kernel, rfl, by decide +kernel, by decide +kernel⟩
abbrev w_Rule_and_1 : WS := wRetF (wMake 0 [false, false] c_Rule_init (wCons (wVar 4) (wCons (wVar 5) (wNil))))
abbrev w_Rule_and_2 : WS := wSeq (wUnp (wCall [false, false, false] c_gathered (wCons (wB kLen (wCons (wFld 0 0 (wVar 0)) (wNil))) (wCons (wVar 2) (wCons (wVar 3) (wNil))))) (gTp 2 (gsCons (gNm 4) (gsCons (gNm 5) (gsNil))))) w_Rule_and_1
abbrev w_Rule_and_3 : WS := wSeq (wAsg 3 (wLc (wIt (wVar 2)) (gNm 6) (wYes) (wB kMin (wCons (wCall [false, false] c_offset_at (wCons (wFld 0 2 (wVar 0)) (wCons (wVar 6) (wNil)))) (wCons (wCall [false, false] c_offset_at (wCons (wFld 0 2 (wVar 1)) (wCons (wVar 6) (wNil)))) (wNil)))) [6])) w_Rule_and_2
abbrev w_Rule_and_4 : WS := wSeq (wAsg 2 (wCall [false, false] c_asked_moments (wCons (wB kLen (wCons (wFld 0 0 (wVar 0)) (wNil))) (wCons (wLc (wIt (w2 kAdd (wFld 0 1 (wVar 0)) (wFld 0 1 (wVar 1)))) (gNm 7) (wYes) (w2 kIdx (wVar 7) (wC (.int 0))) [7]) (wNil))))) w_Rule_and_3
def w_Rule_and : WS :=
  wSeq (wExp (wCall [false, false] c_check_weeks (wCons (wB kLen (wCons (wFld 0 0 (wVar 0)) (wNil))) (wCons (wB kLen (wCons (wFld 0 0 (wVar 1)) (wNil))) (wNil))))) w_Rule_and_4
theorem tr_Rule_and {Γ : Wd} (T : Tx Γ) (X : Cx) (C : Ctx Γ X N_Rule_and (defScope st_Rule_and) (fun _ => true) 5) (P : Own X) (dc : DefCx X) : SSs Γ [] X (defBody st_Rule_and) w_Rule_and :=
  sss_cons (ss_exp (se_call C (FnE.mono (ok_check_weeks T) (by decide)) (sa_cons (se_len C (sa_cons (se_fld C T.K_0 (by rw [T.F_0]; rfl) (se_var C 0)) (sa_nil))) (sa_cons (se_len C (sa_cons (se_fld C T.K_0 (by rw [T.F_0]; rfl) (se_var C 1)) (sa_nil))) (sa_nil)))))
  (sss_cons (ss_asg C 2 (se_call C (FnE.mono (ok_asked_moments T) (by decide)) (sa_cons (se_len C (sa_cons (se_fld C T.K_0 (by rw [T.F_0]; rfl) (se_var C 0)) (sa_nil))) (sa_cons (se_lc C (own := [("change", 7)]) (is := [7]) (by decide +kernel) (by decide +kernel) (si_seq (se_add (se_fld C T.K_0 (by rw [T.F_0]; rfl) (se_var C 0)) (se_fld C T.K_0 (by rw [T.F_0]; rfl) (se_var C 1)))) (fun _ hX => sg_name hX.1 7) (fun _ hX => sts_nil) (fun _ hX => se_idx hX.1 (fun _ _ => rfl) (se_var hX.1 7) (se_int))) (sa_nil)))))
  (sss_cons (ss_asgLc C 3 (own := [("moment", 6)]) (is := [6]) rfl rfl rfl rfl (by decide +kernel) (by decide +kernel) (by decide +kernel) (si_seq (se_var C 2)) (fun _ hX => sg_name hX.1 6) (fun _ hX => sts_nil) (fun _ hX => se_min hX.1 (sa_cons (se_call hX.1 (FnE.mono (ok_offset_at T) (by decide)) (sa_cons (se_fld hX.1 T.K_0 (by rw [T.F_0]; rfl) (se_var hX.1 0)) (sa_cons (se_var hX.1 6) (sa_nil)))) (sa_cons (se_call hX.1 (FnE.mono (ok_offset_at T) (by decide)) (sa_cons (se_fld hX.1 T.K_0 (by rw [T.F_0]; rfl) (se_var hX.1 1)) (sa_cons (se_var hX.1 6) (sa_nil)))) (sa_nil)))))
  (sss_cons (ss_unp (is := [4, 5]) (se_call C (FnE.mono (ok_gathered T) (by decide)) (sa_cons (se_len C (sa_cons (se_fld C T.K_0 (by rw [T.F_0]; rfl) (se_var C 0)) (sa_nil))) (sa_cons (se_var C 2) (sa_cons (se_var C 3) (sa_nil))))) (sg_tup C (sgs_cons (sg_name C 4) (sgs_cons (sg_name C 5) (sgs_nil)))))
  (sss_one (ss_retF (se_make C (MkE.mono (ok_Rule_init T) (by decide)) (sa_cons (se_var C 4) (sa_cons (se_var C 5) (sa_nil)))))))))

theorem law_Rule_and : LawOf N_Rule_and [false, false] c_Rule_and w_Rule_and := by
  rintro svs Q E - ⟨b1, b2, b, m1, m2, ms, rfl, R1, R2, R, l1, l2, few, nf, ho, hq⟩
  have le := R.le
  have lenB1 : (((b1.map D.int).length : Nat) : Int) = b.length := by rw [List.length_map, l1]
  have lenB2 : (((b2.map D.int).length : Nat) : Int) = b.length := by rw [List.length_map, l2]
  have n1 := norm_len b1 m1
  have n2 := norm_len b2 m2
  show w_Rule_and [some (.d (ruleD b1 m1)), some (.d (ruleD b2 m2)), none, none, none, none, none, none] _ _
  ((conv => whnf); try dsimp only [List.set_cons_zero, List.set_cons_succ]); refine ⟨rfl, ?_⟩
  ((conv => whnf); try dsimp only [List.set_cons_zero, List.set_cons_succ]); refine ⟨rfl, ?_⟩
  ((conv => whnf); try dsimp only [List.set_cons_zero, List.set_cons_succ]); rw [lenB1, lenB2]; refine ⟨_, rfl, ?_⟩
  ((conv => whnf); try dsimp only [List.set_cons_zero, List.set_cons_succ]); refine ⟨rfl, ?_⟩
  ((conv => whnf); try dsimp only [List.set_cons_zero, List.set_cons_succ]); refine ⟨rfl, ?_⟩
  ((conv => whnf); try dsimp only [List.set_cons_zero, List.set_cons_succ]); refine ⟨rfl, ?_⟩
  ((conv => whnf); try dsimp only [List.set_cons_zero, List.set_cons_succ]); refine ⟨by simp; omega, ?_⟩
  ((conv => whnf); try dsimp only [List.set_cons_zero, List.set_cons_succ]); rw [lenB1, ← List.map_append]
  generalize hC : normF b1 m1 ++ normF b2 m2 = cs at *
  have lc : cs.length ≤ 1900 := by rw [← hC, List.length_append]; omega
  refine compL_ind (fun ds acc ρ => ∃ (as ts : List (Int × Int)), cs = as ++ ts ∧ ds = ts.map mkP ∧ acc = (as.map Prod.fst).map D.int ∧ ρ = [some (.d (ruleD b1 m1)), some (.d (ruleD b2 m2)), none, none, none, none, none, none]) ?_ ?_ _ _ _ ⟨[], cs, rfl, rfl, rfl, rfl⟩
  · rintro acc ρ ⟨as, ts, q1, q2, rfl, rfl⟩
    obtain rfl : ts = [] := by cases ts with
      | nil => rfl
      | cons _ _ => cases q2
    rw [List.append_nil] at q1
    rw [← q1]
    have lu := len_ups (cs.map Prod.fst)
    have pl := preU_len b.length (cs.map Prod.fst)
    ((conv => whnf); try dsimp only [List.set_cons_zero, List.set_cons_succ]); refine ⟨b.length, cs.map Prod.fst, rfl, R.pos, le, by rw [List.length_map]; omega, ?_⟩
    have la : (preU b.length (cs.map Prod.fst) ++ ups (cs.map Prod.fst)).length ≤ 2000 := by rw [List.length_append, pl]; rw [List.length_map] at lu; omega
    generalize hW : preU b.length (cs.map Prod.fst) ++ ups (cs.map Prod.fst) = ws at *
    ((conv => whnf); try dsimp only [List.set_cons_zero, List.set_cons_succ])
    refine compL_ind (fun ds acc ρ => ∃ (as ts : List Int), ws = as ++ ts ∧ ds = ts.map D.int ∧ acc = (as.map (offF b ms)).map D.int ∧ ρ = [some (.d (ruleD b1 m1)), some (.d (ruleD b2 m2)), some (.d (.lst (ws.map D.int))), none, none, none, none, none]) ?_ ?_ _ _ _ ⟨[], ws, rfl, rfl, rfl, rfl⟩
    · rintro acc ρ ⟨as, ts, q3, q4, rfl, rfl⟩
      obtain rfl : ts = [] := by cases ts with
        | nil => rfl
        | cons _ _ => cases q4
      rw [List.append_nil] at q3
      rw [← q3]
      ((conv => whnf); try dsimp only [List.set_cons_zero, List.set_cons_succ]); refine ⟨rfl, ?_⟩
      ((conv => whnf); try dsimp only [List.set_cons_zero, List.set_cons_succ]); rw [lenB1]; refine ⟨b, ms, cs.map Prod.fst, by rw [hW], R, by rw [List.length_map]; omega, fun a ha => ?_, ?_⟩
      · rw [← hC, List.map_append]
        rw [ho, ho] at ha
        by_cases c : offF b1 m1 a = offF b1 m1 (a - b.length)
        · refine List.mem_append.mpr (.inr (norm_mem R2 fun z => ha ?_))
          rw [l2] at z
          rw [c, z]
        · refine List.mem_append.mpr (.inl (norm_mem R1 ?_))
          rwa [l1]
      · ((conv => whnf); try dsimp only [List.set_cons_zero, List.set_cons_succ]); refine ⟨rfl, ?_⟩
        ((conv => whnf); try dsimp only [List.set_cons_zero, List.set_cons_succ]); refine ⟨b, normF b ms, rfl, R.norm, fall_norm R nf, rfl, _, _, rfl, ?_⟩
        rw [← ruleD_norm R] at hq
        exact hq
    · rintro d ds acc ρ ⟨as, ts, q3, q4, rfl, rfl⟩ ih2
      cases ts with
      | nil => cases q4
      | cons t ts =>
        cases q4
        have lc : as.length ≤ ws.length := by rw [q3]; simp
        ((conv => whnf); try dsimp only [List.set_cons_zero, List.set_cons_succ]); refine Br.tt ?_
        ((conv => whnf); try dsimp only [List.set_cons_zero, List.set_cons_succ]); refine ⟨rfl, ?_⟩
        ((conv => whnf); try dsimp only [List.set_cons_zero, List.set_cons_succ]); refine ⟨b1, normF b1 m1, t, rfl, R1.norm, ?_⟩
        rw [offF_norm R1.pos R1.up]
        ((conv => whnf); try dsimp only [List.set_cons_zero, List.set_cons_succ]); refine ⟨rfl, ?_⟩
        ((conv => whnf); try dsimp only [List.set_cons_zero, List.set_cons_succ]); refine ⟨b2, normF b2 m2, t, rfl, R2.norm, ?_⟩
        rw [offF_norm R2.pos R2.up]
        ((conv => whnf); try dsimp only [List.set_cons_zero, List.set_cons_succ]); refine ⟨by simp; omega, ?_⟩
        exact ih2 _ _ ⟨as ++ [t], ts, by rw [q3]; simp, rfl, by rw [List.map_append, List.map_append]; simp [ho], rfl⟩
  · rintro d ds acc ρ ⟨as, ts, q1, q2, rfl, rfl⟩ ih2
    cases ts with
    | nil => cases q2
    | cons t ts =>
      cases q2
      have lc : as.length ≤ cs.length := by rw [q1]; simp
      ((conv => whnf); try dsimp only [List.set_cons_zero, List.set_cons_succ]); refine Br.tt ?_
      ((conv => whnf); try dsimp only [List.set_cons_zero, List.set_cons_succ]); refine ⟨_, at0, ?_⟩
      ((conv => whnf); try dsimp only [List.set_cons_zero, List.set_cons_succ]); refine ⟨by simp; omega, ?_⟩
      exact ih2 _ _ ⟨as ++ [t], ts, by rw [q1]; simp, rfl, by simp, rfl⟩
theorem ok_Rule_and {Γ : Wd} (T : Tx Γ) : OpE Γ 6 0 "__and__" [false, false] c_Rule_and :=
  opE_of T.d_Rule_and sc_Rule_and (by intro _ _ _ _ _ _ _ _ us hl; exact match us, hl with | [_, _], _ => rfl) T.bn rfl (tr_Rule_and T) law_Rule_and

def dlyB (n k : Int) : List Int := List.replicate n.toNat k
theorem dly_rw {n k : Int} (h1 : 1 ≤ n) (h2 : n ≤ 12) : Rw (dlyB n k) [] := ⟨by unfold dlyB; simp; omega, by unfold dlyB; simp; omega, .nil, Nat.zero_le _⟩
theorem dly_wk {n k a : Int} (h1 : 1 ≤ n) : wkF (dlyB n k) a = k := by
  obtain ⟨h, e⟩ := wkF_at (b := dlyB n k) (by unfold dlyB; simp; omega) a
  rw [← e]
  unfold dlyB
  simp
theorem dly_len {n k : Int} (h1 : 1 ≤ n) : ((dlyB n k).length : Int) = n := by unfold dlyB; simp; omega
theorem dly_nf {n k : Int} (h1 : 1 ≤ n) : ∀ a, ¬ Fall (dlyB n k) [] a := fun a h => by
  have e : ∀ x, valF (dlyB n k) [] x = x + wkF (dlyB n k) x := fun _ => rfl
  unfold Fall at h
  rw [e, e, dly_wk h1, dly_wk h1] at h
  omega

/-! from rate.part: moments ahead of all changes -/
theorem top_of (ms : List (Int × Int)) : ∃ B : Int, ∀ m ∈ ms, -B < m.1 ∧ m.1 < B := by
  induction ms with
  | nil => exact ⟨0, fun _ h => nomatch h⟩
  | cons m ms ih =>
    obtain ⟨B, hB⟩ := ih
    refine ⟨(if B < 0 then 0 else B) + m.1.natAbs + 1, fun r hr => ?_⟩
    rcases List.mem_cons.mp hr with rfl | h
    · split <;> omega
    · have := hB r h
      split <;> omega
theorem off_early {b : List Int} {ms : List (Int × Int)} {a : Int} (h : ∀ m ∈ ms, a < m.1) : offF b ms a = wkF b a := by
  have key : ∀ (w : Int) (ms : List (Int × Int)), (∀ m ∈ ms, a < m.1) → offG b.length a w ms = w := fun w ms => by
    induction ms generalizing w with
    | nil => intro _; rfl
    | cons m ms ih =>
      intro h
      have := h m (by simp)
      show offG b.length a (if m.1 ≤ a ∧ (a - m.1) % (b.length : Int) = 0 then m.2 else w) ms = w
      rw [if_neg fun z => by omega]
      exact ih _ fun m hm => h m (by simp [hm])
  exact key _ ms h

/-! a rule for every map whose distance changes at few moments -/
theorem off_same {b : List Int} {ms : List (Int × Int)} (hb : 0 < b.length) {a : Int} (no : ∀ m ∈ ms, m.1 ≠ a) : offF b ms a = offF b ms (a - b.length) := by
  have key : ∀ (w : Int) (ms : List (Int × Int)), (∀ m ∈ ms, m.1 ≠ a) → offG b.length a w ms = offG b.length (a - b.length) w ms := fun w ms => by
    induction ms generalizing w with
    | nil => intro _; rfl
    | cons m ms ih =>
      intro h
      have hm := h m (by simp)
      have e : (m.1 ≤ a ∧ (a - m.1) % (b.length : Int) = 0) ↔ (m.1 ≤ a - b.length ∧ (a - b.length - m.1) % (b.length : Int) = 0) := by
        have r : (a - b.length - m.1) % (b.length : Int) = (a - m.1) % (b.length : Int) := by rw [show a - (b.length : Int) - m.1 = a - m.1 + b.length * (-1) by omega, Int.add_mul_emod_self_left]
        rw [r]
        constructor
        · rintro ⟨h1, h2⟩
          obtain ⟨q, hq⟩ := Int.dvd_of_emod_eq_zero h2
          refine ⟨?_, h2⟩
          have : 1 ≤ q := by
            by_cases c : 1 ≤ q
            · exact c
            · have : (b.length : Int) * q ≤ b.length * 0 := Int.mul_le_mul_of_nonneg_left (by omega) (by omega)
              omega
          have : (b.length : Int) * 1 ≤ b.length * q := Int.mul_le_mul_of_nonneg_left this (by omega)
          omega
        · rintro ⟨h1, h2⟩; exact ⟨by omega, h2⟩
      show offG b.length a (if m.1 ≤ a ∧ (a - m.1) % (b.length : Int) = 0 then m.2 else w) ms = offG b.length (a - b.length) (if m.1 ≤ a - b.length ∧ (a - b.length - m.1) % (b.length : Int) = 0 then m.2 else w) ms
      simp only [e]
      exact ih _ fun m hm => h m (by simp [hm])
  unfold offF
  rw [show wkF b (a - b.length) = wkF b a from by unfold wkF; rw [show a - (b.length : Int) = a + b.length * (-1) by omega, Int.add_mul_emod_self_left]]
  exact key _ ms no
theorem rep_ex {f : Int → Int} {n : Nat} (hn : 0 < n) {us : List Int} (up : us.Pairwise fun x y => x < y) (ch : ∀ a, f a ≠ f (a - n) → a ∈ us) :
    ∃ b : List Int, b.length = n ∧ Asc (pts f us) ∧ ∀ a, offF b (pts f us) a = f a := by
  obtain ⟨B, hB⟩ := top_of (us.map fun u => (u, u))
  have hB' : ∀ u ∈ us, -B < u := fun u hu => (hB (u, u) (List.mem_map.mpr ⟨u, hu, rfl⟩)).1
  -- a moment of a remainder ahead of all changes
  have per : ∀ (k : Nat) (a : Int), a + k * n ≤ -B → f (a + k * n) = f a := fun k => by
    induction k with
    | zero => intro a _; simp
    | succ k ih =>
      intro a h
      have e : a + ((k + 1 : Nat) : Int) * n = (a + k * n) + n := by rw [show ((k + 1 : Nat) : Int) = k + 1 by omega, Int.add_mul]; omega
      rw [e] at h ⊢
      have st : f (a + k * n + n) = f (a + k * n) := by
        apply Classical.byContradiction
        intro z
        have := hB' _ (ch (a + k * n + n) (by rw [show a + (k : Int) * n + n - n = a + k * n by omega]; exact z))
        omega
      rw [st]
      exact ih a (by omega)
  let s0 : Int := -B - n
  have cong : ∀ a c : Int, a ≤ -B → c ≤ -B → a % (n : Int) = c % (n : Int) → f a = f c := fun a c ha hc e => by
    have dv := Int.emod_eq_emod_iff_emod_sub_eq_zero.mp e
    obtain ⟨q, hq⟩ := Int.dvd_of_emod_eq_zero dv
    rcases Int.le_total 0 q with h | h
    · have := per q.toNat c (by rw [Int.toNat_of_nonneg h, Int.mul_comm]; omega)
      rw [Int.toNat_of_nonneg h, Int.mul_comm, show c + (n : Int) * q = a by omega] at this
      exact this
    · have hq2 : (n : Int) * (-q) = c - a := by rw [Int.mul_neg]; omega
      have := per (-q).toNat a (by rw [Int.toNat_of_nonneg (by omega), Int.mul_comm]; omega)
      rw [Int.toNat_of_nonneg (by omega), Int.mul_comm, show a + (n : Int) * (-q) = c by omega] at this
      exact this.symm
  refine ⟨(List.range n).map fun (r : Nat) => f (s0 + ((r : Int) - s0) % n), by simp, ?_, ?_⟩
  · show ((us.map fun u => (u, f u))).Pairwise _
    rw [List.pairwise_map]; exact up
  · have lb : ((List.range n).map fun (r : Nat) => f (s0 + ((r : Int) - s0) % n)).length = n := by simp
    generalize hbb : ((List.range n).map fun (r : Nat) => f (s0 + ((r : Int) - s0) % n)) = b at *
    have asc : Asc (pts f us) := by
      show ((us.map fun u => (u, f u))).Pairwise _
      rw [List.pairwise_map]; exact up
    have wk : ∀ a, a ≤ -B → wkF b a = f a := fun a ha => by
      have h0 := Int.emod_nonneg a (show (n : Int) ≠ 0 by omega)
      have h1 := Int.emod_lt_of_pos a (show (0 : Int) < n by omega)
      have g0 := Int.emod_nonneg (a % (n : Int) - s0) (show (n : Int) ≠ 0 by omega)
      have g1 := Int.emod_lt_of_pos (a % (n : Int) - s0) (show (0 : Int) < n by omega)
      unfold wkF
      rw [lb, ← hbb, List.getElem?_map, List.getElem?_range (by omega)]
      show f (s0 + ((((a % (n : Int)).toNat : Nat) : Int) - s0) % n) = f a
      rw [Int.toNat_of_nonneg h0]
      refine cong _ _ (by show -B - n + _ ≤ -B; omega) ha ?_
      rw [Int.add_emod, Int.emod_emod, ← Int.add_emod, show s0 + (a % (n : Int) - s0) = a % n by omega, Int.emod_emod]
    have far : ∀ (k : Nat) (a : Int), a ≤ -B + k → offF b (pts f us) a = f a := fun k => by
      induction k with
      | zero =>
        intro a ha
        rw [off_early fun m hm => ?_]
        · exact wk a (by omega)
        · obtain ⟨u, hu, rfl⟩ := List.mem_map.mp hm
          have := hB' u hu
          show a < u
          omega
      | succ k ih =>
        intro a ha
        by_cases c : a ∈ us
        · exact offG_at asc (List.mem_map.mpr ⟨a, c, rfl⟩)
        · have e1 := off_same (b := b) (ms := pts f us) (by omega) (a := a) fun m hm z => by
            obtain ⟨u, hu, rfl⟩ := List.mem_map.mp hm
            exact c (z ▸ hu)
          have e2 : f a = f (a - n) := Classical.byContradiction fun z => c (ch a z)
          rw [e1, lb, e2]
          exact ih (a - n) (by omega)
    exact fun a => far (a + B).toNat a (by omega)

def c_Rule_rshift : Con := fun svs Q _ => ∃ (b1 b2 : List Int) (m1 m2 : List (Int × Int)) (L : List Int), svs = [.d (ruleD b1 m1), .d (ruleD b2 m2)] ∧ Rw b1 m1 ∧ Ris b1 m1 ∧ Rw b2 m2 ∧ Ris b2 m2 ∧ b1.length = b2.length ∧
  (∀ m ∈ normF b2 m2, ∀ s, valF b1 m1 s = m.1 → s ∈ L) ∧ (normF b1 m1).length + L.length ≤ 1900 ∧
  ∀ (b : List Int) (ms : List (Int × Int)), Rw b ms → b.length = b1.length → ms.length ≤ (normF b1 m1).length + L.length → (∀ a, ¬ Fall b ms a) → (∀ a, valF b ms a = valF b2 m2 (valF b1 m1 a)) → Q (.d (ruleD b ms)) svs
/-! Rule.__rshift__: self 0, other 1, spots 2, asked 3, values 4, offsets 5, base 6, changes 7, moment 8, value 9 -/
theorem sc_Rule_rshift : FnScope N_Rule_rshift ["self", "other"] (defScope st_Rule_rshift) := ⟨rfl, rfl, rfl, by decide +kernel, rfl, by decide +kernel, by decide +kernel⟩
abbrev w_Rule_rshift_1 : WS := wRetF (wMake 0 [false, false] c_Rule_init (wCons (wVar 6) (wCons (wVar 7) (wNil))))
abbrev w_Rule_rshift_2 : WS := wSeq (wUnp (wCall [false, false, false] c_gathered (wCons (wB kLen (wCons (wFld 0 0 (wVar 0)) (wNil))) (wCons (wVar 3) (wCons (wVar 5) (wNil))))) (gTp 2 (gsCons (gNm 6) (gsCons (gNm 7) (gsNil))))) w_Rule_rshift_1
abbrev w_Rule_rshift_3 : WS := wSeq (wAsg 5 (wLc (wZip (wCons (wVar 3) (wCons (wVar 4) (wNil)))) (gTp 2 (gsCons (gNm 8) (gsCons (gNm 9) (gsNil)))) (wYes) (w2 kSub (wCall [false, false] c_value_at (wCons (wFld 0 2 (wVar 1)) (wCons (wVar 9) (wNil)))) (wVar 8)) [8, 9])) w_Rule_rshift_2
abbrev w_Rule_rshift_4 : WS := wSeq (wAsg 4 (wLc (wIt (wVar 3)) (gNm 8) (wYes) (wCall [false, false] c_value_at (wCons (wFld 0 2 (wVar 0)) (wCons (wVar 8) (wNil)))) [8])) w_Rule_rshift_3
abbrev w_Rule_rshift_5 : WS := wSeq (wAsg 3 (wCall [false, false] c_asked_moments (wCons (wB kLen (wCons (wFld 0 0 (wVar 0)) (wNil))) (wCons (wVar 2) (wNil))))) w_Rule_rshift_4
abbrev w_Rule_rshift_6 : WS := wSeq (wAsg 2 (wCall [false, false, false, false] c_steps_in_turn (wCons (wFld 0 2 (wVar 0)) (wCons (wFld 0 3 (wVar 0)) (wCons (wFld 0 1 (wVar 0)) (wCons (wFld 0 1 (wVar 1)) (wNil))))))) w_Rule_rshift_5
def w_Rule_rshift : WS :=
  wSeq (wExp (wCall [false, false] c_check_weeks (wCons (wB kLen (wCons (wFld 0 0 (wVar 0)) (wNil))) (wCons (wB kLen (wCons (wFld 0 0 (wVar 1)) (wNil))) (wNil))))) w_Rule_rshift_6
theorem tr_Rule_rshift {Γ : Wd} (T : Tx Γ) (X : Cx) (C : Ctx Γ X N_Rule_rshift (defScope st_Rule_rshift) (fun _ => true) 6) (P : Own X) (dc : DefCx X) : SSs Γ [] X (defBody st_Rule_rshift) w_Rule_rshift :=
  sss_cons (ss_exp (se_call C (FnE.mono (ok_check_weeks T) (by decide)) (sa_cons (se_len C (sa_cons (se_fld C T.K_0 (by rw [T.F_0]; rfl) (se_var C 0)) (sa_nil))) (sa_cons (se_len C (sa_cons (se_fld C T.K_0 (by rw [T.F_0]; rfl) (se_var C 1)) (sa_nil))) (sa_nil)))))
  (sss_cons (ss_asg C 2 (se_call C (FnE.mono (ok_steps_in_turn T) (by decide)) (sa_cons (se_fld C T.K_0 (by rw [T.F_0]; rfl) (se_var C 0)) (sa_cons (se_fld C T.K_0 (by rw [T.F_0]; rfl) (se_var C 0)) (sa_cons (se_fld C T.K_0 (by rw [T.F_0]; rfl) (se_var C 0)) (sa_cons (se_fld C T.K_0 (by rw [T.F_0]; rfl) (se_var C 1)) (sa_nil)))))))
  (sss_cons (ss_asg C 3 (se_call C (FnE.mono (ok_asked_moments T) (by decide)) (sa_cons (se_len C (sa_cons (se_fld C T.K_0 (by rw [T.F_0]; rfl) (se_var C 0)) (sa_nil))) (sa_cons (se_var C 2) (sa_nil)))))
  (sss_cons (ss_asgLc C 4 (own := [("moment", 8)]) (is := [8]) rfl rfl rfl rfl (by decide +kernel) (by decide +kernel) (by decide +kernel) (si_seq (se_var C 3)) (fun _ hX => sg_name hX.1 8) (fun _ hX => sts_nil) (fun _ hX => se_call hX.1 (FnE.mono (ok_value_at T) (by decide)) (sa_cons (se_fld hX.1 T.K_0 (by rw [T.F_0]; rfl) (se_var hX.1 0)) (sa_cons (se_var hX.1 8) (sa_nil)))))
  (sss_cons (ss_asgLc C 5 (own := [("moment", 8), ("value", 9)]) (is := [8, 9]) rfl rfl rfl rfl (by decide +kernel) (by decide +kernel) (by decide +kernel) (si_zip C (sa_cons (se_var C 3) (sa_cons (se_var C 4) (sa_nil)))) (fun _ hX => sg_tup hX.1 (sgs_cons (sg_name hX.1 8) (sgs_cons (sg_name hX.1 9) (sgs_nil)))) (fun _ hX => sts_nil) (fun _ hX => se_sub (se_call hX.1 (FnE.mono (ok_value_at T) (by decide)) (sa_cons (se_fld hX.1 T.K_0 (by rw [T.F_0]; rfl) (se_var hX.1 1)) (sa_cons (se_var hX.1 9) (sa_nil)))) (se_var hX.1 8)))
  (sss_cons (ss_unp (is := [6, 7]) (se_call C (FnE.mono (ok_gathered T) (by decide)) (sa_cons (se_len C (sa_cons (se_fld C T.K_0 (by rw [T.F_0]; rfl) (se_var C 0)) (sa_nil))) (sa_cons (se_var C 3) (sa_cons (se_var C 5) (sa_nil))))) (sg_tup C (sgs_cons (sg_name C 6) (sgs_cons (sg_name C 7) (sgs_nil)))))
  (sss_one (ss_retF (se_make C (MkE.mono (ok_Rule_init T) (by decide)) (sa_cons (se_var C 6) (sa_cons (se_var C 7) (sa_nil)))))))))))

/-- the rule of two in turn -/
theorem turn_ex {b1 b2 : List Int} {m1 m2 : List (Int × Int)} {L : List Int} (R1 : Rw b1 m1) (up1 : Ris b1 m1) (R2 : Rw b2 m2) (up2 : Ris b2 m2) (l12 : b1.length = b2.length)
    (hL : ∀ m ∈ normF b2 m2, ∀ s, valF b1 m1 s = m.1 → s ∈ L) (few : (normF b1 m1).length + L.length ≤ 1900) :
    ∃ (b : List Int) (ms : List (Int × Int)), Rw b ms ∧ b.length = b1.length ∧ ms.length ≤ (normF b1 m1).length + L.length ∧ (∀ a, ¬ Fall b ms a) ∧ (∀ a, valF b ms a = valF b2 m2 (valF b1 m1 a)) := by
  have le := R1.le
  have pos := R1.pos
  let f : Int → Int := fun a => valF b2 m2 (valF b1 m1 a) - a
  have lup := len_ups ((normF b1 m1).map Prod.fst ++ L)
  rw [List.length_append, List.length_map] at lup
  obtain ⟨b, lb, asc, hb⟩ := rep_ex pos (up_ups ((normF b1 m1).map Prod.fst ++ L)) (f := f) fun a ne => mem_ups.mpr (by
    by_cases c : offF b1 m1 a = offF b1 m1 (a - b1.length)
    · refine List.mem_append.mpr (.inr ?_)
      have e : valF b1 m1 (a - b1.length) = valF b1 m1 a - b2.length := by unfold valF; rw [← c, ← l12]; omega
      have ne2 : offF b2 m2 (valF b1 m1 a) ≠ offF b2 m2 (valF b1 m1 a - b2.length) := fun z => ne (by
        show valF b2 m2 (valF b1 m1 a) - a = valF b2 m2 (valF b1 m1 (a - b1.length)) - (a - b1.length)
        rw [e]
        show valF b1 m1 a + offF b2 m2 (valF b1 m1 a) - a = valF b1 m1 a - b2.length + offF b2 m2 (valF b1 m1 a - b2.length) - (a - b1.length)
        rw [← z]; omega)
      obtain ⟨m, hm, e2⟩ := List.mem_map.mp (norm_mem R2 ne2)
      exact hL m hm a e2.symm
    · exact List.mem_append.mpr (.inl (norm_mem R1 c)))
  refine ⟨b, pts f (ups ((normF b1 m1).map Prod.fst ++ L)), ⟨by omega, by omega, asc, by unfold pts; rw [List.length_map]; omega⟩, lb, by unfold pts; rw [List.length_map]; omega, fun a z => ?_, fun a => ?_⟩
  · unfold Fall valF at z
    rw [hb, hb] at z
    have h1 := up1 a
    have h2 := ris_le up2 h1
    have z' : a + 1 + (valF b2 m2 (valF b1 m1 (a + 1)) - (a + 1)) < a + (valF b2 m2 (valF b1 m1 a) - a) := z
    omega
  · unfold valF
    rw [hb]
    show a + (valF b2 m2 (valF b1 m1 a) - a) = valF b2 m2 (valF b1 m1 a)
    omega
theorem law_Rule_rshift : LawOf N_Rule_rshift [false, false] c_Rule_rshift w_Rule_rshift := by
  rintro svs Q E - ⟨b1, b2, m1, m2, L, rfl, R1, up1, R2, up2, l12, hL, few, hq⟩
  obtain ⟨b, ms, R, lb, lms, nf, hv⟩ := turn_ex R1 up1 R2 up2 l12 hL few
  have l1 : b1.length = b.length := lb.symm
  have l2 : b2.length = b.length := by omega
  have ho : ∀ a, a + offF b ms a = valF b2 m2 (valF b1 m1 a) := hv
  have hq := hq b ms R lb lms nf hv
  have le := R.le
  have ev1 : valF b1 (normF b1 m1) = valF b1 m1 := funext fun x => valF_norm R1 x
  have lenB1 : (((b1.map D.int).length : Nat) : Int) = b.length := by rw [List.length_map, l1]
  have lenB2 : (((b2.map D.int).length : Nat) : Int) = b.length := by rw [List.length_map, l2]
  show w_Rule_rshift [some (.d (ruleD b1 m1)), some (.d (ruleD b2 m2)), none, none, none, none, none, none, none, none] _ _
  ((conv => whnf); try dsimp only [List.set_cons_zero, List.set_cons_succ]); refine ⟨rfl, ?_⟩
  ((conv => whnf); try dsimp only [List.set_cons_zero, List.set_cons_succ]); refine ⟨rfl, ?_⟩
  ((conv => whnf); try dsimp only [List.set_cons_zero, List.set_cons_succ]); rw [lenB1, lenB2]; refine ⟨_, rfl, ?_⟩
  ((conv => whnf); try dsimp only [List.set_cons_zero, List.set_cons_succ]); refine ⟨rfl, ?_⟩
  ((conv => whnf); try dsimp only [List.set_cons_zero, List.set_cons_succ]); refine ⟨rfl, ?_⟩
  ((conv => whnf); try dsimp only [List.set_cons_zero, List.set_cons_succ]); refine ⟨rfl, ?_⟩
  ((conv => whnf); try dsimp only [List.set_cons_zero, List.set_cons_succ]); refine ⟨rfl, ?_⟩
  ((conv => whnf); try dsimp only [List.set_cons_zero, List.set_cons_succ]); refine ⟨b1, normF b1 m1, normF b1 m1, normF b2 m2, L, rfl, R1.norm, ris_norm R1 up1, norm_asc R2.up, by rw [ev1]; exact hL, by omega, fun us lu mu => ?_⟩
  rw [ev1] at mu
  ((conv => whnf); try dsimp only [List.set_cons_zero, List.set_cons_succ]); refine ⟨rfl, ?_⟩
  ((conv => whnf); try dsimp only [List.set_cons_zero, List.set_cons_succ]); rw [lenB1]
  have lup := len_ups us
  have pl := preU_len b.length us
  refine ⟨b.length, us, rfl, R.pos, le, by omega, ?_⟩
  have la : (preU b.length us ++ ups us).length ≤ 2000 := by rw [List.length_append, pl]; omega
  generalize hW : preU b.length us ++ ups us = ws at *
  ((conv => whnf); try dsimp only [List.set_cons_zero, List.set_cons_succ])
  refine compL_ind (fun ds acc ρ => ∃ (as ts : List Int), ws = as ++ ts ∧ ds = ts.map D.int ∧ acc = (as.map (valF b1 m1)).map D.int ∧ ρ = [some (.d (ruleD b1 m1)), some (.d (ruleD b2 m2)), some (.d (.lst (us.map D.int))), some (.d (.lst (ws.map D.int))), none, none, none, none, none, none]) ?_ ?_ _ _ _ ⟨[], ws, rfl, rfl, rfl, rfl⟩
  · rintro acc ρ ⟨as, ts, q3, q4, rfl, rfl⟩
    obtain rfl : ts = [] := by cases ts with
      | nil => rfl
      | cons _ _ => cases q4
    rw [List.append_nil] at q3
    rw [← q3]
    ((conv => whnf); try dsimp only [List.set_cons_zero, List.set_cons_succ]); rw [zip_pts]
    refine compL_ind (fun ds acc ρ => ∃ (as ts : List Int), ws = as ++ ts ∧ ds = (pts (valF b1 m1) ts).map mkP ∧ acc = (as.map (offF b ms)).map D.int ∧ ρ = [some (.d (ruleD b1 m1)), some (.d (ruleD b2 m2)), some (.d (.lst (us.map D.int))), some (.d (.lst (ws.map D.int))), some (.d (.lst ((ws.map (valF b1 m1)).map D.int))), none, none, none, none, none]) ?_ ?_ _ _ _ ⟨[], ws, rfl, rfl, rfl, rfl⟩
    · rintro acc ρ ⟨as, ts, q5, q6, rfl, rfl⟩
      obtain rfl : ts = [] := by cases ts with
        | nil => rfl
        | cons _ _ => cases q6
      rw [List.append_nil] at q5
      rw [← q5]
      ((conv => whnf); try dsimp only [List.set_cons_zero, List.set_cons_succ]); refine ⟨rfl, ?_⟩
      ((conv => whnf); try dsimp only [List.set_cons_zero, List.set_cons_succ]); rw [lenB1]; refine ⟨b, ms, us, by rw [hW], R, by omega, fun a ha => ?_, ?_⟩
      · refine (mu a).mpr ?_
        by_cases c : offF b1 m1 a = offF b1 m1 (a - b1.length)
        · refine .inr ?_
          have h1 := ho a
          have h2 := ho (a - b.length)
          have e : valF b1 m1 (a - b.length) = valF b1 m1 a - b2.length := by rw [l1] at c; unfold valF; rw [c, l2]; omega
          rw [e] at h2
          have ne : offF b2 m2 (valF b1 m1 a) ≠ offF b2 m2 (valF b1 m1 a - b2.length) := fun z => ha (by
            unfold valF at h1 h2
            unfold valF at z
            rw [← z] at h2
            omega)
          obtain ⟨m, hm, e2⟩ := List.mem_map.mp (norm_mem R2 ne)
          exact ⟨m, hm, e2.symm⟩
        · exact .inl (norm_mem R1 c)
      · ((conv => whnf); try dsimp only [List.set_cons_zero, List.set_cons_succ]); refine ⟨rfl, ?_⟩
        ((conv => whnf); try dsimp only [List.set_cons_zero, List.set_cons_succ]); refine ⟨b, normF b ms, rfl, R.norm, fall_norm R nf, rfl, _, _, rfl, ?_⟩
        rw [← ruleD_norm R] at hq
        exact hq
    · rintro d ds acc ρ ⟨as, ts, q5, q6, rfl, rfl⟩ ih2
      cases ts with
      | nil => cases q6
      | cons t ts =>
        cases q6
        have lc : as.length ≤ ws.length := by rw [q5]; simp
        ((conv => whnf); try dsimp only [List.set_cons_zero, List.set_cons_succ]); refine ⟨rfl, ?_⟩
        ((conv => whnf); try dsimp only [List.set_cons_zero, List.set_cons_succ]); refine Br.tt ?_
        ((conv => whnf); try dsimp only [List.set_cons_zero, List.set_cons_succ]); refine ⟨rfl, ?_⟩
        ((conv => whnf); try dsimp only [List.set_cons_zero, List.set_cons_succ]); refine ⟨b2, normF b2 m2, valF b1 m1 t, rfl, R2.norm, ?_⟩
        rw [valF_norm R2]
        ((conv => whnf); try dsimp only [List.set_cons_zero, List.set_cons_succ]); refine ⟨by simp; omega, ?_⟩
        have e : valF b2 m2 (valF b1 m1 t) - t = offF b ms t := by
          have := ho t
          omega
        exact ih2 _ _ ⟨as ++ [t], ts, by rw [q5]; simp, rfl, by rw [List.map_append, List.map_append, e]; rfl, rfl⟩
  · rintro d ds acc ρ ⟨as, ts, q3, q4, rfl, rfl⟩ ih2
    cases ts with
    | nil => cases q4
    | cons t ts =>
      cases q4
      have lc : as.length ≤ ws.length := by rw [q3]; simp
      ((conv => whnf); try dsimp only [List.set_cons_zero, List.set_cons_succ]); refine Br.tt ?_
      ((conv => whnf); try dsimp only [List.set_cons_zero, List.set_cons_succ]); refine ⟨rfl, ?_⟩
      ((conv => whnf); try dsimp only [List.set_cons_zero, List.set_cons_succ]); refine ⟨b1, normF b1 m1, t, rfl, R1.norm, ?_⟩
      rw [ev1]
      ((conv => whnf); try dsimp only [List.set_cons_zero, List.set_cons_succ]); refine ⟨by simp; omega, ?_⟩
      exact ih2 _ _ ⟨as ++ [t], ts, by rw [q3]; simp, rfl, by rw [List.map_append, List.map_append]; rfl, rfl⟩
theorem ok_Rule_rshift {Γ : Wd} (T : Tx Γ) : OpE Γ 7 0 "__rshift__" [false, false] c_Rule_rshift :=
  opE_of T.d_Rule_rshift sc_Rule_rshift (by intro _ _ _ _ _ _ _ _ us hl; exact match us, hl with | [_, _], _ => rfl) T.bn rfl (tr_Rule_rshift T) law_Rule_rshift


/-! the latest start as a rule -/
/-- s is the latest start at m -/
abbrev LatS (f : Int → Int) (m s : Int) : Prop := f s ≤ m ∧ m < f (s + 1)
theorem latS_ex {b : List Int} {ms : List (Int × Int)} (R : Rw b ms) (m : Int) : ∃ s, LatS (valF b ms) m s := by
  have ex := off_ext (b := b) (ms := ms) R.pos
  have lo : valF b ms (m - maxI (allO b ms)) ≤ m := by have := (ex (m - maxI (allO b ms))).2; unfold valF; omega
  have hi : m < valF b ms (m - minI (allO b ms) + 1) := by have := (ex (m - minI (allO b ms) + 1)).1; unfold valF; omega
  have mm := ex 0
  have key : ∀ k : Nat, (∃ s, LatS (valF b ms) m s) ∨ valF b ms (m - maxI (allO b ms) + k) ≤ m := fun k => by
    induction k with
    | zero => exact .inr (by simpa using lo)
    | succ k ih =>
      rcases ih with h | h
      · exact .inl h
      · by_cases c : valF b ms (m - maxI (allO b ms) + k + 1) ≤ m
        · exact .inr (by rw [show m - maxI (allO b ms) + ((k + 1 : Nat) : Int) = m - maxI (allO b ms) + k + 1 by omega]; exact c)
        · exact .inl ⟨_, h, by omega⟩
  rcases key (maxI (allO b ms) - minI (allO b ms) + 1).toNat with h | h
  · exact h
  · rw [show m - maxI (allO b ms) + ((maxI (allO b ms) - minI (allO b ms) + 1).toNat : Int) = m - minI (allO b ms) + 1 by omega] at h
    omega
/-- what a rule tells of itself -/
def shapeD (b : List Int) (cs : List (Int × Int)) : D := .lst [.int b.length, .lst (b.map D.int), .lst (cs.map mkP)]
theorem smallL_pairs : ∀ {ms : List (Int × Int)}, (∀ m ∈ ms, -(10 ^ 40) < m.1 ∧ m.1 < 10 ^ 40 ∧ -(10 ^ 40) < m.2 ∧ m.2 < 10 ^ 40) → smallL (ms.map mkP) ∧ deepL (ms.map mkP) ≤ 1 ∧ roomL (ms.map mkP) = 3856 * ms.length
  | [], _ => ⟨trivial, Nat.zero_le _, rfl⟩
  | m :: ms, h => by
    obtain ⟨a, b, c⟩ := smallL_pairs (ms := ms) fun y hy => h y (by simp [hy])
    have hm := h m (by simp)
    refine ⟨⟨⟨small_of (by omega) (by omega), small_of (by omega) (by omega), trivial⟩, a⟩, ?_, ?_⟩
    · show max (deepD (mkP m)) (deepL (ms.map mkP)) ≤ 1
      have : deepD (mkP m) = 1 := rfl
      omega
    · show 1921 + 2 + (1921 + 2 + 0) + 8 + 2 + roomL (ms.map mkP) = 3856 * (ms.length + 1)
      rw [c]; omega
theorem rpr_shape {b : List Int} {cs : List (Int × Int)} (h12 : b.length ≤ 12) (lr : cs.length ≤ 4000) (hb : ∀ x ∈ b, -(10 ^ 40) < x ∧ x < 10 ^ 40) (h : ∀ m ∈ cs, -(10 ^ 40) < m.1 ∧ m.1 < 10 ^ 40 ∧ -(10 ^ 40) < m.2 ∧ m.2 < 10 ^ 40) : Rpr (shapeD b cs) := by
  obtain ⟨a1, b1, c1⟩ := smallL_ints (xs := b) fun x hx => small_of (by have := hb x hx; omega) (by have := hb x hx; omega)
  obtain ⟨a2, b2, c2⟩ := smallL_pairs h
  refine rpr_of ⟨small_of (by omega) (by omega), a1, a2, trivial⟩ ?_ ?_
  · show max 0 (max (deepL (b.map D.int) + 1) (max (deepL (cs.map mkP) + 1) 0)) + 1 ≤ 50
    omega
  · show 1921 + 2 + (roomL (b.map D.int) + 8 + 2 + (roomL (cs.map mkP) + 8 + 2 + 0)) + 8 ≤ _
    omega
def c_law_shape : Con := fun svs Q _ => ∃ (b : List Int) (ms : List (Int × Int)), svs = [.d (ruleD b ms)] ∧ Rpr (shapeD b (normF b ms)) ∧ Q (.d (.str (shw (shapeD b (normF b ms))))) svs
/-! _law_shape: made 0 -/
theorem sc_law_shape : FnScope N_law_shape ["made"] (defScope st_law_shape) := ⟨rfl, rfl, rfl, by decide +kernel, rfl, by decide +kernel, by decide +kernel⟩
def w_law_shape : WS :=
  wRetF (wB kRepr (wCons (wLst (wCons (wProp 0 [false] c_Rule_week (wVar 0)) (wCons (wProp 0 [false] c_Rule_base (wVar 0)) (wCons (wProp 0 [false] c_Rule_changes (wVar 0)) (wNil))))) (wNil)))
theorem tr_law_shape {Γ : Wd} (T : Tx Γ) (G : Γ.gk = true) (X : Cx) (C : Ctx Γ X N_law_shape (defScope st_law_shape) (fun _ => true) 2) (P : Own X) (dc : DefCx X) : SSs Γ [] X (defBody st_law_shape) w_law_shape :=
  sss_one (ss_retF (se_repr G C (sa_cons (se_lst (sa_cons (se_prop C T.K_0 (PrE.mono (ok_Rule_week T) (by decide)) (se_var C 0)) (sa_cons (se_prop C T.K_0 (PrE.mono (ok_Rule_base T) (by decide)) (se_var C 0)) (sa_cons (se_prop C T.K_0 (PrE.mono (ok_Rule_changes T) (by decide)) (se_var C 0)) (sa_nil))))) (sa_nil))))

theorem law_law_shape : LawOf N_law_shape [false] c_law_shape w_law_shape := by
  rintro svs Q E - ⟨b, ms, rfl, R, hq⟩
  ((conv => whnf); try dsimp only [List.set_cons_zero, List.set_cons_succ]); refine ⟨rfl, b, ms, rfl, ?_⟩
  ((conv => whnf); try dsimp only [List.set_cons_zero, List.set_cons_succ]); refine ⟨rfl, b, ms, rfl, ?_⟩
  ((conv => whnf); try dsimp only [List.set_cons_zero, List.set_cons_succ]); refine ⟨rfl, b, ms, rfl, ?_⟩
  ((conv => whnf); try dsimp only [List.set_cons_zero, List.set_cons_succ]); refine ⟨few3 (by show 3 ≤ 1000; decide), ?_⟩
  ((conv => whnf); try dsimp only [List.set_cons_zero, List.set_cons_succ]); refine ⟨R, ?_⟩
  ((conv => whnf); try dsimp only [List.set_cons_zero, List.set_cons_succ]); exact hq
theorem ok_law_shape {Γ : Wd} (T : Tx Γ) (G : Γ.gk = true) : FnE Γ 3 "_law_shape" [false] c_law_shape :=
  fnE_of T.d_law_shape sc_law_shape (by intro _ _ _ _ _ _ _ _ us hl; exact match us, hl with | [_], _ => rfl) T.bn rfl (tr_law_shape T G) law_law_shape


theorem wkF_ex {xs : List Int} (hb : 0 < xs.length) (a : Int) : atI (xs.map D.int) (a % (xs.length : Int)) = some (.int (wkF xs a)) := by
  obtain ⟨h, e⟩ := wkF_at hb a
  exact at_nat (Int.emod_nonneg _ (by omega)) (by rw [List.getElem?_map, List.getElem?_eq_getElem h, e]; rfl)
def tabX (L : List Int) (rows : List (Int × Int)) (xs : List D) : D := .tup (.lst (L.map D.int) :: .lst (rows.map mkP) :: xs)
/-! tables of whole weeks, one after the other -/
def blkM (n : Nat) (later : List Int) (spot low : Int) (k : Nat) : List (Int × Int) := (List.range k).map fun (j : Nat) => (spot + j, low + (later[j]?).getD 0 - spot - j)
theorem blk_succ (n : Nat) (later : List Int) (spot low : Int) (k : Nat) : blkM n later spot low (k + 1) = blkM n later spot low k ++ [(spot + k, low + (later[k]?).getD 0 - spot - k)] := by
  unfold blkM
  rw [List.range_succ, List.map_append]
  rfl
theorem blk_len (n : Nat) (later : List Int) (spot low : Int) (k : Nat) : (blkM n later spot low k).length = k := by unfold blkM; simp
theorem blk_off {bs : List Int} (hn : 0 < bs.length) (later : List Int) (spot low : Int) (ms : List (Int × Int)) (x : Int) : ∀ k : Nat, k ≤ bs.length →
    offF bs (ms ++ blkM bs.length later spot low k) x = if spot ≤ x ∧ (x - spot) % bs.length < k then low + (later[((x - spot) % bs.length).toNat]?).getD 0 - spot - (x - spot) % bs.length else offF bs ms x
  | 0, _ => by
    have := Int.emod_nonneg (x - spot) (show (bs.length : Int) ≠ 0 by omega)
    rw [if_neg (by omega), show blkM bs.length later spot low 0 = [] from rfl, List.append_nil]
  | k + 1, hk => by
    have r0 := Int.emod_nonneg (x - spot) (show (bs.length : Int) ≠ 0 by omega)
    have r1 := Int.emod_lt_of_pos (x - spot) (show (0 : Int) < bs.length by omega)
    have r3 := Int.emod_add_mul_ediv (x - spot) bs.length
    rw [blk_succ, ← List.append_assoc, offF_app, blk_off hn later spot low ms x k (by omega)]
    have ek : (x - (spot + (k : Int))) % (bs.length : Int) = 0 ↔ (x - spot) % (bs.length : Int) = k := by
      rw [show x - (spot + (k : Int)) = (x - spot) - k by omega]
      rw [← Int.emod_eq_emod_iff_emod_sub_eq_zero, Int.emod_eq_of_lt (a := (k : Int)) (by omega) (by omega)]
    generalize hr : (x - spot) % (bs.length : Int) = r at *
    by_cases c : r = k
    · by_cases d : spot ≤ x
      · have q0 : 0 ≤ (x - spot) / (bs.length : Int) := Int.ediv_nonneg (by omega) (by omega)
        have q1 : 0 ≤ (bs.length : Int) * ((x - spot) / bs.length) := Int.mul_nonneg (by omega) q0
        rw [if_pos ⟨by omega, ek.mpr c⟩, if_pos ⟨d, by omega⟩, c, Int.toNat_natCast]
      · rw [if_neg fun z => d (by omega), if_neg fun z => d z.1, if_neg fun z => d z.1]
    · rw [if_neg fun z => c (ek.mp z.2)]
      by_cases d : spot ≤ x ∧ r < k
      · rw [if_pos d, if_pos ⟨d.1, by omega⟩]
      · rw [if_neg d, if_neg fun z => d ⟨z.1, by omega⟩]
/-- a week of values that never fall, the last one at most a week behind the first one -/
structure Rise (n : Nat) (later : List Int) : Prop where
  len : later.length = n
  up : later.Pairwise (· ≤ ·)
  bd : ∀ x ∈ later, 0 ≤ x ∧ x ≤ n
theorem Rise.at_ {n : Nat} {later : List Int} (h : Rise n later) {i : Nat} (hi : i < n) : ∃ v, later[i]? = some v ∧ 0 ≤ v ∧ v ≤ n := by
  have hi' : i < later.length := by rw [h.len]; exact hi
  exact ⟨later[i], List.getElem?_eq_getElem hi', h.bd _ (List.getElem_mem hi')⟩
theorem Rise.le {n : Nat} {later : List Int} (h : Rise n later) {i j : Nat} (ij : i ≤ j) (hj : j < n) : (later[i]?).getD 0 ≤ (later[j]?).getD 0 := by
  have hj' : j < later.length := by rw [h.len]; exact hj
  have hi' : i < later.length := by omega
  rw [List.getElem?_eq_getElem hj', List.getElem?_eq_getElem hi']
  show later[i] ≤ later[j]
  rcases Nat.lt_or_ge i j with c | c
  · exact List.pairwise_iff_getElem.mp h.up i j hi' hj' c
  · have : i = j := by omega
    subst this
    exact Int.le_refl _
theorem emod_next {n : Int} (hn : 0 < n) (a : Int) : (a % n + 1 < n ∧ (a + 1) % n = a % n + 1) ∨ (a % n + 1 = n ∧ (a + 1) % n = 0) := by
  have r0 := Int.emod_nonneg a (show n ≠ 0 by omega)
  have r1 := Int.emod_lt_of_pos a hn
  have e : (a + 1) % n = (a % n + 1) % n := (Int.emod_add_emod a n 1).symm
  by_cases c : a % n + 1 < n
  · exact .inl ⟨c, by rw [e, Int.emod_eq_of_lt (by omega) c]⟩
  · have c' : a % n + 1 = n := by omega
    exact .inr ⟨c', by rw [e, c', Int.emod_self]⟩
theorem blk_fall {bs : List Int} (hn : 0 < bs.length) {later : List Int} (T : Rise bs.length later) {spot low : Int} {ms : List (Int × Int)} (nf : ∀ x, ¬ Fall bs ms x) (hlow : valF bs ms (spot - 1) ≤ low + (later[0]?).getD 0) (x : Int) : ¬ Fall bs (ms ++ blkM bs.length later spot low bs.length) x := by
  intro z
  unfold Fall valF at z
  have off := fun x => blk_off hn later spot low ms x bs.length (Nat.le_refl _)
  have r0 := Int.emod_nonneg (x - spot) (show (bs.length : Int) ≠ 0 by omega)
  have r1 := Int.emod_lt_of_pos (x - spot) (show (0 : Int) < bs.length by omega)
  have s1 := Int.emod_lt_of_pos (x + 1 - spot) (show (0 : Int) < bs.length by omega)
  have o1 := off x
  have o2 := off (x + 1)
  by_cases c : spot ≤ x
  · rw [if_pos ⟨c, r1⟩] at o1
    rw [if_pos ⟨by omega, s1⟩] at o2
    have e := emod_next (show (0 : Int) < bs.length by omega) (x - spot)
    rw [show x - spot + 1 = x + 1 - spot by omega] at e
    rcases e with ⟨e1, e2⟩ | ⟨e1, e2⟩
    · have := T.le (i := ((x - spot) % bs.length).toNat) (j := ((x + 1 - spot) % bs.length).toNat) (by omega) (by omega)
      omega
    · obtain ⟨v, hv, v0, v1⟩ := T.at_ (i := ((x - spot) % bs.length).toNat) (by omega)
      obtain ⟨w, hw, w0, w1⟩ := T.at_ (i := ((x + 1 - spot) % bs.length).toNat) (by omega)
      rw [hv] at o1
      rw [hw] at o2
      have o1' : offF bs (ms ++ blkM bs.length later spot low bs.length) x = low + v - spot - (x - spot) % bs.length := o1
      have o2' : offF bs (ms ++ blkM bs.length later spot low bs.length) (x + 1) = low + w - spot - (x + 1 - spot) % bs.length := o2
      omega
  · rw [if_neg fun q => c q.1] at o1
    by_cases d : spot ≤ x + 1
    · obtain rfl : x = spot - 1 := by omega
      rw [if_pos ⟨d, s1⟩, show spot - 1 + 1 - spot = 0 by omega, Int.zero_emod] at o2
      have o2' : offF bs (ms ++ blkM bs.length later spot low bs.length) (spot - 1 + 1) = low + (later[0]?).getD 0 - spot - 0 := o2
      unfold valF at hlow
      omega
    · rw [if_neg fun q => d q.1] at o2
      exact nf x (by unfold Fall valF; omega)
/-! single values changed -/
/-- the line of a week's values -/
def tvF (T : List Int) (x : Int) : Int := (T[(x % (T.length : Int)).toNat]?).getD 0 + T.length * (x / T.length)
theorem tv_week {T : List Int} (hn : 0 < T.length) (x : Int) : tvF T (x + T.length) = tvF T x + T.length := by
  unfold tvF
  rw [Int.add_emod_right, Int.add_ediv_of_dvd_right (Int.dvd_refl _), Int.ediv_self (by omega), Int.mul_add]
  omega
theorem tv_le {T : List Int} (up : ∀ x, tvF T x ≤ tvF T (x + 1)) {x y : Int} (h : x ≤ y) : tvF T x ≤ tvF T y := by
  have key : ∀ k : Nat, tvF T x ≤ tvF T (x + k) := fun k => by
    induction k with
    | zero => rw [show x + ((0 : Nat) : Int) = x by omega]; exact Int.le_refl _
    | succ k ih =>
      have := up (x + k)
      rw [show x + ((k + 1 : Nat) : Int) = x + k + 1 by omega]
      omega
  have := key (y - x).toNat
  rwa [show x + ((y - x).toNat : Int) = y by omega] at this
theorem tv_rise {n : Nat} {T : List Int} (h : Rise n T) (hn : 0 < n) (x : Int) : tvF T x ≤ tvF T (x + 1) := by
  have e : T.length = n := h.len
  subst e
  have r0 := Int.emod_nonneg x (show (T.length : Int) ≠ 0 by omega)
  have r1 := Int.emod_lt_of_pos x (show (0 : Int) < T.length by omega)
  have q := Int.emod_add_mul_ediv x T.length
  have q2 := Int.emod_add_mul_ediv (x + 1) T.length
  unfold tvF
  rcases emod_next (show (0 : Int) < T.length by omega) x with ⟨e1, e2⟩ | ⟨e1, e2⟩
  · have := h.le (i := (x % T.length).toNat) (j := ((x + 1) % T.length).toNat) (by omega) (by omega)
    omega
  · obtain ⟨v, hv, v0, v1⟩ := h.at_ (i := (x % T.length).toNat) (by omega)
    obtain ⟨w, hw, w0, w1⟩ := h.at_ (i := ((x + 1) % T.length).toNat) (by omega)
    rw [hv, hw]
    show v + _ ≤ w + _
    omega
theorem tv_at {T : List Int} (i : Nat) (hi : i < T.length) (q : Int) : tvF T (i + T.length * q) = T[i] + T.length * q := by
  unfold tvF
  rw [Int.add_mul_emod_self_left, Int.emod_eq_of_lt (by omega) (by omega), Int.toNat_natCast, List.getElem?_eq_getElem hi, Int.add_mul_ediv_left _ _ (by omega), Int.ediv_eq_zero_of_lt (by omega) (by omega), Int.zero_add]
  rfl
/-- one of them changed, between its neighbours -/
theorem tv_set {T : List Int} {v : Int} (x s : Int) (hn : 0 < T.length) : tvF (T.set (s % T.length).toNat v) x = if x % T.length = s % T.length then v + T.length * (x / T.length) else tvF T x := by
  have r0 := Int.emod_nonneg x (show (T.length : Int) ≠ 0 by omega)
  have s0 := Int.emod_nonneg s (show (T.length : Int) ≠ 0 by omega)
  have r1 := Int.emod_lt_of_pos x (show (0 : Int) < T.length by omega)
  have s1 := Int.emod_lt_of_pos s (show (0 : Int) < T.length by omega)
  unfold tvF
  rw [List.length_set]
  by_cases c : x % (T.length : Int) = s % T.length
  · rw [if_pos c, c, List.getElem?_set_self (by omega)]
    rfl
  · rw [if_neg c, List.getElem?_set_ne (by omega)]
theorem tv_set_up {T : List Int} {v s : Int} (hn : 0 < T.length) (up : ∀ x, tvF T x ≤ tvF T (x + 1)) (h1 : tvF T (s - 1) ≤ v + T.length * (s / T.length)) (h2 : v + T.length * (s / T.length) ≤ tvF T (s + 1)) (x : Int) : tvF (T.set (s % T.length).toNat v) x ≤ tvF (T.set (s % T.length).toNat v) (x + 1) := by
  have far : ∀ (k : Int) (y : Int), tvF T (y + T.length * k) = tvF T y + T.length * k := fun k y => by
    unfold tvF
    rw [Int.add_mul_emod_self_left, Int.add_mul_ediv_left _ _ (by omega), Int.mul_add]
    omega
  have qs := Int.emod_add_mul_ediv s T.length
  rw [tv_set x s hn, tv_set (x + 1) s hn]
  have qx := Int.emod_add_mul_ediv x T.length
  have qy := Int.emod_add_mul_ediv (x + 1) T.length
  by_cases c : x % (T.length : Int) = s % T.length
  · rw [if_pos c]
    by_cases d : (x + 1) % (T.length : Int) = s % T.length
    · rw [if_pos d]
      have : x / (T.length : Int) ≤ (x + 1) / T.length := Int.ediv_le_ediv (by omega) (by omega)
      have := Int.mul_le_mul_of_nonneg_left this (show (0 : Int) ≤ T.length by omega)
      omega
    · rw [if_neg d]
      have f := far (x / T.length - s / T.length) (s + 1)
      rw [Int.mul_sub, show s + 1 + ((T.length : Int) * (x / T.length) - T.length * (s / T.length)) = x + 1 by omega] at f
      omega
  · rw [if_neg c]
    by_cases d : (x + 1) % (T.length : Int) = s % T.length
    · rw [if_pos d]
      have f := far ((x + 1) / T.length - s / T.length) (s - 1)
      rw [Int.mul_sub, show s - 1 + ((T.length : Int) * ((x + 1) / T.length) - T.length * (s / T.length)) = x by omega] at f
      omega
    · rw [if_neg d]; exact up x
theorem sum_set : ∀ (T : List Int) (i : Nat) (hi : i < T.length) (v : Int), (T.set i v).sum = T.sum - T[i] + v
  | t :: T, 0, _, v => by show v + T.sum = t + T.sum - t + v; omega
  | t :: T, i + 1, hi, v => by
    have := sum_set T i (by simpa using hi) v
    show t + (T.set i v).sum = t + T.sum - T[i]'(by simpa using hi) + v
    omega
theorem sum_near {c w : Int} : ∀ (T : List Int), (∀ x ∈ T, c - w ≤ x ∧ x ≤ c + w) → T.length * (c - w) ≤ T.sum ∧ T.sum ≤ T.length * (c + w)
  | [], _ => by simp
  | t :: T, h => by
    have ih := sum_near T fun x hx => h x (by simp [hx])
    have := h t (by simp)
    rw [List.sum_cons, List.length_cons, show ((T.length + 1 : Nat) : Int) = (T.length : Int) + 1 by omega, Int.add_mul, Int.add_mul]
    omega
/-- values within a week of one another, of a sum that is known, have bounds -/
theorem near_bd {T : List Int} {k : Int} (hn : 0 < T.length) (up : ∀ x, tvF T x ≤ tvF T (x + 1)) (h1 : -((T.length : Int) * k) ≤ T.sum) (h2 : T.sum ≤ T.length * T.length + T.length * k) {x : Int} (hx : x ∈ T) : -(T.length + k) ≤ x ∧ x ≤ 2 * T.length + k := by
  obtain ⟨i, hi, rfl⟩ := List.getElem_of_mem hx
  have near : ∀ y ∈ T, T[i] - T.length ≤ y ∧ y ≤ T[i] + T.length := fun y hy => by
    obtain ⟨j, hj, rfl⟩ := List.getElem_of_mem hy
    have a1 := tv_at i hi 0
    have a2 := tv_at j hj 0
    have a3 := tv_week hn (i : Int)
    have a4 := tv_week hn (j : Int)
    rw [Int.mul_zero, Int.add_zero] at a1 a2
    have b1 := tv_le up (show (i : Int) ≤ j + T.length by omega)
    have b2 := tv_le up (show (j : Int) ≤ i + T.length by omega)
    omega
  obtain ⟨s1, s2⟩ := sum_near T near
  rw [Int.mul_sub] at s1
  rw [Int.mul_add] at s2
  have n0 : (0 : Int) < T.length := by omega
  constructor
  · have : (T.length : Int) * (-(T.length + k)) ≤ T.length * T[i] := by rw [Int.mul_neg, Int.mul_add]; omega
    exact Int.le_of_mul_le_mul_left this n0
  · have : (T.length : Int) * T[i] ≤ T.length * (2 * T.length + k) := by rw [Int.mul_add, Int.mul_left_comm]; omega
    exact Int.le_of_mul_le_mul_left this n0

/-! the offsets and starts of a table -/
def c_law_offset : Con := fun svs Q _ => ∃ (L : List Int) (rows : List (Int × Int)) (xs : List D) (a : Int), svs = [.d (tabX L rows xs), .d (.int a)] ∧ Rw L rows ∧ Q (.d (.int (offF L rows a))) svs
/-! _law_offset: plan 0, spot 1, size 2, found 3, at 4, offset_here 5 -/
theorem sc_law_offset : FnScope N_law_offset ["plan", "spot"] (defScope st_law_offset) := ⟨rfl, rfl, rfl, by decide +kernel, rfl, by decide +kernel, by decide +kernel⟩
abbrev w_law_offset_1 : WS := wIf (wAndT (wTst (w2 kLe (wVar 4) (wVar 1))) (wTst (w2 kEq (w2 kMod (wB kInt (wCons (w2 kSub (wVar 1) (wVar 4)) (wNil))) (wVar 2)) (wC (.int 0))))) (wAsg 3 (wVar 5)) (wNext)
abbrev w_law_offset_2 : WS := wRetF (wVar 3)
abbrev w_law_offset_3 : WS := wSeq (wFor (wIt (w2 kIdx (wVar 0) (wC (.int 1)))) (gTp 2 (gsCons (gNm 4) (gsCons (gNm 5) (gsNil)))) w_law_offset_1) w_law_offset_2
abbrev w_law_offset_4 : WS := wSeq (wAsg 3 (w2 kIdx (w2 kIdx (wVar 0) (wC (.int 0))) (w2 kMod (wB kInt (wCons (wVar 1) (wNil))) (wVar 2)))) w_law_offset_3
def w_law_offset : WS :=
  wSeq (wAsg 2 (wB kLen (wCons (w2 kIdx (wVar 0) (wC (.int 0))) (wNil)))) w_law_offset_4
theorem tr_law_offset {Γ : Wd} (T : Tx Γ) (X : Cx) (C : Ctx Γ X N_law_offset (defScope st_law_offset) (fun _ => true) 0) (P : Own X) (dc : DefCx X) : SSs Γ [] X (defBody st_law_offset) w_law_offset :=
  sss_cons (ss_asg C 2 (se_len C (sa_cons (se_idx C (fun _ _ => rfl) (se_var C 0) (se_int)) (sa_nil))))
  (sss_cons (ss_asg C 3 (se_idx C (fun _ _ => rfl) (se_idx C (fun _ _ => rfl) (se_var C 0) (se_int)) (se_mod (se_intc C (sa_cons (se_var C 1) (sa_nil))) (se_var C 2))))
  (sss_cons (ss_for C P (is := [4, 5]) (si_seq (se_idx C (fun _ _ => rfl) (se_var C 0) (se_int))) (sg_tup C (sgs_cons (sg_name C 4) (sgs_cons (sg_name C 5) (sgs_nil)))) (sss_one (ss_if (SW.st (sw_and (st_le  (se_var C 4) (se_var C 1)) (sw_and1 (st_eq C (se_mod (se_intc C (sa_cons (se_sub (se_var C 1) (se_var C 4)) (sa_nil))) (se_var C 2)) (se_int))))) (sss_one (ss_asg C 3 (se_var C 5))) (sss_nil))))
  (sss_one (ss_retF (se_var C 3)))))

theorem law_law_offset : LawOf N_law_offset [false, false] c_law_offset w_law_offset := by
  rintro svs Q E - ⟨L, rows, xs, a, rfl, R, hq⟩
  have pos := R.pos
  have lenB : (((L.map D.int).length : Nat) : Int) = L.length := by rw [List.length_map]
  show w_law_offset [some (.d (tabX L rows xs)), some (.d (.int a)), none, none, none, none] _ _
  ((conv => whnf); try dsimp only [List.set_cons_zero, List.set_cons_succ]); refine ⟨_, at0, ?_⟩
  ((conv => whnf); try dsimp only [List.set_cons_zero, List.set_cons_succ]); rw [lenB]; refine ⟨_, at0, ?_⟩
  ((conv => whnf); try dsimp only [List.set_cons_zero, List.set_cons_succ]); refine ⟨by omega, ?_⟩
  ((conv => whnf); try dsimp only [List.set_cons_zero, List.set_cons_succ]); refine ⟨_, wkF_ex pos a, ?_⟩
  ((conv => whnf); try dsimp only [List.set_cons_zero, List.set_cons_succ]); refine ⟨_, at1, ?_⟩
  ((conv => whnf); try dsimp only [List.set_cons_zero, List.set_cons_succ])
  refine forL_ind (fun ds ρ => ∃ (as ts : List (Int × Int)) (x4 x5 : Option SV), rows = as ++ ts ∧ ds = ts.map mkP ∧ ρ = [some (.d (tabX L rows xs)), some (.d (.int a)), some (.d (.int L.length)), some (.d (.int (offF L as a))), x4, x5]) ?_ ?_ _ _ ⟨[], rows, none, none, rfl, rfl, rfl⟩
  · rintro ρ ⟨as, ts, x4, x5, q1, q2, rfl⟩
    obtain rfl : ts = [] := by cases ts with
      | nil => rfl
      | cons _ _ => cases q2
    obtain rfl : rows = as := by simpa using q1
    ((conv => whnf); try dsimp only [List.set_cons_zero, List.set_cons_succ]); exact hq
  · rintro d ds ρ ⟨as, ts, x4, x5, q1, q2, rfl⟩ ih
    cases ts with
    | nil => cases q2
    | cons t ts =>
      cases q2
      have st := offF_app L as t.1 t.2 a
      ((conv => whnf); try dsimp only [List.set_cons_zero, List.set_cons_succ]); refine ⟨rfl, ?_⟩
      ((conv => whnf); try dsimp only [List.set_cons_zero, List.set_cons_succ]); refine Br.of (fun h => ?_) (fun h => ?_)
      · have h' : t.1 ≤ a := h
        ((conv => whnf); try dsimp only [List.set_cons_zero, List.set_cons_succ]); refine ⟨by omega, ?_⟩
        ((conv => whnf); try dsimp only [List.set_cons_zero, List.set_cons_succ]); refine Br.of (fun c => ?_) (fun c => ?_)
        · have c' : (a - t.1) % (L.length : Int) = 0 := c
          rw [if_pos ⟨h', c'⟩] at st
          exact ⟨_, Fgt.refl _, ih _ ⟨as ++ [t], ts, _, _, by rw [q1]; simp, rfl, by rw [st]; rfl⟩⟩
        · have c' : ¬ (a - t.1) % (L.length : Int) = 0 := c
          rw [if_neg fun z => c' z.2] at st
          exact ⟨_, Fgt.refl _, ih _ ⟨as ++ [t], ts, _, _, by rw [q1]; simp, rfl, by rw [st]⟩⟩
      · have h' : ¬ t.1 ≤ a := h
        rw [if_neg fun z => h' z.1] at st
        ((conv => whnf); try dsimp only [List.set_cons_zero, List.set_cons_succ]); exact Br.ff ⟨_, Fgt.refl _, ih _ ⟨as ++ [t], ts, _, _, by rw [q1]; simp, rfl, by rw [st]⟩⟩
theorem ok_law_offset {Γ : Wd} (T : Tx Γ) : FnE Γ 1 "_law_offset" [false, false] c_law_offset :=
  fnE_of T.d_law_offset sc_law_offset (by intro _ _ _ _ _ _ _ _ us hl; exact match us, hl with | [_, _], _ => rfl) T.bn rfl (tr_law_offset T) law_law_offset


/-- a table near 0: a rule, where its changes lie -/
structure TabB (bs : List Int) (ms : List (Int × Int)) (l h : Int) : Prop where
  rw_ : Rw bs ms
  nf : ∀ x, ¬ Fall bs ms x
  few : ms.length ≤ 24
  mom : ∀ m ∈ ms, l ≤ m.1 ∧ m.1 ≤ h
def baseT (c : Int) (xs : List Int) : List Int := xs.mapIdx fun i x => c + x - (i : Nat)
def blkT (spot low : Int) (xs : List Int) : List (Int × Int) := xs.mapIdx fun i x => (spot + (i : Nat), low + x - spot - (i : Nat))
theorem baseT_snoc (c : Int) (xs : List Int) (x : Int) : baseT c (xs ++ [x]) = baseT c xs ++ [c + x - xs.length] := by unfold baseT; rw [List.mapIdx_concat]
theorem blkT_snoc (spot low : Int) (xs : List Int) (x : Int) : blkT spot low (xs ++ [x]) = blkT spot low xs ++ [(spot + xs.length, low + x - spot - xs.length)] := by unfold blkT; rw [List.mapIdx_concat]
theorem blkT_len (spot low : Int) (xs : List Int) : (blkT spot low xs).length = xs.length := by unfold blkT; simp
theorem baseT_len (c : Int) (xs : List Int) : (baseT c xs).length = xs.length := by unfold baseT; simp
theorem blkT_eq (n : Nat) (spot low : Int) {xs : List Int} (h : xs.length = n) : blkT spot low xs = blkM n xs spot low n := by
  unfold blkT blkM
  refine List.ext_getElem (by simp [h]) fun i h1 h2 => ?_
  have hi : i < xs.length := by simpa using h1
  rw [List.getElem_mapIdx, List.getElem_map, List.getElem_range, List.getElem?_eq_getElem hi]
  rfl
theorem wk_base (c : Int) {xs : List Int} (hn : 0 < xs.length) (x : Int) : wkF (baseT c xs) x = c + (xs[(x % (xs.length : Int)).toNat]?).getD 0 - x % xs.length := by
  have r0 := Int.emod_nonneg x (show (xs.length : Int) ≠ 0 by omega)
  have r1 := Int.emod_lt_of_pos x (show (0 : Int) < xs.length by omega)
  have hi : (x % (xs.length : Int)).toNat < xs.length := by omega
  unfold wkF
  rw [baseT_len]
  unfold baseT
  rw [List.getElem?_mapIdx, List.getElem?_eq_getElem hi]
  show c + xs[(x % (xs.length : Int)).toNat] - ((x % (xs.length : Int)).toNat : Int) = c + xs[(x % (xs.length : Int)).toNat] - x % xs.length
  rw [Int.toNat_of_nonneg r0]
theorem base_fall (c : Int) {n : Nat} {xs : List Int} (hn : 0 < n) (T : Rise n xs) (x : Int) : ¬ Fall (baseT c xs) [] x := by
  have e : xs.length = n := T.len
  subst e
  have u := tv_rise T hn x
  have q1 := Int.emod_add_mul_ediv x xs.length
  have q2 := Int.emod_add_mul_ediv (x + 1) xs.length
  have w1 := wk_base c hn x
  have w2 := wk_base c hn (x + 1)
  have o1 : offF (baseT c xs) [] x = wkF (baseT c xs) x := rfl
  have o2 : offF (baseT c xs) [] (x + 1) = wkF (baseT c xs) (x + 1) := rfl
  unfold Fall valF
  unfold tvF at u
  omega
theorem mem_baseT {c : Int} {xs : List Int} {y : Int} (h : y ∈ baseT c xs) : ∃ (i : Nat) (hi : i < xs.length), y = c + xs[i] - i := by
  obtain ⟨i, hi, e⟩ := List.getElem_of_mem h
  have hi' : i < xs.length := by rw [baseT_len] at hi; exact hi
  refine ⟨i, hi', ?_⟩
  rw [← e]
  show (xs.mapIdx fun i x => c + x - (i : Nat))[i]'(by simpa using hi') = _
  rw [List.getElem_mapIdx]
theorem mem_blkM {n : Nat} {later : List Int} {spot low : Int} {k : Nat} {m : Int × Int} (h : m ∈ blkM n later spot low k) : ∃ j : Nat, j < k ∧ m = (spot + j, low + (later[j]?).getD 0 - spot - j) := by
  unfold blkM at h
  obtain ⟨j, hj, rfl⟩ := List.mem_map.mp h
  exact ⟨j, List.mem_range.mp hj, rfl⟩
theorem blk_asc (n : Nat) (later : List Int) (spot low : Int) : ∀ k : Nat, Asc (blkM n later spot low k)
  | 0 => .nil
  | k + 1 => by
    rw [blk_succ]
    refine List.pairwise_append.mpr ⟨blk_asc n later spot low k, List.pairwise_singleton _ _, fun x hx y hy => ?_⟩
    obtain ⟨j, hj, rfl⟩ := mem_blkM hx
    rw [List.mem_singleton.mp hy]
    show spot + j < spot + k
    omega

/-- single values changed: where the table stands -/
structure LoneI (bs : List Int) (ms : List (Int × Int)) (T : List Int) (c w : Int) : Prop where
  len : T.length = bs.length
  asc : Asc ms
  late : ∀ m ∈ ms, m.1 ≤ w
  nf : ∀ x, ¬ Fall bs ms x
  up : ∀ x, tvF T x ≤ tvF T (x + 1)
  val : ∀ x, w ≤ x → valF bs ms x = c + tvF T x
theorem lone_step {bs : List Int} {ms : List (Int × Int)} {T : List Int} {c w spot v : Int} (hn : 0 < bs.length) (I : LoneI bs ms T c w) (hs : w < spot) (h1 : tvF T (spot - 1) ≤ v + T.length * (spot / T.length)) (h2 : v + T.length * (spot / T.length) ≤ tvF T (spot + 1)) :
    LoneI bs (ms ++ [(spot, c + v - spot % T.length)]) (T.set (spot % T.length).toNat v) c spot := by
  have hT : 0 < T.length := by rw [I.len]; exact hn
  have up2 := tv_set_up hT I.up h1 h2
  have val2 : ∀ x, spot ≤ x → valF bs (ms ++ [(spot, c + v - spot % T.length)]) x = c + tvF (T.set (spot % T.length).toNat v) x := fun x hx => by
    have o := offF_app bs ms spot (c + v - spot % T.length) x
    have e := I.val x (by omega)
    have t := tv_set (T := T) (v := v) x spot hT
    have q := Int.emod_add_mul_ediv x T.length
    rw [← I.len] at o
    have ce : (x - spot) % (T.length : Int) = 0 ↔ x % (T.length : Int) = spot % T.length := (Int.emod_eq_emod_iff_emod_sub_eq_zero).symm
    unfold valF at e ⊢
    by_cases d : x % (T.length : Int) = spot % T.length
    · rw [if_pos ⟨hx, ce.mpr d⟩] at o
      rw [if_pos d] at t
      omega
    · rw [if_neg fun z => d (ce.mp z.2)] at o
      rw [if_neg d] at t
      omega
  refine ⟨by rw [List.length_set]; exact I.len, List.pairwise_append.mpr ⟨I.asc, List.pairwise_singleton _ _, fun x hx y hy => by
    rw [List.mem_singleton.mp hy]
    have := I.late x hx
    show x.1 < spot
    omega⟩, fun m hm => ?_, fun x z => ?_, up2, val2⟩
  · rcases List.mem_append.mp hm with h | h
    · have := I.late m h; omega
    · rw [List.mem_singleton.mp h]; exact Int.le_refl _
  · have early : ∀ y, y < spot → valF bs (ms ++ [(spot, c + v - spot % T.length)]) y = valF bs ms y := fun y hy => by
      unfold valF
      rw [offF_app, if_neg fun q => by omega]
    unfold Fall at z
    by_cases c1 : spot ≤ x
    · rw [val2 x c1, val2 (x + 1) (by omega)] at z
      have := up2 x
      omega
    · by_cases c2 : spot ≤ x + 1
      · obtain rfl : x = spot - 1 := by omega
        rw [early (spot - 1) (by omega), val2 (spot - 1 + 1) c2, I.val (spot - 1) (by omega), show spot - 1 + 1 = spot by omega] at z
        have t := tv_set (T := T) (v := v) spot spot hT
        rw [if_pos rfl] at t
        omega
      · rw [early x (by omega), early (x + 1) (by omega)] at z
        exact I.nf x z
theorem lone_start {bs T : List Int} {c : Int} {n : Nat} (hn : 0 < n) (R : Rise n T) (e : bs = baseT c T) (w : Int) : LoneI bs [] T c w := by
  have hl := R.len
  subst e
  refine ⟨by rw [baseT_len], .nil, fun _ h => (nomatch h), base_fall c hn R, tv_rise R hn, fun x _ => ?_⟩
  have wb := wk_base c (xs := T) (by omega) x
  have q := Int.emod_add_mul_ediv x T.length
  have o : offF (baseT c T) [] x = wkF (baseT c T) x := rfl
  unfold valF tvF
  omega
theorem low_at {T : List Int} (hn : 0 < T.length) (spot : Int) : ∃ L, atI (T.map D.int) (spot % T.length - 1) = some (.int L) ∧ L - T.length * (if spot % T.length = 0 then 1 else 0) + T.length * (spot / T.length) = tvF T (spot - 1) := by
  have r0 := Int.emod_nonneg spot (show (T.length : Int) ≠ 0 by omega)
  have r1 := Int.emod_lt_of_pos spot (show (0 : Int) < T.length by omega)
  have q := Int.emod_add_mul_ediv spot T.length
  by_cases c : spot % (T.length : Int) = 0
  · have hi : T.length - 1 < T.length := by omega
    refine ⟨T[T.length - 1], ?_, ?_⟩
    · rw [c]
      unfold atI ixN
      rw [if_neg (by omega), List.length_map, if_pos (by omega), show (0 - 1 + (T.length : Int)).toNat = T.length - 1 by omega]
      show (T.map D.int)[T.length - 1]? = _
      rw [List.getElem?_map, List.getElem?_eq_getElem hi]
      rfl
    · rw [if_pos c]
      have t := tv_at (T.length - 1) hi (spot / T.length - 1)
      rw [Int.mul_sub] at t
      rw [show ((T.length - 1 : Nat) : Int) + (T.length * (spot / T.length) - T.length * 1) = spot - 1 by omega] at t
      omega
  · have hi : (spot % (T.length : Int) - 1).toNat < T.length := by omega
    refine ⟨T[(spot % (T.length : Int) - 1).toNat], at_nat (by omega) (by rw [List.getElem?_map, List.getElem?_eq_getElem hi]; rfl), ?_⟩
    rw [if_neg c]
    have t := tv_at _ hi (spot / T.length)
    rw [show (((spot % (T.length : Int) - 1).toNat : Nat) : Int) + T.length * (spot / T.length) = spot - 1 by omega] at t
    omega
theorem high_at {T : List Int} (hn : 0 < T.length) (spot : Int) : ∃ L, atI (T.map D.int) ((spot % T.length + 1) % T.length) = some (.int L) ∧ L + T.length * (if spot % T.length = T.length - 1 then 1 else 0) + T.length * (spot / T.length) = tvF T (spot + 1) := by
  have r0 := Int.emod_nonneg spot (show (T.length : Int) ≠ 0 by omega)
  have r1 := Int.emod_lt_of_pos spot (show (0 : Int) < T.length by omega)
  have q := Int.emod_add_mul_ediv spot T.length
  by_cases c : spot % (T.length : Int) = T.length - 1
  · refine ⟨T[0], ?_, ?_⟩
    · rw [c, show (T.length : Int) - 1 + 1 = T.length by omega, Int.emod_self]
      exact at_nat (by decide) (by rw [List.getElem?_map, show (0 : Int).toNat = 0 from rfl, List.getElem?_eq_getElem hn]; rfl)
    · rw [if_pos c]
      have t := tv_at 0 hn (spot / T.length + 1)
      rw [Int.mul_add] at t
      rw [show ((0 : Nat) : Int) + (T.length * (spot / T.length) + T.length * 1) = spot + 1 by omega] at t
      omega
  · have hi : (spot % (T.length : Int) + 1).toNat < T.length := by omega
    rw [Int.emod_eq_of_lt (by omega) (by omega)]
    refine ⟨T[(spot % (T.length : Int) + 1).toNat], at_nat (by omega) (by rw [List.getElem?_map, List.getElem?_eq_getElem hi]; rfl), ?_⟩
    rw [if_neg c]
    have t := tv_at _ hi (spot / T.length)
    rw [show (((spot % (T.length : Int) + 1).toNat : Nat) : Int) + T.length * (spot / T.length) = spot + 1 by omega] at t
    omega
theorem ite_dec (b : Prop) [Decidable b] : (if (if false = true then !decide b else decide b) = true then (1 : Int) else 0) = if b then 1 else 0 := by
  by_cases h : b
  · rw [if_pos h, decide_eq_true h]; rfl
  · rw [if_neg h, decide_eq_false h]; rfl
def c_law_lone : Con := fun svs Q _ => ∃ (n : Nat) (p : SV) (s R G : Int), svs = [p, .d (.int s), .d (.int R), .d (.int G)] ∧ Pool n p ∧ n < 10 ^ 6 ∧ 1 ≤ s ∧ s ≤ 12 ∧ 0 ≤ R ∧ R ≤ 10 ^ 31 ∧ 1 ≤ G ∧ G ≤ 10 ^ 30 ∧
  ∀ (bs : List Int) (ms : List (Int × Int)) p', (bs.length : Int) = s → TabB bs ms (-R) (R + 11 * G) → (∀ x ∈ allO bs ms, -R - 2 * s - 12 ≤ x ∧ x ≤ R + 2 * s + 12) → Pool (n + 100) p' → Q (.d (tabX bs ms [])) [p', .d (.int s), .d (.int R), .d (.int G)]
/-! _law_lone: pool 0, size 1, reach 2, gap 3, start 4, tops 5, base_here 6, spot 7, shifts 8, turn 9, rest 10, low 11, high 12, at 13, here 14 -/
theorem sc_law_lone : FnScope N_law_lone ["pool", "size", "reach", "gap"] (defScope st_law_lone) := ⟨rfl, rfl, rfl, by decide +kernel, rfl, by decide +kernel, by decide +kernel⟩
abbrev w_law_lone_1 : WS := wAsg 7 (w2 kAdd (w2 kAdd (wVar 7) (wC (.int 1))) (w2 kMul (wCall [true, false] c_law_draw (wCons (wRef 0) (wCons (wC (.int 2)) (wNil)))) (wCall [true, false] c_law_draw (wCons (wRef 0) (wCons (wVar 3) (wNil))))))
abbrev w_law_lone_2 : WS := wSeq (wApp 8 (wTup (wCons (wVar 7) (wCons (w2 kSub (w2 kAdd (wVar 4) (w2 kIdx (wVar 5) (wVar 10))) (wVar 10)) (wNil))))) w_law_lone_1
abbrev w_law_lone_3 : WS := wSeq (wSetI 5 (w2 kAdd (wVar 11) (wCall [true, false] c_law_draw (wCons (wRef 0) (wCons (w2 kAdd (w2 kSub (wVar 12) (wVar 11)) (wC (.int 1))) (wNil))))) (wVar 10)) w_law_lone_2
abbrev w_law_lone_4 : WS := wSeq (wAsg 12 (w2 kAdd (w2 kIdx (wVar 5) (w2 kMod (wB kInt (wCons (w2 kAdd (wVar 10) (wC (.int 1))) (wNil))) (wVar 1))) (w2 kMul (wVar 1) (wB kInt (wCons (w2 kEq (wVar 10) (w2 kSub (wVar 1) (wC (.int 1)))) (wNil)))))) w_law_lone_3
abbrev w_law_lone_5 : WS := wSeq (wAsg 11 (w2 kSub (w2 kIdx (wVar 5) (w2 kSub (wVar 10) (wC (.int 1)))) (w2 kMul (wVar 1) (wB kInt (wCons (w2 kEq (wVar 10) (wC (.int 0))) (wNil)))))) w_law_lone_4
abbrev w_law_lone_6 : WS := wSeq (wAsg 10 (w2 kMod (wB kInt (wCons (wVar 7) (wNil))) (wVar 1))) w_law_lone_5
abbrev w_law_lone_7 : WS := wRetF (wTup (wCons (wVar 6) (wCons (wVar 8) (wNil))))
abbrev w_law_lone_8 : WS := wSeq (wFor (wRng1 (wCons (wCall [true, false] c_law_draw (wCons (wRef 0) (wCons (wC (.int 13)) (wNil)))) (wNil))) (gNm 9) w_law_lone_6) w_law_lone_7
abbrev w_law_lone_9 : WS := wSeq (wPar2O 7 8 (wCons (w2 kSub (wCall [true, false] c_law_draw (wCons (wRef 0) (wCons (w2 kAdd (w2 kMul (wC (.int 2)) (wVar 2)) (wC (.int 1))) (wNil)))) (wVar 2)) (wCons (wLst (wNil)) (wNil)))) w_law_lone_8
abbrev w_law_lone_10 : WS := wSeq (wAsg 6 (wLcEO 5 (gTp 2 (gsCons (gNm 13) (gsCons (gNm 14) (gsNil)))) (wYes) (w2 kSub (w2 kAdd (wVar 4) (wVar 14)) (wVar 13)) [13, 14])) w_law_lone_9
def w_law_lone : WS :=
  wSeq (wParL [4, 5] (wCons (w2 kSub (wCall [true, false] c_law_draw (wCons (wRef 0) (wCons (w2 kAdd (w2 kMul (wC (.int 2)) (wVar 2)) (wC (.int 1))) (wNil)))) (wVar 2)) (wCons (wCall [true, false] c_law_rising (wCons (wRef 0) (wCons (wVar 1) (wNil)))) (wNil)))) w_law_lone_10
theorem tr_law_lone {Γ : Wd} (T : Tx Γ) (X : Cx) (C : Ctx Γ X N_law_lone (defScope st_law_lone) (fun _ => true) 2) (P : Own X) (dc : DefCx X) : SSs Γ [0] X (defBody st_law_lone) w_law_lone :=
  sss_cons (ss_parLC C (sa_cons (se_sub (se_call C (FnE.mono (ok_law_draw T) (by decide)) (sa_cons (se_ref C 0) (sa_cons (se_add (se_mul (se_int) (se_var C 2)) (se_int)) (sa_nil)))) (se_var C 2)) (sa_cons (se_call C (FnE.mono (ok_law_rising T) (by decide)) (sa_cons (se_ref C 0) (sa_cons (se_var C 1) (sa_nil)))) (sa_nil))) (ngs_cons C 4 (ngs_cons C 5 (ngs_nil))))
  (sss_cons (ss_asgLcEO C 6 rfl 5 (own := [("at", 13), ("here", 14)]) (is := [13, 14]) rfl rfl rfl (by decide +kernel) (by decide +kernel) (by decide +kernel) (fun _ hX => sg_tup hX.1 (sgs_cons (sg_name hX.1 13) (sgs_cons (sg_name hX.1 14) (sgs_nil)))) (fun _ hX => sts_nil) (fun _ hX => se_sub (se_add (se_var hX.1 4) (se_var hX.1 14)) (se_var hX.1 13)))
  (sss_cons (ss_par2O C 7 8 (sa_cons (se_sub (se_call C (FnE.mono (ok_law_draw T) (by decide)) (sa_cons (se_ref C 0) (sa_cons (se_add (se_mul (se_int) (se_var C 2)) (se_int)) (sa_nil)))) (se_var C 2)) (sa_cons (se_lst (sa_nil)) (sa_nil))))
  (sss_cons (ss_for C P (is := [9]) (si_range1 C (sa_cons (se_call C (FnE.mono (ok_law_draw T) (by decide)) (sa_cons (se_ref C 0) (sa_cons (se_int) (sa_nil)))) (sa_nil))) (sg_name C 9) (sss_cons (ss_asg C 10 (se_mod (se_intc C (sa_cons (se_var C 7) (sa_nil))) (se_var C 1)))
  (sss_cons (ss_asg C 11 (se_sub (se_idx C (fun _ _ => rfl) (se_var C 5) (se_sub (se_var C 10) (se_int))) (se_mul (se_var C 1) (se_intc C (sa_cons (se_eq C (se_var C 10) (se_int)) (sa_nil))))))
  (sss_cons (ss_asg C 12 (se_add (se_idx C (fun _ _ => rfl) (se_var C 5) (se_mod (se_intc C (sa_cons (se_add (se_var C 10) (se_int)) (sa_nil))) (se_var C 1))) (se_mul (se_var C 1) (se_intc C (sa_cons (se_eq C (se_var C 10) (se_sub (se_var C 1) (se_int))) (sa_nil))))))
  (sss_cons (ss_seti C 5 (se_add (se_var C 11) (se_call C (FnE.mono (ok_law_draw T) (by decide)) (sa_cons (se_ref C 0) (sa_cons (se_add (se_sub (se_var C 12) (se_var C 11)) (se_int)) (sa_nil))))) (se_var C 10))
  (sss_cons (ss_app C 8 (se_tup (sa_cons (se_var C 7) (sa_cons (se_sub (se_add (se_var C 4) (se_idx C (fun _ _ => rfl) (se_var C 5) (se_var C 10))) (se_var C 10)) (sa_nil)))))
  (sss_one (ss_asg C 7 (se_add (se_add (se_var C 7) (se_int)) (se_mul (se_call C (FnE.mono (ok_law_draw T) (by decide)) (sa_cons (se_ref C 0) (sa_cons (se_int) (sa_nil)))) (se_call C (FnE.mono (ok_law_draw T) (by decide)) (sa_cons (se_ref C 0) (sa_cons (se_var C 3) (sa_nil))))))))))))))
  (sss_one (ss_retF (se_tup (sa_cons (se_var C 6) (sa_cons (se_var C 8) (sa_nil)))))))))

theorem law_law_lone : LawOf N_law_lone [true, false, false, false] c_law_lone w_law_lone := by
  rintro svs Q E - ⟨n, p, s, R, G, rfl, hp, hn, s1, s2, R0, R1, G0, G1, hq⟩
  show w_law_lone [some p, some (.d (.int s)), some (.d (.int R)), some (.d (.int G)), none, none, none, none, none, none, none, none, none, none, none] _ _
  ((conv => whnf); try dsimp only [List.set_cons_zero, List.set_cons_succ]); refine ⟨rfl, ?_⟩
  ((conv => whnf); try dsimp only [List.set_cons_zero, List.set_cons_succ]); refine ⟨cml (by decide) (by decide), ?_⟩
  ((conv => whnf); try dsimp only [List.set_cons_zero, List.set_cons_succ]); refine ⟨n, _, 2 * R + 1, rfl, hp, by omega, by omega, by omega, fun a p1 a0 a1 hp1 => ?_⟩
  ((conv => whnf); try dsimp only [List.set_cons_zero, List.set_cons_succ]); refine ⟨rfl, ?_⟩
  ((conv => whnf); try dsimp only [List.set_cons_zero, List.set_cons_succ]); refine ⟨n + 1, _, s, rfl, hp1, by omega, s1, s2, fun xs p2 lx ux bx hp2 => ?_⟩
  have T0 : Rise xs.length xs := ⟨rfl, ux, fun x hx => by have := bx x hx; omega⟩
  ((conv => whnf); try dsimp only [List.set_cons_zero, List.set_cons_succ]); refine ⟨fun x hx => by simp only [List.mem_cons, List.not_mem_nil, or_false] at hx; rcases hx with rfl | rfl <;> trivial, rfl, few3 (by show 2 ≤ 1000; decide), ?_⟩
  ((conv => whnf); try dsimp only [List.set_cons_zero, List.set_cons_succ])
  refine compLO_ind (fun ds acc ρ => ∃ (as rs : List Int), xs = as ++ rs ∧ ds = enD as.length (rs.map D.int) ∧ acc = (baseT (a - R) as).map D.int ∧ ρ = [some p2, some (.d (.int s)), some (.d (.int R)), some (.d (.int G)), some (.d (.int (a - R))), some (.lst (xs.map D.int)), none, none, none, none, none, none, none, none, none]) ?_ ?_ _ _ _ ⟨[], xs, rfl, rfl, rfl, rfl⟩
  · rintro acc ρ ⟨as, rs, q1, q2, rfl, rfl⟩
    obtain rfl : rs = [] := by cases rs with
      | nil => rfl
      | cons _ _ => cases q2
    rw [List.append_nil] at q1
    rw [← q1]
    refine ⟨rfl, ?_⟩
    ((conv => whnf); try dsimp only [List.set_cons_zero, List.set_cons_succ]); refine ⟨rfl, ?_⟩
    ((conv => whnf); try dsimp only [List.set_cons_zero, List.set_cons_succ]); refine ⟨cml (by decide) (by decide), ?_⟩
    ((conv => whnf); try dsimp only [List.set_cons_zero, List.set_cons_succ]); refine ⟨n + 13, _, 2 * R + 1, rfl, hp2, by omega, by omega, by omega, fun b p3 b0 b1 hp3 => ?_⟩
    ((conv => whnf); try dsimp only [List.set_cons_zero, List.set_cons_succ]); refine ⟨few3 (by show 0 ≤ 1000; decide), ?_⟩
    ((conv => whnf); try dsimp only [List.set_cons_zero, List.set_cons_succ]); refine ⟨trivial, trivial, ?_⟩
    ((conv => whnf); try dsimp only [List.set_cons_zero, List.set_cons_succ]); refine ⟨rfl, ?_⟩
    ((conv => whnf); try dsimp only [List.set_cons_zero, List.set_cons_succ]); refine ⟨n + 14, _, 13, rfl, hp3, by omega, by decide, by decide, fun w p4 w0 w1 hp4 => ?_⟩
    have w1' : w < 13 := w1
    ((conv => whnf); try dsimp only [List.set_cons_zero, List.set_cons_succ]); refine ⟨by omega, by omega, ?_⟩
    have lb := baseT_len (a - R) xs
    have bl : ∀ x ∈ baseT (a - R) xs, -R - s + 1 ≤ x ∧ x ≤ R + s := fun x hx => by
      obtain ⟨i, hi, rfl⟩ := mem_baseT hx
      have := bx _ (List.getElem_mem hi)
      omega
    obtain ⟨bs, hB⟩ : ∃ bs, bs = baseT (a - R) xs := ⟨_, rfl⟩
    have st := lone_start (by omega) T0 hB (b - R - 1)
    obtain ⟨sm1, sm2⟩ : 0 ≤ xs.sum ∧ xs.sum ≤ xs.length * xs.length := by
      have key : ∀ ys : List Int, (∀ y ∈ ys, 0 ≤ y ∧ y ≤ s) → 0 ≤ ys.sum ∧ ys.sum ≤ ys.length * s := fun ys => by
        induction ys with
        | nil => intro _; simp
        | cons y ys ih =>
          intro h
          have i1 := ih fun z hz => h z (by simp [hz])
          have i2 := h y (by simp)
          rw [List.sum_cons, List.length_cons, show ((ys.length + 1 : Nat) : Int) = (ys.length : Int) + 1 by omega, Int.add_mul]
          omega
      have k := key xs bx
      rw [← lx] at k
      exact k
    rw [← hB] at lb bl
    rw [← hB]
    clear hB
    refine forL_ind (fun ds ρ => ∃ (i k : Nat) (q : SV) (ms : List (Int × Int)) (T : List Int) (u v P : Int) (x9 x10 x11 x12 : Option SV), (i : Int) + k = w ∧ ds = (List.range' i k).map (fun (i : Nat) => D.int (0 + (i : Int))) ∧ Pool (n + 15 + 3 * i) q ∧ P = i * G ∧ ms.length = i ∧ LoneI bs ms T (a - R) v ∧ v < u ∧ -R ≤ u ∧ u ≤ R + P ∧
      (∀ m ∈ ms, -R ≤ m.1 ∧ m.1 + G ≤ R + P) ∧ -((T.length : Int) * i) ≤ T.sum ∧ T.sum ≤ T.length * T.length + T.length * i ∧ (∀ x ∈ allO bs ms, -R - 2 * s - 12 ≤ x ∧ x ≤ R + 2 * s + 12) ∧
      ρ = [some q, some (.d (.int s)), some (.d (.int R)), some (.d (.int G)), some (.d (.int (a - R))), some (.lst (T.map D.int)), some (.lst (bs.map D.int)), some (.d (.int u)), some (.lst (ms.map mkP)), x9, x10, x11, x12, none, none]) ?_ ?_ _ _
      ⟨0, w.toNat, p4, [], xs, b - R, b - R - 1, 0, none, none, none, none, by omega, by simp [rngD, List.range_eq_range'], hp4.mono (by omega), by simp, rfl, st, by omega, by omega, by omega, fun _ h => (nomatch h), by simpa using sm1, by simpa using sm2, fun x hx => by
        have hx' : x ∈ bs := by simpa [allO] using hx
        have := bl x hx'; omega, rfl⟩
    · rintro ρ ⟨i, k, q, ms, T, u, v, P, x9, x10, x11, x12, hik, e, hq1, eP, lm, I, vu, u0, u1, hm, t0, t1, ob, rfl⟩
      have iG : (i : Int) * G ≤ 12 * G := Int.mul_le_mul_of_nonneg_right (by omega) (by omega)
      have fin := hq bs ms q (by omega) ⟨⟨by omega, by omega, I.asc, by omega⟩, I.nf, by omega, fun m hm' => by have := hm m hm'; omega⟩ ob (hq1.mono (by omega))
      ((conv => whnf); try dsimp only [List.set_cons_zero, List.set_cons_succ]); refine ⟨few3 (by show 2 ≤ 1000; decide), ?_⟩
      ((conv => whnf); try dsimp only [List.set_cons_zero, List.set_cons_succ]); exact fin
    · rintro d ds ρ ⟨i, k, q, ms, T, u, v, P, x9, x10, x11, x12, hik, e, hq1, eP, lm, I, vu, u0, u1, hm, t0, t1, ob, rfl⟩ ih
      cases k with
      | zero => cases e
      | succ k =>
        rw [List.range'_succ, List.map_cons] at e
        cases e
        have lT : (T.length : Int) = s := by rw [I.len]; omega
        have hT : 0 < T.length := by omega
        have r0 := Int.emod_nonneg u (show s ≠ 0 by omega)
        have r1 := Int.emod_lt_of_pos u (show (0 : Int) < s by omega)
        obtain ⟨L, eL, vL⟩ := low_at hT u
        obtain ⟨M, eM, vM⟩ := high_at hT u
        rw [lT] at eL vL eM vM
        ((conv => whnf); try dsimp only [List.set_cons_zero, List.set_cons_succ]); refine ⟨by omega, ?_⟩
        ((conv => whnf); try dsimp only [List.set_cons_zero, List.set_cons_succ]); refine ⟨_, eL, ?_⟩
        ((conv => whnf); try dsimp only [List.set_cons_zero, List.set_cons_succ]); rw [ite_dec]; refine ⟨cml (by omega) (by omega), ?_⟩
        generalize hlo : L - s * (if u % s = 0 then 1 else 0) = lo at *
        ((conv => whnf); try dsimp only [List.set_cons_zero, List.set_cons_succ]); rw [hlo]; refine ⟨by omega, ?_⟩
        ((conv => whnf); try dsimp only [List.set_cons_zero, List.set_cons_succ]); refine ⟨_, eM, ?_⟩
        ((conv => whnf); try dsimp only [List.set_cons_zero, List.set_cons_succ]); rw [ite_dec]; refine ⟨cml (by omega) (by omega), ?_⟩
        generalize hhi : M + s * (if u % s = s - 1 then 1 else 0) = hi at *
        have up := I.up
        have a1 := up (u - 1)
        have a2 := up u
        rw [show u - 1 + 1 = u by omega] at a1
        have tw := tv_week hT (u - 1)
        rw [lT] at tw
        have near : tvF T (u + 1) - tvF T (u - 1) ≤ 2 * s ∧ (2 ≤ s → tvF T (u + 1) - tvF T (u - 1) ≤ s) ∧ (s = 1 → tvF T u = tvF T (u - 1) + 1 ∧ tvF T (u + 1) = tvF T u + 1) := by
          have tw2 := tv_week hT u
          rw [lT] at tw2
          refine ⟨?_, fun h => ?_, fun h => ?_⟩
          · have := tv_le up (show u + 1 ≤ u + s by omega)
            have := tv_le up (show u ≤ u - 1 + s by omega)
            omega
          · have := tv_le up (show u + 1 ≤ u - 1 + s by omega); omega
          · subst h
            rw [show u - 1 + 1 = u by omega] at tw
            exact ⟨tw, tw2⟩
        ((conv => whnf); try dsimp only [List.set_cons_zero, List.set_cons_succ]); rw [hhi]; refine ⟨rfl, ?_⟩
        ((conv => whnf); try dsimp only [List.set_cons_zero, List.set_cons_succ]); refine ⟨n + 15 + 3 * i, _, hi - lo + 1, rfl, hq1, by omega, by omega, by omega, fun c p5 c0 c1 hp5 => ?_⟩
        have c1' : c < hi - lo + 1 := c1
        ((conv => whnf); try dsimp only [List.set_cons_zero, List.set_cons_succ]); refine ⟨(u % s).toNat, by rw [List.length_map]; unfold ixN; rw [if_pos r0, if_pos (by omega)], ?_⟩
        rw [← List.map_set]
        have hset : atI ((T.set (u % s).toNat (lo + c)).map D.int) (u % s) = some (.int (lo + c)) := at_nat r0 (by rw [List.getElem?_map, List.getElem?_set_self (by omega)]; rfl)
        ((conv => whnf); try dsimp only [List.set_cons_zero, List.set_cons_succ]); refine ⟨_, hset, ?_⟩
        ((conv => whnf); try dsimp only [List.set_cons_zero, List.set_cons_succ]); refine ⟨few3 (by show 2 ≤ 1000; decide), ?_⟩
        ((conv => whnf); try dsimp only [List.set_cons_zero, List.set_cons_succ]); refine ⟨by rw [List.length_map]; omega, ?_⟩
        ((conv => whnf); try dsimp only [List.set_cons_zero, List.set_cons_succ]); refine ⟨rfl, ?_⟩
        ((conv => whnf); try dsimp only [List.set_cons_zero, List.set_cons_succ]); refine ⟨n + 15 + 3 * i + 1, _, 2, rfl, hp5, by omega, by decide, by decide, fun e1 p6 e10 e11 hp6 => ?_⟩
        have e11' : e1 < 2 := e11
        ((conv => whnf); try dsimp only [List.set_cons_zero, List.set_cons_succ]); refine ⟨rfl, ?_⟩
        ((conv => whnf); try dsimp only [List.set_cons_zero, List.set_cons_succ]); refine ⟨n + 15 + 3 * i + 2, _, G, rfl, hp6, by omega, by omega, by omega, fun e2 p7 e20 e21 hp7 => ?_⟩
        ((conv => whnf); try dsimp only [List.set_cons_zero, List.set_cons_succ]); refine ⟨cml (by omega) (by omega), ?_⟩
        have bz : e1 * e2 = 0 ∨ e1 * e2 = e2 := by
          have hb : e1 = 0 ∨ e1 = 1 := by omega
          rcases hb with h | h <;> subst h <;> simp
        generalize e1 * e2 = g at *
        have I2 := lone_step (show 0 < bs.length by omega) I vu (v := lo + c) (by rw [lT]; omega) (by rw [lT]; omega)
        rw [lT] at I2
        have hi' : (u % s).toNat < T.length := by omega
        have ss := sum_set T (u % s).toNat hi' (lo + c)
        have tu := tv_at (u % s).toNat hi' (u / s)
        rw [lT, Int.toNat_of_nonneg r0, Int.emod_add_mul_ediv] at tu
        have sl := List.length_set (as := T) (i := (u % s).toNat) (a := lo + c)
        generalize hT2 : T.set (u % s).toNat (lo + c) = T2 at *
        have lT2 : (T2.length : Int) = s := by omega
        rw [lT] at t0 t1
        have si : s * ((i + 1 : Nat) : Int) = s * i + s := by rw [show ((i + 1 : Nat) : Int) = (i : Int) + 1 by omega, Int.mul_add]; omega
        have dd : T[(u % s).toNat] - s ≤ lo + c ∧ lo + c ≤ T[(u % s).toNat] + s := by
          obtain ⟨n1, n2, n3⟩ := near
          by_cases h : 2 ≤ s
          · have := n2 h; omega
          · have := n3 (by omega); omega
        have q0 : -((T2.length : Int) * ((i + 1 : Nat) : Int)) ≤ T2.sum := by rw [lT2, si]; omega
        have q1 : T2.sum ≤ T2.length * T2.length + T2.length * ((i + 1 : Nat) : Int) := by rw [lT2, si]; omega
        have nb := near_bd (by omega) I2.up q0 q1 (x := lo + c) (by rw [← hT2]; exact List.mem_iff_getElem.mpr ⟨(u % s).toNat, by rw [List.length_set]; exact hi', by simp⟩)
        rw [lT2] at nb
        have pG : ((i + 1 : Nat) : Int) * G = i * G + G := by rw [show ((i + 1 : Nat) : Int) = (i : Int) + 1 by omega, Int.add_mul]; omega
        ((conv => whnf); try dsimp only [List.set_cons_zero, List.set_cons_succ])
        refine ⟨_, Fgt.refl _, ih _ ⟨i + 1, k, p7, ms ++ [(u, a - R + (lo + c) - u % s)], T2, u + 1 + g, u, P + G, _, _, _, _, by omega, rfl, hp7.mono (by omega), by rw [pG]; omega, by simp [lm], I2, by omega, by omega, by omega, fun m hm' => ?_, q0, q1, fun x hx => ?_, by rw [List.map_append]; rfl⟩⟩
        · rcases List.mem_append.mp hm' with h | h
          · have := hm m h; omega
          · rw [List.mem_singleton.mp h]
            show -R ≤ u ∧ u + G ≤ R + (P + G)
            omega
        · unfold allO at hx
          rw [List.map_append] at hx
          rcases List.mem_append.mp hx with h | h
          · have := bl x h; omega
          · rcases List.mem_append.mp h with h2 | h2
            · exact ob x (List.mem_append_right _ h2)
            · rw [List.mem_singleton.mp h2]
              show -R - 2 * s - 12 ≤ a - R + (lo + c) - u % s ∧ a - R + (lo + c) - u % s ≤ R + 2 * s + 12
              omega
  · rintro d ds acc ρ ⟨as, rs, q1, q2, rfl, rfl⟩ ih
    cases rs with
    | nil => cases q2
    | cons r rs =>
      cases q2
      have la : as.length < xs.length := by rw [q1]; simp
      refine ⟨rfl, ?_⟩
      ((conv => whnf); try dsimp only [List.set_cons_zero, List.set_cons_succ]); refine ⟨rfl, ?_⟩
      ((conv => whnf); try dsimp only [List.set_cons_zero, List.set_cons_succ]); refine Br.tt ?_
      ((conv => whnf); try dsimp only [List.set_cons_zero, List.set_cons_succ]); refine ⟨by rw [List.length_map, baseT_len]; omega, ?_⟩
      exact ih _ _ ⟨as ++ [r], rs, by rw [q1]; simp, by simp, by rw [baseT_snoc, List.map_append]; rfl, rfl⟩
theorem ok_law_lone {Γ : Wd} (T : Tx Γ) : FnE Γ 3 "_law_lone" [true, false, false, false] c_law_lone :=
  fnE_of T.d_law_lone sc_law_lone (by intro _ _ _ _ _ _ _ _ us hl; exact match us, hl with | [_, _, _, _], _ => rfl) T.bn rfl (tr_law_lone T) law_law_lone


/-! tables with changes far apart -/
def c_law_wide : Con := fun svs Q _ => ∃ (n : Nat) (p : SV) (s J : Int), svs = [p, .d (.int s), .d (.int J)] ∧ Pool n p ∧ n < 10 ^ 6 ∧ 1 ≤ s ∧ s ≤ 12 ∧ 1 ≤ J ∧ J ≤ 10 ^ 30 ∧
  ∀ (bs : List Int) (ms : List (Int × Int)) p', (bs.length : Int) = s → TabB bs ms (-(10 ^ 30)) (5 * 10 ^ 30) → (∀ x ∈ allO bs ms, -(10 ^ 31) ≤ x ∧ x ≤ 10 ^ 31) → Pool (n + 100) p' → Q (.d (tabX bs ms [])) [p', .d (.int s), .d (.int J)]
/-! _law_wide: pool 0, size 1, leap 2, start 3, base_here 4, shifts 5, spot 6, turn 7, later 8, low 9, at 10, here 11 -/
theorem sc_law_wide : FnScope N_law_wide ["pool", "size", "leap"] (defScope st_law_wide) := ⟨rfl, rfl, rfl, by decide +kernel, rfl, by decide +kernel, by decide +kernel⟩
abbrev w_law_wide_1 : WS := wAsg 6 (w2 kAdd (w2 kAdd (wVar 6) (wVar 1)) (w2 kMul (wCall [true, false] c_law_draw (wCons (wRef 0) (wCons (wC (.int 2)) (wNil)))) (wCall [true, false] c_law_draw (wCons (wRef 0) (wCons (w2 kPow (wC (.int 10)) (wC (.int 30))) (wNil))))))
abbrev w_law_wide_2 : WS := wSeq (wAsg 5 (w2 kAdd (wVar 5) (wLc (wEnum (wCons (wVar 8) (wNil))) (gTp 2 (gsCons (gNm 10) (gsCons (gNm 11) (gsNil)))) (wYes) (wTup (wCons (w2 kAdd (wVar 6) (wVar 10)) (wCons (w2 kSub (w2 kSub (w2 kAdd (wVar 9) (wVar 11)) (wVar 6)) (wVar 10)) (wNil)))) [10, 11]))) w_law_wide_1
abbrev w_law_wide_3 : WS := wSeq (wAsg 9 (w2 kAdd (wVar 9) (w2 kMul (wCall [true, false] c_law_draw (wCons (wRef 0) (wCons (wC (.int 2)) (wNil)))) (wCall [true, false] c_law_draw (wCons (wRef 0) (wCons (wVar 2) (wNil))))))) w_law_wide_2
abbrev w_law_wide_4 : WS := wSeq (wAsg 9 (w2 kSub (w2 kSub (w2 kAdd (wCall [false, false] c_law_offset (wCons (wTup (wCons (wVar 4) (wCons (wVar 5) (wNil)))) (wCons (w2 kSub (wVar 6) (wC (.int 1))) (wNil)))) (wVar 6)) (wC (.int 1))) (w2 kIdx (wVar 8) (wC (.int 0))))) w_law_wide_3
abbrev w_law_wide_5 : WS := wSeq (wAsg 8 (wCall [true, false] c_law_rising (wCons (wRef 0) (wCons (wVar 1) (wNil))))) w_law_wide_4
abbrev w_law_wide_6 : WS := wRetF (wTup (wCons (wVar 4) (wCons (wVar 5) (wNil))))
abbrev w_law_wide_7 : WS := wSeq (wFor (wRng1 (wCons (wCall [true, false] c_law_draw (wCons (wRef 0) (wCons (wB kMin (wCons (wC (.int 4)) (wCons (w2 kAdd (w2 kFdiv (wC (.int 24)) (wVar 1)) (wC (.int 1))) (wNil)))) (wNil)))) (wNil))) (gNm 7) w_law_wide_5) w_law_wide_6
abbrev w_law_wide_8 : WS := wSeq (wUnp (wTup (wCons (wLst (wNil)) (wCons (w2 kSub (wCall [true, false] c_law_draw (wCons (wRef 0) (wCons (w2 kAdd (w2 kMul (wC (.int 2)) (w2 kPow (wC (.int 10)) (wC (.int 30)))) (wC (.int 1))) (wNil)))) (w2 kPow (wC (.int 10)) (wC (.int 30)))) (wNil)))) (gTp 2 (gsCons (gNm 5) (gsCons (gNm 6) (gsNil))))) w_law_wide_7
abbrev w_law_wide_9 : WS := wSeq (wAsg 4 (wLc (wEnum (wCons (wCall [true, false] c_law_rising (wCons (wRef 0) (wCons (wVar 1) (wNil)))) (wNil))) (gTp 2 (gsCons (gNm 10) (gsCons (gNm 11) (gsNil)))) (wYes) (w2 kSub (w2 kAdd (wVar 3) (wVar 11)) (wVar 10)) [10, 11])) w_law_wide_8
def w_law_wide : WS :=
  wSeq (wAsg 3 (w2 kSub (wCall [true, false] c_law_draw (wCons (wRef 0) (wCons (w2 kAdd (w2 kMul (wC (.int 2)) (w2 kPow (wC (.int 10)) (wC (.int 30)))) (wC (.int 1))) (wNil)))) (w2 kPow (wC (.int 10)) (wC (.int 30))))) w_law_wide_9
theorem tr_law_wide {Γ : Wd} (T : Tx Γ) (X : Cx) (C : Ctx Γ X N_law_wide (defScope st_law_wide) (fun _ => true) 2) (P : Own X) (dc : DefCx X) : SSs Γ [0] X (defBody st_law_wide) w_law_wide :=
  sss_cons (ss_asg C 3 (se_sub (se_call C (FnE.mono (ok_law_draw T) (by decide)) (sa_cons (se_ref C 0) (sa_cons (se_add (se_mul (se_int) (se_pow (se_int) (se_int))) (se_int)) (sa_nil)))) (se_pow (se_int) (se_int))))
  (sss_cons (ss_asgLc C 4 (own := [("at", 10), ("here", 11)]) (is := [10, 11]) rfl rfl rfl rfl (by decide +kernel) (by decide +kernel) (by decide +kernel) (si_enum C (sa_cons (se_call C (FnE.mono (ok_law_rising T) (by decide)) (sa_cons (se_ref C 0) (sa_cons (se_var C 1) (sa_nil)))) (sa_nil))) (fun _ hX => sg_tup hX.1 (sgs_cons (sg_name hX.1 10) (sgs_cons (sg_name hX.1 11) (sgs_nil)))) (fun _ hX => sts_nil) (fun _ hX => se_sub (se_add (se_var hX.1 3) (se_var hX.1 11)) (se_var hX.1 10)))
  (sss_cons (ss_unpC C (is := [5, 6]) (se_tup (sa_cons (se_lst (sa_nil)) (sa_cons (se_sub (se_call C (FnE.mono (ok_law_draw T) (by decide)) (sa_cons (se_ref C 0) (sa_cons (se_add (se_mul (se_int) (se_pow (se_int) (se_int))) (se_int)) (sa_nil)))) (se_pow (se_int) (se_int))) (sa_nil)))) (sg_tup C (sgs_cons (sg_name C 5) (sgs_cons (sg_name C 6) (sgs_nil)))))
  (sss_cons (ss_for C P (is := [7]) (si_range1 C (sa_cons (se_call C (FnE.mono (ok_law_draw T) (by decide)) (sa_cons (se_ref C 0) (sa_cons (se_min C (sa_cons (se_int) (sa_cons (se_add (se_fdiv (se_int) (se_var C 1)) (se_int)) (sa_nil)))) (sa_nil)))) (sa_nil))) (sg_name C 7) (sss_cons (ss_asg C 8 (se_call C (FnE.mono (ok_law_rising T) (by decide)) (sa_cons (se_ref C 0) (sa_cons (se_var C 1) (sa_nil)))))
  (sss_cons (ss_asg C 9 (se_sub (se_sub (se_add (se_call C (FnE.mono (ok_law_offset T) (by decide)) (sa_cons (se_tup (sa_cons (se_var C 4) (sa_cons (se_var C 5) (sa_nil)))) (sa_cons (se_sub (se_var C 6) (se_int)) (sa_nil)))) (se_var C 6)) (se_int)) (se_idx C (fun _ _ => rfl) (se_var C 8) (se_int))))
  (sss_cons (ss_asg C 9 (se_add (se_var C 9) (se_mul (se_call C (FnE.mono (ok_law_draw T) (by decide)) (sa_cons (se_ref C 0) (sa_cons (se_int) (sa_nil)))) (se_call C (FnE.mono (ok_law_draw T) (by decide)) (sa_cons (se_ref C 0) (sa_cons (se_var C 2) (sa_nil)))))))
  (sss_cons (ss_asg C 5 (se_add (se_var C 5) (se_lc C (own := [("at", 10), ("here", 11)]) (is := [10, 11]) (by decide +kernel) (by decide +kernel) (si_enum C (sa_cons (se_var C 8) (sa_nil))) (fun _ hX => sg_tup hX.1 (sgs_cons (sg_name hX.1 10) (sgs_cons (sg_name hX.1 11) (sgs_nil)))) (fun _ hX => sts_nil) (fun _ hX => se_tup (sa_cons (se_add (se_var hX.1 6) (se_var hX.1 10)) (sa_cons (se_sub (se_sub (se_add (se_var hX.1 9) (se_var hX.1 11)) (se_var hX.1 6)) (se_var hX.1 10)) (sa_nil)))))))
  (sss_one (ss_asg C 6 (se_add (se_add (se_var C 6) (se_var C 1)) (se_mul (se_call C (FnE.mono (ok_law_draw T) (by decide)) (sa_cons (se_ref C 0) (sa_cons (se_int) (sa_nil)))) (se_call C (FnE.mono (ok_law_draw T) (by decide)) (sa_cons (se_ref C 0) (sa_cons (se_pow (se_int) (se_int)) (sa_nil)))))))))))))
  (sss_one (ss_retF (se_tup (sa_cons (se_var C 4) (sa_cons (se_var C 5) (sa_nil)))))))))

theorem law_law_wide : LawOf N_law_wide [true, false, false] c_law_wide w_law_wide := by
  rintro svs Q E - ⟨n, p, s, J, rfl, hp, hn, s1, s2, J0, J1, hq⟩
  show w_law_wide [some p, some (.d (.int s)), some (.d (.int J)), none, none, none, none, none, none, none, none, none] _ _
  ((conv => whnf); try dsimp only [List.set_cons_zero, List.set_cons_succ]); refine ⟨rfl, ?_⟩
  ((conv => whnf); try dsimp only [List.set_cons_zero, List.set_cons_succ]); refine ⟨cpw (by decide) (by decide) (by decide), ?_⟩
  ((conv => whnf); try dsimp only [List.set_cons_zero, List.set_cons_succ]); refine ⟨cml (by decide) (by decide), ?_⟩
  ((conv => whnf); try dsimp only [List.set_cons_zero, List.set_cons_succ]); refine ⟨n, _, 2 * 10 ^ 30 + 1, rfl, hp, by omega, by omega, by omega, fun a p1 a0 a1 hp1 => ?_⟩
  ((conv => whnf); try dsimp only [List.set_cons_zero, List.set_cons_succ]); refine ⟨cpw (by decide) (by decide) (by decide), ?_⟩
  ((conv => whnf); try dsimp only [List.set_cons_zero, List.set_cons_succ]); refine ⟨rfl, ?_⟩
  ((conv => whnf); try dsimp only [List.set_cons_zero, List.set_cons_succ]); refine ⟨n + 1, _, s, rfl, hp1, by omega, s1, s2, fun xs p2 lx ux bx hp2 => ?_⟩
  have T0 : Rise xs.length xs := ⟨rfl, ux, fun x hx => by have := bx x hx; omega⟩
  ((conv => whnf); try dsimp only [List.set_cons_zero, List.set_cons_succ])
  refine compL_ind (fun ds acc ρ => ∃ (as rs : List Int), xs = as ++ rs ∧ ds = enD as.length (rs.map D.int) ∧ acc = (baseT (a - 10 ^ 30) as).map D.int ∧ ρ = [some p2, some (.d (.int s)), some (.d (.int J)), some (.d (.int (a - 10 ^ 30))), none, none, none, none, none, none, none, none]) ?_ ?_ _ _ _ ⟨[], xs, rfl, rfl, rfl, rfl⟩
  · rintro acc ρ ⟨as, rs, q1, q2, rfl, rfl⟩
    obtain rfl : rs = [] := by cases rs with
      | nil => rfl
      | cons _ _ => cases q2
    rw [List.append_nil] at q1
    rw [← q1]
    ((conv => whnf); try dsimp only [List.set_cons_zero, List.set_cons_succ]); refine ⟨few3 (by show 0 ≤ 1000; decide), ?_⟩
    ((conv => whnf); try dsimp only [List.set_cons_zero, List.set_cons_succ]); refine ⟨rfl, ?_⟩
    ((conv => whnf); try dsimp only [List.set_cons_zero, List.set_cons_succ]); refine ⟨cpw (by decide) (by decide) (by decide), ?_⟩
    ((conv => whnf); try dsimp only [List.set_cons_zero, List.set_cons_succ]); refine ⟨cml (by decide) (by decide), ?_⟩
    ((conv => whnf); try dsimp only [List.set_cons_zero, List.set_cons_succ]); refine ⟨n + 13, _, 2 * 10 ^ 30 + 1, rfl, hp2, by omega, by omega, by omega, fun b p3 b0 b1 hp3 => ?_⟩
    ((conv => whnf); try dsimp only [List.set_cons_zero, List.set_cons_succ]); refine ⟨cpw (by decide) (by decide) (by decide), ?_⟩
    ((conv => whnf); try dsimp only [List.set_cons_zero, List.set_cons_succ]); refine ⟨few3 (by show 2 ≤ 1000; decide), ?_⟩
    ((conv => whnf); try dsimp only [List.set_cons_zero, List.set_cons_succ]); refine ⟨rfl, ?_⟩
    ((conv => whnf); try dsimp only [List.set_cons_zero, List.set_cons_succ]); refine ⟨rfl, ?_⟩
    ((conv => whnf); try dsimp only [List.set_cons_zero, List.set_cons_succ]); refine ⟨cdv (by omega) (by omega), ?_⟩
    have d24 : 24 / s ≤ 24 := Int.ediv_le_self _ (by decide)
    have d24p : 0 ≤ 24 / s := Int.ediv_nonneg (by decide) (by omega)
    have d24m : 24 / s * s ≤ 24 := Int.ediv_mul_le 24 (by omega)
    generalize 24 / s = dv at *
    generalize hc : (if dv + 1 < 4 then dv + 1 else 4) = cap at *
    have capb : 1 ≤ cap ∧ cap ≤ 4 ∧ cap ≤ dv + 1 := by split at hc <;> omega
    ((conv => whnf); try dsimp only [List.set_cons_zero, List.set_cons_succ]); rw [hc]; refine ⟨n + 14, _, cap, rfl, hp3, by omega, by omega, by omega, fun w p4 w0 w1 hp4 => ?_⟩
    ((conv => whnf); try dsimp only [List.set_cons_zero, List.set_cons_succ]); refine ⟨by omega, by omega, ?_⟩
    have lb := baseT_len (a - 10 ^ 30) xs
    have bl : ∀ x ∈ baseT (a - 10 ^ 30) xs, -(10 ^ 30) - s + 1 ≤ x ∧ x ≤ 10 ^ 30 + s := fun x hx => by
      obtain ⟨i, hi, rfl⟩ := mem_baseT hx
      have := bx _ (List.getElem_mem hi)
      omega
    generalize hB : baseT (a - 10 ^ 30) xs = bs at *
    refine forL_ind (fun ds ρ => ∃ (i k : Nat) (q : SV) (ms : List (Int × Int)) (u P G : Int) (x5 x6 : SV) (x8 x9 x10 : Option SV), (i : Int) + k = w ∧ ds = (List.range' i k).map (fun (i : Nat) => D.int (0 + (i : Int))) ∧ Pool (n + 15 + 17 * i) q ∧ P = i * s ∧ G = i * J ∧ (ms.length : Int) = P ∧ Asc ms ∧
      (∀ m ∈ ms, -(10 ^ 30) ≤ m.1 ∧ m.1 < u) ∧ -(10 ^ 30) ≤ u ∧ u ≤ 10 ^ 30 + P + i * 10 ^ 30 ∧ (∀ x, ¬ Fall bs ms x) ∧ (∀ x ∈ allO bs ms, -(10 ^ 30) - s + 1 - P ≤ x ∧ x ≤ 10 ^ 30 + s + G + P) ∧ (x5 = .lst (bs.map D.int) ∨ x5 = .d (.lst (bs.map D.int))) ∧ (x6 = .lst (ms.map mkP) ∨ x6 = .d (.lst (ms.map mkP))) ∧
      ρ = [some q, some (.d (.int s)), some (.d (.int J)), some (.d (.int (a - 10 ^ 30))), some x5, some x6, some (.d (.int u)), x8, x9, x10, none, none]) ?_ ?_ _ _ ⟨0, w.toNat, p4, [], b - 10 ^ 30, 0, 0, _, _, none, none, none, by omega, by simp [rngD, List.range_eq_range'], hp4.mono (by omega), by simp, by simp, rfl, .nil, fun _ h => (nomatch h), by omega, by omega, by rw [← hB]; exact base_fall _ (by omega) T0, fun x hx => by
        have hx' : x ∈ bs := by simpa [allO] using hx
        have := bl x hx'; omega, .inl rfl, .inr rfl, rfl⟩
    · rintro ρ ⟨i, k, q, ms, u, P, G, x5, x6, x8, x9, x10, hik, e, hq1, eP, eG, lm, asc, hm, u0, u1, nf, ob, h5, h6, rfl⟩
      have iP : (i : Int) * s ≤ dv * s := Int.mul_le_mul_of_nonneg_right (by omega) (by omega)
      have iP3 : (i : Int) * s ≤ 3 * s := Int.mul_le_mul_of_nonneg_right (by omega) (by omega)
      have iG : (i : Int) * J ≤ 3 * J := Int.mul_le_mul_of_nonneg_right (by omega) (by omega)
      have iP0 : 0 ≤ (i : Int) * s := Int.mul_nonneg (by omega) (by omega)
      have fin := hq bs ms q (by omega) ⟨⟨by omega, by omega, asc, by omega⟩, nf, by omega, fun m hm' => by have := hm m hm'; omega⟩ (fun x hx => by have := ob x hx; omega) (hq1.mono (by omega))
      rcases h5 with rfl | rfl <;> rcases h6 with rfl | rfl
      all_goals
        ((conv => whnf); try dsimp only [List.set_cons_zero, List.set_cons_succ]); refine ⟨few3 (by show 2 ≤ 1000; decide), ?_⟩
        ((conv => whnf); try dsimp only [List.set_cons_zero, List.set_cons_succ]); exact fin
    · rintro d ds ρ ⟨i, k, q, ms, u, P, G, x5, x6, x8, x9, x10, hik, e, hq1, eP, eG, lm, asc, hm, u0, u1, nf, ob, h5, h6, rfl⟩ ih
      cases k with
      | zero => cases e
      | succ k =>
        rw [List.range'_succ, List.map_cons] at e
        cases e
        have iP : (i : Int) * s ≤ dv * s := Int.mul_le_mul_of_nonneg_right (by omega) (by omega)
        have iP0 : 0 ≤ (i : Int) * s := Int.mul_nonneg (by omega) (by omega)
        have iG0 : 0 ≤ (i : Int) * J := Int.mul_nonneg (by omega) (by omega)
        ((conv => whnf); try dsimp only [List.set_cons_zero, List.set_cons_succ]); refine ⟨rfl, ?_⟩
        ((conv => whnf); try dsimp only [List.set_cons_zero, List.set_cons_succ]); refine ⟨n + 15 + 17 * i, _, s, rfl, hq1, by omega, s1, s2, fun ys p5 ly uy by_ hp5 => ?_⟩
        have T1 : Rise bs.length ys := ⟨by omega, uy, fun x hx => by have := by_ x hx; omega⟩
        obtain ⟨y0, ey0, y00, y01⟩ := T1.at_ (i := 0) (by omega)
        have oo := ob _ (off_all (show 0 < bs.length by omega) (ms := ms) (u - 1))
        generalize eo : offF bs ms (u - 1) = o at *
        have body : ∀ (f : Int) (p8 : SV) (g : Int), 0 ≤ f → f < J → 0 ≤ g → g < 10 ^ 30 → Pool (n + 15 + 17 * (i + 1)) p8 → ∀ x9 : Option SV,
            forL (gNm 7) w_law_wide_5 ((List.range' (i + 1) k).map fun (i : Nat) => D.int (0 + (i : Int))) [some p8, some (.d (.int s)), some (.d (.int J)), some (.d (.int (a - 10 ^ 30))), some (.d (.lst (bs.map D.int))), some (.lst ((ms ++ blkT u (o + u - 1 - y0 + f) ys).map mkP)), some (.d (.int (u + s + g))), some (.d (.int (0 + (i : Int)))), x9, some (.d (.int (o + u - 1 - y0 + f))), none, none]
              ⟨fun ρ1 => w_law_wide_6 ρ1 (endsOf [true, false, false] [p, .d (.int s), .d (.int J)] Q) (errsOf [true, false, false] [p, .d (.int s), .d (.int J)] E), (endsOf [true, false, false] [p, .d (.int s), .d (.int J)] Q).rt, (endsOf [true, false, false] [p, .d (.int s), .d (.int J)] Q).bk, (endsOf [true, false, false] [p, .d (.int s), .d (.int J)] Q).ct⟩ (errsOf [true, false, false] [p, .d (.int s), .d (.int J)] E) := fun f p8 g f0 f1 g0 g1 hp8 x9 => by
          rw [blkT_eq bs.length u _ T1.len]
          have asc2 : Asc (ms ++ blkM bs.length ys u (o + u - 1 - y0 + f) bs.length) := List.pairwise_append.mpr ⟨asc, blk_asc _ _ _ _ _, fun x hx y hy => by
            obtain ⟨j, hj, rfl⟩ := mem_blkM hy
            have := hm x hx
            show x.1 < u + j
            omega⟩
          have nf2 := blk_fall (show 0 < bs.length by omega) T1 (spot := u) (low := o + u - 1 - y0 + f) nf (by
            rw [ey0]
            show valF bs ms (u - 1) ≤ o + u - 1 - y0 + f + y0
            unfold valF
            omega)
          refine ih _ ⟨i + 1, k, p8, ms ++ blkM bs.length ys u (o + u - 1 - y0 + f) bs.length, u + s + g, P + s, G + J, _, _, _, _, _, by omega, rfl, hp8, by rw [eP]; show _ = ((i : Int) + 1) * s; rw [Int.add_mul]; omega, by rw [eG]; show _ = ((i : Int) + 1) * J; rw [Int.add_mul]; omega, by rw [List.length_append, blk_len]; omega, asc2, fun m hm' => ?_, by omega, by omega, nf2, fun x hx => ?_, .inr rfl, .inl rfl, rfl⟩
          · rcases List.mem_append.mp hm' with h | h
            · have := hm m h; omega
            · obtain ⟨j, hj, rfl⟩ := mem_blkM h
              show -(10 ^ 30) ≤ u + j ∧ u + j < u + s + g
              omega
          · unfold allO at hx
            rcases List.mem_append.mp hx with h | h
            · have := bl x h; omega
            · obtain ⟨m, hm', rfl⟩ := List.mem_map.mp h
              rcases List.mem_append.mp hm' with h2 | h2
              · have := ob m.2 (List.mem_append_right _ (List.mem_map.mpr ⟨m, h2, rfl⟩)); omega
              · obtain ⟨j, hj, rfl⟩ := mem_blkM h2
                obtain ⟨v, hv, v0, v1⟩ := T1.at_ hj
                have le := T1.le (i := 0) (j := j) (Nat.zero_le _) hj
                rw [hv, ey0] at le
                have le' : y0 ≤ v := le
                rw [hv]
                show -(10 ^ 30) - s + 1 - (P + s) ≤ o + u - 1 - y0 + f + v - u - j ∧ o + u - 1 - y0 + f + v - u - j ≤ 10 ^ 30 + s + (G + J) + (P + s)
                omega
        clear ih
        have hy0 : atI (ys.map D.int) 0 = some (.int y0) := at_nat (by decide) (by rw [List.getElem?_map]; show (ys[0]?).map D.int = _; rw [ey0]; rfl)
        rcases h5 with rfl | rfl <;> rcases h6 with rfl | rfl
        all_goals
          ((conv => whnf); try dsimp only [List.set_cons_zero, List.set_cons_succ]); refine ⟨few3 (by show 2 ≤ 1000; decide), ?_⟩
          ((conv => whnf); try dsimp only [List.set_cons_zero, List.set_cons_succ]); refine ⟨bs, ms, [], u - 1, rfl, ⟨by omega, by omega, asc, by omega⟩, ?_⟩
          rw [eo]
          ((conv => whnf); try dsimp only [List.set_cons_zero, List.set_cons_succ]); refine ⟨_, hy0, ?_⟩
          ((conv => whnf); try dsimp only [List.set_cons_zero, List.set_cons_succ]); refine ⟨rfl, ?_⟩
          ((conv => whnf); try dsimp only [List.set_cons_zero, List.set_cons_succ]); refine ⟨n + 15 + 17 * i + 12, _, 2, rfl, hp5, by omega, by decide, by decide, fun c p6 c0 c1 hp6 => ?_⟩
          have c1' : c < 2 := c1
          ((conv => whnf); try dsimp only [List.set_cons_zero, List.set_cons_succ]); refine ⟨rfl, ?_⟩
          ((conv => whnf); try dsimp only [List.set_cons_zero, List.set_cons_succ]); refine ⟨n + 15 + 17 * i + 13, _, J, rfl, hp6, by omega, by omega, by omega, fun c2 p7 c20 c21 hp7 => ?_⟩
          ((conv => whnf); try dsimp only [List.set_cons_zero, List.set_cons_succ]); refine ⟨cml (by omega) (by omega), ?_⟩
          have bz : c * c2 = 0 ∨ c * c2 = c2 := by
            have hb : c = 0 ∨ c = 1 := by omega
            rcases hb with h | h <;> subst h <;> simp
          generalize hf : c * c2 = f at *
          clear hf
          ((conv => whnf); try dsimp only [List.set_cons_zero, List.set_cons_succ])
          refine compL_ind (fun ds acc ρ => ∃ (as rs : List Int), ys = as ++ rs ∧ ds = enD as.length (rs.map D.int) ∧ acc = (blkT u (o + u - 1 - y0 + f) as).map mkP ∧ ρ = [some p7, some (.d (.int s)), some (.d (.int J)), some (.d (.int (a - 10 ^ 30))), some (.d (.lst (bs.map D.int))), some (.d (.lst (ms.map mkP))), some (.d (.int u)), some (.d (.int (0 + (i : Int)))), some (.d (.lst (ys.map D.int))), some (.d (.int (o + u - 1 - y0 + f))), none, none]) ?_ ?_ _ _ _ ⟨[], ys, rfl, rfl, rfl, rfl⟩
          · rintro acc ρ ⟨as, rs, r1, r2, rfl, rfl⟩
            obtain rfl : rs = [] := by cases rs with
              | nil => rfl
              | cons _ _ => cases r2
            rw [List.append_nil] at r1
            rw [← r1]
            ((conv => whnf); try dsimp only [List.set_cons_zero, List.set_cons_succ]); refine ⟨by rw [List.length_map, List.length_map, blkT_len]; omega, ?_⟩
            rw [← List.map_append]
            ((conv => whnf); try dsimp only [List.set_cons_zero, List.set_cons_succ]); refine ⟨rfl, ?_⟩
            ((conv => whnf); try dsimp only [List.set_cons_zero, List.set_cons_succ]); refine ⟨n + 15 + 17 * i + 14, _, 2, rfl, hp7, by omega, by decide, by decide, fun e1 p8 e10 e11 hp8 => ?_⟩
            have e11' : e1 < 2 := e11
            ((conv => whnf); try dsimp only [List.set_cons_zero, List.set_cons_succ]); refine ⟨rfl, ?_⟩
            ((conv => whnf); try dsimp only [List.set_cons_zero, List.set_cons_succ]); refine ⟨cpw (by decide) (by decide) (by decide), ?_⟩
            ((conv => whnf); try dsimp only [List.set_cons_zero, List.set_cons_succ]); refine ⟨n + 15 + 17 * i + 15, _, 10 ^ 30, rfl, hp8, by omega, by omega, by omega, fun e2 p9 e20 e21 hp9 => ?_⟩
            ((conv => whnf); try dsimp only [List.set_cons_zero, List.set_cons_succ]); refine ⟨cml (by omega) (by omega), ?_⟩
            have bz2 : e1 * e2 = 0 ∨ e1 * e2 = e2 := by
              have hb : e1 = 0 ∨ e1 = 1 := by omega
              rcases hb with h | h <;> subst h <;> simp
            generalize e1 * e2 = g at *
            ((conv => whnf); try dsimp only [List.set_cons_zero, List.set_cons_succ])
            exact ⟨_, Fgt.refl _, body f p9 g (by omega) (by omega) (by omega) (by omega) (hp9.mono (by omega)) _⟩
          · rintro d ds acc ρ ⟨as, rs, r1, r2, rfl, rfl⟩ ih2
            cases rs with
            | nil => cases r2
            | cons r rs =>
              cases r2
              have la : as.length < ys.length := by rw [r1]; simp
              ((conv => whnf); try dsimp only [List.set_cons_zero, List.set_cons_succ]); refine ⟨rfl, ?_⟩
              ((conv => whnf); try dsimp only [List.set_cons_zero, List.set_cons_succ]); refine Br.tt ?_
              ((conv => whnf); try dsimp only [List.set_cons_zero, List.set_cons_succ]); refine ⟨few3 (by show 2 ≤ 1000; decide), ?_⟩
              ((conv => whnf); try dsimp only [List.set_cons_zero, List.set_cons_succ]); refine ⟨by rw [List.length_map, blkT_len]; omega, ?_⟩
              exact ih2 _ _ ⟨as ++ [r], rs, by rw [r1]; simp, by simp, by rw [blkT_snoc, List.map_append]; rfl, rfl⟩
  · rintro d ds acc ρ ⟨as, rs, q1, q2, rfl, rfl⟩ ih
    cases rs with
    | nil => cases q2
    | cons r rs =>
      cases q2
      have la : as.length < xs.length := by rw [q1]; simp
      ((conv => whnf); try dsimp only [List.set_cons_zero, List.set_cons_succ]); refine ⟨rfl, ?_⟩
      ((conv => whnf); try dsimp only [List.set_cons_zero, List.set_cons_succ]); refine Br.tt ?_
      ((conv => whnf); try dsimp only [List.set_cons_zero, List.set_cons_succ]); refine ⟨by rw [List.length_map, baseT_len]; omega, ?_⟩
      exact ih _ _ ⟨as ++ [r], rs, by rw [q1]; simp, by simp, by rw [baseT_snoc, List.map_append]; rfl, rfl⟩
theorem ok_law_wide {Γ : Wd} (T : Tx Γ) : FnE Γ 3 "_law_wide" [true, false, false] c_law_wide :=
  fnE_of T.d_law_wide sc_law_wide (by intro _ _ _ _ _ _ _ _ us hl; exact match us, hl with | [_, _, _], _ => rfl) T.bn rfl (tr_law_wide T) law_law_wide

theorem TabB.wide {bs : List Int} {ms : List (Int × Int)} {l h l' h' : Int} (T : TabB bs ms l h) (h1 : l' ≤ l) (h2 : h ≤ h') : TabB bs ms l' h' := ⟨T.rw_, T.nf, T.few, fun m hm => by have := T.mom m hm; omega⟩
/-- a table with changes far apart -/
structure FarT (bs : List Int) (ms : List (Int × Int)) : Prop where
  tab : TabB bs ms (-(10 ^ 32)) (10 ^ 32)
  ob : ∀ x ∈ allO bs ms, -(10 ^ 32) ≤ x ∧ x ≤ 10 ^ 32
def c_law_far : Con := fun svs Q _ => ∃ (n : Nat) (p : SV) (s J : Int), svs = [p, .d (.int s), .d (.int J)] ∧ Pool n p ∧ n < 10 ^ 5 ∧ 1 ≤ s ∧ s ≤ 12 ∧ 1 ≤ J ∧ J ≤ 10 ^ 30 ∧
  ∀ (bs : List Int) (ms : List (Int × Int)) p', (bs.length : Int) = s → FarT bs ms → Pool (n + 101) p' → Q (.d (tabX bs ms [])) [p', .d (.int s), .d (.int J)]
/-! _law_far: pool 0, size 1, leap 2 -/
theorem sc_law_far : FnScope N_law_far ["pool", "size", "leap"] (defScope st_law_far) := ⟨rfl, rfl, rfl, by decide +kernel, rfl, by decide +kernel, by decide +kernel⟩
abbrev w_law_far_1 : WS := wRetF (wCall [true, false, false, false] c_law_lone (wCons (wRef 0) (wCons (wVar 1) (wCons (w2 kPow (wC (.int 10)) (wC (.int 30))) (wCons (w2 kPow (wC (.int 10)) (wC (.int 29))) (wNil))))))
def w_law_far : WS :=
  wSeq (wIf (wTst (w2 kGt (wCall [true, false] c_law_draw (wCons (wRef 0) (wCons (wC (.int 3)) (wNil)))) (wC (.int 0)))) (wRetF (wCall [true, false, false] c_law_wide (wCons (wRef 0) (wCons (wVar 1) (wCons (wVar 2) (wNil)))))) (wNext)) w_law_far_1
theorem tr_law_far {Γ : Wd} (T : Tx Γ) (X : Cx) (C : Ctx Γ X N_law_far (defScope st_law_far) (fun _ => true) 3) (P : Own X) (dc : DefCx X) : SSs Γ [0] X (defBody st_law_far) w_law_far :=
  sss_cons (ss_if (st_gt  (se_call C (FnE.mono (ok_law_draw T) (by decide)) (sa_cons (se_ref C 0) (sa_cons (se_int) (sa_nil)))) (se_int)) (sss_one (ss_retF (se_call C (FnE.mono (ok_law_wide T) (by decide)) (sa_cons (se_ref C 0) (sa_cons (se_var C 1) (sa_cons (se_var C 2) (sa_nil))))))) (sss_nil))
  (sss_one (ss_retF (se_call C (FnE.mono (ok_law_lone T) (by decide)) (sa_cons (se_ref C 0) (sa_cons (se_var C 1) (sa_cons (se_pow (se_int) (se_int)) (sa_cons (se_pow (se_int) (se_int)) (sa_nil))))))))

theorem law_law_far : LawOf N_law_far [true, false, false] c_law_far w_law_far := by
  rintro svs Q E - ⟨n, p, s, J, rfl, hp, hn, s1, s2, J0, J1, hq⟩
  show w_law_far [some p, some (.d (.int s)), some (.d (.int J))] _ _
  ((conv => whnf); try dsimp only [List.set_cons_zero, List.set_cons_succ]); refine ⟨rfl, ?_⟩
  ((conv => whnf); try dsimp only [List.set_cons_zero, List.set_cons_succ]); refine ⟨n, _, 3, rfl, hp, by omega, by decide, by decide, fun a p1 a0 a1 hp1 => ?_⟩
  ((conv => whnf); try dsimp only [List.set_cons_zero, List.set_cons_succ]); refine Br.of (fun _ => ?_) (fun _ => ?_)
  · ((conv => whnf); try dsimp only [List.set_cons_zero, List.set_cons_succ]); refine ⟨rfl, ?_⟩
    ((conv => whnf); try dsimp only [List.set_cons_zero, List.set_cons_succ]); refine ⟨n + 1, _, s, J, rfl, hp1, by omega, s1, s2, J0, J1, fun bs ms p2 hl T ob hp2 => ?_⟩
    ((conv => whnf); try dsimp only [List.set_cons_zero, List.set_cons_succ]); exact hq bs ms p2 hl ⟨T.wide (by decide) (by decide), fun x hx => by have := ob x hx; omega⟩ (hp2.mono (by omega))
  · ((conv => whnf); try dsimp only [List.set_cons_zero, List.set_cons_succ]); refine ⟨rfl, ?_⟩
    ((conv => whnf); try dsimp only [List.set_cons_zero, List.set_cons_succ]); refine ⟨cpw (by decide) (by decide) (by decide), ?_⟩
    ((conv => whnf); try dsimp only [List.set_cons_zero, List.set_cons_succ]); refine ⟨cpw (by decide) (by decide) (by decide), ?_⟩
    ((conv => whnf); try dsimp only [List.set_cons_zero, List.set_cons_succ]); refine ⟨n + 1, _, s, 10 ^ 30, 10 ^ 29, rfl, hp1, by omega, s1, s2, by decide, by decide, by decide, by decide, fun bs ms p2 hl T ob hp2 => ?_⟩
    ((conv => whnf); try dsimp only [List.set_cons_zero, List.set_cons_succ]); exact hq bs ms p2 hl ⟨T.wide (by decide) (by decide), fun x hx => by have := ob x hx; omega⟩ (hp2.mono (by omega))
theorem ok_law_far {Γ : Wd} (T : Tx Γ) : FnE Γ 4 "_law_far" [true, false, false] c_law_far :=
  fnE_of T.d_law_far sc_law_far (by intro _ _ _ _ _ _ _ _ us hl; exact match us, hl with | [_, _, _], _ => rfl) T.bn rfl (tr_law_far T) law_law_far

def c_law_start : Con := fun svs Q _ => ∃ (L : List Int) (ms : List (Int × Int)) (xs : List D) (a : Int), svs = [.d (tabX L ms xs), .d (.int a)] ∧ Rw L ms ∧ ∀ r, valF L ms r ≤ a → a < valF L ms (r + 1) → Q (.d (.int r)) svs
/-! _law_start: plan 0, spot 1, offsets_here 2, low 3, high 4, middle 5, at 6, here 7 -/
theorem sc_law_start : FnScope N_law_start ["plan", "spot"] (defScope st_law_start) := ⟨rfl, rfl, rfl, by decide +kernel, rfl, by decide +kernel, by decide +kernel⟩
abbrev w_law_start_1 : WS := wIf (wTst (w2 kLe (w2 kAdd (wVar 5) (wCall [false, false] c_law_offset (wCons (wVar 0) (wCons (wVar 5) (wNil))))) (wVar 1))) (wAsg 3 (wVar 5)) (wAsg 4 (w2 kSub (wVar 5) (wC (.int 1))))
abbrev w_law_start_2 : WS := wSeq (wAsg 5 (w2 kFdiv (w2 kAdd (w2 kAdd (wVar 3) (wVar 4)) (wC (.int 1))) (wC (.int 2)))) w_law_start_1
abbrev w_law_start_3 : WS := wRetF (wVar 3)
abbrev w_law_start_4 : WS := wSeq (wWh (wTst (w2 kLt (wVar 3) (wVar 4))) w_law_start_2) w_law_start_3
abbrev w_law_start_5 : WS := wSeq (wPar2 3 4 (wCons (w2 kSub (wVar 1) (wB kMax (wCons (wVar 2) (wNil)))) (wCons (w2 kSub (wVar 1) (wB kMin (wCons (wVar 2) (wNil)))) (wNil)))) w_law_start_4
def w_law_start : WS :=
  wSeq (wAsg 2 (w2 kAdd (w2 kIdx (wVar 0) (wC (.int 0))) (wLc (wIt (w2 kIdx (wVar 0) (wC (.int 1)))) (gTp 2 (gsCons (gNm 6) (gsCons (gNm 7) (gsNil)))) (wYes) (wVar 7) [6, 7]))) w_law_start_5
theorem tr_law_start {Γ : Wd} (T : Tx Γ) (X : Cx) (C : Ctx Γ X N_law_start (defScope st_law_start) (fun _ => true) 1) (P : Own X) (dc : DefCx X) : SSs Γ [] X (defBody st_law_start) w_law_start :=
  sss_cons (ss_asg C 2 (se_add (se_idx C (fun _ _ => rfl) (se_var C 0) (se_int)) (se_lc C (own := [("at", 6), ("here", 7)]) (is := [6, 7]) (by decide +kernel) (by decide +kernel) (si_seq (se_idx C (fun _ _ => rfl) (se_var C 0) (se_int))) (fun _ hX => sg_tup hX.1 (sgs_cons (sg_name hX.1 6) (sgs_cons (sg_name hX.1 7) (sgs_nil)))) (fun _ hX => sts_nil) (fun _ hX => se_var hX.1 7))))
  (sss_cons (ss_par2 C 3 4 (sa_cons (se_sub (se_var C 1) (se_max C (sa_cons (se_var C 2) (sa_nil)))) (sa_cons (se_sub (se_var C 1) (se_min C (sa_cons (se_var C 2) (sa_nil)))) (sa_nil))))
  (sss_cons (ss_while P (st_lt  (se_var C 3) (se_var C 4)) (sss_cons (ss_asg C 5 (se_fdiv (se_add (se_add (se_var C 3) (se_var C 4)) (se_int)) (se_int)))
  (sss_one (ss_if (st_le  (se_add (se_var C 5) (se_call C (FnE.mono (ok_law_offset T) (by decide)) (sa_cons (se_var C 0) (sa_cons (se_var C 5) (sa_nil))))) (se_var C 1)) (sss_one (ss_asg C 3 (se_var C 5))) (sss_one (ss_asg C 4 (se_sub (se_var C 5) (se_int))))))))
  (sss_one (ss_retF (se_var C 3)))))

theorem law_law_start : LawOf N_law_start [false, false] c_law_start w_law_start := by
  rintro svs Q E - ⟨b, ms, xs, a, rfl, R, hq⟩
  have ex := off_ext (b := b) (ms := ms) R.pos
  have dv : ∀ x, valF b ms x = x + offF b ms x := fun _ => rfl
  have few := R.few
  have le := R.le
  have ne := allO_ne (b := b) (ms := ms) R.pos
  show w_law_start [some (.d (tabX b ms xs)), some (.d (.int a)), none, none, none, none, none, none] _ _
  ((conv => whnf); try dsimp only [List.set_cons_zero, List.set_cons_succ]); refine ⟨_, at0, ?_⟩
  ((conv => whnf); try dsimp only [List.set_cons_zero, List.set_cons_succ]); refine ⟨_, at1, ?_⟩
  ((conv => whnf); try dsimp only [List.set_cons_zero, List.set_cons_succ])
  refine compL_ind (fun ds acc ρ => ∃ (as rs : List (Int × Int)), ms = as ++ rs ∧ ds = rs.map mkP ∧ acc = (as.map Prod.snd).map D.int ∧ ρ = [some (.d (tabX b ms xs)), some (.d (.int a)), none, none, none, none, none, none]) ?_ ?_ _ _ _ ⟨[], ms, rfl, rfl, rfl, rfl⟩
  · rintro acc ρ ⟨as, rs, q1, q2, rfl, rfl⟩
    obtain rfl : rs = [] := by cases rs with
      | nil => rfl
      | cons _ _ => cases q2
    rw [List.append_nil] at q1
    rw [← q1]
    ((conv => whnf); try dsimp only [List.set_cons_zero, List.set_cons_succ]); refine ⟨by simp only [List.length_map]; omega, ?_⟩
    have ea : b.map D.int ++ (ms.map Prod.snd).map D.int = (allO b ms).map D.int := by unfold allO; rw [List.map_append]
    rw [ea]
    have lo0 := (maxI_ok ne).2
    have hi0 := (minI_ok ne).2
    have e1 := ex (a - maxI (allO b ms))
    have e2 := ex (a - minI (allO b ms) + 1)
    ((conv => whnf); try dsimp only [List.set_cons_zero, List.set_cons_succ]); refine ⟨_, rfl, List.length_pos_iff.mpr ne, fun M M1 M2 => ?_⟩
    obtain rfl : M = maxI (allO b ms) := by
      have := M2 _ (maxI_ok ne).1
      have := lo0 _ M1
      omega
    ((conv => whnf); try dsimp only [List.set_cons_zero, List.set_cons_succ]); refine ⟨_, rfl, List.length_pos_iff.mpr ne, fun m M3 M4 => ?_⟩
    obtain rfl : m = minI (allO b ms) := by
      have := M4 _ (minI_ok ne).1
      have := hi0 _ M3
      omega
    have mm := lo0 _ M3
    generalize hX : some (SV.d (D.lst ((allO b ms).map D.int))) = x2 at *
    ((conv => whnf); try dsimp only [List.set_cons_zero, List.set_cons_succ])
    refine ⟨fun k ρ => ∃ (lo hi : Int) (x2 x : Option SV), lo ≤ hi ∧ valF b ms lo ≤ a ∧ a < valF b ms (hi + 1) ∧ (k : Int) = hi - lo ∧ ρ = [some (.d (tabX b ms xs)), some (.d (.int a)), x2, some (.d (.int lo)), some (.d (.int hi)), x, none, none],
      ⟨(maxI (allO b ms) - minI (allO b ms)).toNat, a - maxI (allO b ms), a - minI (allO b ms), _, none, by omega, by rw [dv]; omega, by rw [dv]; omega, by omega, rfl⟩, ?_⟩
    rintro k ρ ⟨lo, hi, x2, x, h0, h1, h2, hk, rfl⟩
    ((conv => whnf); try dsimp only [List.set_cons_zero, List.set_cons_succ]); refine Br.of (fun h => ?_) (fun h => ?_)
    · have h' : lo < hi := h
      have d1 : lo < (lo + hi + 1) / 2 := by omega
      have d2 : (lo + hi + 1) / 2 ≤ hi := by omega
      ((conv => whnf); try dsimp only [List.set_cons_zero, List.set_cons_succ]); refine ⟨cdv (by decide) (by decide), ?_⟩
      generalize (lo + hi + 1) / 2 = mid at *
      ((conv => whnf); try dsimp only [List.set_cons_zero, List.set_cons_succ]); refine ⟨b, ms, xs, mid, rfl, R, ?_⟩
      ((conv => whnf); try dsimp only [List.set_cons_zero, List.set_cons_succ]); refine Br.of (fun c => ?_) (fun c => ?_)
      · have c' : valF b ms mid ≤ a := c
        exact ⟨_, Fgt.refl _, (hi - mid).toNat, by omega, mid, hi, _, some (.d (.int mid)), d2, c', h2, by omega, rfl⟩
      · have c' : ¬ valF b ms mid ≤ a := c
        exact ⟨_, Fgt.refl _, (mid - 1 - lo).toNat, by omega, lo, mid - 1, _, some (.d (.int mid)), by omega, h1, by rw [show mid - 1 + 1 = mid by omega]; omega, by omega, rfl⟩
    · have h' : ¬ lo < hi := h
      obtain rfl : lo = hi := by omega
      ((conv => whnf); try dsimp only [List.set_cons_zero, List.set_cons_succ]); exact hq lo h1 h2
  · rintro d ds acc ρ ⟨as, rs, q1, q2, rfl, rfl⟩ ih
    cases rs with
    | nil => cases q2
    | cons r rs =>
      cases q2
      have la : as.length < ms.length := by rw [q1]; simp
      ((conv => whnf); try dsimp only [List.set_cons_zero, List.set_cons_succ]); refine ⟨rfl, ?_⟩
      ((conv => whnf); try dsimp only [List.set_cons_zero, List.set_cons_succ]); refine Br.tt ?_
      ((conv => whnf); try dsimp only [List.set_cons_zero, List.set_cons_succ]); refine ⟨by rw [List.length_map, List.length_map]; omega, ?_⟩
      exact ih _ _ ⟨as ++ [r], rs, by rw [q1]; simp, rfl, by rw [List.map_append, List.map_append]; rfl, rfl⟩
theorem ok_law_start {Γ : Wd} (T : Tx Γ) : FnE Γ 2 "_law_start" [false, false] c_law_start :=
  fnE_of T.d_law_start sc_law_start (by intro _ _ _ _ _ _ _ _ us hl; exact match us, hl with | [_, _], _ => rfl) T.bn rfl (tr_law_start T) law_law_start

def gsum (gs : List (Int × Int)) : Int := (gs.map fun g => g.2 - g.1).sum
theorem gsum_app (gs : List (Int × Int)) (g : Int × Int) : gsum (gs ++ [g]) = gsum gs + (g.2 - g.1) := by unfold gsum; rw [List.map_append, List.sum_append]; simp
/-- groups of changes: each change is in one, and they are narrow -/
structure Grp (n : Nat) (ms gs : List (Int × Int)) : Prop where
  cov : ∀ m ∈ ms, ∃ g ∈ gs, g.1 ≤ m.1 ∧ m.1 ≤ g.2
  le : ∀ g ∈ gs, g.1 ≤ g.2
  few : gs.length ≤ ms.length
  sum : gsum gs ≤ 6 * n * ms.length
  mem : ∀ g ∈ gs, (∃ m ∈ ms, g.1 = m.1) ∧ ∃ m ∈ ms, g.2 = m.1
theorem grp_nil (n : Nat) : Grp n [] [] := ⟨fun _ h => (nomatch h), fun _ h => (nomatch h), Nat.le_refl _, by unfold gsum; simp, fun _ h => (nomatch h)⟩
theorem grp_new {n : Nat} {ms gs : List (Int × Int)} (G : Grp n ms gs) (r : Int × Int) : Grp n (ms ++ [r]) (gs ++ [(r.1, r.1)]) := by
  refine ⟨fun m hm => ?_, fun g hg => ?_, ?_, ?_, fun g hg => ?_⟩
  · rcases List.mem_append.mp hm with h | h
    · obtain ⟨g, hg, a⟩ := G.cov m h
      exact ⟨g, by simp [hg], a⟩
    · rw [List.mem_singleton.mp h]
      exact ⟨(r.1, r.1), by simp, Int.le_refl _, Int.le_refl _⟩
  · rcases List.mem_append.mp hg with h | h
    · exact G.le g h
    · rw [List.mem_singleton.mp h]; exact Int.le_refl _
  · have := G.few
    simp only [List.length_append, List.length_singleton]
    omega
  · have := G.sum
    rw [gsum_app, List.length_append, List.length_singleton, show ((ms.length + 1 : Nat) : Int) = (ms.length : Int) + 1 by omega, Int.mul_add]
    have : 0 ≤ 6 * (n : Int) := by omega
    show gsum gs + (r.1 - r.1) ≤ _
    omega
  · rcases List.mem_append.mp hg with h | h
    · obtain ⟨⟨m, hm, a⟩, m', hm', b⟩ := G.mem g h
      exact ⟨⟨m, by simp [hm], a⟩, m', by simp [hm'], b⟩
    · rw [List.mem_singleton.mp h]
      exact ⟨⟨r, by simp, rfl⟩, r, by simp, rfl⟩
theorem grp_more {n : Nat} {ms gs : List (Int × Int)} {f l : Int} (G : Grp n ms (gs ++ [(f, l)])) (r : Int × Int) (h1 : l ≤ r.1) (h2 : r.1 - l ≤ 6 * n) : Grp n (ms ++ [r]) (gs ++ [(f, r.1)]) := by
  have fl : f ≤ l := G.le (f, l) (by simp)
  refine ⟨fun m hm => ?_, fun g hg => ?_, ?_, ?_, fun g hg => ?_⟩
  · rcases List.mem_append.mp hm with h | h
    · obtain ⟨g, hg, a⟩ := G.cov m h
      rcases List.mem_append.mp hg with hg | hg
      · exact ⟨g, by simp [hg], a⟩
      · rw [List.mem_singleton.mp hg] at a
        exact ⟨(f, r.1), by simp, a.1, by show m.1 ≤ r.1; have : m.1 ≤ l := a.2; omega⟩
    · rw [List.mem_singleton.mp h]
      exact ⟨(f, r.1), by simp, by show f ≤ r.1; omega, Int.le_refl _⟩
  · rcases List.mem_append.mp hg with h | h
    · exact G.le g (by simp [h])
    · rw [List.mem_singleton.mp h]; show f ≤ r.1; omega
  · have := G.few
    simp only [List.length_append, List.length_singleton] at this ⊢
    omega
  · have := G.sum
    rw [gsum_app] at this ⊢
    rw [List.length_append, List.length_singleton, show ((ms.length + 1 : Nat) : Int) = (ms.length : Int) + 1 by omega, Int.mul_add]
    have t : gsum gs + (l - f) ≤ 6 * (n : Int) * ms.length := this
    show gsum gs + (r.1 - f) ≤ _
    omega
  · rcases List.mem_append.mp hg with h | h
    · obtain ⟨⟨m, hm, a⟩, m', hm', b⟩ := G.mem g (by simp [h])
      exact ⟨⟨m, by simp [hm], a⟩, m', by simp [hm'], b⟩
    · rw [List.mem_singleton.mp h]
      obtain ⟨⟨m, hm, a⟩, _⟩ := G.mem (f, l) (by simp)
      exact ⟨⟨m, by simp [hm], a⟩, r, by simp, rfl⟩
def c_law_groups : Con := fun svs Q _ => ∃ (ms : List (Int × Int)) (n : Nat), svs = [.d (.lst (ms.map mkP)), .d (.int n)] ∧ Asc ms ∧ ms.length ≤ 1000 ∧ n ≤ 1000 ∧ ∀ gs, Grp n ms gs → Q (.d (.lst (gs.map mkP))) svs
/-! _law_groups: shifts 0, size 1, found 2, at 3, here 4 -/
theorem sc_law_groups : FnScope N_law_groups ["shifts", "size"] (defScope st_law_groups) := ⟨rfl, rfl, rfl, by decide +kernel, rfl, by decide +kernel, by decide +kernel⟩
abbrev w_law_groups_1 : WS := wIf (wAndT (wTst (w2 kNe (wVar 2) (wLst (wNil)))) (wTst (w2 kLe (w2 kSub (wVar 3) (w2 kIdx (w2 kIdx (wVar 2) (wNeg (wC (.int 1)))) (wC (.int 1)))) (w2 kMul (wC (.int 6)) (wVar 1))))) (wSetI 2 (wTup (wCons (w2 kIdx (w2 kIdx (wVar 2) (wNeg (wC (.int 1)))) (wC (.int 0))) (wCons (wVar 3) (wNil)))) (wNeg (wC (.int 1)))) (wApp 2 (wTup (wCons (wVar 3) (wCons (wVar 3) (wNil)))))
abbrev w_law_groups_2 : WS := wRetF (wVar 2)
abbrev w_law_groups_3 : WS := wSeq (wFor (wIt (wVar 0)) (gTp 2 (gsCons (gNm 3) (gsCons (gNm 4) (gsNil)))) w_law_groups_1) w_law_groups_2
def w_law_groups : WS :=
  wSeq (wAsg 2 (wLst (wNil))) w_law_groups_3
theorem tr_law_groups {Γ : Wd} (T : Tx Γ) (X : Cx) (C : Ctx Γ X N_law_groups (defScope st_law_groups) (fun _ => true) 0) (P : Own X) (dc : DefCx X) : SSs Γ [] X (defBody st_law_groups) w_law_groups :=
  sss_cons (ss_asg C 2 (se_lst (sa_nil)))
  (sss_cons (ss_for C P (is := [3, 4]) (si_seq (se_var C 0)) (sg_tup C (sgs_cons (sg_name C 3) (sgs_cons (sg_name C 4) (sgs_nil)))) (sss_one (ss_if (SW.st (sw_and (st_ne C (se_var C 2) (se_lst (sa_nil))) (sw_and1 (st_le  (se_sub (se_var C 3) (se_idx C (fun _ _ => rfl) (se_idx C (fun _ _ => rfl) (se_var C 2) (se_neg (se_int))) (se_int))) (se_mul (se_int) (se_var C 1)))))) (sss_one (ss_seti C 2 (se_tup (sa_cons (se_idx C (fun _ _ => rfl) (se_idx C (fun _ _ => rfl) (se_var C 2) (se_neg (se_int))) (se_int)) (sa_cons (se_var C 3) (sa_nil)))) (se_neg (se_int)))) (sss_one (ss_app C 2 (se_tup (sa_cons (se_var C 3) (sa_cons (se_var C 3) (sa_nil)))))))))
  (sss_one (ss_retF (se_var C 2))))

theorem last_at {gs : List (Int × Int)} {g : Int × Int} : atI ((gs ++ [g]).map mkP) (-1) = some (mkP g) := by
  unfold atI ixN
  rw [if_neg (by decide), List.length_map, List.length_append, List.length_singleton, if_pos (by omega), show (-1 + ((gs.length + 1 : Nat) : Int)).toNat = gs.length by omega]
  show ((gs ++ [g]).map mkP)[gs.length]? = _
  rw [List.getElem?_map, List.getElem?_append_right (Nat.le_refl _), Nat.sub_self]
  rfl
theorem set_last (gs : List (Int × Int)) (g : Int × Int) (d : D) : ((gs ++ [g]).map mkP).set gs.length d = gs.map mkP ++ [d] := by
  rw [List.map_append, List.set_append_right _ _ (by rw [List.length_map]; exact Nat.le_refl _), List.length_map, Nat.sub_self]
  rfl
theorem law_law_groups : LawOf N_law_groups [false, false] c_law_groups w_law_groups := by
  rintro svs Q E - ⟨ms, n, rfl, up, lm, ln, hq⟩
  show w_law_groups [some (.d (.lst (ms.map mkP))), some (.d (.int n)), none, none, none] _ _
  ((conv => whnf); try dsimp only [List.set_cons_zero, List.set_cons_succ]); refine ⟨few3 (by show 0 ≤ 1000; decide), ?_⟩
  ((conv => whnf); try dsimp only [List.set_cons_zero, List.set_cons_succ])
  refine forL_ind (fun ds ρ => ∃ (as rs gs : List (Int × Int)) (x3 x4 : Option SV), ms = as ++ rs ∧ ds = rs.map mkP ∧ Grp n as gs ∧ (∀ g, gs.getLast? = some g → ∀ m ∈ rs, g.2 ≤ m.1) ∧ ρ = [some (.d (.lst (ms.map mkP))), some (.d (.int n)), some (.lst (gs.map mkP)), x3, x4]) ?_ ?_ _ _ ⟨[], ms, [], none, none, rfl, rfl, grp_nil n, fun g h => (by cases h), rfl⟩
  · rintro ρ ⟨as, rs, gs, x3, x4, e1, e2, G, hl, rfl⟩
    obtain rfl : rs = [] := by cases rs with
      | nil => rfl
      | cons _ _ => cases e2
    rw [List.append_nil] at e1
    subst e1
    ((conv => whnf); try dsimp only [List.set_cons_zero, List.set_cons_succ]); exact hq gs G
  · rintro d ds ρ ⟨as, rs, gs, x3, x4, e1, e2, G, hl, rfl⟩ ih
    cases rs with
    | nil => cases e2
    | cons r rs =>
      cases e2
      have la : as.length < ms.length := by rw [e1]; simp
      have fw := G.few
      have late : ∀ m ∈ rs, r.1 ≤ m.1 := fun m hm => by
        rw [e1] at up
        have := (List.pairwise_cons.mp (List.pairwise_append.mp up).2.1).1 m hm
        omega
      ((conv => whnf); try dsimp only [List.set_cons_zero, List.set_cons_succ]); refine ⟨rfl, ?_⟩
      ((conv => whnf); try dsimp only [List.set_cons_zero, List.set_cons_succ]); refine ⟨by show 0 ≤ 16777216; decide, ?_⟩
      rcases List.eq_nil_or_concat gs with rfl | ⟨gs', g, eg⟩
      · ((conv => whnf); try dsimp only [List.set_cons_zero, List.set_cons_succ]); refine ⟨⟨shp_of rfl (by decide), shp_of rfl (by decide)⟩, ?_⟩
        ((conv => whnf); try dsimp only [List.set_cons_zero, List.set_cons_succ]); refine Br.ff ?_
        ((conv => whnf); try dsimp only [List.set_cons_zero, List.set_cons_succ]); refine Br.ff ?_
        ((conv => whnf); try dsimp only [List.set_cons_zero, List.set_cons_succ]); refine ⟨few3 (by show 2 ≤ 1000; decide), ?_⟩
        ((conv => whnf); try dsimp only [List.set_cons_zero, List.set_cons_succ]); refine ⟨by show 0 < 16777216; decide, ?_⟩
        exact ⟨_, Fgt.refl _, ih _ ⟨as ++ [r], rs, [(r.1, r.1)], _, _, by rw [e1]; simp, rfl, grp_new G r, fun g h => by cases h; exact late, rfl⟩⟩
      · rw [List.concat_eq_append] at eg
        subst eg
        have hg : g.2 ≤ r.1 := hl g (by simp) r (by simp)
        have sh : Shp (.lst ((gs' ++ [g]).map mkP)) := shp_of (bareL_pairs _).1 (by have := (bareL_pairs (gs' ++ [g])).2; show deepL _ + 1 ≤ 64; omega)
        have ne : deq (.lst ((gs' ++ [g]).map mkP)) (.lst []) = false := by rw [deq_nil]; cases gs' <;> rfl
        ((conv => whnf); try dsimp only [List.set_cons_zero, List.set_cons_succ]); refine ⟨⟨sh, shp_of rfl (by decide)⟩, ?_⟩
        rw [ne]
        ((conv => whnf); try dsimp only [List.set_cons_zero, List.set_cons_succ]); refine Br.tt ?_
        ((conv => whnf); try dsimp only [List.set_cons_zero, List.set_cons_succ]); refine ⟨_, last_at, ?_⟩
        ((conv => whnf); try dsimp only [List.set_cons_zero, List.set_cons_succ]); refine ⟨_, at1, ?_⟩
        ((conv => whnf); try dsimp only [List.set_cons_zero, List.set_cons_succ]); refine ⟨cml (by decide) (by omega), ?_⟩
        ((conv => whnf); try dsimp only [List.set_cons_zero, List.set_cons_succ]); refine Br.of (fun c => ?_) (fun c => ?_)
        · have c' : r.1 - g.2 ≤ 6 * n := c
          ((conv => whnf); try dsimp only [List.set_cons_zero, List.set_cons_succ]); refine ⟨_, last_at, ?_⟩
          ((conv => whnf); try dsimp only [List.set_cons_zero, List.set_cons_succ]); refine ⟨_, at0, ?_⟩
          ((conv => whnf); try dsimp only [List.set_cons_zero, List.set_cons_succ]); refine ⟨few3 (by show 2 ≤ 1000; decide), ?_⟩
          ((conv => whnf); try dsimp only [List.set_cons_zero, List.set_cons_succ]); refine ⟨gs'.length, by unfold ixN; rw [if_neg (by decide), List.length_map, List.length_append, List.length_singleton, if_pos (by omega), show (-1 + ((gs'.length + 1 : Nat) : Int)).toNat = gs'.length by omega], ?_⟩
          refine ⟨_, Fgt.refl _, ih _ ⟨as ++ [r], rs, gs' ++ [(g.1, r.1)], some (.d (.int r.1)), some (.d (.int r.2)), by rw [e1]; simp, rfl, grp_more (f := g.1) (l := g.2) G r hg c', fun z h => ?_, ?_⟩⟩
          · have : z = (g.1, r.1) := by simpa using h.symm
            subst this
            exact late
          · rw [set_last, List.map_append]; rfl
        · ((conv => whnf); try dsimp only [List.set_cons_zero, List.set_cons_succ]); refine ⟨few3 (by show 2 ≤ 1000; decide), ?_⟩
          ((conv => whnf); try dsimp only [List.set_cons_zero, List.set_cons_succ]); refine ⟨by rw [List.length_map]; omega, ?_⟩
          refine ⟨_, Fgt.refl _, ih _ ⟨as ++ [r], rs, gs' ++ [g] ++ [(r.1, r.1)], _, _, by rw [e1]; simp, rfl, grp_new G r, fun z h => ?_, by rw [List.map_append (l₂ := [(r.1, r.1)])]; rfl⟩⟩
          have : z = (r.1, r.1) := by simpa using h.symm
          subst this
          exact late
theorem ok_law_groups {Γ : Wd} (T : Tx Γ) : FnE Γ 1 "_law_groups" [false, false] c_law_groups :=
  fnE_of T.d_law_groups sc_law_groups (by intro _ _ _ _ _ _ _ _ us hl; exact match us, hl with | [_, _], _ => rfl) T.bn rfl (tr_law_groups T) law_law_groups


/-! how many moments have values in a stretch -/
theorem cntP_lt {p q : Int × Int → Bool} : ∀ {l : List (Int × Int)}, (∀ x ∈ l, p x = true → q x = true) → (∃ x ∈ l, q x = true ∧ p x = false) → l.countP p + 1 ≤ l.countP q
  | [], _, ⟨_, h, _⟩ => (nomatch h)
  | y :: l, h, ⟨x, hx, h1, h2⟩ => by
    rcases List.mem_cons.mp hx with rfl | hx
    · have m := List.countP_mono_left (l := l) fun z hz => h z (by simp [hz])
      rw [List.countP_cons_of_neg (by rw [h2]; exact Bool.false_ne_true), List.countP_cons_of_pos h1]
      omega
    · have ih := cntP_lt (l := l) (fun z hz => h z (by simp [hz])) ⟨x, hx, h1, h2⟩
      rw [List.countP_cons, List.countP_cons]
      have := h y (by simp)
      split <;> split <;> simp_all <;> omega
def inIv (lo s : Int) (m : Int × Int) : Bool := decide (lo < m.1) && decide (m.1 ≤ s)
theorem inIv_iff {lo s : Int} {m : Int × Int} : inIv lo s m = true ↔ lo < m.1 ∧ m.1 ≤ s := by unfold inIv; rw [Bool.and_eq_true, decide_eq_true_eq, decide_eq_true_eq]
theorem count_at {b : List Int} {ms : List (Int × Int)} (R : Rw b ms) (nf : ∀ x, ¬ Fall b ms x) {lo f : Int} (h1 : f ≤ valF b ms (lo + 1)) (k : Nat) : ((k : Int) + 1) ≤ valF b ms (lo + 1 + k) - f + b.length + ((normF b ms).countP (inIv lo (lo + 1 + k)) : Nat) := by
  have up : ∀ x, valF b ms x ≤ valF b ms (x + 1) := fun x => by have := nf x; unfold Fall at this; omega
  have pos := R.pos
  induction k using Nat.strongRecOn with
  | ind k ih =>
    have mono := up_le' up (show lo + 1 ≤ lo + 1 + k by omega)
    by_cases c : k < b.length
    · omega
    · by_cases d : ∀ m ∈ normF b ms, m.1 ≠ lo + 1 + k
      · have e := offF_back pos d
        rw [offF_norm pos R.up, offF_norm pos R.up] at e
        have i := ih (k - b.length) (by omega)
        have ek : lo + 1 + ((k - b.length : Nat) : Int) = lo + 1 + k - b.length := by omega
        rw [ek] at i
        have m : (normF b ms).countP (inIv lo (lo + 1 + k - b.length)) ≤ (normF b ms).countP (inIv lo (lo + 1 + k)) := List.countP_mono_left fun z _ hz => by rw [inIv_iff] at hz ⊢; omega
        unfold valF at i ⊢
        omega
      · have d' : ∃ m ∈ normF b ms, m.1 = lo + 1 + k := Classical.byContradiction fun z => d fun m hm q => z ⟨m, hm, q⟩
        obtain ⟨m, hm, em⟩ := d'
        have i := ih (k - 1) (by omega)
        have ek : lo + 1 + ((k - 1 : Nat) : Int) = lo + 1 + k - 1 := by omega
        rw [ek] at i
        have u := up (lo + 1 + k - 1)
        rw [show lo + 1 + (k : Int) - 1 + 1 = lo + 1 + k by omega] at u
        have m2 : (normF b ms).countP (inIv lo (lo + 1 + k - 1)) + 1 ≤ (normF b ms).countP (inIv lo (lo + 1 + k)) := cntP_lt (fun z _ hz => by rw [inIv_iff] at hz ⊢; omega) ⟨m, hm, inIv_iff.mpr ⟨by omega, by omega⟩, by
          rw [Bool.eq_false_iff]
          intro q
          have := inIv_iff.mp q
          omega⟩
        omega
/-- moments with values from f to l -/
theorem count_le {b : List Int} {ms : List (Int × Int)} (R : Rw b ms) (nf : ∀ x, ¬ Fall b ms x) {lo hi f l : Int} (h : lo ≤ hi) (fl : f ≤ l + 1) (h1 : f ≤ valF b ms (lo + 1)) (h2 : valF b ms hi ≤ l) : hi - lo ≤ l - f + b.length + ((normF b ms).countP (inIv lo hi) : Nat) := by
  have pos := R.pos
  by_cases c : lo = hi
  · omega
  · have a := count_at R nf h1 (hi - lo - 1).toNat
    rw [show lo + 1 + ((hi - lo - 1).toNat : Int) = hi by omega] at a
    omega
/-! normal forms by offsets -/
structure NormOf (n : Nat) (o : Int → Int) (B : List Int) (C : List (Int × Int)) : Prop where
  len : B.length = n
  asc : Asc C
  mem : ∀ a v, (a, v) ∈ C ↔ v = o a ∧ v ≠ o (a - n)
  base : ∀ a, (∀ c ∈ C, a < c.1) → wkF B a = o a
theorem norm_of {b : List Int} {ms : List (Int × Int)} {n : Nat} {o : Int → Int} {B : List Int} {C : List (Int × Int)} (R : Rw b ms) (hl : b.length = n) (ho : ∀ a, offF b ms a = o a) (N : NormOf n o B C) : b = B ∧ normF b ms = C := by
  have pos := R.pos
  subst hl
  refine ⟨?_, up_ext Prod.fst (norm_asc R.up) N.asc fun m => ?_⟩
  · refine List.ext_getElem N.len.symm fun r h1 h2 => ?_
    obtain ⟨k, hk⟩ := far_back b.length (by omega) r (ms ++ C)
    have c1 := offF_late (b := b) (ms := ms) (a := (r : Int) - k * b.length) fun m hm => hk m (by simp [hm])
    have c2 := N.base ((r : Int) - k * b.length) fun c hc => hk c (by simp [hc])
    rw [ho, ← c2, wkF_k] at c1
    have e1 : wkF b r = b[r] := by
      unfold wkF
      rw [Int.emod_eq_of_lt (by omega) (by omega), Int.toNat_natCast, List.getElem?_eq_getElem h1]; rfl
    have e2 : wkF B ((r : Int) - k * b.length) = B[r] := by
      rw [← N.len, wkF_k]
      unfold wkF
      rw [Int.emod_eq_of_lt (by omega) (by omega), Int.toNat_natCast, List.getElem?_eq_getElem h2]; rfl
    rw [← e1, ← e2, c1]
  · rw [show m = (m.1, m.2) from rfl, mem_norm pos R.up, N.mem, ho, ho]
/-- a list of spots that holds all changes gives the normal form -/
theorem norm_mk {n : Nat} (hn : 0 < n) (o : Int → Int) {S : List Int} (asc : S.Pairwise (· < ·)) (cov : ∀ a, o a ≠ o (a - n) → a ∈ S) {st : Int} (hst : ∀ s ∈ S, st ≤ s) :
    NormOf n o ((List.range n).map fun (r : Nat) => o (st - n + ((r : Int) - st) % n)) ((S.map fun a => (a, o a)).filter fun p => !decide (p.2 = o (p.1 - n))) := by
  have back : ∀ (a : Int) (k : Nat), (∀ z, z ≤ a → o z = o (z - n)) → o a = o (a - k * n) := fun a k h => by
    induction k with
    | zero => rw [show a - ((0 : Nat) : Int) * n = a by simp]
    | succ k ih =>
      have kn : 0 ≤ (k : Int) * n := Int.mul_nonneg (by omega) (by omega)
      rw [ih, h (a - k * n) (by omega), show ((k + 1 : Nat) : Int) = (k : Int) + 1 by omega, Int.add_mul]
      congr 1
      omega
  refine ⟨by simp, ?_, fun a v => ?_, fun a ha => ?_⟩
  · refine List.Pairwise.filter _ ?_
    exact List.pairwise_map.mpr (asc.imp fun h => h)
  · rw [List.mem_filter, List.mem_map]
    constructor
    · rintro ⟨⟨x, hx, e⟩, h⟩
      cases e
      exact ⟨rfl, by simpa using h⟩
    · rintro ⟨rfl, h⟩
      exact ⟨⟨a, cov a h, rfl⟩, by simpa using h⟩
  · have a0 := Int.emod_nonneg a (show (n : Int) ≠ 0 by omega)
    have a1 := Int.emod_lt_of_pos a (show (0 : Int) < n by omega)
    have x0 := Int.emod_nonneg (a % n - st) (show (n : Int) ≠ 0 by omega)
    have x1 := Int.emod_lt_of_pos (a % n - st) (show (0 : Int) < n by omega)
    have e : wkF ((List.range n).map fun (r : Nat) => o (st - n + ((r : Int) - st) % n)) a = o (st - n + (a % n - st) % n) := by
      unfold wkF
      rw [List.length_map, List.length_range, List.getElem?_map, List.getElem?_range (by omega)]
      show o (st - n + (((a % (n : Int)).toNat : Int) - st) % n) = _
      rw [Int.toNat_of_nonneg a0]
    rw [e]
    generalize hx : st - (n : Int) + (a % n - st) % n = x at *
    have xs : x < st := by omega
    have lx : ∀ z, z ≤ x → o z = o (z - n) := fun z hz => Classical.byContradiction fun q => by have := hst z (cov z q); omega
    have la : ∀ z, z ≤ a → o z = o (z - n) := fun z hz => Classical.byContradiction fun q => by
      have m : (z, o z) ∈ (S.map fun a => (a, o a)).filter fun p => !decide (p.2 = o (p.1 - n)) := by
        rw [List.mem_filter, List.mem_map]
        exact ⟨⟨z, cov z q, rfl⟩, by simpa using q⟩
      have := ha _ m
      have t : a < z := this
      omega
    have cx : (a - x) % (n : Int) = 0 := by
      rw [← hx, show a - (st - (n : Int) + (a % n - st) % n) = a - st - (a % n - st) % n + n * 1 by omega, Int.add_mul_emod_self_left, Int.sub_emod, Int.emod_emod, ← Int.sub_emod]
      rw [show a - st - (a % (n : Int) - st) = a - a % n by omega, ← Int.mul_ediv_add_emod a n]
      rw [show (n : Int) * (a / n) + a % n - (n * (a / n) + a % n) % n = n * (a / n) + (a % n - a % n) by rw [Int.mul_add_emod_self_left, Int.emod_emod]; omega, Int.sub_self, Int.add_zero, Int.mul_emod_right]
    obtain ⟨k, hk⟩ := Int.dvd_of_emod_eq_zero cx
    by_cases c : 0 ≤ k
    · have := back a k.toNat la
      rw [Int.toNat_of_nonneg c, Int.mul_comm, ← hk] at this
      rw [this]
      congr 1
      omega
    · have := back x (-k).toNat lx
      rw [Int.toNat_of_nonneg (by omega), Int.neg_mul, Int.mul_comm, ← hk] at this
      rw [this]
      congr 1
      omega

/-! two tables together, as the law finds them -/
theorem Br.ttD {b : Bool} {A B : Prop} (e : b = true) (h : A) : Br b A B := by subst e; exact Br.tt h
theorem Br.ffD {b : Bool} {A B : Prop} (e : b = false) (h : B) : Br b A B := by subst e; exact Br.ff h
def sgD : Nat → D
  | 0 => .str ">"
  | 1 => .str "+"
  | _ => .str "-"
def opO (g : Nat) (L1 : List Int) (m1 : List (Int × Int)) (L2 : List Int) (m2 : List (Int × Int)) (a : Int) : Int := match g with
  | 0 => offF L1 m1 a + offF L2 m2 (a + offF L1 m1 a)
  | 1 => mx (offF L1 m1 a) (offF L2 m2 a)
  | _ => mn (offF L1 m1 a) (offF L2 m2 a)
def c_law_wait : Con := fun svs Q _ => ∃ (g : Nat) (L1 L2 : List Int) (m1 m2 : List (Int × Int)) (a : Int), svs = [.d (sgD g), .d (tabX L1 m1 []), .d (tabX L2 m2 []), .d (.int a)] ∧ Rw L1 m1 ∧ Rw L2 m2 ∧ Q (.d (.int (opO g L1 m1 L2 m2 a))) svs
/-! _law_wait: sign 0, one 1, two 2, spot 3, first_here 4, second_here 5 -/
theorem sc_law_wait : FnScope N_law_wait ["sign", "one", "two", "spot"] (defScope st_law_wait) := ⟨rfl, rfl, rfl, by decide +kernel, rfl, by decide +kernel, by decide +kernel⟩
abbrev w_law_wait_1 : WS := wRetF (wIfE (wTst (w2 kEq (wVar 0) (wC (.str "+")))) (wB kMax (wCons (wVar 4) (wCons (wVar 5) (wNil)))) (wB kMin (wCons (wVar 4) (wCons (wVar 5) (wNil)))))
abbrev w_law_wait_2 : WS := wSeq (wAsg 5 (wCall [false, false] c_law_offset (wCons (wVar 2) (wCons (wVar 3) (wNil))))) w_law_wait_1
abbrev w_law_wait_3 : WS := wSeq (wIf (wTst (w2 kEq (wVar 0) (wC (.str ">")))) (wRetF (w2 kAdd (wVar 4) (wCall [false, false] c_law_offset (wCons (wVar 2) (wCons (w2 kAdd (wVar 3) (wVar 4)) (wNil)))))) (wNext)) w_law_wait_2
def w_law_wait : WS :=
  wSeq (wAsg 4 (wCall [false, false] c_law_offset (wCons (wVar 1) (wCons (wVar 3) (wNil))))) w_law_wait_3
theorem tr_law_wait {Γ : Wd} (T : Tx Γ) (X : Cx) (C : Ctx Γ X N_law_wait (defScope st_law_wait) (fun _ => true) 1) (P : Own X) (dc : DefCx X) : SSs Γ [] X (defBody st_law_wait) w_law_wait :=
  sss_cons (ss_asg C 4 (se_call C (FnE.mono (ok_law_offset T) (by decide)) (sa_cons (se_var C 1) (sa_cons (se_var C 3) (sa_nil)))))
  (sss_cons (ss_if (st_eq C (se_var C 0) (se_str)) (sss_one (ss_retF (se_add (se_var C 4) (se_call C (FnE.mono (ok_law_offset T) (by decide)) (sa_cons (se_var C 2) (sa_cons (se_add (se_var C 3) (se_var C 4)) (sa_nil))))))) (sss_nil))
  (sss_cons (ss_asg C 5 (se_call C (FnE.mono (ok_law_offset T) (by decide)) (sa_cons (se_var C 2) (sa_cons (se_var C 3) (sa_nil)))))
  (sss_one (ss_retF (se_if (st_eq C (se_var C 0) (se_str)) (se_max C (sa_cons (se_var C 4) (sa_cons (se_var C 5) (sa_nil)))) (se_min C (sa_cons (se_var C 4) (sa_cons (se_var C 5) (sa_nil)))))))))

theorem law_law_wait : LawOf N_law_wait [false, false, false, false] c_law_wait w_law_wait := by
  rintro svs Q E - ⟨g, L1, L2, m1, m2, a, rfl, R1, R2, hq⟩
  match g with
  | 0 =>
    show w_law_wait [some (.d (.str ">")), some (.d (tabX L1 m1 [])), some (.d (tabX L2 m2 [])), some (.d (.int a)), none, none] _ _
    ((conv => whnf); try dsimp only [List.set_cons_zero, List.set_cons_succ]); refine ⟨L1, m1, [], a, rfl, R1, ?_⟩
    ((conv => whnf); try dsimp only [List.set_cons_zero, List.set_cons_succ]); refine Br.ttD (by decide +kernel) ?_
    ((conv => whnf); try dsimp only [List.set_cons_zero, List.set_cons_succ]); refine ⟨L2, m2, [], _, rfl, R2, ?_⟩
    ((conv => whnf); try dsimp only [List.set_cons_zero, List.set_cons_succ]); exact hq
  | 1 =>
    show w_law_wait [some (.d (.str "+")), some (.d (tabX L1 m1 [])), some (.d (tabX L2 m2 [])), some (.d (.int a)), none, none] _ _
    ((conv => whnf); try dsimp only [List.set_cons_zero, List.set_cons_succ]); refine ⟨L1, m1, [], a, rfl, R1, ?_⟩
    ((conv => whnf); try dsimp only [List.set_cons_zero, List.set_cons_succ]); refine Br.ffD (by decide +kernel) ?_
    ((conv => whnf); try dsimp only [List.set_cons_zero, List.set_cons_succ]); refine ⟨L2, m2, [], _, rfl, R2, ?_⟩
    ((conv => whnf); try dsimp only [List.set_cons_zero, List.set_cons_succ]); refine Br.ttD (by decide +kernel) ?_
    ((conv => whnf); try dsimp only [List.set_cons_zero, List.set_cons_succ]); exact hq
  | g + 2 =>
    show w_law_wait [some (.d (.str "-")), some (.d (tabX L1 m1 [])), some (.d (tabX L2 m2 [])), some (.d (.int a)), none, none] _ _
    ((conv => whnf); try dsimp only [List.set_cons_zero, List.set_cons_succ]); refine ⟨L1, m1, [], a, rfl, R1, ?_⟩
    ((conv => whnf); try dsimp only [List.set_cons_zero, List.set_cons_succ]); refine Br.ffD (by decide +kernel) ?_
    ((conv => whnf); try dsimp only [List.set_cons_zero, List.set_cons_succ]); refine ⟨L2, m2, [], _, rfl, R2, ?_⟩
    ((conv => whnf); try dsimp only [List.set_cons_zero, List.set_cons_succ]); refine Br.ffD (by decide +kernel) ?_
    ((conv => whnf); try dsimp only [List.set_cons_zero, List.set_cons_succ]); exact hq
theorem ok_law_wait {Γ : Wd} (T : Tx Γ) : FnE Γ 2 "_law_wait" [false, false, false, false] c_law_wait :=
  fnE_of T.d_law_wait sc_law_wait (by intro _ _ _ _ _ _ _ _ us hl; exact match us, hl with | [_, _, _, _], _ => rfl) T.bn rfl (tr_law_wait T) law_law_wait

/-- where two tables together change -/
theorem op_cov {n : Nat} {L1 L2 : List Int} {m1 m2 : List (Int × Int)} (h1 : L1.length = n) (h2 : L2.length = n) (hn : 0 < n) (g : Nat) (a : Int) (h : opO g L1 m1 L2 m2 a ≠ opO g L1 m1 L2 m2 (a - n)) :
    (∃ m ∈ m1, m.1 = a) ∨ (g = 0 ∧ ∃ m ∈ m2, m.1 = valF L1 m1 a) ∨ (g ≠ 0 ∧ ∃ m ∈ m2, m.1 = a) := by
  by_cases c : ∃ m ∈ m1, m.1 = a
  · exact .inl c
  right
  have e1 := offF_back (b := L1) (ms := m1) (a := a) (by omega) fun m hm q => c ⟨m, hm, q⟩
  rw [h1] at e1
  match g with
  | 0 =>
    left
    refine ⟨rfl, Classical.byContradiction fun q => h ?_⟩
    have e2 := offF_back (b := L2) (ms := m2) (a := a + offF L1 m1 a) (by omega) fun m hm z => q ⟨m, hm, z⟩
    rw [h2] at e2
    show offF L1 m1 a + offF L2 m2 (a + offF L1 m1 a) = offF L1 m1 (a - n) + offF L2 m2 (a - n + offF L1 m1 (a - n))
    rw [← e1, e2, show a + offF L1 m1 a - (n : Int) = a - n + offF L1 m1 a by omega]
  | 1 =>
    right
    refine ⟨by decide, Classical.byContradiction fun q => h ?_⟩
    have e2 := offF_back (b := L2) (ms := m2) (a := a) (by omega) fun m hm z => q ⟨m, hm, z⟩
    rw [h2] at e2
    show mx _ _ = mx _ _
    rw [e1, e2]
  | g + 2 =>
    right
    refine ⟨by omega, Classical.byContradiction fun q => h ?_⟩
    have e2 := offF_back (b := L2) (ms := m2) (a := a) (by omega) fun m hm z => q ⟨m, hm, z⟩
    rw [h2] at e2
    show mn _ _ = mn _ _
    rw [e1, e2]
def c_law_both : Con := fun svs Q _ => ∃ (g n : Nat) (L1 L2 : List Int) (m1 m2 : List (Int × Int)), svs = [.d (sgD g), .d (tabX L1 m1 []), .d (tabX L2 m2 [])] ∧ L1.length = n ∧ L2.length = n ∧ FarT L1 m1 ∧ FarT L2 m2 ∧
  ∀ B C, NormOf n (opO g L1 m1 L2 m2) B C → Q (.d (.tup [.lst (B.map D.int), .lst (C.map mkP)])) svs
/-! _law_both: sign 0, one 1, two 2, size 3, spots 4, start 5, base_here 6, found 7, first_here 8, last_here 9, rest 10, at 11, here 12, pair 13 -/
theorem sc_law_both : FnScope N_law_both ["sign", "one", "two"] (defScope st_law_both) := ⟨rfl, rfl, rfl, by decide +kernel, rfl, by decide +kernel, by decide +kernel⟩
abbrev w_law_both_1 : WS := wAsg 4 (w2 kAdd (wVar 4) (wLstRg (wCons (w2 kAdd (wCall [false, false] c_law_start (wCons (wVar 1) (wCons (w2 kSub (wVar 8) (wC (.int 1))) (wNil)))) (wC (.int 1))) (wCons (w2 kAdd (wCall [false, false] c_law_start (wCons (wVar 1) (wCons (wVar 9) (wNil)))) (wC (.int 1))) (wNil)))))
abbrev w_law_both_2 : WS := wRetF (wTup (wCons (wVar 6) (wCons (wLc (wIt (wVar 7)) (gNm 13) (wTst (w2 kNe (w2 kIdx (wVar 13) (wC (.int 1))) (wCall [false, false, false, false] c_law_wait (wCons (wVar 0) (wCons (wVar 1) (wCons (wVar 2) (wCons (w2 kSub (w2 kIdx (wVar 13) (wC (.int 0))) (wVar 3)) (wNil)))))))) (wVar 13) [13]) (wNil))))
abbrev w_law_both_3 : WS := wSeq (wAsg 7 (wLc (wIt (wVar 4)) (gNm 11) (wYes) (wTup (wCons (wVar 11) (wCons (wCall [false, false, false, false] c_law_wait (wCons (wVar 0) (wCons (wVar 1) (wCons (wVar 2) (wCons (wVar 11) (wNil)))))) (wNil)))) [11])) w_law_both_2
abbrev w_law_both_4 : WS := wSeq (wAsg 6 (wLc (wRng1 (wCons (wVar 3) (wNil))) (gNm 10) (wYes) (wCall [false, false, false, false] c_law_wait (wCons (wVar 0) (wCons (wVar 1) (wCons (wVar 2) (wCons (w2 kAdd (w2 kSub (wVar 5) (wVar 3)) (w2 kMod (wB kInt (wCons (w2 kSub (wVar 10) (wVar 5)) (wNil))) (wVar 3))) (wNil)))))) [10])) w_law_both_3
abbrev w_law_both_5 : WS := wSeq (wAsg 5 (wIfE (wTst (w2 kNe (wVar 4) (wLst (wNil)))) (w2 kIdx (wVar 4) (wC (.int 0))) (wC (.int 0)))) w_law_both_4
abbrev w_law_both_6 : WS := wSeq (wAsg 4 (wSortS (wVar 4))) w_law_both_5
abbrev w_law_both_7 : WS := wSeq (wIf (wTst (w2 kEq (wVar 0) (wC (.str ">")))) (wFor (wIt (wCall [false, false] c_law_groups (wCons (w2 kIdx (wVar 2) (wC (.int 1))) (wCons (wVar 3) (wNil))))) (gTp 2 (gsCons (gNm 8) (gsCons (gNm 9) (gsNil)))) w_law_both_1) (wAsg 4 (w2 kAdd (wVar 4) (wLc (wIt (w2 kIdx (wVar 2) (wC (.int 1)))) (gTp 2 (gsCons (gNm 11) (gsCons (gNm 12) (gsNil)))) (wYes) (wVar 11) [11, 12])))) w_law_both_6
def w_law_both : WS :=
  wSeq (wUnp (wTup (wCons (wB kLen (wCons (w2 kIdx (wVar 1) (wC (.int 0))) (wNil))) (wCons (wLc (wIt (w2 kIdx (wVar 1) (wC (.int 1)))) (gTp 2 (gsCons (gNm 11) (gsCons (gNm 12) (gsNil)))) (wYes) (wVar 11) [11, 12]) (wNil)))) (gTp 2 (gsCons (gNm 3) (gsCons (gNm 4) (gsNil))))) w_law_both_7
theorem tr_law_both {Γ : Wd} (T : Tx Γ) (X : Cx) (C : Ctx Γ X N_law_both (defScope st_law_both) (fun _ => true) 2) (P : Own X) (dc : DefCx X) : SSs Γ [] X (defBody st_law_both) w_law_both :=
  sss_cons (ss_unpC C (is := [3, 4]) (se_tup (sa_cons (se_len C (sa_cons (se_idx C (fun _ _ => rfl) (se_var C 1) (se_int)) (sa_nil))) (sa_cons (se_lc C (own := [("at", 11), ("here", 12)]) (is := [11, 12]) (by decide +kernel) (by decide +kernel) (si_seq (se_idx C (fun _ _ => rfl) (se_var C 1) (se_int))) (fun _ hX => sg_tup hX.1 (sgs_cons (sg_name hX.1 11) (sgs_cons (sg_name hX.1 12) (sgs_nil)))) (fun _ hX => sts_nil) (fun _ hX => se_var hX.1 11)) (sa_nil)))) (sg_tup C (sgs_cons (sg_name C 3) (sgs_cons (sg_name C 4) (sgs_nil)))))
  (sss_cons (ss_if (st_eq C (se_var C 0) (se_str)) (sss_one (ss_for C P (is := [8, 9]) (si_seq (se_call C (FnE.mono (ok_law_groups T) (by decide)) (sa_cons (se_idx C (fun _ _ => rfl) (se_var C 2) (se_int)) (sa_cons (se_var C 3) (sa_nil))))) (sg_tup C (sgs_cons (sg_name C 8) (sgs_cons (sg_name C 9) (sgs_nil)))) (sss_one (ss_asg C 4 (se_add (se_var C 4) (se_listRg C (sa_cons (se_add (se_call C (FnE.mono (ok_law_start T) (by decide)) (sa_cons (se_var C 1) (sa_cons (se_sub (se_var C 8) (se_int)) (sa_nil)))) (se_int)) (sa_cons (se_add (se_call C (FnE.mono (ok_law_start T) (by decide)) (sa_cons (se_var C 1) (sa_cons (se_var C 9) (sa_nil)))) (se_int)) (sa_nil))))))))) (sss_one (ss_asg C 4 (se_add (se_var C 4) (se_lc C (own := [("at", 11), ("here", 12)]) (is := [11, 12]) (by decide +kernel) (by decide +kernel) (si_seq (se_idx C (fun _ _ => rfl) (se_var C 2) (se_int))) (fun _ hX => sg_tup hX.1 (sgs_cons (sg_name hX.1 11) (sgs_cons (sg_name hX.1 12) (sgs_nil)))) (fun _ hX => sts_nil) (fun _ hX => se_var hX.1 11))))))
  (sss_cons (ss_asg C 4 (se_sortS C (se_var C 4)))
  (sss_cons (ss_asg C 5 (se_if (st_ne C (se_var C 4) (se_lst (sa_nil))) (se_idx C (fun _ _ => rfl) (se_var C 4) (se_int)) (se_int)))
  (sss_cons (ss_asgLc C 6 (own := [("rest", 10)]) (is := [10]) rfl rfl rfl rfl (by decide +kernel) (by decide +kernel) (by decide +kernel) (si_range1 C (sa_cons (se_var C 3) (sa_nil))) (fun _ hX => sg_name hX.1 10) (fun _ hX => sts_nil) (fun _ hX => se_call hX.1 (FnE.mono (ok_law_wait T) (by decide)) (sa_cons (se_var hX.1 0) (sa_cons (se_var hX.1 1) (sa_cons (se_var hX.1 2) (sa_cons (se_add (se_sub (se_var hX.1 5) (se_var hX.1 3)) (se_mod (se_intc hX.1 (sa_cons (se_sub (se_var hX.1 10) (se_var hX.1 5)) (sa_nil))) (se_var hX.1 3))) (sa_nil)))))))
  (sss_cons (ss_asgLc C 7 (own := [("at", 11)]) (is := [11]) rfl rfl rfl rfl (by decide +kernel) (by decide +kernel) (by decide +kernel) (si_seq (se_var C 4)) (fun _ hX => sg_name hX.1 11) (fun _ hX => sts_nil) (fun _ hX => se_tup (sa_cons (se_var hX.1 11) (sa_cons (se_call hX.1 (FnE.mono (ok_law_wait T) (by decide)) (sa_cons (se_var hX.1 0) (sa_cons (se_var hX.1 1) (sa_cons (se_var hX.1 2) (sa_cons (se_var hX.1 11) (sa_nil)))))) (sa_nil)))))
  (sss_one (ss_retF (se_tup (sa_cons (se_var C 6) (sa_cons (se_lc C (own := [("pair", 13)]) (is := [13]) (by decide +kernel) (by decide +kernel) (si_seq (se_var C 7)) (fun _ hX => sg_name hX.1 13) (fun _ hX => sts_one (st_ne hX.1 (se_idx hX.1 (fun _ _ => rfl) (se_var hX.1 13) (se_int)) (se_call hX.1 (FnE.mono (ok_law_wait T) (by decide)) (sa_cons (se_var hX.1 0) (sa_cons (se_var hX.1 1) (sa_cons (se_var hX.1 2) (sa_cons (se_sub (se_idx hX.1 (fun _ _ => rfl) (se_var hX.1 13) (se_int)) (se_var hX.1 3)) (sa_nil)))))))) (fun _ hX => se_var hX.1 13)) (sa_nil)))))))))))

theorem both_end {g n : Nat} {L1 L2 : List Int} {m1 m2 : List (Int × Int)} {Q : SV → List SV → Prop} {E : Nat → D → List SV → Prop} (h1 : L1.length = n) (h2 : L2.length = n) (T1 : FarT L1 m1) (T2 : FarT L2 m2)
    (hq : ∀ B C, NormOf n (opO g L1 m1 L2 m2) B C → Q (.d (.tup [.lst (B.map D.int), .lst (C.map mkP)])) [.d (sgD g), .d (tabX L1 m1 []), .d (tabX L2 m2 [])]) (S : List Int) (asc : S.Pairwise (· < ·)) (ls : S.length < 4000) (cov : ∀ a, opO g L1 m1 L2 m2 a ≠ opO g L1 m1 L2 m2 (a - n) → a ∈ S) (st : Int) (hst : ∀ s ∈ S, st ≤ s) (x4 : SV) (hx : x4 = .lst (S.map D.int) ∨ x4 = .d (.lst (S.map D.int))) (x8 x9 : Option SV) :
    w_law_both_4 [some (.d (sgD g)), some (.d (tabX L1 m1 [])), some (.d (tabX L2 m2 [])), some (.d (.int n)), some x4, some (.d (.int st)), none, none, x8, x9, none, none, none, none] (endsOf [false, false, false] [.d (sgD g), .d (tabX L1 m1 []), .d (tabX L2 m2 [])] Q) (errsOf [false, false, false] [.d (sgD g), .d (tabX L1 m1 []), .d (tabX L2 m2 [])] E) := by
  have R1 := T1.tab.rw_
  have R2 := T2.tab.rw_
  have pos := R1.pos
  have le := R1.le
  have N := norm_mk (show 0 < n by omega) (opO g L1 m1 L2 m2) asc cov hst
  have fin := hq _ _ N
  clear hq N cov
  generalize ho : opO g L1 m1 L2 m2 = o at *
  ((conv => whnf); try dsimp only [List.set_cons_zero, List.set_cons_succ]); refine ⟨by omega, by omega, ?_⟩
  refine compL_ind (fun ds acc ρ => ∃ (i k : Nat), i + k = n ∧ ds = (List.range' i k).map (fun (i : Nat) => D.int (0 + (i : Int))) ∧ acc = ((List.range i).map fun (r : Nat) => o (st - n + ((r : Int) - st) % n)).map D.int ∧ ρ = [some (.d (sgD g)), some (.d (tabX L1 m1 [])), some (.d (tabX L2 m2 [])), some (.d (.int n)), some x4, some (.d (.int st)), none, none, x8, x9, none, none, none, none]) ?_ ?_ _ _ _ ⟨0, n, by omega, by unfold rngD; rw [List.range_eq_range']; rfl, rfl, rfl⟩
  · rintro acc ρ ⟨i, k, hik, e, rfl, rfl⟩
    obtain rfl : k = 0 := by cases k with
      | zero => rfl
      | succ k => rw [List.range'_succ] at e; cases e
    obtain rfl : i = n := by omega
    have go : w_law_both_3 [some (.d (sgD g)), some (.d (tabX L1 m1 [])), some (.d (tabX L2 m2 [])), some (.d (.int i)), some (.d (.lst (S.map D.int))), some (.d (.int st)), some (.lst (((List.range i).map fun (r : Nat) => o (st - i + ((r : Int) - st) % i)).map D.int)), none, x8, x9, none, none, none, none] (endsOf [false, false, false] [.d (sgD g), .d (tabX L1 m1 []), .d (tabX L2 m2 [])] Q) (errsOf [false, false, false] [.d (sgD g), .d (tabX L1 m1 []), .d (tabX L2 m2 [])] E) := by
      generalize hB : ((List.range i).map fun (r : Nat) => o (st - i + ((r : Int) - st) % i)) = B at *
      ((conv => whnf); try dsimp only [List.set_cons_zero, List.set_cons_succ])
      refine compL_ind (fun ds acc ρ => ∃ (as rs : List Int), S = as ++ rs ∧ ds = rs.map D.int ∧ acc = (as.map fun a => (a, o a)).map mkP ∧ ρ = [some (.d (sgD g)), some (.d (tabX L1 m1 [])), some (.d (tabX L2 m2 [])), some (.d (.int i)), some (.d (.lst (S.map D.int))), some (.d (.int st)), some (.lst (B.map D.int)), none, x8, x9, none, none, none, none]) ?_ ?_ _ _ _ ⟨[], S, rfl, rfl, rfl, rfl⟩
      · rintro acc ρ ⟨as, rs, q1, q2, rfl, rfl⟩
        obtain rfl : rs = [] := by cases rs with
          | nil => rfl
          | cons _ _ => cases q2
        rw [List.append_nil] at q1
        rw [← q1]
        have lF : (S.map fun a => (a, o a)).length < 4000 := by rw [List.length_map]; exact ls
        generalize (S.map fun a => (a, o a)) = F at *
        ((conv => whnf); try dsimp only [List.set_cons_zero, List.set_cons_succ])
        refine compL_ind (fun ds acc ρ => ∃ (as rs : List (Int × Int)), F = as ++ rs ∧ ds = rs.map mkP ∧ acc = (as.filter fun p => !decide (p.2 = o (p.1 - i))).map mkP ∧ ρ = [some (.d (sgD g)), some (.d (tabX L1 m1 [])), some (.d (tabX L2 m2 [])), some (.d (.int i)), some (.d (.lst (S.map D.int))), some (.d (.int st)), some (.lst (B.map D.int)), some (.d (.lst (F.map mkP))), x8, x9, none, none, none, none]) ?_ ?_ _ _ _ ⟨[], F, rfl, rfl, rfl, rfl⟩
        · rintro acc ρ ⟨as, rs, r1, r2, rfl, rfl⟩
          obtain rfl : rs = [] := by cases rs with
            | nil => rfl
            | cons _ _ => cases r2
          rw [List.append_nil] at r1
          rw [← r1]
          ((conv => whnf); try dsimp only [List.set_cons_zero, List.set_cons_succ]); refine ⟨few3 (by show 2 ≤ 1000; decide), ?_⟩
          ((conv => whnf); try dsimp only [List.set_cons_zero, List.set_cons_succ]); exact fin
        · rintro d ds acc ρ ⟨as, rs, r1, r2, rfl, rfl⟩ ih
          cases rs with
          | nil => cases r2
          | cons r rs =>
            cases r2
            have la : as.length < F.length := by rw [r1]; simp
            have lf : (as.filter fun p => !decide (p.2 = o (p.1 - i))).length ≤ as.length := List.length_filter_le _ _
            ((conv => whnf); try dsimp only [List.set_cons_zero, List.set_cons_succ]); refine ⟨_, at1, ?_⟩
            ((conv => whnf); try dsimp only [List.set_cons_zero, List.set_cons_succ]); refine ⟨_, at0, ?_⟩
            ((conv => whnf); try dsimp only [List.set_cons_zero, List.set_cons_succ]); refine ⟨g, L1, L2, m1, m2, _, rfl, R1, R2, ?_⟩
            rw [ho]
            ((conv => whnf); try dsimp only [List.set_cons_zero, List.set_cons_succ]); refine Br.ofN (fun c => ?_) (fun c => ?_)
            · have c' : ¬ r.2 = o (r.1 - i) := c
              ((conv => whnf); try dsimp only [List.set_cons_zero, List.set_cons_succ]); refine ⟨by rw [List.length_map]; omega, ?_⟩
              exact ih _ _ ⟨as ++ [r], rs, by rw [r1]; simp, rfl, by rw [List.filter_append, List.map_append, List.filter_cons, if_pos (by simpa using c')]; rfl, rfl⟩
            · have c' : r.2 = o (r.1 - i) := c
              exact ih _ _ ⟨as ++ [r], rs, by rw [r1]; simp, rfl, by rw [List.filter_append, List.map_append, List.filter_cons, if_neg (by simpa using c')]; simp, rfl⟩
      · rintro d ds acc ρ ⟨as, rs, q1, q2, rfl, rfl⟩ ih
        cases rs with
        | nil => cases q2
        | cons r rs =>
          cases q2
          have la : as.length < S.length := by rw [q1]; simp
          ((conv => whnf); try dsimp only [List.set_cons_zero, List.set_cons_succ]); refine Br.tt ?_
          ((conv => whnf); try dsimp only [List.set_cons_zero, List.set_cons_succ]); refine ⟨g, L1, L2, m1, m2, _, rfl, R1, R2, ?_⟩
          rw [ho]
          ((conv => whnf); try dsimp only [List.set_cons_zero, List.set_cons_succ]); refine ⟨few3 (by show 2 ≤ 1000; decide), ?_⟩
          ((conv => whnf); try dsimp only [List.set_cons_zero, List.set_cons_succ]); refine ⟨by rw [List.length_map, List.length_map]; omega, ?_⟩
          exact ih _ _ ⟨as ++ [r], rs, by rw [q1]; simp, rfl, by rw [List.map_append, List.map_append]; rfl, rfl⟩
    rcases hx with rfl | rfl
    · ((conv => whnf); try dsimp only [List.set_cons_zero, List.set_cons_succ]); exact go
    · ((conv => whnf); try dsimp only [List.set_cons_zero, List.set_cons_succ]); exact go
  · rintro d ds acc ρ ⟨i, k, hik, e, rfl, rfl⟩ ih
    cases k with
    | zero => cases e
    | succ k =>
      rw [List.range'_succ, List.map_cons] at e
      cases e
      ((conv => whnf); try dsimp only [List.set_cons_zero, List.set_cons_succ]); refine Br.tt ?_
      ((conv => whnf); try dsimp only [List.set_cons_zero, List.set_cons_succ]); refine ⟨by omega, ?_⟩
      rw [show (0 : Int) + (i : Int) = i by omega]
      ((conv => whnf); try dsimp only [List.set_cons_zero, List.set_cons_succ]); refine ⟨g, L1, L2, m1, m2, _, rfl, R1, R2, ?_⟩
      rw [ho]
      ((conv => whnf); try dsimp only [List.set_cons_zero, List.set_cons_succ]); refine ⟨by simp; omega, ?_⟩
      exact ih _ _ ⟨i + 1, k, by omega, rfl, by rw [List.range_succ, List.map_append, List.map_append]; rfl, rfl⟩
theorem both_tail {g n : Nat} {L1 L2 : List Int} {m1 m2 : List (Int × Int)} {Q : SV → List SV → Prop} {E : Nat → D → List SV → Prop} (h1 : L1.length = n) (h2 : L2.length = n) (T1 : FarT L1 m1) (T2 : FarT L2 m2)
    (hq : ∀ B C, NormOf n (opO g L1 m1 L2 m2) B C → Q (.d (.tup [.lst (B.map D.int), .lst (C.map mkP)])) [.d (sgD g), .d (tabX L1 m1 []), .d (tabX L2 m2 [])]) (sp : List Int) (ls : sp.length < 4000) (cov : ∀ a, opO g L1 m1 L2 m2 a ≠ opO g L1 m1 L2 m2 (a - n) → a ∈ sp) (x4 : SV) (hx : x4 = .lst (sp.map D.int) ∨ x4 = .d (.lst (sp.map D.int))) (x8 x9 : Option SV) :
    w_law_both_6 [some (.d (sgD g)), some (.d (tabX L1 m1 [])), some (.d (tabX L2 m2 [])), some (.d (.int n)), some x4, none, none, none, x8, x9, none, none, none, none] (endsOf [false, false, false] [.d (sgD g), .d (tabX L1 m1 []), .d (tabX L2 m2 [])] Q) (errsOf [false, false, false] [.d (sgD g), .d (tabX L1 m1 []), .d (tabX L2 m2 [])] E) := by
  have R1 := T1.tab.rw_
  have R2 := T2.tab.rw_
  have pos := R1.pos
  have le := R1.le
  have key : ∀ S : List Int, S.Pairwise (· < ·) → (∀ k, k ∈ S ↔ k ∈ sp) → w_law_both_5 [some (.d (sgD g)), some (.d (tabX L1 m1 [])), some (.d (tabX L2 m2 [])), some (.d (.int n)), some (.lst (S.map D.int)), none, none, none, x8, x9, none, none, none, none] (endsOf [false, false, false] [.d (sgD g), .d (tabX L1 m1 []), .d (tabX L2 m2 [])] Q) (errsOf [false, false, false] [.d (sgD g), .d (tabX L1 m1 []), .d (tabX L2 m2 [])] E) := fun S asc mem => by
    have lS : S.length < 4000 := by
      have := nodup_len asc fun k hk => (mem k).mp hk
      omega
    have cov' : ∀ a, opO g L1 m1 L2 m2 a ≠ opO g L1 m1 L2 m2 (a - n) → a ∈ S := fun a h => (mem a).mpr (cov a h)
    have shS : Shp (.lst (S.map D.int)) := shp_of (bare_ints S).1 (by have := (bare_ints S).2; show deepL _ + 1 ≤ 64; omega)
    ((conv => whnf); try dsimp only [List.set_cons_zero, List.set_cons_succ]); refine ⟨by show 0 ≤ 16777216; decide, ?_⟩
    ((conv => whnf); try dsimp only [List.set_cons_zero, List.set_cons_succ]); refine ⟨⟨shS, shp_of rfl (by decide)⟩, ?_⟩
    rw [deq_nil]
    cases S with
    | nil =>
      ((conv => whnf); try dsimp only [List.set_cons_zero, List.set_cons_succ]); refine Br.ff ?_
      ((conv => whnf); try dsimp only [List.set_cons_zero, List.set_cons_succ]); exact both_end h1 h2 T1 T2 hq [] asc lS cov' 0 (fun _ h => (nomatch h)) _ (.inl rfl) x8 x9
    | cons s S =>
      ((conv => whnf); try dsimp only [List.set_cons_zero, List.set_cons_succ]); refine Br.tt ?_
      ((conv => whnf); try dsimp only [List.set_cons_zero, List.set_cons_succ]); refine ⟨_, at0, ?_⟩
      ((conv => whnf); try dsimp only [List.set_cons_zero, List.set_cons_succ]); exact both_end h1 h2 T1 T2 hq (s :: S) asc lS cov' s (fun z hz => by
        rcases List.mem_cons.mp hz with rfl | h
        · exact Int.le_refl _
        · have := (List.pairwise_cons.mp asc).1 z h; omega) _ (.inl rfl) x8 x9
  rcases hx with rfl | rfl
  · ((conv => whnf); try dsimp only [List.set_cons_zero, List.set_cons_succ]); exact ⟨sp, rfl, ls, key⟩
  · ((conv => whnf); try dsimp only [List.set_cons_zero, List.set_cons_succ]); exact ⟨sp, rfl, ls, key⟩
theorem both_turn {n : Nat} {L1 : List Int} {m1 : List (Int × Int)} {tw : D} {sg : D} (R1 : Rw L1 m1) (nf1 : ∀ x, ¬ Fall L1 m1 x) {f l : Int} (fl : f ≤ l) (sp : List Int) (x4 : SV) (hx : x4 = .lst (sp.map D.int) ∨ x4 = .d (.lst (sp.map D.int))) (lsp : sp.length ≤ 10000) (fl2 : l - f ≤ 10000) (K : Nd) (E : EK)
    (nx : ∀ sp' : List Int, (sp'.length : Int) ≤ sp.length + (l - f) + L1.length + m1.length → (∀ a ∈ sp, a ∈ sp') → (∀ a, f ≤ valF L1 m1 a → valF L1 m1 a ≤ l → a ∈ sp') → K.nx [some (.d sg), some (.d (tabX L1 m1 [])), some (.d tw), some (.d (.int n)), some (.lst (sp'.map D.int)), none, none, none, some (.d (.int f)), some (.d (.int l)), none, none, none, none]) :
    w_law_both_1 [some (.d sg), some (.d (tabX L1 m1 [])), some (.d tw), some (.d (.int n)), some x4, none, none, none, some (.d (.int f)), some (.d (.int l)), none, none, none, none] K E := by
  have up : ∀ x, valF L1 m1 x ≤ valF L1 m1 (x + 1) := fun x => by have := nf1 x; unfold Fall at this; omega
  have few := R1.few
  have le := R1.le
  have nl := norm_len L1 m1
  have fin : ∀ lo hi, valF L1 m1 lo ≤ f - 1 → f - 1 < valF L1 m1 (lo + 1) → valF L1 m1 hi ≤ l → l < valF L1 m1 (hi + 1) → hi + 1 - (lo + 1) ≤ l - f + L1.length + m1.length ∧ K.nx [some (.d sg), some (.d (tabX L1 m1 [])), some (.d tw), some (.d (.int n)), some (.lst ((sp ++ rgI (lo + 1) (hi + 1)).map D.int)), none, none, none, some (.d (.int f)), some (.d (.int l)), none, none, none, none] := fun lo hi l1 l2 l3 l4 => by
    have lh : lo ≤ hi := by
      by_cases c : lo ≤ hi
      · exact c
      · have := up_le' up (show hi + 1 ≤ lo by omega); omega
    have ct := count_le (f := f) R1 nf1 lh (by omega) (by omega) l3
    have cp : (normF L1 m1).countP (inIv lo hi) ≤ (normF L1 m1).length := List.countP_le_length
    have wid : hi + 1 - (lo + 1) ≤ l - f + L1.length + m1.length := by omega
    refine ⟨wid, nx _ (by rw [List.length_append, len_rgI]; omega) (fun a ha => by simp [ha]) fun a a1 a2 => ?_⟩
    rw [List.mem_append]
    right
    refine mem_rgI.mpr ⟨?_, ?_⟩
    · by_cases c : a ≤ lo
      · have := up_le' up c; omega
      · omega
    · by_cases c : hi + 1 ≤ a
      · have := up_le' up c; omega
      · omega
  clear nx
  rcases hx with rfl | rfl
  all_goals
    ((conv => whnf); try dsimp only [List.set_cons_zero, List.set_cons_succ]); refine ⟨L1, m1, [], f - 1, rfl, R1, fun lo l1 l2 => ?_⟩
    ((conv => whnf); try dsimp only [List.set_cons_zero, List.set_cons_succ]); refine ⟨L1, m1, [], l, rfl, R1, fun hi l3 l4 => ?_⟩
    obtain ⟨wid, go⟩ := fin lo hi l1 l2 l3 l4
    ((conv => whnf); try dsimp only [List.set_cons_zero, List.set_cons_succ]); refine ⟨by omega, ?_⟩
    rw [rgD_eq]
    ((conv => whnf); try dsimp only [List.set_cons_zero, List.set_cons_succ]); refine ⟨by rw [List.length_map, List.length_map, len_rgI]; omega, ?_⟩
    rw [← List.map_append]
    exact go
theorem both_mid {g n : Nat} {L1 L2 : List Int} {m1 m2 : List (Int × Int)} {Q : SV → List SV → Prop} {E : Nat → D → List SV → Prop} (h1 : L1.length = n) (h2 : L2.length = n) (T1 : FarT L1 m1) (T2 : FarT L2 m2)
    (hq : ∀ B C, NormOf n (opO g L1 m1 L2 m2) B C → Q (.d (.tup [.lst (B.map D.int), .lst (C.map mkP)])) [.d (sgD g), .d (tabX L1 m1 []), .d (tabX L2 m2 [])]) :
    w_law_both_7 [some (.d (sgD g)), some (.d (tabX L1 m1 [])), some (.d (tabX L2 m2 [])), some (.d (.int n)), some (.d (.lst ((m1.map Prod.fst).map D.int))), none, none, none, none, none, none, none, none, none] (endsOf [false, false, false] [.d (sgD g), .d (tabX L1 m1 []), .d (tabX L2 m2 [])] Q) (errsOf [false, false, false] [.d (sgD g), .d (tabX L1 m1 []), .d (tabX L2 m2 [])] E) := by
  have R1 := T1.tab.rw_
  have R2 := T2.tab.rw_
  have nf1 := T1.tab.nf
  have pos := R1.pos
  have le := R1.le
  have f1 := T1.tab.few
  have f2 := T2.tab.few
  have cv := fun a => op_cov (m1 := m1) (m2 := m2) h1 h2 (by omega) g a
  have up : ∀ x, valF L1 m1 x ≤ valF L1 m1 (x + 1) := fun x => by have := nf1 x; unfold Fall at this; omega
  match g with
  | 0 =>
    show w_law_both_7 [some (.d (.str ">")), some (.d (tabX L1 m1 [])), some (.d (tabX L2 m2 [])), some (.d (.int n)), some (.d (.lst ((m1.map Prod.fst).map D.int))), none, none, none, none, none, none, none, none, none] _ _
    ((conv => whnf); try dsimp only [List.set_cons_zero, List.set_cons_succ]); refine Br.ttD (by decide +kernel) ?_
    ((conv => whnf); try dsimp only [List.set_cons_zero, List.set_cons_succ]); refine ⟨_, at1, ?_⟩
    ((conv => whnf); try dsimp only [List.set_cons_zero, List.set_cons_succ]); refine ⟨m2, n, rfl, R2.up, by omega, by omega, fun gs G => ?_⟩
    ((conv => whnf); try dsimp only [List.set_cons_zero, List.set_cons_succ])
    refine forL_ind (fun ds ρ => ∃ (as rs : List (Int × Int)) (sp : List Int) (x4 : SV) (x8 x9 : Option SV), gs = as ++ rs ∧ ds = rs.map mkP ∧ (sp.length : Int) ≤ m1.length + gsum as + (n + m1.length) * as.length ∧ (∀ m ∈ m1, m.1 ∈ sp) ∧ (∀ g ∈ as, ∀ a, g.1 ≤ valF L1 m1 a → valF L1 m1 a ≤ g.2 → a ∈ sp) ∧ (x4 = .lst (sp.map D.int) ∨ x4 = .d (.lst (sp.map D.int))) ∧
      ρ = [some (.d (.str ">")), some (.d (tabX L1 m1 [])), some (.d (tabX L2 m2 [])), some (.d (.int n)), some x4, none, none, none, x8, x9, none, none, none, none]) ?_ ?_ _ _ ⟨[], gs, m1.map Prod.fst, _, none, none, rfl, rfl, by rw [List.length_map]; unfold gsum; simp, fun m hm => List.mem_map_of_mem hm, fun _ z => (nomatch z), .inr rfl, rfl⟩
    · rintro ρ ⟨as, rs, sp, x4, x8, x9, e1, e2, lsp, c1, c2, hx, rfl⟩
      obtain rfl : rs = [] := by cases rs with
        | nil => rfl
        | cons _ _ => cases e2
      rw [List.append_nil] at e1
      subst e1
      have gf := G.few
      have gs6 := G.sum
      have b1 : 6 * (n : Int) * m2.length ≤ 72 * m2.length := Int.mul_le_mul_of_nonneg_right (by omega) (by omega)
      have b2 : ((n : Int) + m1.length) * gs.length ≤ 36 * gs.length := Int.mul_le_mul_of_nonneg_right (by omega) (by omega)
      exact both_tail (g := 0) h1 h2 T1 T2 hq sp (by omega) (fun a ha => by
        rcases cv a ha with ⟨m, hm, rfl⟩ | ⟨_, m, hm, e⟩ | ⟨q, _⟩
        · exact c1 m hm
        · obtain ⟨g, hg, a1, a2⟩ := G.cov m hm
          exact c2 g hg a (by omega) (by omega)
        · exact absurd rfl q) x4 hx x8 x9
    · rintro d ds ρ ⟨as, rs, sp, x4, x8, x9, e1, e2, lsp, c1, c2, hx, rfl⟩ ih
      cases rs with
      | nil => cases e2
      | cons r rs =>
        cases e2
        have rg : r ∈ gs := by rw [e1]; simp
        have rle := G.le r rg
        have gf := G.few
        have gs6 := G.sum
        have la : as.length < gs.length := by rw [e1]; simp
        have nng : ∀ zs : List (Int × Int), (∀ z ∈ zs, z.1 ≤ z.2) → 0 ≤ gsum zs := fun zs h => by
          induction zs with
          | nil => unfold gsum; simp
          | cons z zs ihz =>
            have := ihz fun y hy => h y (by simp [hy])
            have := h z (by simp)
            unfold gsum at this ⊢
            rw [List.map_cons, List.sum_cons]
            unfold gsum at *
            omega
        have g1 : gsum gs = gsum as + (r.2 - r.1) + gsum rs := by rw [e1]; unfold gsum; simp; omega
        have g0 := nng rs fun z hz => G.le z (by rw [e1]; simp [hz])
        have b1 : 6 * (n : Int) * m2.length ≤ 72 * m2.length := Int.mul_le_mul_of_nonneg_right (by omega) (by omega)
        have b2 : ((n : Int) + m1.length) * as.length ≤ 36 * as.length := Int.mul_le_mul_of_nonneg_right (by omega) (by omega)
        have b3 : 0 ≤ ((n : Int) + m1.length) * as.length := Int.mul_nonneg (by omega) (by omega)
        ((conv => whnf); try dsimp only [List.set_cons_zero, List.set_cons_succ]); refine ⟨rfl, ?_⟩
        refine both_turn R1 nf1 (f := r.1) (l := r.2) rle sp x4 hx (by omega) (by omega) _ _ fun sp' ls' sub new => ?_
        have ls2 : (sp'.length : Int) ≤ m1.length + gsum (as ++ [r]) + (n + m1.length) * ((as ++ [r]).length : Nat) := by
          rw [gsum_app, List.length_append, List.length_singleton, show ((as.length + 1 : Nat) : Int) = (as.length : Int) + 1 by omega, Int.mul_add]
          rw [h1] at ls'
          omega
        refine ⟨_, Fgt.refl _, ih _ ⟨as ++ [r], rs, sp', _, _, _, by rw [e1]; simp, rfl, ls2, fun m hm => sub _ (c1 m hm), fun g hg a a1 a2 => ?_, .inl rfl, rfl⟩⟩
        rcases List.mem_append.mp hg with h | h
        · exact sub _ (c2 g h a a1 a2)
        · rw [List.mem_singleton.mp h] at a1 a2
          exact new a a1 a2
  | g + 1 =>
    have low : ∀ sg : D, (sg = .str "+" ∨ sg = .str "-") → sgD (g + 1) = sg → w_law_both_7 [some (.d sg), some (.d (tabX L1 m1 [])), some (.d (tabX L2 m2 [])), some (.d (.int n)), some (.d (.lst ((m1.map Prod.fst).map D.int))), none, none, none, none, none, none, none, none, none] (endsOf [false, false, false] [.d sg, .d (tabX L1 m1 []), .d (tabX L2 m2 [])] Q) (errsOf [false, false, false] [.d sg, .d (tabX L1 m1 []), .d (tabX L2 m2 [])] E) := fun sg hs es => by
      have go : w_law_both_6 [some (.d sg), some (.d (tabX L1 m1 [])), some (.d (tabX L2 m2 [])), some (.d (.int n)), some (.lst ((m1.map Prod.fst ++ m2.map Prod.fst).map D.int)), none, none, none, none, none, none, none, none, none] (endsOf [false, false, false] [.d sg, .d (tabX L1 m1 []), .d (tabX L2 m2 [])] Q) (errsOf [false, false, false] [.d sg, .d (tabX L1 m1 []), .d (tabX L2 m2 [])] E) := by
        rw [← es]
        exact both_tail (g := g + 1) h1 h2 T1 T2 hq _ (by simp; omega) (fun a ha => by
          rw [List.mem_append, List.mem_map, List.mem_map]
          rcases cv a ha with ⟨m, hm, e⟩ | ⟨q, _⟩ | ⟨_, m, hm, e⟩
          · exact .inl ⟨m, hm, e⟩
          · exact absurd q (Nat.succ_ne_zero _)
          · exact .inr ⟨m, hm, e⟩) _ (.inl rfl) none none
      clear hq cv es
      rcases hs with rfl | rfl
      all_goals
        ((conv => whnf); try dsimp only [List.set_cons_zero, List.set_cons_succ]); refine Br.ffD (by decide +kernel) ?_
        ((conv => whnf); try dsimp only [List.set_cons_zero, List.set_cons_succ]); refine ⟨_, at1, ?_⟩
        ((conv => whnf); try dsimp only [List.set_cons_zero, List.set_cons_succ])
        refine compL_ind (fun ds acc ρ => ∃ (as rs : List (Int × Int)), m2 = as ++ rs ∧ ds = rs.map mkP ∧ acc = (as.map Prod.fst).map D.int ∧ ρ = [some (.d _), some (.d (tabX L1 m1 [])), some (.d (tabX L2 m2 [])), some (.d (.int n)), some (.d (.lst ((m1.map Prod.fst).map D.int))), none, none, none, none, none, none, none, none, none]) ?_ ?_ _ _ _ ⟨[], m2, rfl, rfl, rfl, rfl⟩
        · rintro acc ρ ⟨as, rs, q1, q2, rfl, rfl⟩
          obtain rfl : rs = [] := by cases rs with
            | nil => rfl
            | cons _ _ => cases q2
          rw [List.append_nil] at q1
          rw [← q1]
          ((conv => whnf); try dsimp only [List.set_cons_zero, List.set_cons_succ]); refine ⟨by simp only [List.length_map]; omega, ?_⟩
          rw [← List.map_append]
          exact go
        · rintro d ds acc ρ ⟨as, rs, q1, q2, rfl, rfl⟩ ih
          cases rs with
          | nil => cases q2
          | cons r rs =>
            cases q2
            have la : as.length < m2.length := by rw [q1]; simp
            ((conv => whnf); try dsimp only [List.set_cons_zero, List.set_cons_succ]); refine ⟨rfl, ?_⟩
            ((conv => whnf); try dsimp only [List.set_cons_zero, List.set_cons_succ]); refine Br.tt ?_
            ((conv => whnf); try dsimp only [List.set_cons_zero, List.set_cons_succ]); refine ⟨by rw [List.length_map, List.length_map]; omega, ?_⟩
            exact ih _ _ ⟨as ++ [r], rs, by rw [q1]; simp, rfl, by rw [List.map_append, List.map_append]; rfl, rfl⟩
    match g with
    | 0 => exact low _ (.inl rfl) rfl
    | g + 1 => exact low _ (.inr rfl) rfl
theorem law_law_both : LawOf N_law_both [false, false, false] c_law_both w_law_both := by
  rintro svs Q E - ⟨g, n, L1, L2, m1, m2, rfl, h1, h2, T1, T2, hq⟩
  have R1 := T1.tab.rw_
  have R2 := T2.tab.rw_
  have pos := R1.pos
  have le := R1.le
  have f1 := T1.tab.few
  have f2 := T2.tab.few
  have lenB : (((L1.map D.int).length : Nat) : Int) = n := by rw [List.length_map, h1]
  show w_law_both [some (.d (sgD g)), some (.d (tabX L1 m1 [])), some (.d (tabX L2 m2 [])), none, none, none, none, none, none, none, none, none, none, none] _ _
  ((conv => whnf); try dsimp only [List.set_cons_zero, List.set_cons_succ]); refine ⟨_, at0, ?_⟩
  ((conv => whnf); try dsimp only [List.set_cons_zero, List.set_cons_succ]); rw [lenB]
  refine ⟨_, at1, ?_⟩
  ((conv => whnf); try dsimp only [List.set_cons_zero, List.set_cons_succ])
  refine compL_ind (fun ds acc ρ => ∃ (as rs : List (Int × Int)), m1 = as ++ rs ∧ ds = rs.map mkP ∧ acc = (as.map Prod.fst).map D.int ∧ ρ = [some (.d (sgD g)), some (.d (tabX L1 m1 [])), some (.d (tabX L2 m2 [])), none, none, none, none, none, none, none, none, none, none, none]) ?_ ?_ _ _ _ ⟨[], m1, rfl, rfl, rfl, rfl⟩
  · rintro acc ρ ⟨as, rs, q1, q2, rfl, rfl⟩
    obtain rfl : rs = [] := by cases rs with
      | nil => rfl
      | cons _ _ => cases q2
    rw [List.append_nil] at q1
    rw [← q1]
    ((conv => whnf); try dsimp only [List.set_cons_zero, List.set_cons_succ]); refine ⟨few3 (by show 2 ≤ 1000; decide), ?_⟩
    ((conv => whnf); try dsimp only [List.set_cons_zero, List.set_cons_succ]); refine ⟨rfl, ?_⟩
    exact both_mid h1 h2 T1 T2 hq
  · rintro d ds acc ρ ⟨as, rs, q1, q2, rfl, rfl⟩ ih
    cases rs with
    | nil => cases q2
    | cons r rs =>
      cases q2
      have la : as.length < m1.length := by rw [q1]; simp
      ((conv => whnf); try dsimp only [List.set_cons_zero, List.set_cons_succ]); refine ⟨rfl, ?_⟩
      ((conv => whnf); try dsimp only [List.set_cons_zero, List.set_cons_succ]); refine Br.tt ?_
      ((conv => whnf); try dsimp only [List.set_cons_zero, List.set_cons_succ]); refine ⟨by rw [List.length_map, List.length_map]; omega, ?_⟩
      exact ih _ _ ⟨as ++ [r], rs, by rw [q1]; simp, rfl, by rw [List.map_append, List.map_append]; rfl, rfl⟩
theorem ok_law_both {Γ : Wd} (T : Tx Γ) : FnE Γ 3 "_law_both" [false, false, false] c_law_both :=
  fnE_of T.d_law_both sc_law_both (by intro _ _ _ _ _ _ _ _ us hl; exact match us, hl with | [_, _, _], _ => rfl) T.bn rfl (tr_law_both T) law_law_both


/-! rules of the program by their offsets and how many changes they have -/
structure FR (n c : Nat) (o : Int → Int) where
  b : List Int
  m : List (Int × Int)
  rw_ : Rw b m
  len : b.length = n
  nf : ∀ x, ¬ Fall b m x
  off : ∀ a, offF b m a = o a
  few : m.length ≤ c
abbrev FR.d {n c : Nat} {o : Int → Int} (r : FR n c o) : D := ruleD r.b r.m
theorem FR.val {n c : Nat} {o : Int → Int} (r : FR n c o) (a : Int) : valF r.b r.m a = a + o a := by unfold valF; rw [r.off]
theorem norm_self {b : List Int} {m : List (Int × Int)} (R : Rw b m) : NormOf b.length (offF b m) b (normF b m) :=
  ⟨rfl, norm_asc R.up, fun a v => mem_norm R.pos R.up a v, fun a h => by rw [← offF_norm R.pos R.up, offF_late h]⟩
/-- rules with the same offsets are the same -/
theorem same_rule {b b' : List Int} {m m' : List (Int × Int)} (R : Rw b m) (R' : Rw b' m') (hl : b.length = b'.length) (ho : ∀ a, offF b m a = offF b' m' a) : ruleD b m = ruleD b' m' := by
  obtain ⟨e1, e2⟩ := norm_of R hl ho (norm_self R')
  unfold ruleD ruleFs
  rw [e2, e1]
theorem sum_ite {F : Int} : ∀ {vs : List Int}, vs.Pairwise (· < ·) → (vs.map fun v => if F = v then 1 else 0).sum ≤ 1
  | [], _ => by simp
  | v :: vs, h => by
    obtain ⟨h1, h2⟩ := List.pairwise_cons.mp h
    rw [List.map_cons, List.sum_cons]
    by_cases c : F = v
    · have z : ∀ ws : List Int, (∀ w ∈ ws, v < w) → (ws.map fun w => if F = w then 1 else 0).sum = 0 := fun ws hw => by
        induction ws with
        | nil => rfl
        | cons w ws ih =>
          rw [List.map_cons, List.sum_cons, ih fun y hy => hw y (by simp [hy]), if_neg (by have := hw w (by simp); omega)]
      rw [z vs h1, if_pos c]
      exact Nat.le_refl _
    · rw [if_neg c]
      have := sum_ite (F := F) h2
      omega
theorem sum_cnt (f : Int → Int) {vs : List Int} (hv : vs.Pairwise (· < ·)) : ∀ N : List (Int × Int), (vs.map fun v => N.countP fun m => decide (f m.1 = v)).sum ≤ N.length
  | [] => by
    have z : ∀ ws : List Int, (ws.map fun v => ([] : List (Int × Int)).countP fun m => decide (f m.1 = v)).sum = 0 := fun ws => by
      induction ws with
      | nil => rfl
      | cons w ws ih => rw [List.map_cons, List.sum_cons, ih]; rfl
    rw [z]; exact Nat.le_refl _
  | m :: N => by
    have ih := sum_cnt f hv N
    have s := sum_ite (F := f m.1) hv
    have e : ∀ ws : List Int, (ws.map fun v => (m :: N).countP fun m => decide (f m.1 = v)).sum = (ws.map fun v => N.countP fun m => decide (f m.1 = v)).sum + (ws.map fun v => if f m.1 = v then 1 else 0).sum := fun ws => by
      induction ws with
      | nil => rfl
      | cons w ws ihw =>
        rw [List.map_cons, List.sum_cons, ihw, List.map_cons, List.sum_cons, List.map_cons, List.sum_cons, List.countP_cons]
        have : (if decide (f m.1 = w) = true then 1 else 0) = if f m.1 = w then 1 else 0 := by by_cases h : f m.1 = w <;> simp [h]
        rw [this]
        omega
    rw [e, List.length_cons]
    omega
/-- a list of all moments whose values are among some -/
theorem pre_ex {b : List Int} {m : List (Int × Int)} (R : Rw b m) (nf : ∀ x, ¬ Fall b m x) {vs : List Int} (hv : vs.Pairwise (· < ·)) : ∃ L : List Int, (∀ v ∈ vs, ∀ s, valF b m s = v → s ∈ L) ∧ L.length ≤ b.length * vs.length + (normF b m).length := by
  have up : ∀ x, valF b m x ≤ valF b m (x + 1) := fun x => by have := nf x; unfold Fall at this; omega
  have key : ∀ ws : List Int, ∃ L : List Int, (∀ v ∈ ws, ∀ s, valF b m s = v → s ∈ L) ∧ L.length ≤ b.length * ws.length + (ws.map fun v => (normF b m).countP fun z => decide (valF b m z.1 = v)).sum := fun ws => by
    induction ws with
    | nil => exact ⟨[], fun _ h => (nomatch h), Nat.zero_le _⟩
    | cons v ws ih =>
      obtain ⟨L, h1, h2⟩ := ih
      obtain ⟨lo, l1, l2⟩ := latS_ex R (v - 1)
      obtain ⟨hi, l3, l4⟩ := latS_ex R v
      have lh : lo ≤ hi := by
        by_cases c : lo ≤ hi
        · exact c
        · have := up_le' up (show hi + 1 ≤ lo by omega); omega
      have ct := count_le (f := v) R nf lh (by omega) (by omega) l3
      have inn : ∀ s, valF b m s = v ↔ lo < s ∧ s ≤ hi := fun s => by
        constructor
        · intro h
          constructor
          · by_cases c : s ≤ lo
            · have := up_le' up c; omega
            · omega
          · by_cases c : hi + 1 ≤ s
            · have := up_le' up c; omega
            · omega
        · rintro ⟨a1, a2⟩
          have := up_le' up (show lo + 1 ≤ s by omega)
          have := up_le' up a2
          omega
      have ec : (normF b m).countP (inIv lo hi) = (normF b m).countP fun z => decide (valF b m z.1 = v) := by
        congr 1
        funext z
        rw [Bool.eq_iff_iff, inIv_iff, decide_eq_true_eq, inn]
      rw [ec] at ct
      refine ⟨rgI (lo + 1) (hi + 1) ++ L, fun w hw s hs => ?_, ?_⟩
      · rw [List.mem_append]
        rcases List.mem_cons.mp hw with rfl | hw
        · have := (inn s).mp hs
          exact .inl (mem_rgI.mpr (by omega))
        · exact .inr (h1 w hw s hs)
      · rw [List.length_append, len_rgI, List.map_cons, List.sum_cons, List.length_cons, Nat.mul_add]
        omega
  obtain ⟨L, h1, h2⟩ := key vs
  have := sum_cnt (valF b m) hv (normF b m)
  exact ⟨L, h1, by omega⟩
theorem FR.ris {n c : Nat} {o : Int → Int} (r : FR n c o) : Ris r.b r.m := ris_of r.nf
/-- the rule of two in turn, by counts -/
theorem seq_callF {n c1 c2 : Nat} {o1 o2 : Int → Int} (A : FR n c1 o1) (B : FR n c2 o2) (w : c1 + (n * c2 + c1) ≤ 1900) {P : List Int → List (Int × Int) → Prop} (hq : ∀ r : FR n (c1 + (n * c2 + c1)) (fun a => o1 a + o2 (a + o1 a)), P r.b r.m) :
    ∃ (b1 b2 : List Int) (m1 m2 : List (Int × Int)) (L : List Int), [SV.d A.d, SV.d B.d] = [.d (ruleD b1 m1), .d (ruleD b2 m2)] ∧ Rw b1 m1 ∧ Ris b1 m1 ∧ Rw b2 m2 ∧ Ris b2 m2 ∧ b1.length = b2.length ∧
    (∀ m ∈ normF b2 m2, ∀ s, valF b1 m1 s = m.1 → s ∈ L) ∧ (normF b1 m1).length + L.length ≤ 1900 ∧
    ∀ (b : List Int) (ms : List (Int × Int)), Rw b ms → b.length = b1.length → ms.length ≤ (normF b1 m1).length + L.length → (∀ a, ¬ Fall b ms a) → (∀ a, valF b ms a = valF b2 m2 (valF b1 m1 a)) → P b ms := by
  have l1 := norm_len A.b A.m
  have l2 := norm_len B.b B.m
  have f1 := A.few
  have f2 := B.few
  obtain ⟨L, h1, h2⟩ := pre_ex A.rw_ A.nf (vs := (normF B.b B.m).map Prod.fst) (List.pairwise_map.mpr (norm_asc B.rw_.up))
  rw [List.length_map, A.len] at h2
  have nm : n * (normF B.b B.m).length ≤ n * c2 := Nat.mul_le_mul_left _ (by omega)
  refine ⟨A.b, B.b, A.m, B.m, L, rfl, A.rw_, A.ris, B.rw_, B.ris, by rw [A.len, B.len], fun z hz s hs => h1 z.1 (List.mem_map_of_mem hz) s hs, by omega, fun b ms R hl hm nf hv => ?_⟩
  have ho : ∀ a, offF b ms a = o1 a + o2 (a + o1 a) := fun a => by
    have := hv a
    rw [A.val, B.val] at this
    unfold valF at this
    omega
  exact hq ⟨b, ms, R, by rw [hl, A.len], nf, ho, by omega⟩

/-! the signs and functions of several, by counts -/
theorem both_exC {b1 b2 : List Int} {m1 m2 : List (Int × Int)} (R1 : Rw b1 m1) (R2 : Rw b2 m2) (l12 : b2.length = b1.length) (few : (normF b1 m1).length + (normF b2 m2).length ≤ 1900) (op : Int → Int → Int) :
    ∃ (b : List Int) (ms : List (Int × Int)), Rw b ms ∧ b.length = b1.length ∧ ms.length ≤ (normF b1 m1).length + (normF b2 m2).length ∧ ∀ a, offF b ms a = op (offF b1 m1 a) (offF b2 m2 a) := by
  have lup := len_ups ((normF b1 m1).map Prod.fst ++ (normF b2 m2).map Prod.fst)
  rw [List.length_append, List.length_map, List.length_map] at lup
  obtain ⟨b, lb, asc, hb⟩ := rep_ex R1.pos (up_ups ((normF b1 m1).map Prod.fst ++ (normF b2 m2).map Prod.fst)) (f := fun a => op (offF b1 m1 a) (offF b2 m2 a)) fun a ne => mem_ups.mpr (by
    by_cases c : offF b1 m1 a = offF b1 m1 (a - b1.length)
    · refine List.mem_append.mpr (.inr (norm_mem R2 fun z => ne ?_))
      rw [l12] at z
      show op (offF b1 m1 a) (offF b2 m2 a) = op (offF b1 m1 (a - b1.length)) (offF b2 m2 (a - b1.length))
      rw [← c, ← z]
    · exact List.mem_append.mpr (.inl (norm_mem R1 c)))
  have p := R1.pos
  have le := R1.le
  have lm : (pts (fun a => op (offF b1 m1 a) (offF b2 m2 a)) (ups ((normF b1 m1).map Prod.fst ++ (normF b2 m2).map Prod.fst))).length ≤ (normF b1 m1).length + (normF b2 m2).length := by unfold pts; rw [List.length_map]; omega
  exact ⟨b, _, ⟨by omega, by omega, asc, by omega⟩, lb, lm, hb⟩
theorem op_FR {n c1 c2 : Nat} {o1 o2 : Int → Int} (A : FR n c1 o1) (B : FR n c2 o2) (w : c1 + c2 ≤ 1900) (op : Int → Int → Int) (up : ∀ x y y' z z' : Int, x + y ≤ x + 1 + y' → x + z ≤ x + 1 + z' → x + op y z ≤ x + 1 + op y' z') :
    Nonempty (FR n (c1 + c2) fun a => op (o1 a) (o2 a)) := by
  have l1 := norm_len A.b A.m
  have l2 := norm_len B.b B.m
  have f1 := A.few
  have f2 := B.few
  obtain ⟨b, m, R, hl, hm, ho⟩ := both_exC A.rw_ B.rw_ (by rw [A.len, B.len]) (by omega) op
  refine ⟨b, m, R, by rw [hl, A.len], fun x h => ?_, fun a => by rw [ho, A.off, B.off], by omega⟩
  have a1 := A.nf x
  have a2 := B.nf x
  unfold Fall valF at h a1 a2
  rw [ho, ho] at h
  have := up x (offF A.b A.m x) (offF A.b A.m (x + 1)) (offF B.b B.m x) (offF B.b B.m (x + 1)) (by omega) (by omega)
  omega
theorem lat_callF {n c1 c2 : Nat} {o1 o2 : Int → Int} (A : FR n c1 o1) (B : FR n c2 o2) (w : c1 + c2 ≤ 1900) {P : List Int → List (Int × Int) → Prop} (hq : ∀ r : FR n (c1 + c2) (fun a => mx (o1 a) (o2 a)), P r.b r.m) :
    ∃ (b1 b2 b : List Int) (m1 m2 ms : List (Int × Int)), [SV.d A.d, SV.d B.d] = [.d (ruleD b1 m1), .d (ruleD b2 m2)] ∧ Rw b1 m1 ∧ Rw b2 m2 ∧ Rw b ms ∧ b1.length = b.length ∧ b2.length = b.length ∧ m1.length + m2.length ≤ 1900 ∧ (∀ a, ¬ Fall b ms a) ∧
    (∀ a, offF b ms a = mx (offF b1 m1 a) (offF b2 m2 a)) ∧ P b ms := by
  obtain ⟨r⟩ := op_FR A B w mx fun x y y' z z' h1 h2 => by
    show x + (if z > y then z else y) ≤ x + 1 + (if z' > y' then z' else y')
    split <;> split <;> omega
  have f1 := A.few
  have f2 := B.few
  exact ⟨A.b, B.b, r.b, A.m, B.m, r.m, rfl, A.rw_, B.rw_, r.rw_, by rw [A.len, r.len], by rw [B.len, r.len], by omega, r.nf, fun a => by rw [r.off, A.off, B.off], hq r⟩
theorem ear_callF {n c1 c2 : Nat} {o1 o2 : Int → Int} (A : FR n c1 o1) (B : FR n c2 o2) (w : c1 + c2 ≤ 1900) {P : List Int → List (Int × Int) → Prop} (hq : ∀ r : FR n (c1 + c2) (fun a => mn (o1 a) (o2 a)), P r.b r.m) :
    ∃ (b1 b2 b : List Int) (m1 m2 ms : List (Int × Int)), [SV.d A.d, SV.d B.d] = [.d (ruleD b1 m1), .d (ruleD b2 m2)] ∧ Rw b1 m1 ∧ Rw b2 m2 ∧ Rw b ms ∧ b1.length = b.length ∧ b2.length = b.length ∧ m1.length + m2.length ≤ 1900 ∧ (∀ a, ¬ Fall b ms a) ∧
    (∀ a, offF b ms a = mn (offF b1 m1 a) (offF b2 m2 a)) ∧ P b ms := by
  obtain ⟨r⟩ := op_FR A B w mn fun x y y' z z' h1 h2 => by
    show x + (if z < y then z else y) ≤ x + 1 + (if z' < y' then z' else y')
    split <;> split <;> omega
  have f1 := A.few
  have f2 := B.few
  exact ⟨A.b, B.b, r.b, A.m, B.m, r.m, rfl, A.rw_, B.rw_, r.rw_, by rw [A.len, r.len], by rw [B.len, r.len], by omega, r.nf, fun a => by rw [r.off, A.off, B.off], hq r⟩
/-- a rule with its count -/
structure FX (n : Nat) where
  c : Nat
  o : Int → Int
  r : FR n c o
abbrev FX.d {n : Nat} (x : FX n) : D := x.r.d
def chS (n : Nat) : Nat → List (FX n) → Prop
  | _, [] => True
  | c, x :: xs => c + (n * x.c + c) ≤ 1900 ∧ chS n (c + (n * x.c + c)) xs
def foS {n : Nat} : (Int → Int) → List (FX n) → (Int → Int)
  | o, [] => o
  | o, x :: xs => foS (fun a => o a + x.o (a + o a)) xs
def chJ (n : Nat) : Nat → List (FX n) → Prop
  | _, [] => True
  | c, x :: xs => c + x.c ≤ 1900 ∧ chJ n (c + x.c) xs
def foJ {n : Nat} (op : Int → Int → Int) : (Int → Int) → List (FX n) → (Int → Int)
  | o, [] => o
  | o, x :: xs => foJ op (fun a => op (o a) (x.o a)) xs
def c_in_turn : Con := fun svs Q _ => ∃ (n : Nat) (x : FX n) (os : List (FX n)), svs = [.d x.d, .d (.tup (os.map FX.d))] ∧ chS n x.c os ∧ ∀ c (r : FR n c (foS x.o os)), Q (.d r.d) svs
/-! in_turn: rule 0, others 1, other 2, whole 3 -/
theorem sc_in_turn : FnScope N_in_turn ["rule", "others"] (defScope st_in_turn) := ⟨rfl, rfl, rfl, by decide +kernel, rfl, by decide +kernel, by decide +kernel⟩
abbrev w_in_turn_1 : WS := wExp (wCall [false, false] c_check_weeks (wCons (wProp 0 [false] c_Rule_week (wVar 0)) (wCons (wProp 0 [false] c_Rule_week (wVar 2)) (wNil))))
abbrev w_in_turn_2 : WS := wAsg 3 (wOp2 0 [false, false] c_Rule_rshift (wVar 3) fun ρ Q E => (wVar 2) ρ (fun sy ρ2 => isIns 0 sy ρ2 ∧ Q sy ρ2) E)
abbrev w_in_turn_3 : WS := wRetF (wVar 3)
abbrev w_in_turn_4 : WS := wSeq (wFor (wIt (wVar 1)) (gNm 2) w_in_turn_2) w_in_turn_3
abbrev w_in_turn_5 : WS := wSeq (wAsg 3 (wVar 0)) w_in_turn_4
def w_in_turn : WS :=
  wSeq (wFor (wIt (wVar 1)) (gNm 2) w_in_turn_1) w_in_turn_5
theorem tr_in_turn {Γ : Wd} (T : Tx Γ) (X : Cx) (C : Ctx Γ X N_in_turn (defScope st_in_turn) (fun _ => true) 7) (P : Own X) (dc : DefCx X) : SSs Γ [] X (defBody st_in_turn) w_in_turn :=
  sss_cons (ss_for C P (is := [2]) (si_seq (se_var C 1)) (sg_name C 2) (sss_one (ss_exp (se_call C (FnE.mono (ok_check_weeks T) (by decide)) (sa_cons (se_prop C T.K_0 (PrE.mono (ok_Rule_week T) (by decide)) (se_var C 0)) (sa_cons (se_prop C T.K_0 (PrE.mono (ok_Rule_week T) (by decide)) (se_var C 2)) (sa_nil)))))))
  (sss_cons (ss_asg C 3 (se_var C 0))
  (sss_cons (ss_for C P (is := [2]) (si_seq (se_var C 1)) (sg_name C 2) (sss_one (ss_asg C 3 (se_binO C (OpE.mono (ok_Rule_rshift T) (by decide)) T.S_0 (se_var C 3) (se_var C 2)))))
  (sss_one (ss_retF (se_var C 3)))))

theorem law_in_turn : LawOf N_in_turn [false, false] c_in_turn w_in_turn := by
  rintro svs Q E - ⟨n, r, os, rfl, ch, hq⟩
  show w_in_turn [some (.d r.d), some (.d (.tup (os.map FX.d))), none, none] _ _
  ((conv => whnf); try dsimp only [List.set_cons_zero, List.set_cons_succ])
  refine forL_ind (fun ds ρ => ∃ (rs : List (FX n)) (x2 : Option SV), ds = rs.map FX.d ∧ ρ = [some (.d r.d), some (.d (.tup (os.map FX.d))), x2, none]) ?_ ?_ _ _ ⟨os, none, rfl, rfl⟩
  · rintro ρ ⟨rs, x2, e, rfl⟩
    ((conv => whnf); try dsimp only [List.set_cons_zero, List.set_cons_succ])
    refine forL_ind (fun ds ρ => ∃ (rs : List (FX n)) (c : FX n) (x2 : Option SV), ds = rs.map FX.d ∧ chS n c.c rs ∧ foS c.o rs = foS r.o os ∧ ρ = [some (.d r.d), some (.d (.tup (os.map FX.d))), x2, some (.d c.d)]) ?_ ?_ _ _ ⟨os, r, x2, rfl, ch, rfl, rfl⟩
    · rintro ρ ⟨rs, c, x2, e, hc, hf, rfl⟩
      obtain rfl : rs = [] := by cases rs with
        | nil => rfl
        | cons _ _ => cases e
      have hf' : c.o = foS r.o os := hf
      obtain ⟨cc, co, cr⟩ := c
      cases hf'
      ((conv => whnf); try dsimp only [List.set_cons_zero, List.set_cons_succ]); exact hq _ cr
    · rintro d ds ρ ⟨rs, c, x2, e, hc, hf, rfl⟩ ih
      cases rs with
      | nil => cases e
      | cons o rs =>
        cases e
        ((conv => whnf); try dsimp only [List.set_cons_zero, List.set_cons_succ]); refine ⟨rfl, rfl, ?_⟩
        ((conv => whnf); try dsimp only [List.set_cons_zero, List.set_cons_succ]); refine seq_callF c.r o.r hc.1 fun r' => ?_
        ((conv => whnf); try dsimp only [List.set_cons_zero, List.set_cons_succ]); exact ⟨_, Fgt.refl _, ih _ ⟨rs, ⟨_, _, r'⟩, _, rfl, hc.2, hf, rfl⟩⟩
  · rintro d ds ρ ⟨rs, x2, e, rfl⟩ ih
    cases rs with
    | nil => cases e
    | cons o rs =>
      cases e
      ((conv => whnf); try dsimp only [List.set_cons_zero, List.set_cons_succ]); refine ⟨rfl, ?_⟩
      ((conv => whnf); try dsimp only [List.set_cons_zero, List.set_cons_succ]); refine ⟨r.r.b, r.r.m, rfl, ?_⟩
      ((conv => whnf); try dsimp only [List.set_cons_zero, List.set_cons_succ]); refine ⟨rfl, ?_⟩
      ((conv => whnf); try dsimp only [List.set_cons_zero, List.set_cons_succ]); refine ⟨o.r.b, o.r.m, rfl, ?_⟩
      ((conv => whnf); try dsimp only [List.set_cons_zero, List.set_cons_succ]); rw [r.r.len, o.r.len]; refine ⟨_, rfl, ?_⟩
      ((conv => whnf); try dsimp only [List.set_cons_zero, List.set_cons_succ]); exact ⟨_, Fgt.refl _, ih _ ⟨rs, _, rfl, rfl⟩⟩
theorem ok_in_turn {Γ : Wd} (T : Tx Γ) : FnSE Γ 8 "in_turn" c_in_turn :=
  fnSE_of T.d_in_turn sc_in_turn (by intro _ _ _ _ _ _ _ _ _ us; cases us <;> rfl) T.bn (tr_in_turn T) law_in_turn

def c_later_of : Con := fun svs Q _ => ∃ (n : Nat) (x : FX n) (os : List (FX n)), svs = [.d x.d, .d (.tup (os.map FX.d))] ∧ chJ n x.c os ∧ ∀ c (r : FR n c (foJ mx x.o os)), Q (.d r.d) svs
/-! later_of: rule 0, others 1, other 2, whole 3 -/
theorem sc_later_of : FnScope N_later_of ["rule", "others"] (defScope st_later_of) := ⟨rfl, rfl, rfl, by decide +kernel, rfl, by decide +kernel, by decide +kernel⟩
abbrev w_later_of_1 : WS := wExp (wCall [false, false] c_check_weeks (wCons (wProp 0 [false] c_Rule_week (wVar 0)) (wCons (wProp 0 [false] c_Rule_week (wVar 2)) (wNil))))
abbrev w_later_of_2 : WS := wAsg 3 (wOp2 0 [false, false] c_Rule_or (wVar 3) fun ρ Q E => (wVar 2) ρ (fun sy ρ2 => isIns 0 sy ρ2 ∧ Q sy ρ2) E)
abbrev w_later_of_3 : WS := wRetF (wVar 3)
abbrev w_later_of_4 : WS := wSeq (wFor (wIt (wVar 1)) (gNm 2) w_later_of_2) w_later_of_3
abbrev w_later_of_5 : WS := wSeq (wAsg 3 (wVar 0)) w_later_of_4
def w_later_of : WS :=
  wSeq (wFor (wIt (wVar 1)) (gNm 2) w_later_of_1) w_later_of_5
theorem tr_later_of {Γ : Wd} (T : Tx Γ) (X : Cx) (C : Ctx Γ X N_later_of (defScope st_later_of) (fun _ => true) 6) (P : Own X) (dc : DefCx X) : SSs Γ [] X (defBody st_later_of) w_later_of :=
  sss_cons (ss_for C P (is := [2]) (si_seq (se_var C 1)) (sg_name C 2) (sss_one (ss_exp (se_call C (FnE.mono (ok_check_weeks T) (by decide)) (sa_cons (se_prop C T.K_0 (PrE.mono (ok_Rule_week T) (by decide)) (se_var C 0)) (sa_cons (se_prop C T.K_0 (PrE.mono (ok_Rule_week T) (by decide)) (se_var C 2)) (sa_nil)))))))
  (sss_cons (ss_asg C 3 (se_var C 0))
  (sss_cons (ss_for C P (is := [2]) (si_seq (se_var C 1)) (sg_name C 2) (sss_one (ss_asg C 3 (se_binO C (OpE.mono (ok_Rule_or T) (by decide)) T.S_0 (se_var C 3) (se_var C 2)))))
  (sss_one (ss_retF (se_var C 3)))))

theorem law_later_of : LawOf N_later_of [false, false] c_later_of w_later_of := by
  rintro svs Q E - ⟨n, r, os, rfl, ch, hq⟩
  show w_later_of [some (.d r.d), some (.d (.tup (os.map FX.d))), none, none] _ _
  ((conv => whnf); try dsimp only [List.set_cons_zero, List.set_cons_succ])
  refine forL_ind (fun ds ρ => ∃ (rs : List (FX n)) (x2 : Option SV), ds = rs.map FX.d ∧ ρ = [some (.d r.d), some (.d (.tup (os.map FX.d))), x2, none]) ?_ ?_ _ _ ⟨os, none, rfl, rfl⟩
  · rintro ρ ⟨rs, x2, e, rfl⟩
    ((conv => whnf); try dsimp only [List.set_cons_zero, List.set_cons_succ])
    refine forL_ind (fun ds ρ => ∃ (rs : List (FX n)) (c : FX n) (x2 : Option SV), ds = rs.map FX.d ∧ chJ n c.c rs ∧ foJ mx c.o rs = foJ mx r.o os ∧ ρ = [some (.d r.d), some (.d (.tup (os.map FX.d))), x2, some (.d c.d)]) ?_ ?_ _ _ ⟨os, r, x2, rfl, ch, rfl, rfl⟩
    · rintro ρ ⟨rs, c, x2, e, hc, hf, rfl⟩
      obtain rfl : rs = [] := by cases rs with
        | nil => rfl
        | cons _ _ => cases e
      have hf' : c.o = foJ mx r.o os := hf
      obtain ⟨cc, co, cr⟩ := c
      cases hf'
      ((conv => whnf); try dsimp only [List.set_cons_zero, List.set_cons_succ]); exact hq _ cr
    · rintro d ds ρ ⟨rs, c, x2, e, hc, hf, rfl⟩ ih
      cases rs with
      | nil => cases e
      | cons o rs =>
        cases e
        ((conv => whnf); try dsimp only [List.set_cons_zero, List.set_cons_succ]); refine ⟨rfl, rfl, ?_⟩
        ((conv => whnf); try dsimp only [List.set_cons_zero, List.set_cons_succ]); refine lat_callF c.r o.r hc.1 fun r' => ?_
        ((conv => whnf); try dsimp only [List.set_cons_zero, List.set_cons_succ]); exact ⟨_, Fgt.refl _, ih _ ⟨rs, ⟨_, _, r'⟩, _, rfl, hc.2, hf, rfl⟩⟩
  · rintro d ds ρ ⟨rs, x2, e, rfl⟩ ih
    cases rs with
    | nil => cases e
    | cons o rs =>
      cases e
      ((conv => whnf); try dsimp only [List.set_cons_zero, List.set_cons_succ]); refine ⟨rfl, ?_⟩
      ((conv => whnf); try dsimp only [List.set_cons_zero, List.set_cons_succ]); refine ⟨r.r.b, r.r.m, rfl, ?_⟩
      ((conv => whnf); try dsimp only [List.set_cons_zero, List.set_cons_succ]); refine ⟨rfl, ?_⟩
      ((conv => whnf); try dsimp only [List.set_cons_zero, List.set_cons_succ]); refine ⟨o.r.b, o.r.m, rfl, ?_⟩
      ((conv => whnf); try dsimp only [List.set_cons_zero, List.set_cons_succ]); rw [r.r.len, o.r.len]; refine ⟨_, rfl, ?_⟩
      ((conv => whnf); try dsimp only [List.set_cons_zero, List.set_cons_succ]); exact ⟨_, Fgt.refl _, ih _ ⟨rs, _, rfl, rfl⟩⟩
theorem ok_later_of {Γ : Wd} (T : Tx Γ) : FnSE Γ 7 "later_of" c_later_of :=
  fnSE_of T.d_later_of sc_later_of (by intro _ _ _ _ _ _ _ _ _ us; cases us <;> rfl) T.bn (tr_later_of T) law_later_of

def c_earlier_of : Con := fun svs Q _ => ∃ (n : Nat) (x : FX n) (os : List (FX n)), svs = [.d x.d, .d (.tup (os.map FX.d))] ∧ chJ n x.c os ∧ ∀ c (r : FR n c (foJ mn x.o os)), Q (.d r.d) svs
/-! earlier_of: rule 0, others 1, other 2, whole 3 -/
theorem sc_earlier_of : FnScope N_earlier_of ["rule", "others"] (defScope st_earlier_of) := ⟨rfl, rfl, rfl, by decide +kernel, rfl, by decide +kernel, by decide +kernel⟩
abbrev w_earlier_of_1 : WS := wExp (wCall [false, false] c_check_weeks (wCons (wProp 0 [false] c_Rule_week (wVar 0)) (wCons (wProp 0 [false] c_Rule_week (wVar 2)) (wNil))))
abbrev w_earlier_of_2 : WS := wAsg 3 (wOp2 0 [false, false] c_Rule_and (wVar 3) fun ρ Q E => (wVar 2) ρ (fun sy ρ2 => isIns 0 sy ρ2 ∧ Q sy ρ2) E)
abbrev w_earlier_of_3 : WS := wRetF (wVar 3)
abbrev w_earlier_of_4 : WS := wSeq (wFor (wIt (wVar 1)) (gNm 2) w_earlier_of_2) w_earlier_of_3
abbrev w_earlier_of_5 : WS := wSeq (wAsg 3 (wVar 0)) w_earlier_of_4
def w_earlier_of : WS :=
  wSeq (wFor (wIt (wVar 1)) (gNm 2) w_earlier_of_1) w_earlier_of_5
theorem tr_earlier_of {Γ : Wd} (T : Tx Γ) (X : Cx) (C : Ctx Γ X N_earlier_of (defScope st_earlier_of) (fun _ => true) 6) (P : Own X) (dc : DefCx X) : SSs Γ [] X (defBody st_earlier_of) w_earlier_of :=
  sss_cons (ss_for C P (is := [2]) (si_seq (se_var C 1)) (sg_name C 2) (sss_one (ss_exp (se_call C (FnE.mono (ok_check_weeks T) (by decide)) (sa_cons (se_prop C T.K_0 (PrE.mono (ok_Rule_week T) (by decide)) (se_var C 0)) (sa_cons (se_prop C T.K_0 (PrE.mono (ok_Rule_week T) (by decide)) (se_var C 2)) (sa_nil)))))))
  (sss_cons (ss_asg C 3 (se_var C 0))
  (sss_cons (ss_for C P (is := [2]) (si_seq (se_var C 1)) (sg_name C 2) (sss_one (ss_asg C 3 (se_binO C (OpE.mono (ok_Rule_and T) (by decide)) T.S_0 (se_var C 3) (se_var C 2)))))
  (sss_one (ss_retF (se_var C 3)))))

theorem law_earlier_of : LawOf N_earlier_of [false, false] c_earlier_of w_earlier_of := by
  rintro svs Q E - ⟨n, r, os, rfl, ch, hq⟩
  show w_earlier_of [some (.d r.d), some (.d (.tup (os.map FX.d))), none, none] _ _
  ((conv => whnf); try dsimp only [List.set_cons_zero, List.set_cons_succ])
  refine forL_ind (fun ds ρ => ∃ (rs : List (FX n)) (x2 : Option SV), ds = rs.map FX.d ∧ ρ = [some (.d r.d), some (.d (.tup (os.map FX.d))), x2, none]) ?_ ?_ _ _ ⟨os, none, rfl, rfl⟩
  · rintro ρ ⟨rs, x2, e, rfl⟩
    ((conv => whnf); try dsimp only [List.set_cons_zero, List.set_cons_succ])
    refine forL_ind (fun ds ρ => ∃ (rs : List (FX n)) (c : FX n) (x2 : Option SV), ds = rs.map FX.d ∧ chJ n c.c rs ∧ foJ mn c.o rs = foJ mn r.o os ∧ ρ = [some (.d r.d), some (.d (.tup (os.map FX.d))), x2, some (.d c.d)]) ?_ ?_ _ _ ⟨os, r, x2, rfl, ch, rfl, rfl⟩
    · rintro ρ ⟨rs, c, x2, e, hc, hf, rfl⟩
      obtain rfl : rs = [] := by cases rs with
        | nil => rfl
        | cons _ _ => cases e
      have hf' : c.o = foJ mn r.o os := hf
      obtain ⟨cc, co, cr⟩ := c
      cases hf'
      ((conv => whnf); try dsimp only [List.set_cons_zero, List.set_cons_succ]); exact hq _ cr
    · rintro d ds ρ ⟨rs, c, x2, e, hc, hf, rfl⟩ ih
      cases rs with
      | nil => cases e
      | cons o rs =>
        cases e
        ((conv => whnf); try dsimp only [List.set_cons_zero, List.set_cons_succ]); refine ⟨rfl, rfl, ?_⟩
        ((conv => whnf); try dsimp only [List.set_cons_zero, List.set_cons_succ]); refine ear_callF c.r o.r hc.1 fun r' => ?_
        ((conv => whnf); try dsimp only [List.set_cons_zero, List.set_cons_succ]); exact ⟨_, Fgt.refl _, ih _ ⟨rs, ⟨_, _, r'⟩, _, rfl, hc.2, hf, rfl⟩⟩
  · rintro d ds ρ ⟨rs, x2, e, rfl⟩ ih
    cases rs with
    | nil => cases e
    | cons o rs =>
      cases e
      ((conv => whnf); try dsimp only [List.set_cons_zero, List.set_cons_succ]); refine ⟨rfl, ?_⟩
      ((conv => whnf); try dsimp only [List.set_cons_zero, List.set_cons_succ]); refine ⟨r.r.b, r.r.m, rfl, ?_⟩
      ((conv => whnf); try dsimp only [List.set_cons_zero, List.set_cons_succ]); refine ⟨rfl, ?_⟩
      ((conv => whnf); try dsimp only [List.set_cons_zero, List.set_cons_succ]); refine ⟨o.r.b, o.r.m, rfl, ?_⟩
      ((conv => whnf); try dsimp only [List.set_cons_zero, List.set_cons_succ]); rw [r.r.len, o.r.len]; refine ⟨_, rfl, ?_⟩
      ((conv => whnf); try dsimp only [List.set_cons_zero, List.set_cons_succ]); exact ⟨_, Fgt.refl _, ih _ ⟨rs, _, rfl, rfl⟩⟩
theorem ok_earlier_of {Γ : Wd} (T : Tx Γ) : FnSE Γ 7 "earlier_of" c_earlier_of :=
  fnSE_of T.d_earlier_of sc_earlier_of (by intro _ _ _ _ _ _ _ _ _ us; cases us <;> rfl) T.bn (tr_earlier_of T) law_earlier_of

theorem stillF {n : Nat} (n1 : 1 ≤ n) (n12 : n ≤ 12) : ∃ r : FR n 0 (fun _ => 0), r.b = dlyB n 0 ∧ r.m = [] :=
  ⟨⟨dlyB n 0, [], dly_rw (by omega) (by omega), by have := dly_len (n := (n : Int)) (k := 0) (by omega); omega, dly_nf (by omega), fun a => by show wkF (dlyB (n : Int) 0) a = 0; rw [dly_wk (by omega)], Nat.le_refl _⟩, rfl, rfl⟩
def c_Rule_mul : Con := fun svs Q _ => ∃ (n : Nat) (x : FX n) (os : List (FX n)), svs = [.d x.d, .d (.int (os.length + 1 : Nat))] ∧ 1 ≤ n ∧ n ≤ 12 ∧ x.c ≤ 100 ∧ os.length ≤ 10 ∧ (∀ y ∈ os, y = x) ∧ chS n x.c os ∧ ∀ c (r : FR n c (foS x.o os)), Q (.d r.d) svs
/-! Rule.__mul__: self 0, number 1, found 2, turn 3, offset 4 -/
theorem sc_Rule_mul : FnScope N_Rule_mul ["self", "number"] (defScope st_Rule_mul) := ⟨rfl, rfl, rfl, by decide +kernel, rfl, by decide +kernel, by decide +kernel⟩
abbrev w_Rule_mul_1 : WS := wAsg 2 (wOp2 0 [false, false] c_Rule_rshift (wVar 2) fun ρ Q E => (wVar 0) ρ (fun sy ρ2 => isIns 0 sy ρ2 ∧ Q sy ρ2) E)
abbrev w_Rule_mul_2 : WS := wRetF (wVar 2)
abbrev w_Rule_mul_3 : WS := wSeq (wFor (wRng1 (wCons (wVar 1) (wNil))) (gNm 3) w_Rule_mul_1) w_Rule_mul_2
abbrev w_Rule_mul_4 : WS := wSeq (wAsg 2 (wMake 0 [false, false] c_Rule_init (wCons (wLc (wIt (wFld 0 0 (wVar 0))) (gNm 4) (wYes) (wC (.int 0)) [4]) (wCons (wLst (wNil)) (wNil))))) w_Rule_mul_3
def w_Rule_mul : WS :=
  wSeq (wIf (wTst (w2 kLt (wVar 1) (wC (.int 0)))) (wBad) (wNext)) w_Rule_mul_4
theorem tr_Rule_mul {Γ : Wd} (T : Tx Γ) (X : Cx) (C : Ctx Γ X N_Rule_mul (defScope st_Rule_mul) (fun _ => true) 7) (P : Own X) (dc : DefCx X) : SSs Γ [] X (defBody st_Rule_mul) w_Rule_mul :=
  sss_cons (ss_if (st_lt  (se_var C 1) (se_int)) (sss_one (ss_bad)) (sss_nil))
  (sss_cons (ss_asg C 2 (se_make C (MkE.mono (ok_Rule_init T) (by decide)) (sa_cons (se_lc C (own := [("offset", 4)]) (is := [4]) (by decide +kernel) (by decide +kernel) (si_seq (se_fld C T.K_0 (by rw [T.F_0]; rfl) (se_var C 0))) (fun _ hX => sg_name hX.1 4) (fun _ hX => sts_nil) (fun _ hX => se_int)) (sa_cons (se_lst (sa_nil)) (sa_nil)))))
  (sss_cons (ss_for C P (is := [3]) (si_range1 C (sa_cons (se_var C 1) (sa_nil))) (sg_name C 3) (sss_one (ss_asg C 2 (se_binO C (OpE.mono (ok_Rule_rshift T) (by decide)) T.S_0 (se_var C 2) (se_var C 0)))))
  (sss_one (ss_retF (se_var C 2)))))

theorem law_Rule_mul : LawOf N_Rule_mul [false, false] c_Rule_mul w_Rule_mul := by
  rintro svs Q E - ⟨n, r, os, rfl, n1, n12, c100, lo, same, ch, hq⟩
  have rl := r.r.len
  obtain ⟨k, hk⟩ : ∃ k : Nat, os.length + 1 = k := ⟨_, rfl⟩
  rw [hk] at hq
  rw [hk]
  show w_Rule_mul [some (.d r.d), some (.d (.int k)), none, none, none] _ _
  ((conv => whnf); try dsimp only [List.set_cons_zero, List.set_cons_succ]); refine Br.of (fun c => absurd (show (k : Int) < 0 from c) (by omega)) (fun _ => ?_)
  ((conv => whnf); try dsimp only [List.set_cons_zero, List.set_cons_succ]); refine ⟨rfl, ?_⟩
  ((conv => whnf); try dsimp only [List.set_cons_zero, List.set_cons_succ])
  refine compL_ind (fun ds acc ρ => ∃ (as rs : List Int), r.r.b = as ++ rs ∧ ds = rs.map D.int ∧ acc = (List.replicate as.length (0 : Int)).map D.int ∧ ρ = [some (.d r.d), some (.d (.int k)), none, none, none]) ?_ ?_ _ _ _ ⟨[], r.r.b, rfl, rfl, rfl, rfl⟩
  · rintro acc ρ ⟨as, rs, e1, e2, rfl, rfl⟩
    obtain rfl : rs = [] := by cases rs with
      | nil => rfl
      | cons _ _ => cases e2
    rw [List.append_nil] at e1
    rw [← e1, rl, show List.replicate n (0 : Int) = dlyB n 0 from rfl]
    obtain ⟨st, s1, s2⟩ := stillF n1 n12
    ((conv => whnf); try dsimp only [List.set_cons_zero, List.set_cons_succ]); refine ⟨few3 (by show 0 ≤ 1000; decide), ?_⟩
    ((conv => whnf); try dsimp only [List.set_cons_zero, List.set_cons_succ]); refine ⟨dlyB n 0, [], rfl, dly_rw (by omega) (by omega), dly_nf (by omega), rfl, _, _, rfl, ?_⟩
    ((conv => whnf); try dsimp only [List.set_cons_zero, List.set_cons_succ]); refine ⟨by omega, by omega, ?_⟩
    have sd : st.d = ruleD (dlyB n 0) [] := by unfold FR.d; rw [s1, s2]
    refine forL_ind (fun ds ρ => ∃ (j i : Nat) (d0 : D) (x3 : Option SV), ds = (List.range' j i).map (fun (i : Nat) => D.int (0 + (i : Int))) ∧ ((d0 = st.d ∧ i = k) ∨ ∃ (x : FX n) (rs : List (FX n)), d0 = x.d ∧ i = rs.length ∧ (∀ y ∈ rs, y = r) ∧ chS n x.c rs ∧ foS x.o rs = foS r.o os) ∧ ρ = [some (.d r.d), some (.d (.int k)), some (.d d0), x3, none]) ?_ ?_ _ _ ⟨0, k, ruleD (dlyB n 0) [], none, by unfold rngD; rw [List.range_eq_range']; rfl, .inl ⟨sd.symm, rfl⟩, rfl⟩
    · rintro ρ ⟨j, i, d0, x3, e, h, rfl⟩
      obtain rfl : i = 0 := by cases i with
        | zero => rfl
        | succ i => rw [List.range'_succ] at e; cases e
      rcases h with ⟨_, h⟩ | ⟨x, rs, rfl, hl, _, _, hf⟩
      · omega
      · obtain rfl : rs = [] := List.length_eq_zero_iff.mp hl.symm
        have hf' : x.o = foS r.o os := hf
        obtain ⟨cc, co, cr⟩ := x
        cases hf'
        ((conv => whnf); try dsimp only [List.set_cons_zero, List.set_cons_succ]); exact hq _ cr
    · rintro d ds ρ ⟨j, i, d0, x3, e, h, rfl⟩ ih
      cases i with
      | zero => cases e
      | succ i =>
        rw [List.range'_succ, List.map_cons] at e
        cases e
        rcases h with ⟨rfl, h⟩ | ⟨x, rs, rfl, hl, sm, hc, hf⟩
        · have nc : n * r.c ≤ 12 * 100 := Nat.mul_le_mul n12 c100
          ((conv => whnf); try dsimp only [List.set_cons_zero, List.set_cons_succ]); refine ⟨rfl, rfl, ?_⟩
          ((conv => whnf); try dsimp only [List.set_cons_zero, List.set_cons_succ]); refine seq_callF st r.r (by omega) fun r' => ?_
          have ed : ruleD r'.b r'.m = r.d := same_rule r'.rw_ r.r.rw_ (by rw [r'.len, r.r.len]) fun a => by rw [r'.off, r.r.off]; show 0 + r.o (a + 0) = r.o a; rw [Int.zero_add, Int.add_zero]
          rw [ed]
          ((conv => whnf); try dsimp only [List.set_cons_zero, List.set_cons_succ]); exact ⟨_, Fgt.refl _, ih _ ⟨j + 1, i, r.d, _, rfl, .inr ⟨r, os, rfl, by omega, same, ch, rfl⟩, rfl⟩⟩
        · cases rs with
          | nil => cases hl
          | cons y rs =>
            obtain rfl : y = r := sm y (by simp)
            ((conv => whnf); try dsimp only [List.set_cons_zero, List.set_cons_succ]); refine ⟨rfl, rfl, ?_⟩
            ((conv => whnf); try dsimp only [List.set_cons_zero, List.set_cons_succ]); refine seq_callF x.r y.r hc.1 fun r' => ?_
            ((conv => whnf); try dsimp only [List.set_cons_zero, List.set_cons_succ]); exact ⟨_, Fgt.refl _, ih _ ⟨j + 1, i, r'.d, _, rfl, .inr ⟨⟨_, _, r'⟩, rs, rfl, by simpa using hl, fun z hz => sm z (by simp [hz]), hc.2, hf⟩, rfl⟩⟩
  · rintro d ds acc ρ ⟨as, rs, e1, e2, rfl, rfl⟩ ih
    cases rs with
    | nil => cases e2
    | cons x rs =>
      cases e2
      have le := r.r.rw_.le
      have la : as.length < r.r.b.length := by rw [e1]; simp
      ((conv => whnf); try dsimp only [List.set_cons_zero, List.set_cons_succ]); refine Br.tt ?_
      ((conv => whnf); try dsimp only [List.set_cons_zero, List.set_cons_succ]); refine ⟨by simp; omega, ?_⟩
      exact ih _ _ ⟨as ++ [x], rs, by rw [e1]; simp, rfl, by rw [List.length_append, show [x].length = 1 from rfl, List.replicate_succ', List.map_append]; rfl, rfl⟩
theorem ok_Rule_mul {Γ : Wd} (T : Tx Γ) : OpE Γ 8 0 "__mul__" [false, false] c_Rule_mul :=
  opE_of T.d_Rule_mul sc_Rule_mul (by intro _ _ _ _ _ _ _ _ us hl; exact match us, hl with | [_, _], _ => rfl) T.bn rfl (tr_Rule_mul T) law_Rule_mul

def c_Rule_rmul : Con := c_Rule_mul
/-! Rule.__rmul__: self 0, number 1 -/
theorem sc_Rule_rmul : FnScope N_Rule_rmul ["self", "number"] (defScope st_Rule_rmul) := ⟨rfl, rfl, rfl, by decide +kernel, rfl, by decide +kernel, by decide +kernel⟩
def w_Rule_rmul : WS :=
  wRetF (wOp2 0 [false, false] c_Rule_mul (wVar 0) fun ρ Q E => (wVar 1) ρ (fun sy ρ2 => isIntS sy ∧ Q sy ρ2) E)
theorem tr_Rule_rmul {Γ : Wd} (T : Tx Γ) (X : Cx) (C : Ctx Γ X N_Rule_rmul (defScope st_Rule_rmul) (fun _ => true) 8) (P : Own X) (dc : DefCx X) : SSs Γ [] X (defBody st_Rule_rmul) w_Rule_rmul :=
  sss_one (ss_retF (se_mulI C (OpE.mono (ok_Rule_mul T) (by decide)) T.S_0 T.MR_0 (se_var C 0) (se_var C 1)))

theorem law_Rule_rmul : LawOf N_Rule_rmul [false, false] c_Rule_rmul w_Rule_rmul := by
  rintro svs Q E - ⟨n, r, os, rfl, n1, n12, c100, lo, same, ch, hq⟩
  ((conv => whnf); try dsimp only [List.set_cons_zero, List.set_cons_succ]); refine ⟨⟨_, rfl⟩, rfl, ?_⟩
  ((conv => whnf); try dsimp only [List.set_cons_zero, List.set_cons_succ]); refine ⟨n, r, os, rfl, n1, n12, c100, lo, same, ch, fun c x => ?_⟩
  ((conv => whnf); try dsimp only [List.set_cons_zero, List.set_cons_succ]); exact hq c x
theorem ok_Rule_rmul {Γ : Wd} (T : Tx Γ) : OpE Γ 9 0 "__rmul__" [false, false] c_Rule_rmul :=
  opE_of T.d_Rule_rmul sc_Rule_rmul (by intro _ _ _ _ _ _ _ _ us hl; exact match us, hl with | [_, _], _ => rfl) T.bn rfl (tr_Rule_rmul T) law_Rule_rmul

def c_law_made : Con := fun svs Q _ => ∃ (g n : Nat) (L1 L2 : List Int) (m1 m2 : List (Int × Int)), svs = [.d (sgD g), .d (ruleD L1 m1), .d (ruleD L2 m2)] ∧ L1.length = n ∧ L2.length = n ∧ FarT L1 m1 ∧ FarT L2 m2 ∧
  ∀ rs : List (FX n), rs.length ≤ 3 → (∀ r ∈ rs, ∀ a, r.o a = opO g L1 m1 L2 m2 a) → Q (.d (.lst (rs.map FX.d))) svs
/-! _law_made: sign 0, left 1, right 2 -/
theorem sc_law_made : FnScope N_law_made ["sign", "left", "right"] (defScope st_law_made) := ⟨rfl, rfl, rfl, by decide +kernel, rfl, by decide +kernel, by decide +kernel⟩
abbrev w_law_made_1 : WS := wRetF (wLst (wCons (wOp2 0 [false, false] c_Rule_rshift (wVar 1) fun ρ Q E => (wVar 2) ρ (fun sy ρ2 => isIns 0 sy ρ2 ∧ Q sy ρ2) E) (wCons (wCallS c_in_turn (wCons (wVar 1) (wCons (wVar 2) (wNil)))) (wNil))))
abbrev w_law_made_2 : WS := wSeq (wIf (wTst (w2 kEq (wVar 0) (wC (.str "-")))) (wRetF (wLst (wCons (wOp2 0 [false, false] c_Rule_and (wVar 1) fun ρ Q E => (wVar 2) ρ (fun sy ρ2 => isIns 0 sy ρ2 ∧ Q sy ρ2) E) (wCons (wCallS c_earlier_of (wCons (wVar 1) (wCons (wVar 2) (wNil)))) (wCons (wCallS c_earlier_of (wCons (wVar 2) (wCons (wVar 2) (wCons (wVar 1) (wNil))))) (wNil)))))) (wNext)) w_law_made_1
def w_law_made : WS :=
  wSeq (wIf (wTst (w2 kEq (wVar 0) (wC (.str "+")))) (wRetF (wLst (wCons (wOp2 0 [false, false] c_Rule_or (wVar 1) fun ρ Q E => (wVar 2) ρ (fun sy ρ2 => isIns 0 sy ρ2 ∧ Q sy ρ2) E) (wCons (wCallS c_later_of (wCons (wVar 1) (wCons (wVar 2) (wNil)))) (wCons (wCallS c_later_of (wCons (wVar 2) (wCons (wVar 1) (wCons (wVar 2) (wNil))))) (wNil)))))) (wNext)) w_law_made_2
theorem tr_law_made {Γ : Wd} (T : Tx Γ) (X : Cx) (C : Ctx Γ X N_law_made (defScope st_law_made) (fun _ => true) 8) (P : Own X) (dc : DefCx X) : SSs Γ [] X (defBody st_law_made) w_law_made :=
  sss_cons (ss_if (st_eq C (se_var C 0) (se_str)) (sss_one (ss_retF (se_lst (sa_cons (se_binO C (OpE.mono (ok_Rule_or T) (by decide)) T.S_0 (se_var C 1) (se_var C 2)) (sa_cons (se_callS C (FnSE.mono (ok_later_of T) (by decide)) (sa_cons (se_var C 1) (sa_cons (se_var C 2) (sa_nil)))) (sa_cons (se_callS C (FnSE.mono (ok_later_of T) (by decide)) (sa_cons (se_var C 2) (sa_cons (se_var C 1) (sa_cons (se_var C 2) (sa_nil))))) (sa_nil))))))) (sss_nil))
  (sss_cons (ss_if (st_eq C (se_var C 0) (se_str)) (sss_one (ss_retF (se_lst (sa_cons (se_binO C (OpE.mono (ok_Rule_and T) (by decide)) T.S_0 (se_var C 1) (se_var C 2)) (sa_cons (se_callS C (FnSE.mono (ok_earlier_of T) (by decide)) (sa_cons (se_var C 1) (sa_cons (se_var C 2) (sa_nil)))) (sa_cons (se_callS C (FnSE.mono (ok_earlier_of T) (by decide)) (sa_cons (se_var C 2) (sa_cons (se_var C 2) (sa_cons (se_var C 1) (sa_nil))))) (sa_nil))))))) (sss_nil))
  (sss_one (ss_retF (se_lst (sa_cons (se_binO C (OpE.mono (ok_Rule_rshift T) (by decide)) T.S_0 (se_var C 1) (se_var C 2)) (sa_cons (se_callS C (FnSE.mono (ok_in_turn T) (by decide)) (sa_cons (se_var C 1) (sa_cons (se_var C 2) (sa_nil)))) (sa_nil)))))))

theorem law_law_made : LawOf N_law_made [false, false, false] c_law_made w_law_made := by
  rintro svs Q E - ⟨g, n, L1, L2, m1, m2, rfl, h1, h2, T1, T2, hq⟩
  have le := T1.tab.rw_.le
  have pos := T1.tab.rw_.pos
  obtain ⟨A, eA⟩ : ∃ A : FR n 24 (offF L1 m1), A.d = ruleD L1 m1 := ⟨⟨L1, m1, T1.tab.rw_, h1, T1.tab.nf, fun _ => rfl, T1.tab.few⟩, rfl⟩
  obtain ⟨B, eB⟩ : ∃ B : FR n 24 (offF L2 m2), B.d = ruleD L2 m2 := ⟨⟨L2, m2, T2.tab.rw_, h2, T2.tab.nf, fun _ => rfl, T2.tab.few⟩, rfl⟩
  have n24 : n * 24 ≤ 12 * 24 := Nat.mul_le_mul_right _ (by omega)
  rw [← eA, ← eB] at hq ⊢
  match g with
  | 0 =>
    show w_law_made [some (.d (.str ">")), some (.d A.d), some (.d B.d)] _ _
    ((conv => whnf); try dsimp only [List.set_cons_zero, List.set_cons_succ]); refine Br.ffD (by decide +kernel) ?_
    ((conv => whnf); try dsimp only [List.set_cons_zero, List.set_cons_succ]); refine Br.ffD (by decide +kernel) ?_
    ((conv => whnf); try dsimp only [List.set_cons_zero, List.set_cons_succ]); refine ⟨rfl, rfl, ?_⟩
    ((conv => whnf); try dsimp only [List.set_cons_zero, List.set_cons_succ]); refine seq_callF A B (by omega) fun r1 => ?_
    ((conv => whnf); try dsimp only [List.set_cons_zero, List.set_cons_succ]); refine ⟨by show 1 ≤ 1000; decide, n, ⟨_, _, A⟩, [⟨_, _, B⟩], rfl, ⟨by show 24 + (n * 24 + 24) ≤ 1900; omega, trivial⟩, fun c r2 => ?_⟩
    ((conv => whnf); try dsimp only [List.set_cons_zero, List.set_cons_succ]); refine ⟨few3 (by show 2 ≤ 1000; decide), ?_⟩
    have fin := hq [⟨_, _, r1⟩, ⟨_, _, r2⟩] (by show 2 ≤ 3; decide) fun r hr a => by
      simp only [List.mem_cons, List.not_mem_nil, or_false] at hr
      rcases hr with rfl | rfl <;> rfl
    ((conv => whnf); try dsimp only [List.set_cons_zero, List.set_cons_succ]); exact fin
  | 1 =>
    show w_law_made [some (.d (.str "+")), some (.d A.d), some (.d B.d)] _ _
    ((conv => whnf); try dsimp only [List.set_cons_zero, List.set_cons_succ]); refine Br.ttD (by decide +kernel) ?_
    ((conv => whnf); try dsimp only [List.set_cons_zero, List.set_cons_succ]); refine ⟨rfl, rfl, ?_⟩
    ((conv => whnf); try dsimp only [List.set_cons_zero, List.set_cons_succ]); refine lat_callF A B (by omega) fun r1 => ?_
    ((conv => whnf); try dsimp only [List.set_cons_zero, List.set_cons_succ]); refine ⟨by show 1 ≤ 1000; decide, n, ⟨_, _, A⟩, [⟨_, _, B⟩], rfl, ⟨by show 24 + 24 ≤ 1900; omega, trivial⟩, fun c r2 => ?_⟩
    ((conv => whnf); try dsimp only [List.set_cons_zero, List.set_cons_succ]); refine ⟨by show 2 ≤ 1000; decide, n, ⟨_, _, B⟩, [⟨_, _, A⟩, ⟨_, _, B⟩], rfl, ⟨by show 24 + 24 ≤ 1900; omega, by show 24 + 24 + 24 ≤ 1900; omega, trivial⟩, fun c r3 => ?_⟩
    ((conv => whnf); try dsimp only [List.set_cons_zero, List.set_cons_succ]); refine ⟨few3 (by show 3 ≤ 1000; decide), ?_⟩
    have fin := hq [⟨_, _, r1⟩, ⟨_, _, r2⟩, ⟨_, _, r3⟩] (by show 3 ≤ 3; decide) fun r hr a => by
      simp only [List.mem_cons, List.not_mem_nil, or_false] at hr
      rcases hr with rfl | rfl | rfl
      · rfl
      · rfl
      · show mx (mx (offF L2 m2 a) (offF L1 m1 a)) (offF L2 m2 a) = mx (offF L1 m1 a) (offF L2 m2 a)
        generalize offF L1 m1 a = x
        generalize offF L2 m2 a = y
        show (if y > (if x > y then x else y) then y else (if x > y then x else y)) = if y > x then y else x
        (repeat' split) <;> omega
    ((conv => whnf); try dsimp only [List.set_cons_zero, List.set_cons_succ]); exact fin
  | g + 2 =>
    show w_law_made [some (.d (.str "-")), some (.d A.d), some (.d B.d)] _ _
    ((conv => whnf); try dsimp only [List.set_cons_zero, List.set_cons_succ]); refine Br.ffD (by decide +kernel) ?_
    ((conv => whnf); try dsimp only [List.set_cons_zero, List.set_cons_succ]); refine Br.ttD (by decide +kernel) ?_
    ((conv => whnf); try dsimp only [List.set_cons_zero, List.set_cons_succ]); refine ⟨rfl, rfl, ?_⟩
    ((conv => whnf); try dsimp only [List.set_cons_zero, List.set_cons_succ]); refine ear_callF A B (by omega) fun r1 => ?_
    ((conv => whnf); try dsimp only [List.set_cons_zero, List.set_cons_succ]); refine ⟨by show 1 ≤ 1000; decide, n, ⟨_, _, A⟩, [⟨_, _, B⟩], rfl, ⟨by show 24 + 24 ≤ 1900; omega, trivial⟩, fun c r2 => ?_⟩
    ((conv => whnf); try dsimp only [List.set_cons_zero, List.set_cons_succ]); refine ⟨by show 2 ≤ 1000; decide, n, ⟨_, _, B⟩, [⟨_, _, B⟩, ⟨_, _, A⟩], rfl, ⟨by show 24 + 24 ≤ 1900; omega, by show 24 + 24 + 24 ≤ 1900; omega, trivial⟩, fun c r3 => ?_⟩
    ((conv => whnf); try dsimp only [List.set_cons_zero, List.set_cons_succ]); refine ⟨few3 (by show 3 ≤ 1000; decide), ?_⟩
    have fin := hq [⟨_, _, r1⟩, ⟨_, _, r2⟩, ⟨_, _, r3⟩] (by show 3 ≤ 3; decide) fun r hr a => by
      simp only [List.mem_cons, List.not_mem_nil, or_false] at hr
      rcases hr with rfl | rfl | rfl
      · rfl
      · rfl
      · show mn (mn (offF L2 m2 a) (offF L2 m2 a)) (offF L1 m1 a) = mn (offF L1 m1 a) (offF L2 m2 a)
        generalize offF L1 m1 a = x
        generalize offF L2 m2 a = y
        show (if x < (if y < y then y else y) then x else (if y < y then y else y)) = if y < x then y else x
        (repeat' split) <;> omega
    ((conv => whnf); try dsimp only [List.set_cons_zero, List.set_cons_succ]); exact fin
theorem ok_law_made {Γ : Wd} (T : Tx Γ) : FnE Γ 9 "_law_made" [false, false, false] c_law_made :=
  fnE_of T.d_law_made sc_law_made (by intro _ _ _ _ _ _ _ _ us hl; exact match us, hl with | [_, _, _], _ => rfl) T.bn rfl (tr_law_made T) law_law_made


/-! lists of texts compared -/
def TxF (x : PyData) : Prop := ∀ k, 1000 ≤ k → k ∉ x.shown.cps.toList
theorem txf_int (i : Int) : TxF (.int i) := fun k hk => shown_int_free' ⟨by omega, .inr (by omega)⟩ i
theorem txf_list {xs : List PyData} (h : ∀ x ∈ xs, TxF x) : TxF (.list xs) := fun k hk hm => by
  rw [PyData.shown_list, mem_cps_append, mem_cps_append, mem_join, signs_lbrack, signs_rbrack, signs_sep] at hm
  simp only [List.mem_cons, List.not_mem_nil, or_false] at hm
  rcases hm with (hm | (⟨t, ht, hc⟩ | ⟨_, hm⟩)) | hm
  · omega
  · exact shownAll_free (fun x hx => h x hx k hk) t ht hc
  · omega
  · omega
theorem txf_tuple {xs : List PyData} (h : ∀ x ∈ xs, TxF x) : TxF (.tuple xs) := fun k hk hm => by
  have e1 : (("(" : String) : Str).cps.toList = [40] := by decide
  have e2 : ((")" : String) : Str).cps.toList = [41] := by decide
  have e3 : ((",)" : String) : Str).cps.toList = [44, 41] := by decide
  rw [PyData.shown_tuple, mem_cps_append, mem_cps_append, mem_join, e1, signs_sep] at hm
  simp only [List.mem_cons, List.not_mem_nil, or_false] at hm
  rcases hm with (hm | (⟨t, ht, hc⟩ | ⟨_, hm⟩)) | hm
  · omega
  · exact shownAll_free (fun x hx => h x hx k hk) t ht hc
  · omega
  · split at hm
    · rw [e3] at hm
      simp only [List.mem_cons, List.not_mem_nil, or_false] at hm
      omega
    · rw [e2] at hm
      simp only [List.mem_cons, List.not_mem_nil, or_false] at hm
      omega
theorem pyL_map {α : Type} (f : α → D) : ∀ {xs : List α} {y : PyData}, y ∈ pyL (xs.map f) → ∃ x, y = py (f x)
  | [], _, h => absurd h List.not_mem_nil
  | x :: xs, y, h => by
    have h' : y ∈ py (f x) :: pyL (xs.map f) := h
    rcases List.mem_cons.mp h' with e | e
    · exact ⟨x, e⟩
    · exact pyL_map f e
theorem txf_shape (b : List Int) (N : List (Int × Int)) : TxF (py (shapeD b N)) := by
  refine txf_list (xs := pyL [.int b.length, .lst (b.map D.int), .lst (N.map mkP)]) fun y hy => ?_
  have hy' : y ∈ [PyData.int b.length, .list (pyL (b.map D.int)), .list (pyL (N.map mkP))] := hy
  simp only [List.mem_cons, List.not_mem_nil, or_false] at hy'
  rcases hy' with rfl | rfl | rfl
  · exact txf_int _
  · exact txf_list fun y hy => by
      obtain ⟨x, rfl⟩ := pyL_map D.int hy
      exact txf_int x
  · exact txf_list fun y hy => by
      obtain ⟨x, rfl⟩ := pyL_map mkP hy
      refine txf_tuple (xs := pyL [.int x.1, .int x.2]) fun z hz => ?_
      have hz' : z ∈ [PyData.int x.1, .int x.2] := hz
      simp only [List.mem_cons, List.not_mem_nil, or_false] at hz'
      rcases hz' with rfl | rfl <;> exact txf_int _
theorem strOk_shape (b : List Int) (N : List (Int × Int)) : PyData.strOk (shw (shapeD b N)) = true := by
  unfold PyData.strOk
  rw [← Array.all_toList, List.all_eq_true]
  intro k hk
  refine decide_eq_true ?_
  by_cases c : k < 1000
  · omega
  · exact absurd hk (txf_shape b N k (by omega))
/-- texts of rules -/
def TxS (d : D) : Prop := ∃ (b : List Int) (N : List (Int × Int)), d = .str (shw (shapeD b N))
theorem txs_ok : ∀ {ds : List D}, (∀ d ∈ ds, TxS d) → plainL ds = true ∧ PyData.canLayAll0 (pyL ds) = true ∧ PyData.depthAll (pyL ds) = 0 ∧ PyData.eqvAll (pyL ds) (pyL ds) = true
  | [], _ => ⟨rfl, rfl, rfl, rfl⟩
  | d :: ds, h => by
    obtain ⟨b, N, rfl⟩ := h d (by simp)
    obtain ⟨h1, h2, h3, h4⟩ := txs_ok fun x hx => h x (List.mem_cons_of_mem _ hx)
    refine ⟨h1, ?_, ?_, ?_⟩
    · show (PyData.strOk _ && PyData.canLayAll0 (pyL ds)) = true
      rw [strOk_shape, h2]; rfl
    · show max 0 (PyData.depthAll (pyL ds)) = 0
      rw [h3]; rfl
    · show ((shw (shapeD b N) == shw (shapeD b N)) && PyData.eqvAll (pyL ds) (pyL ds)) = true
      rw [h4, beq_self_eq_true]; rfl
theorem txs_shp {ds : List D} (h : ∀ d ∈ ds, TxS d) : Shp (.lst ds) := by
  obtain ⟨h1, h2, h3, _⟩ := txs_ok h
  refine ⟨h1, ?_⟩
  unfold SeqAt.shaped
  show (PyData.canLayAll0 (pyL ds) && decide (PyData.depthAll (pyL ds) + 1 ≤ 64)) = true
  rw [h2, h3]; rfl
theorem txs_deq {ds : List D} (h : ∀ d ∈ ds, TxS d) : deq (.lst ds) (.lst ds) = true := (txs_ok h).2.2.2

/-! one table so many times -/
theorem rpr_i {i : Int} (h1 : -(10 ^ 60) < i) (h2 : i < 10 ^ 60) : Rpr (.int i) := rpr_of (small_of h1 h2) (by show 0 ≤ 50; decide) (by show 1921 ≤ 16777216; decide)
theorem FarT.ob_ {bs : List Int} {ms : List (Int × Int)} (T : FarT bs ms) (a : Int) : -(10 ^ 32) ≤ offF bs ms a ∧ offF bs ms a ≤ 10 ^ 32 := T.ob _ (off_all T.tab.rw_.pos a)
/-- a rule of the program tells its normal form -/
theorem FR.tells {n c : Nat} {o : Int → Int} (r : FR n c o) {B : List Int} {C : List (Int × Int)} (N : NormOf n o B C) : r.b = B ∧ normF r.b r.m = C ∧ shapeD r.b (normF r.b r.m) = .lst [.int n, .lst (B.map D.int), .lst (C.map mkP)] := by
  obtain ⟨e1, e2⟩ := norm_of r.rw_ r.len r.off N
  refine ⟨e1, e2, ?_⟩
  rw [e2, e1]
  unfold shapeD
  rw [N.len]
theorem op_bd {g : Nat} {L1 L2 : List Int} {m1 m2 : List (Int × Int)} (T1 : FarT L1 m1) (T2 : FarT L2 m2) (a : Int) : -(2 * 10 ^ 32) ≤ opO g L1 m1 L2 m2 a ∧ opO g L1 m1 L2 m2 a ≤ 2 * 10 ^ 32 := by
  have b1 := T1.ob_ a
  have b2 := T2.ob_ a
  match g with
  | 0 =>
    have b3 := T2.ob_ (a + offF L1 m1 a)
    show _ ≤ offF L1 m1 a + offF L2 m2 (a + offF L1 m1 a) ∧ offF L1 m1 a + offF L2 m2 (a + offF L1 m1 a) ≤ _
    omega
  | 1 =>
    show _ ≤ (if offF L2 m2 a > offF L1 m1 a then offF L2 m2 a else offF L1 m1 a) ∧ (if offF L2 m2 a > offF L1 m1 a then offF L2 m2 a else offF L1 m1 a) ≤ _
    split <;> omega
  | g + 2 =>
    show _ ≤ (if offF L2 m2 a < offF L1 m1 a then offF L2 m2 a else offF L1 m1 a) ∧ (if offF L2 m2 a < offF L1 m1 a then offF L2 m2 a else offF L1 m1 a) ≤ _
    split <;> omega
/-- and where it changes -/
theorem op_mom {g n : Nat} {L1 L2 : List Int} {m1 m2 : List (Int × Int)} (h1 : L1.length = n) (h2 : L2.length = n) (T1 : FarT L1 m1) (T2 : FarT L2 m2) {a : Int} (h : opO g L1 m1 L2 m2 a ≠ opO g L1 m1 L2 m2 (a - n)) : -(2 * 10 ^ 32) ≤ a ∧ a ≤ 2 * 10 ^ 32 := by
  have pos := T1.tab.rw_.pos
  rcases op_cov h1 h2 (by omega) g a h with ⟨m, hm, e⟩ | ⟨_, m, hm, e⟩ | ⟨_, m, hm, e⟩
  · have := T1.tab.mom m hm; omega
  · have := T2.tab.mom m hm
    have b := T1.ob_ a
    unfold valF at e
    omega
  · have := T2.tab.mom m hm; omega
theorem op_rpr {g n : Nat} {L1 L2 : List Int} {m1 m2 : List (Int × Int)} (h1 : L1.length = n) (h2 : L2.length = n) (T1 : FarT L1 m1) (T2 : FarT L2 m2) {B : List Int} {C : List (Int × Int)} (N : NormOf n (opO g L1 m1 L2 m2) B C) (lC : C.length ≤ 1900) : Rpr (.lst [.int n, .lst (B.map D.int), .lst (C.map mkP)]) := by
  have le := T1.tab.rw_.le
  have pos := T1.tab.rw_.pos
  have e : D.lst [.int n, .lst (B.map D.int), .lst (C.map mkP)] = shapeD B C := by unfold shapeD; rw [N.len]
  rw [e]
  refine rpr_shape (by rw [N.len]; omega) (by omega) (fun x hx => ?_) fun m hm => ?_
  · obtain ⟨i, hi, rfl⟩ := List.getElem_of_mem hx
    have hn := N.len
    obtain ⟨k, hk⟩ := far_back n (by omega) i C
    have b := N.base ((i : Int) - k * n) hk
    have w : wkF B ((i : Int) - k * n) = B[i] := by
      rw [← hn, wkF_k]
      unfold wkF
      rw [Int.emod_eq_of_lt (by omega) (by omega), Int.toNat_natCast, List.getElem?_eq_getElem hi]; rfl
    rw [w] at b
    have := op_bd (g := g) T1 T2 ((i : Int) - k * n)
    rw [← b] at this
    omega
  · obtain ⟨a1, a2⟩ := (N.mem m.1 m.2).mp hm
    have := op_bd (g := g) T1 T2 m.1
    have := op_mom h1 h2 T1 T2 (g := g) (a := m.1) (by rw [← a1]; exact a2)
    omega
theorem fr_rpr {n c : Nat} {o : Int → Int} (r : FR n c o) (n12 : n ≤ 12) (ho : ∀ a, -(10 ^ 39) < o a ∧ o a < 10 ^ 39) (hm : ∀ a, o a ≠ o (a - n) → -(10 ^ 39) < a ∧ a < 10 ^ 39) : Rpr (shapeD r.b (normF r.b r.m)) := by
  have pos := r.rw_.pos
  have hl := r.len
  have l1 := norm_len r.b r.m
  have f1 := r.rw_.few
  refine rpr_shape (by omega) (by omega) (fun x hx => ?_) fun m h => ?_
  · obtain ⟨i, hi, rfl⟩ := List.getElem_of_mem hx
    obtain ⟨k, hk⟩ := far_back r.b.length (by omega) i r.m
    have b := offF_late (b := r.b) (ms := r.m) hk
    have w : wkF r.b ((i : Int) - k * r.b.length) = r.b[i] := by
      rw [wkF_k]
      unfold wkF
      rw [Int.emod_eq_of_lt (by omega) (by omega), Int.toNat_natCast, List.getElem?_eq_getElem hi]; rfl
    rw [w, r.off] at b
    have := ho ((i : Int) - k * r.b.length)
    omega
  · obtain ⟨a1, a2⟩ := (mem_norm pos r.rw_.up m.1 m.2).mp h
    rw [r.off] at a1
    rw [r.off, hl] at a2
    have := ho m.1
    have := hm m.1 (by rw [← a1]; exact a2)
    omega
theorem seq_mom {n : Nat} {o1 o2 : Int → Int} {K M : Int} (h1 : ∀ a, o1 a ≠ o1 (a - n) → -K ≤ a ∧ a ≤ K) (hM : ∀ a, -M ≤ o1 a ∧ o1 a ≤ M) (h2 : ∀ a, o2 a ≠ o2 (a - n) → -K ≤ a ∧ a ≤ K) (a : Int) (h : o1 a + o2 (a + o1 a) ≠ o1 (a - n) + o2 (a - n + o1 (a - n))) : -(K + M) ≤ a ∧ a ≤ K + M := by
  have b := hM a
  by_cases c : o1 a = o1 (a - n)
  · have := h2 (a + o1 a) fun z => h (by rw [← c, z, show a + o1 a - (n : Int) = a - n + o1 a by omega])
    omega
  · have := h1 a c
    omega
def c_law_twice : Con := fun svs Q _ => ∃ (n : Nat) (L : List Int) (m : List (Int × Int)), svs = [.d (tabX L m []), .d (ruleD L m)] ∧ L.length = n ∧ FarT L m ∧ Q (.d (.bl true)) svs
/-! _law_twice: one 0, left 1, size 2, base_here 3, shifts 4, owed 5, third 6, at 7, spot 8, made 9, step 10, here 11 -/
theorem sc_law_twice : FnScope N_law_twice ["one", "left"] (defScope st_law_twice) := ⟨rfl, rfl, rfl, by decide +kernel, rfl, by decide +kernel, by decide +kernel⟩
abbrev w_law_twice_1 : WS := wIf (wTst (w2 kNe (wB kRepr (wCons (wInst 0 [false, false] c_Rule_call (wVar 6) (wCons (wVar 7) (wNil))) (wNil))) (wB kRepr (wCons (w2 kAdd (wVar 8) (wCall [false, false] c_law_offset (wCons (wVar 0) (wCons (wVar 8) (wNil))))) (wNil))))) (wRetF (wC (.bl false))) (wNext)
abbrev w_law_twice_2 : WS := wSeq (wAsg 8 (w2 kAdd (wVar 8) (wCall [false, false] c_law_offset (wCons (wVar 0) (wCons (wVar 8) (wNil)))))) w_law_twice_1
abbrev w_law_twice_3 : WS := wSeq (wAsg 8 (w2 kAdd (wVar 7) (wCall [false, false] c_law_offset (wCons (wVar 0) (wCons (wVar 7) (wNil)))))) w_law_twice_2
abbrev w_law_twice_4 : WS := wRetF (w2 kEq (wCall [false] c_law_shape (wCons (wVar 6) (wNil))) (wCall [false] c_law_shape (wCons (wCallS c_in_turn (wCons (wVar 1) (wCons (wVar 1) (wCons (wVar 1) (wNil))))) (wNil))))
abbrev w_law_twice_5 : WS := wSeq (wFor (wIt (w2 kAdd (wLst (wCons (wC (.int 0)) (wNil))) (wLc (wEnum (wCons (w2 kIdx (wVar 0) (wC (.int 1))) (wNil))) (gTp 2 (gsCons (gNm 10) (gsCons (gTp 2 (gsCons (gNm 7) (gsCons (gNm 11) (gsNil)))) (gsNil)))) (wYes) (w2 kSub (wVar 7) (wVar 10)) [10, 7, 11]))) (gNm 7) w_law_twice_3) w_law_twice_4
abbrev w_law_twice_6 : WS := wSeq (wIf (wTst (w2 kNe (wLc (wIt (wTup (wCons (wOp2 0 [false, false] c_Rule_mul (wVar 1) fun ρ Q E => (wC (.int 2)) ρ (fun sy ρ2 => isIntS sy ∧ Q sy ρ2) E) (wCons (wMulR 0 [false, false] c_Rule_rmul (wC (.int 2)) (wVar 1)) (wCons (wOp2 0 [false, false] c_Rule_rshift (wVar 1) fun ρ Q E => (wVar 1) ρ (fun sy ρ2 => isIns 0 sy ρ2 ∧ Q sy ρ2) E) (wNil)))))) (gNm 9) (wTst (w2 kNe (wCall [false] c_law_shape (wCons (wVar 9) (wNil))) (wVar 5))) (wC (.int 1)) [9]) (wLst (wNil)))) (wRetF (wC (.bl false))) (wNext)) w_law_twice_5
abbrev w_law_twice_7 : WS := wSeq (wUnp (wTup (wCons (wB kRepr (wCons (wLst (wCons (wVar 2) (wCons (wVar 3) (wCons (wVar 4) (wNil))))) (wNil))) (wCons (wOp2 0 [false, false] c_Rule_mul (wVar 1) fun ρ Q E => (wC (.int 3)) ρ (fun sy ρ2 => isIntS sy ∧ Q sy ρ2) E) (wNil)))) (gTp 2 (gsCons (gNm 5) (gsCons (gNm 6) (gsNil))))) w_law_twice_6
abbrev w_law_twice_8 : WS := wSeq (wUnp (wCall [false, false, false] c_law_both (wCons (wC (.str ">")) (wCons (wVar 0) (wCons (wVar 0) (wNil))))) (gTp 2 (gsCons (gNm 3) (gsCons (gNm 4) (gsNil))))) w_law_twice_7
def w_law_twice : WS :=
  wSeq (wAsg 2 (wB kLen (wCons (w2 kIdx (wVar 0) (wC (.int 0))) (wNil)))) w_law_twice_8
theorem tr_law_twice {Γ : Wd} (T : Tx Γ) (G : Γ.gk = true) (X : Cx) (C : Ctx Γ X N_law_twice (defScope st_law_twice) (fun _ => true) 9) (P : Own X) (dc : DefCx X) : SSs Γ [] X (defBody st_law_twice) w_law_twice :=
  sss_cons (ss_asg C 2 (se_len C (sa_cons (se_idx C (fun _ _ => rfl) (se_var C 0) (se_int)) (sa_nil))))
  (sss_cons (ss_unp (is := [3, 4]) (se_call C (FnE.mono (ok_law_both T) (by decide)) (sa_cons (se_str) (sa_cons (se_var C 0) (sa_cons (se_var C 0) (sa_nil))))) (sg_tup C (sgs_cons (sg_name C 3) (sgs_cons (sg_name C 4) (sgs_nil)))))
  (sss_cons (ss_unpC C (is := [5, 6]) (se_tup (sa_cons (se_repr G C (sa_cons (se_lst (sa_cons (se_var C 2) (sa_cons (se_var C 3) (sa_cons (se_var C 4) (sa_nil))))) (sa_nil))) (sa_cons (se_mulI C (OpE.mono (ok_Rule_mul T) (by decide)) T.S_0 T.MR_0 (se_var C 1) (se_int)) (sa_nil)))) (sg_tup C (sgs_cons (sg_name C 5) (sgs_cons (sg_name C 6) (sgs_nil)))))
  (sss_cons (ss_if (st_ne C (se_lc C (own := [("made", 9)]) (is := [9]) (by decide +kernel) (by decide +kernel) (si_seq (se_tup (sa_cons (se_mulI C (OpE.mono (ok_Rule_mul T) (by decide)) T.S_0 T.MR_0 (se_var C 1) (se_int)) (sa_cons (se_mulR C (OpE.mono (ok_Rule_rmul T) (by decide)) T.S_0 T.ML_0 (se_int) (se_var C 1)) (sa_cons (se_binO C (OpE.mono (ok_Rule_rshift T) (by decide)) T.S_0 (se_var C 1) (se_var C 1)) (sa_nil)))))) (fun _ hX => sg_name hX.1 9) (fun _ hX => sts_one (st_ne hX.1 (se_call hX.1 (FnE.mono (ok_law_shape T G) (by decide)) (sa_cons (se_var hX.1 9) (sa_nil))) (se_var hX.1 5))) (fun _ hX => se_int)) (se_lst (sa_nil))) (sss_one (ss_retF (se_bl))) (sss_nil))
  (sss_cons (ss_for C P (is := [7]) (si_seq (se_add (se_lst (sa_cons (se_int) (sa_nil))) (se_lc C (own := [("step", 10), ("at", 7), ("here", 11)]) (is := [10, 7, 11]) (by decide +kernel) (by decide +kernel) (si_enum C (sa_cons (se_idx C (fun _ _ => rfl) (se_var C 0) (se_int)) (sa_nil))) (fun _ hX => sg_tup hX.1 (sgs_cons (sg_name hX.1 10) (sgs_cons (sg_tup hX.1 (sgs_cons (sg_name hX.1 7) (sgs_cons (sg_name hX.1 11) (sgs_nil)))) (sgs_nil)))) (fun _ hX => sts_nil) (fun _ hX => se_sub (se_var hX.1 7) (se_var hX.1 10))))) (sg_name C 7) (sss_cons (ss_asg C 8 (se_add (se_var C 7) (se_call C (FnE.mono (ok_law_offset T) (by decide)) (sa_cons (se_var C 0) (sa_cons (se_var C 7) (sa_nil))))))
  (sss_cons (ss_asg C 8 (se_add (se_var C 8) (se_call C (FnE.mono (ok_law_offset T) (by decide)) (sa_cons (se_var C 0) (sa_cons (se_var C 8) (sa_nil))))))
  (sss_one (ss_if (st_ne C (se_repr G C (sa_cons (se_inst C (OpE.mono (ok_Rule_call T) (by decide)) (se_var C 6) (sa_cons (se_var C 7) (sa_nil))) (sa_nil))) (se_repr G C (sa_cons (se_add (se_var C 8) (se_call C (FnE.mono (ok_law_offset T) (by decide)) (sa_cons (se_var C 0) (sa_cons (se_var C 8) (sa_nil))))) (sa_nil)))) (sss_one (ss_retF (se_bl))) (sss_nil))))))
  (sss_one (ss_retF (se_eq C (se_call C (FnE.mono (ok_law_shape T G) (by decide)) (sa_cons (se_var C 6) (sa_nil))) (se_call C (FnE.mono (ok_law_shape T G) (by decide)) (sa_cons (se_callS C (FnSE.mono (ok_in_turn T) (by decide)) (sa_cons (se_var C 1) (sa_cons (se_var C 1) (sa_cons (se_var C 1) (sa_nil))))) (sa_nil))))))))))

theorem wNext_of {ρ : Rho} {D : Nd} {E : EK} (h : D.nx ρ) : wNext ρ D E := h
theorem far_chg {n : Nat} {L : List Int} {m : List (Int × Int)} (hl : L.length = n) (T : FarT L m) (a : Int) (h : offF L m a ≠ offF L m (a - n)) : -(10 ^ 32) ≤ a ∧ a ≤ 10 ^ 32 := by
  by_cases c : ∃ z ∈ m, z.1 = a
  · obtain ⟨z, hz, e⟩ := c
    have := T.tab.mom z hz
    omega
  · have := offF_back (b := L) (ms := m) (a := a) T.tab.rw_.pos fun z hz q => c ⟨z, hz, q⟩
    rw [hl] at this
    exact absurd this h
theorem twice_tail {n : Nat} {L : List Int} {m : List (Int × Int)} {Q : SV → List SV → Prop} {E : Nat → D → List SV → Prop} (hl : L.length = n) (T : FarT L m) (A : FR n 24 (offF L m)) (eA : A.d = ruleD L m) {c3 : Nat} (r3 : FR n c3 (foS (offF L m) [(⟨_, _, A⟩ : FX n), ⟨_, _, A⟩])) (ch2 : chS n 24 [(⟨_, _, A⟩ : FX n), ⟨_, _, A⟩]) (hq : Q (.d (.bl true)) [.d (tabX L m []), .d A.d]) (x3 x4 x5 x9 : Option SV) :
    w_law_twice_5 [some (.d (tabX L m [])), some (.d A.d), some (.d (.int n)), x3, x4, x5, some (.d r3.d), none, none, x9, none, none] (endsOf [false, false] [.d (tabX L m []), .d A.d] Q) (errsOf [false, false] [.d (tabX L m []), .d A.d] E) := by
  have R := T.tab.rw_
  have le := R.le
  have few := T.tab.few
  have ob := T.ob_
  ((conv => whnf); try dsimp only [List.set_cons_zero, List.set_cons_succ]); refine ⟨few3 (by show 1 ≤ 1000; decide), ?_⟩
  ((conv => whnf); try dsimp only [List.set_cons_zero, List.set_cons_succ]); refine ⟨_, at1, ?_⟩
  ((conv => whnf); try dsimp only [List.set_cons_zero, List.set_cons_succ])
  refine compL_ind (fun ds acc ρ => ∃ (as rs : List (Int × Int)) (zs : List Int), m = as ++ rs ∧ ds = enD as.length (rs.map mkP) ∧ zs.length = as.length ∧ (∀ z ∈ zs, -(10 ^ 33) ≤ z ∧ z ≤ 10 ^ 33) ∧ acc = zs.map D.int ∧ ρ = [some (.d (tabX L m [])), some (.d A.d), some (.d (.int n)), x3, x4, x5, some (.d r3.d), none, none, x9, none, none]) ?_ ?_ _ _ _ ⟨[], m, [], rfl, rfl, rfl, fun _ h => (nomatch h), rfl, rfl⟩
  · rintro acc ρ ⟨as, rs, zs, q1, q2, lz, hz, rfl, rfl⟩
    obtain rfl : rs = [] := by cases rs with
      | nil => rfl
      | cons _ _ => cases q2
    rw [List.append_nil] at q1
    subst q1
    ((conv => whnf); try dsimp only [List.set_cons_zero, List.set_cons_succ]); refine ⟨by rw [List.length_map]; show 1 + zs.length ≤ 16777216; omega, ?_⟩
    refine forL_ind (fun ds ρ => ∃ (ws : List Int) (x7 x8 : Option SV), (∀ z ∈ ws, -(10 ^ 33) ≤ z ∧ z ≤ 10 ^ 33) ∧ ds = ws.map D.int ∧ ρ = [some (.d (tabX L m [])), some (.d A.d), some (.d (.int n)), x3, x4, x5, some (.d r3.d), x7, x8, x9, none, none]) ?_ ?_ _ _ ⟨0 :: zs, none, none, fun z h => by
      rcases List.mem_cons.mp h with rfl | h
      · decide
      · exact hz z h, rfl, rfl⟩
    · rintro ρ ⟨ws, x7, x8, hw, e, rfl⟩
      obtain rfl : ws = [] := by cases ws with
        | nil => rfl
        | cons _ _ => cases e
      have ch := far_chg hl T
      have m1 := seq_mom (n := n) (o1 := offF L m) (o2 := offF L m) (K := 10 ^ 32) (M := 10 ^ 32) ch ob ch
      have b2 : ∀ a, -(2 * 10 ^ 32) ≤ offF L m a + offF L m (a + offF L m a) ∧ offF L m a + offF L m (a + offF L m a) ≤ 2 * 10 ^ 32 := fun a => by
        have := ob a
        have := ob (a + offF L m a)
        omega
      have m2 := seq_mom (n := n) (o1 := fun a => offF L m a + offF L m (a + offF L m a)) (o2 := offF L m) (K := 2 * 10 ^ 32) (M := 2 * 10 ^ 32) (fun a h => by have := m1 a h; omega) b2 (fun a h => by have := ch a h; omega)
      have rp : ∀ {c : Nat} (r : FR n c (foS (offF L m) [(⟨_, _, A⟩ : FX n), ⟨_, _, A⟩])), Rpr (shapeD r.b (normF r.b r.m)) := fun r => fr_rpr r (by omega) (fun a => by
        have := b2 a
        have := ob (a + (offF L m a + offF L m (a + offF L m a)))
        show _ < (offF L m a + offF L m (a + offF L m a)) + offF L m (a + (offF L m a + offF L m (a + offF L m a))) ∧ (offF L m a + offF L m (a + offF L m a)) + offF L m (a + (offF L m a + offF L m (a + offF L m a))) < _
        omega) (fun a h => by have := m2 a h; omega)
      have same : ∀ {c : Nat} (r : FR n c (foS (offF L m) [(⟨_, _, A⟩ : FX n), ⟨_, _, A⟩])), shapeD r.b (normF r.b r.m) = shapeD r3.b (normF r3.b r3.m) := fun r => by
        obtain ⟨e1, e2⟩ := norm_of r.rw_ (by rw [r.len, r3.len]) (fun a => by rw [r.off, r3.off]) (norm_self r3.rw_)
        rw [e2, e1]
      have r3few := rp r3
      ((conv => whnf); try dsimp only [List.set_cons_zero, List.set_cons_succ]); refine ⟨r3.b, r3.m, rfl, r3few, ?_⟩
      ((conv => whnf); try dsimp only [List.set_cons_zero, List.set_cons_succ]); refine ⟨by show 2 ≤ 1000; decide, n, ⟨_, _, A⟩, [⟨_, _, A⟩, ⟨_, _, A⟩], rfl, ch2, fun c5 r5 => ?_⟩
      ((conv => whnf); try dsimp only [List.set_cons_zero, List.set_cons_succ]); refine ⟨r5.b, r5.m, rfl, by rw [same r5]; exact r3few, ?_⟩
      rw [same r5]
      ((conv => whnf); try dsimp only [List.set_cons_zero, List.set_cons_succ]); rw [if_neg Bool.false_ne_true, decide_eq_true (Eq.refl (shw (shapeD r3.b (normF r3.b r3.m))))]; exact hq
    · rintro d ds ρ ⟨ws, x7, x8, hw, e, rfl⟩ ih
      cases ws with
      | nil => cases e
      | cons a ws =>
        cases e
        have ha := hw a (by simp)
        ((conv => whnf); try dsimp only [List.set_cons_zero, List.set_cons_succ]); refine ⟨L, m, [], a, rfl, R, ?_⟩
        ((conv => whnf); try dsimp only [List.set_cons_zero, List.set_cons_succ]); refine ⟨L, m, [], _, rfl, R, ?_⟩
        have b1 := ob a
        have b2 := ob (a + offF L m a)
        have b3 := ob (a + offF L m a + offF L m (a + offF L m a))
        have e3 : valF r3.b r3.m a = a + offF L m a + offF L m (a + offF L m a) + offF L m (a + offF L m a + offF L m (a + offF L m a)) := by
          rw [r3.val]
          show a + (offF L m a + offF L m (a + offF L m a) + offF L m (a + (offF L m a + offF L m (a + offF L m a)))) = _
          rw [← Int.add_assoc a (offF L m a)]
          omega
        ((conv => whnf); try dsimp only [List.set_cons_zero, List.set_cons_succ]); refine ⟨rfl, ?_⟩
        ((conv => whnf); try dsimp only [List.set_cons_zero, List.set_cons_succ]); refine ⟨rfl, r3.b, r3.m, _, rfl, r3.rw_, ?_⟩
        rw [e3]
        have rp : Rpr (.int (a + offF L m a + offF L m (a + offF L m a) + offF L m (a + offF L m a + offF L m (a + offF L m a)))) := rpr_i (by omega) (by omega)
        ((conv => whnf); try dsimp only [List.set_cons_zero, List.set_cons_succ]); refine ⟨rp, ?_⟩
        ((conv => whnf); try dsimp only [List.set_cons_zero, List.set_cons_succ]); refine ⟨L, m, [], _, rfl, R, ?_⟩
        ((conv => whnf); try dsimp only [List.set_cons_zero, List.set_cons_succ]); refine ⟨rp, ?_⟩
        ((conv => whnf); try dsimp only [List.set_cons_zero, List.set_cons_succ]); refine Br.ofN (fun c => absurd rfl c) (fun _ => ?_)
        exact ⟨_, Fgt.refl _, ih _ ⟨ws, _, _, fun z h => hw z (by simp [h]), rfl, rfl⟩⟩
  · rintro d ds acc ρ ⟨as, rs, zs, q1, q2, lz, hz, rfl, rfl⟩ ih
    cases rs with
    | nil => cases q2
    | cons r rs =>
      cases q2
      have la : as.length < m.length := by rw [q1]; simp
      have mb := T.tab.mom r (by rw [q1]; simp)
      ((conv => whnf); try dsimp only [List.set_cons_zero, List.set_cons_succ]); refine ⟨rfl, ?_⟩
      ((conv => whnf); try dsimp only [List.set_cons_zero, List.set_cons_succ]); refine ⟨rfl, ?_⟩
      ((conv => whnf); try dsimp only [List.set_cons_zero, List.set_cons_succ]); refine Br.tt ?_
      ((conv => whnf); try dsimp only [List.set_cons_zero, List.set_cons_succ]); refine ⟨by rw [List.length_map]; omega, ?_⟩
      exact ih _ _ ⟨as ++ [r], rs, zs ++ [r.1 - as.length], by rw [q1]; simp, by simp, by simp [lz], fun z h => by
        rcases List.mem_append.mp h with h | h
        · exact hz z h
        · rw [List.mem_singleton.mp h]; omega, by rw [List.map_append]; rfl, rfl⟩
theorem law_law_twice : LawOf N_law_twice [false, false] c_law_twice w_law_twice := by
  rintro svs Q E - ⟨n, L, m, rfl, hl, T, hq⟩
  have le := T.tab.rw_.le
  have pos := T.tab.rw_.pos
  have R := T.tab.rw_
  have few := T.tab.few
  obtain ⟨A, eA⟩ : ∃ A : FR n 24 (offF L m), A.d = ruleD L m := ⟨⟨L, m, R, hl, T.tab.nf, fun _ => rfl, few⟩, rfl⟩
  have n24 : n * 24 ≤ 12 * 24 := Nat.mul_le_mul_right _ (by omega)
  have lenB : (((L.map D.int).length : Nat) : Int) = n := by rw [List.length_map, hl]
  rw [← eA] at hq ⊢
  show w_law_twice [some (.d (tabX L m [])), some (.d A.d), none, none, none, none, none, none, none, none, none, none] _ _
  ((conv => whnf); try dsimp only [List.set_cons_zero, List.set_cons_succ]); refine ⟨_, at0, ?_⟩
  ((conv => whnf); try dsimp only [List.set_cons_zero, List.set_cons_succ]); rw [lenB]; refine ⟨0, n, L, L, m, m, rfl, hl, hl, T, T, fun B C N => ?_⟩
  ((conv => whnf); try dsimp only [List.set_cons_zero, List.set_cons_succ]); refine ⟨rfl, ?_⟩
  ((conv => whnf); try dsimp only [List.set_cons_zero, List.set_cons_succ]); refine ⟨few3 (by show 3 ≤ 1000; decide), ?_⟩
  have lC : C.length ≤ 24 + (n * 24 + 24) := by
    obtain ⟨L', h1, h2⟩ := pre_ex R T.tab.nf (vs := (normF L m).map Prod.fst) (List.pairwise_map.mpr (norm_asc R.up))
    have l1 := norm_len L m
    rw [List.length_map, hl] at h2
    have nm : n * (normF L m).length ≤ n * 24 := Nat.mul_le_mul_left _ (by omega)
    have sub : (C.map Prod.fst).length ≤ ((normF L m).map Prod.fst ++ L').length := nodup_len (List.pairwise_map.mpr N.asc) fun x hx => by
      obtain ⟨c, hc, rfl⟩ := List.mem_map.mp hx
      obtain ⟨a1, a2⟩ := (N.mem c.1 c.2).mp hc
      have ne : opO 0 L m L m c.1 ≠ opO 0 L m L m (c.1 - n) := by rw [← a1]; exact a2
      rw [List.mem_append]
      by_cases z : offF L m c.1 = offF L m (c.1 - L.length)
      · right
        have nz : offF L m (c.1 + offF L m c.1) ≠ offF L m (c.1 + offF L m c.1 - L.length) := fun q => ne (by
          show offF L m c.1 + offF L m (c.1 + offF L m c.1) = offF L m (c.1 - n) + offF L m (c.1 - n + offF L m (c.1 - n))
          rw [hl] at z q
          rw [← z, q, show c.1 + offF L m c.1 - (n : Int) = c.1 - n + offF L m c.1 by omega])
        exact h1 _ (norm_mem R nz) c.1 rfl
      · exact .inl (norm_mem R z)
    rw [List.length_map, List.length_append, List.length_map] at sub
    omega
  have rp := op_rpr hl hl T T N (by omega)
  ((conv => whnf); try dsimp only [List.set_cons_zero, List.set_cons_succ]); refine ⟨rp, ?_⟩
  ((conv => whnf); try dsimp only [List.set_cons_zero, List.set_cons_succ]); refine ⟨⟨_, rfl⟩, rfl, ?_⟩
  have ch2 : chS n 24 [(⟨_, _, A⟩ : FX n), ⟨_, _, A⟩] := ⟨by show 24 + (n * 24 + 24) ≤ 1900; omega, by show 24 + (n * 24 + 24) + (n * 24 + (24 + (n * 24 + 24))) ≤ 1900; omega, trivial⟩
  have ch1 : chS n 24 [(⟨_, _, A⟩ : FX n)] := ⟨by show 24 + (n * 24 + 24) ≤ 1900; omega, trivial⟩
  ((conv => whnf); try dsimp only [List.set_cons_zero, List.set_cons_succ]); refine ⟨n, ⟨_, _, A⟩, [⟨_, _, A⟩, ⟨_, _, A⟩], rfl, by omega, by omega, by show 24 ≤ 100; decide, by show 2 ≤ 10; decide, fun y hy => by simpa using hy, ch2, fun c3 r3 => ?_⟩
  ((conv => whnf); try dsimp only [List.set_cons_zero, List.set_cons_succ]); refine ⟨few3 (by show 2 ≤ 1000; decide), ?_⟩
  ((conv => whnf); try dsimp only [List.set_cons_zero, List.set_cons_succ]); refine ⟨rfl, ?_⟩
  have eo : ∀ {c : Nat} (r : FR n c (opO 0 L m L m)), shapeD r.b (normF r.b r.m) = .lst [.int n, .lst (B.map D.int), .lst (C.map mkP)] := fun r => (r.tells N).2.2
  ((conv => whnf); try dsimp only [List.set_cons_zero, List.set_cons_succ]); refine ⟨⟨_, rfl⟩, rfl, ?_⟩
  ((conv => whnf); try dsimp only [List.set_cons_zero, List.set_cons_succ]); refine ⟨n, ⟨_, _, A⟩, [⟨_, _, A⟩], rfl, by omega, by omega, by show 24 ≤ 100; decide, by show 1 ≤ 10; decide, fun y hy => by simpa using hy, ch1, fun c1 r1 => ?_⟩
  ((conv => whnf); try dsimp only [List.set_cons_zero, List.set_cons_succ]); refine ⟨⟨_, rfl⟩, rfl, ?_⟩
  ((conv => whnf); try dsimp only [List.set_cons_zero, List.set_cons_succ]); refine ⟨n, ⟨_, _, A⟩, [⟨_, _, A⟩], rfl, by omega, by omega, by show 24 ≤ 100; decide, by show 1 ≤ 10; decide, fun y hy => by simpa using hy, ch1, fun c2 r2 => ?_⟩
  ((conv => whnf); try dsimp only [List.set_cons_zero, List.set_cons_succ]); refine ⟨rfl, rfl, ?_⟩
  ((conv => whnf); try dsimp only [List.set_cons_zero, List.set_cons_succ]); refine seq_callF A A (by omega) fun r4 => ?_
  ((conv => whnf); try dsimp only [List.set_cons_zero, List.set_cons_succ]); refine ⟨few3 (by show 3 ≤ 1000; decide), ?_⟩
  generalize hO : D.lst [.int n, .lst (B.map D.int), .lst (C.map mkP)] = owed at *
  refine compL_ind (fun ds acc ρ => ∃ (rs : List (FX n)) (x9 : Option SV), (∀ r ∈ rs, r.o = opO 0 L m L m) ∧ ds = rs.map FX.d ∧ acc = [] ∧ ρ = [some (.d (tabX L m [])), some (.d A.d), some (.d (.int n)), some (.d (.lst (B.map D.int))), some (.d (.lst (C.map mkP))), some (.d (.str (shw owed))), some (.d r3.d), none, none, x9, none, none]) ?_ ?_ _ _ _ ⟨[⟨_, _, r1⟩, ⟨_, _, r2⟩, ⟨_, _, r4⟩], none, fun r hr => by
    simp only [List.mem_cons, List.not_mem_nil, or_false] at hr
    rcases hr with rfl | rfl | rfl <;> rfl, rfl, rfl, rfl⟩
  · rintro acc ρ ⟨rs, x9, h, e, rfl, rfl⟩
    ((conv => whnf); try dsimp only [List.set_cons_zero, List.set_cons_succ]); refine ⟨few3 (by show 0 ≤ 1000; decide), ?_⟩
    ((conv => whnf); try dsimp only [List.set_cons_zero, List.set_cons_succ]); refine ⟨⟨shp_of rfl (by decide), shp_of rfl (by decide)⟩, ?_⟩
    ((conv => whnf); try dsimp only [List.set_cons_zero, List.set_cons_succ]); refine Br.ff ?_
    exact wNext_of (twice_tail hl T A eA r3 ch2 hq _ _ _ x9)
  · rintro d ds acc ρ ⟨rs, x9, h, e, rfl, rfl⟩ ih
    cases rs with
    | nil => cases e
    | cons r rs =>
      cases e
      obtain ⟨c, o, r⟩ := r
      have ho : o = opO 0 L m L m := h ⟨c, o, r⟩ (by simp)
      subst ho
      ((conv => whnf); try dsimp only [List.set_cons_zero, List.set_cons_succ]); refine ⟨r.b, r.m, rfl, by rw [eo r]; exact rp, ?_⟩
      rw [eo r]
      ((conv => whnf); try dsimp only [List.set_cons_zero, List.set_cons_succ]); refine Br.ofN (fun c => absurd rfl c) (fun _ => ?_)
      exact ih _ _ ⟨rs, _, fun r hr => h r (by simp [hr]), rfl, rfl, rfl⟩
theorem ok_law_twice {Γ : Wd} (T : Tx Γ) (G : Γ.gk = true) : FnE Γ 10 "_law_twice" [false, false] c_law_twice :=
  fnE_of T.d_law_twice sc_law_twice (by intro _ _ _ _ _ _ _ _ us hl; exact match us, hl with | [_, _], _ => rfl) T.bn rfl (tr_law_twice T G) law_law_twice

/-! the law -/
theorem op_len {g n : Nat} {L1 L2 : List Int} {m1 m2 : List (Int × Int)} (h1 : L1.length = n) (h2 : L2.length = n) (T1 : FarT L1 m1) (T2 : FarT L2 m2) {B : List Int} {C : List (Int × Int)} (N : NormOf n (opO g L1 m1 L2 m2) B C) : C.length ≤ 1900 := by
  have R1 := T1.tab.rw_
  have R2 := T2.tab.rw_
  have le := R1.le
  have pos := R1.pos
  have f1 := T1.tab.few
  have f2 := T2.tab.few
  obtain ⟨L', p1, p2⟩ := pre_ex R1 T1.tab.nf (vs := m2.map Prod.fst) (List.pairwise_map.mpr R2.up)
  have l1 := norm_len L1 m1
  rw [List.length_map] at p2
  have nm : L1.length * m2.length ≤ 12 * 24 := Nat.mul_le_mul le f2
  have sub : (C.map Prod.fst).length ≤ (m1.map Prod.fst ++ m2.map Prod.fst ++ L').length := nodup_len (List.pairwise_map.mpr N.asc) fun x hx => by
    obtain ⟨c, hc, rfl⟩ := List.mem_map.mp hx
    obtain ⟨a1, a2⟩ := (N.mem c.1 c.2).mp hc
    have ne : opO g L1 m1 L2 m2 c.1 ≠ opO g L1 m1 L2 m2 (c.1 - n) := by rw [← a1]; exact a2
    rw [List.mem_append, List.mem_append]
    rcases op_cov h1 h2 (by omega) g c.1 ne with ⟨m, hm, e⟩ | ⟨_, m, hm, e⟩ | ⟨_, m, hm, e⟩
    · exact .inl (.inl (List.mem_map.mpr ⟨m, hm, e⟩))
    · exact .inr (p1 m.1 (List.mem_map_of_mem hm) c.1 e.symm)
    · exact .inl (.inr (List.mem_map.mpr ⟨m, hm, e⟩))
  rw [List.length_map, List.length_append, List.length_append, List.length_map, List.length_map] at sub
  omega
theorem far_rpr {L : List Int} {m : List (Int × Int)} (T : FarT L m) : Rpr (shapeD L (normF L m)) := by
  have le := T.tab.rw_.le
  exact fr_rpr (⟨L, m, T.tab.rw_, rfl, T.tab.nf, fun _ => rfl, Nat.le_refl _⟩ : FR L.length m.length (offF L m)) le (fun a => by have := T.ob_ a; show _ < offF L m a ∧ offF L m a < _; omega) fun a h => by have := far_chg rfl T a h; omega
def c_law_right : Con := fun svs Q _ => ∃ (n : Nat) (p : SV), svs = [p] ∧ Pool n p ∧ n < 1000 ∧ ∀ p', Pool (n + 1000) p' → Q (.d (.bl true)) [p']
/-! _law_right: pool 0, kind 1, size 2, one 3, two 4, left 5, right 6, before 7, sign 8, base_here 9, shifts 10, owed 11, made 12, at 13, here 14 -/
theorem sc_law_right : FnScope N_law_right ["pool"] (defScope st_law_right) := ⟨rfl, rfl, rfl, by decide +kernel, rfl, by decide +kernel, by decide +kernel⟩
abbrev w_law_right_1 : WS := wIf (wTst (w2 kNe (wB kRepr (wCons (wInst 0 [false, false] c_Rule_call (wVar 12) (wCons (wVar 13) (wNil))) (wNil))) (wB kRepr (wCons (w2 kAdd (wVar 13) (wCall [false, false, false, false] c_law_wait (wCons (wVar 8) (wCons (wVar 3) (wCons (wVar 4) (wCons (wVar 13) (wNil))))))) (wNil))))) (wRetF (wC (.bl false))) (wNext)
abbrev w_law_right_2 : WS := wFor (wIt (w2 kAdd (wLst (wCons (wC (.int 0)) (wCons (wCall [true, false] c_law_draw (wCons (wRef 0) (wCons (w2 kPow (wC (.int 10)) (wC (.int 31))) (wNil)))) (wNil)))) (wLc (wIt (wSl (wVar 10) (wNoP) (wP (wC (.int 12))))) (gTp 2 (gsCons (gNm 13) (gsCons (gNm 14) (gsNil)))) (wYes) (wVar 13) [13, 14]))) (gNm 13) w_law_right_1
abbrev w_law_right_3 : WS := wSeq (wIf (wTst (w2 kNe (wCall [false] c_law_shape (wCons (wVar 12) (wNil))) (wVar 11))) (wRetF (wC (.bl false))) (wNext)) w_law_right_2
abbrev w_law_right_4 : WS := wRetF (w2 kEq (wLst (wCons (wCall [false] c_law_shape (wCons (wVar 5) (wNil))) (wCons (wCall [false] c_law_shape (wCons (wVar 6) (wNil))) (wNil)))) (wVar 7))
abbrev w_law_right_5 : WS := wSeq (wFor (wIt (wCall [false, false, false] c_law_made (wCons (wVar 8) (wCons (wVar 5) (wCons (wVar 6) (wNil)))))) (gNm 12) w_law_right_3) w_law_right_4
abbrev w_law_right_6 : WS := wSeq (wAsg 11 (wB kRepr (wCons (wLst (wCons (wVar 2) (wCons (wVar 9) (wCons (wVar 10) (wNil))))) (wNil)))) w_law_right_5
abbrev w_law_right_7 : WS := wSeq (wUnp (wCall [false, false, false] c_law_both (wCons (wVar 8) (wCons (wVar 3) (wCons (wVar 4) (wNil))))) (gTp 2 (gsCons (gNm 9) (gsCons (gNm 10) (gsNil))))) w_law_right_6
abbrev w_law_right_8 : WS := wSeq (wAsg 8 (w2 kIdx (wLst (wCons (wC (.str ">")) (wCons (wC (.str "+")) (wCons (wC (.str "-")) (wNil))))) (wVar 1))) w_law_right_7
abbrev w_law_right_9 : WS := wSeq (wIf (wTst (w2 kEq (wVar 1) (wC (.int 3)))) (wRetF (wAndE (wCall [false, false] c_law_twice (wCons (wVar 3) (wCons (wVar 5) (wNil)))) (w2 kEq (wLst (wCons (wCall [false] c_law_shape (wCons (wVar 5) (wNil))) (wCons (wCall [false] c_law_shape (wCons (wVar 6) (wNil))) (wNil)))) (wVar 7)))) (wNext)) w_law_right_8
abbrev w_law_right_10 : WS := wSeq (wAsg 7 (wLst (wCons (wCall [false] c_law_shape (wCons (wVar 5) (wNil))) (wCons (wCall [false] c_law_shape (wCons (wVar 6) (wNil))) (wNil))))) w_law_right_9
abbrev w_law_right_11 : WS := wSeq (wPar2 5 6 (wCons (wMake 0 [false, false] c_Rule_init (wCons (wB kList (wCons (w2 kIdx (wVar 3) (wC (.int 0))) (wNil))) (wCons (wB kList (wCons (w2 kIdx (wVar 3) (wC (.int 1))) (wNil))) (wNil)))) (wCons (wMake 0 [false, false] c_Rule_init (wCons (wB kList (wCons (w2 kIdx (wVar 4) (wC (.int 0))) (wNil))) (wCons (wB kList (wCons (w2 kIdx (wVar 4) (wC (.int 1))) (wNil))) (wNil)))) (wNil)))) w_law_right_10
abbrev w_law_right_12 : WS := wSeq (wPar2 3 4 (wCons (wCall [true, false, false] c_law_far (wCons (wRef 0) (wCons (wVar 2) (wCons (w2 kPow (wC (.int 10)) (wC (.int 30))) (wNil))))) (wCons (wCall [true, false, false] c_law_far (wCons (wRef 0) (wCons (wVar 2) (wCons (w2 kPow (wC (.int 10)) (wC (.int 30))) (wNil))))) (wNil)))) w_law_right_11
def w_law_right : WS :=
  wSeq (wPar2 1 2 (wCons (wCall [true, false] c_law_draw (wCons (wRef 0) (wCons (wC (.int 4)) (wNil)))) (wCons (w2 kAdd (wC (.int 1)) (wCall [true, false] c_law_draw (wCons (wRef 0) (wCons (wC (.int 12)) (wNil))))) (wNil)))) w_law_right_12
theorem tr_law_right {Γ : Wd} (T : Tx Γ) (G : Γ.gk = true) (X : Cx) (C : Ctx Γ X N_law_right (defScope st_law_right) (fun _ => true) 10) (P : Own X) (dc : DefCx X) : SSs Γ [0] X (defBody st_law_right) w_law_right :=
  sss_cons (ss_par2 C 1 2 (sa_cons (se_call C (FnE.mono (ok_law_draw T) (by decide)) (sa_cons (se_ref C 0) (sa_cons (se_int) (sa_nil)))) (sa_cons (se_add (se_int) (se_call C (FnE.mono (ok_law_draw T) (by decide)) (sa_cons (se_ref C 0) (sa_cons (se_int) (sa_nil))))) (sa_nil))))
  (sss_cons (ss_par2 C 3 4 (sa_cons (se_call C (FnE.mono (ok_law_far T) (by decide)) (sa_cons (se_ref C 0) (sa_cons (se_var C 2) (sa_cons (se_pow (se_int) (se_int)) (sa_nil))))) (sa_cons (se_call C (FnE.mono (ok_law_far T) (by decide)) (sa_cons (se_ref C 0) (sa_cons (se_var C 2) (sa_cons (se_pow (se_int) (se_int)) (sa_nil))))) (sa_nil))))
  (sss_cons (ss_par2 C 5 6 (sa_cons (se_make C (MkE.mono (ok_Rule_init T) (by decide)) (sa_cons (se_listc C (sa_cons (se_idx C (fun _ _ => rfl) (se_var C 3) (se_int)) (sa_nil))) (sa_cons (se_listc C (sa_cons (se_idx C (fun _ _ => rfl) (se_var C 3) (se_int)) (sa_nil))) (sa_nil)))) (sa_cons (se_make C (MkE.mono (ok_Rule_init T) (by decide)) (sa_cons (se_listc C (sa_cons (se_idx C (fun _ _ => rfl) (se_var C 4) (se_int)) (sa_nil))) (sa_cons (se_listc C (sa_cons (se_idx C (fun _ _ => rfl) (se_var C 4) (se_int)) (sa_nil))) (sa_nil)))) (sa_nil))))
  (sss_cons (ss_asg C 7 (se_lst (sa_cons (se_call C (FnE.mono (ok_law_shape T G) (by decide)) (sa_cons (se_var C 5) (sa_nil))) (sa_cons (se_call C (FnE.mono (ok_law_shape T G) (by decide)) (sa_cons (se_var C 6) (sa_nil))) (sa_nil)))))
  (sss_cons (ss_if (st_eq C (se_var C 1) (se_int)) (sss_one (ss_retF (se_and (se_call C (FnE.mono (ok_law_twice T G) (by decide)) (sa_cons (se_var C 3) (sa_cons (se_var C 5) (sa_nil)))) (se_one (se_eq C (se_lst (sa_cons (se_call C (FnE.mono (ok_law_shape T G) (by decide)) (sa_cons (se_var C 5) (sa_nil))) (sa_cons (se_call C (FnE.mono (ok_law_shape T G) (by decide)) (sa_cons (se_var C 6) (sa_nil))) (sa_nil)))) (se_var C 7)))))) (sss_nil))
  (sss_cons (ss_asg C 8 (se_idx C (fun _ _ => rfl) (se_lst (sa_cons (se_str) (sa_cons (se_str) (sa_cons (se_str) (sa_nil))))) (se_var C 1)))
  (sss_cons (ss_unp (is := [9, 10]) (se_call C (FnE.mono (ok_law_both T) (by decide)) (sa_cons (se_var C 8) (sa_cons (se_var C 3) (sa_cons (se_var C 4) (sa_nil))))) (sg_tup C (sgs_cons (sg_name C 9) (sgs_cons (sg_name C 10) (sgs_nil)))))
  (sss_cons (ss_asg C 11 (se_repr G C (sa_cons (se_lst (sa_cons (se_var C 2) (sa_cons (se_var C 9) (sa_cons (se_var C 10) (sa_nil))))) (sa_nil))))
  (sss_cons (ss_for C P (is := [12]) (si_seq (se_call C (FnE.mono (ok_law_made T) (by decide)) (sa_cons (se_var C 8) (sa_cons (se_var C 5) (sa_cons (se_var C 6) (sa_nil)))))) (sg_name C 12) (sss_cons (ss_if (st_ne C (se_call C (FnE.mono (ok_law_shape T G) (by decide)) (sa_cons (se_var C 12) (sa_nil))) (se_var C 11)) (sss_one (ss_retF (se_bl))) (sss_nil))
  (sss_one (ss_for C P (is := [13]) (si_seq (se_add (se_lst (sa_cons (se_int) (sa_cons (se_call C (FnE.mono (ok_law_draw T) (by decide)) (sa_cons (se_ref C 0) (sa_cons (se_pow (se_int) (se_int)) (sa_nil)))) (sa_nil)))) (se_lc C (own := [("at", 13), ("here", 14)]) (is := [13, 14]) (by decide +kernel) (by decide +kernel) (si_seq (se_slice C (se_var C 10) (so_none) (so_some (se_int)))) (fun _ hX => sg_tup hX.1 (sgs_cons (sg_name hX.1 13) (sgs_cons (sg_name hX.1 14) (sgs_nil)))) (fun _ hX => sts_nil) (fun _ hX => se_var hX.1 13)))) (sg_name C 13) (sss_one (ss_if (st_ne C (se_repr G C (sa_cons (se_inst C (OpE.mono (ok_Rule_call T) (by decide)) (se_var C 12) (sa_cons (se_var C 13) (sa_nil))) (sa_nil))) (se_repr G C (sa_cons (se_add (se_var C 13) (se_call C (FnE.mono (ok_law_wait T) (by decide)) (sa_cons (se_var C 8) (sa_cons (se_var C 3) (sa_cons (se_var C 4) (sa_cons (se_var C 13) (sa_nil))))))) (sa_nil)))) (sss_one (ss_retF (se_bl))) (sss_nil)))))))
  (sss_one (ss_retF (se_eq C (se_lst (sa_cons (se_call C (FnE.mono (ok_law_shape T G) (by decide)) (sa_cons (se_var C 5) (sa_nil))) (sa_cons (se_call C (FnE.mono (ok_law_shape T G) (by decide)) (sa_cons (se_var C 6) (sa_nil))) (sa_nil)))) (se_var C 7))))))))))))

theorem cut_12 (xs : List D) : cutL xs none (some 12) = xs.take 12 := by
  unfold cutL
  have e : HT.sIx xs.length xs.length (some 12) = min 12 xs.length := by
    show (if (12 : Int) < 0 then ((12 : Int) + xs.length).toNat else min (12 : Int).toNat xs.length) = _
    rw [if_neg (by decide)]
    rfl
  rw [e]
  show List.take (min 12 xs.length - 0) (List.drop 0 xs) = _
  rw [List.drop_zero, Nat.sub_zero]
  by_cases c : xs.length ≤ 12
  · rw [Nat.min_eq_right c, List.take_of_length_le (Nat.le_refl _), List.take_of_length_le c]
  · rw [Nat.min_eq_left (by omega)]
theorem turn38 {n k : Nat} {g : Nat} {L1 L2 : List Int} {m1 m2 : List (Int × Int)} (h1 : L1.length = n) (h2 : L2.length = n) (T1 : FarT L1 m1) (T2 : FarT L2 m2) {B : List Int} {C : List (Int × Int)} (N : NormOf n (opO g L1 m1 L2 m2) B C) (r : FX n) (ho : ∀ a, r.o a = opO g L1 m1 L2 m2 a) {K : Nd} {E : EK} (p : SV) (hp : Pool k p) (hk : k < 9000) (x1 x2 x5 x6 x7 x9 x13 x14 : Option SV)
    (nx : ∀ (p : SV) (x12 x13 x14 : Option SV), Pool (k + 1) p → K.nx [some p, x1, x2, some (.d (tabX L1 m1 [])), some (.d (tabX L2 m2 [])), x5, x6, x7, some (.d (sgD g)), x9, some (.d (.lst (C.map mkP))), some (.d (.str (shw (.lst [.int n, .lst (B.map D.int), .lst (C.map mkP)])))), x12, x13, x14]) :
    w_law_right_3 [some p, x1, x2, some (.d (tabX L1 m1 [])), some (.d (tabX L2 m2 [])), x5, x6, x7, some (.d (sgD g)), x9, some (.d (.lst (C.map mkP))), some (.d (.str (shw (.lst [.int n, .lst (B.map D.int), .lst (C.map mkP)])))), some (.d r.d), x13, x14] K E := by
  obtain ⟨c, o, r⟩ := r
  have ho' : o = opO g L1 m1 L2 m2 := funext ho
  subst ho'
  have R1 := T1.tab.rw_
  have R2 := T2.tab.rw_
  have rp := op_rpr h1 h2 T1 T2 N (op_len h1 h2 T1 T2 N)
  have es := (r.tells N).2.2
  ((conv => whnf); try dsimp only [List.set_cons_zero, List.set_cons_succ]); refine ⟨r.b, r.m, rfl, by rw [es]; exact rp, ?_⟩
  rw [es]
  ((conv => whnf); try dsimp only [List.set_cons_zero, List.set_cons_succ]); refine Br.ofN (fun c => absurd rfl c) (fun _ => ?_)
  ((conv => whnf); try dsimp only [List.set_cons_zero, List.set_cons_succ]); refine ⟨rfl, ?_⟩
  ((conv => whnf); try dsimp only [List.set_cons_zero, List.set_cons_succ]); refine ⟨cpw (by decide) (by decide) (by decide), ?_⟩
  ((conv => whnf); try dsimp only [List.set_cons_zero, List.set_cons_succ]); refine ⟨k, _, 10 ^ 31, rfl, hp, by omega, by decide, by decide, fun t p2 t0 t1 hp2 => ?_⟩
  have t1' : t < 10 ^ 31 := t1
  ((conv => whnf); try dsimp only [List.set_cons_zero, List.set_cons_succ]); refine ⟨few3 (by show 2 ≤ 1000; decide), ?_⟩
  have lC := op_len h1 h2 T1 T2 N
  have mC : ∀ z ∈ C, -(10 ^ 33) ≤ z.1 ∧ z.1 ≤ 10 ^ 33 := fun z hz => by
    obtain ⟨a1, a2⟩ := (N.mem z.1 z.2).mp hz
    have := op_mom h1 h2 T1 T2 (g := g) (a := z.1) (by rw [← a1]; exact a2)
    omega
  ((conv => whnf); try dsimp only [List.set_cons_zero, List.set_cons_succ]); rw [cut_12, ← List.map_take]
  have mT : ∀ z ∈ C.take 12, -(10 ^ 33) ≤ z.1 ∧ z.1 ≤ 10 ^ 33 := fun z hz => mC z (List.mem_of_mem_take hz)
  have lT : (C.take 12).length ≤ 12 := by rw [List.length_take]; omega
  generalize C.take 12 = F at *
  generalize hsh : D.str (shw (.lst [.int n, .lst (B.map D.int), .lst (C.map mkP)])) = sh at *
  refine compL_ind (fun ds acc ρ => ∃ (as rs : List (Int × Int)), F = as ++ rs ∧ ds = rs.map mkP ∧ acc = (as.map Prod.fst).map D.int ∧ ρ = [some p2, x1, x2, some (.d (tabX L1 m1 [])), some (.d (tabX L2 m2 [])), x5, x6, x7, some (.d (sgD g)), x9, some (.d (.lst (C.map mkP))), some (.d sh), some (.d r.d), none, none]) ?_ ?_ _ _ _ ⟨[], F, rfl, rfl, rfl, rfl⟩
  · rintro acc ρ ⟨as, rs, q1, q2, rfl, rfl⟩
    obtain rfl : rs = [] := by cases rs with
      | nil => rfl
      | cons _ _ => cases q2
    rw [List.append_nil] at q1
    rw [← q1]
    ((conv => whnf); try dsimp only [List.set_cons_zero, List.set_cons_succ]); refine ⟨by rw [List.length_map, List.length_map]; show 2 + F.length ≤ 16777216; omega, ?_⟩
    refine forL_ind (fun ds ρ => ∃ (ws : List Int) (x13 : Option SV), (∀ z ∈ ws, -(10 ^ 33) ≤ z ∧ z ≤ 10 ^ 33) ∧ ds = ws.map D.int ∧ ρ = [some p2, x1, x2, some (.d (tabX L1 m1 [])), some (.d (tabX L2 m2 [])), x5, x6, x7, some (.d (sgD g)), x9, some (.d (.lst (C.map mkP))), some (.d sh), some (.d r.d), x13, none]) ?_ ?_ _ _ ⟨0 :: t :: F.map Prod.fst, none, fun z h => by
      rcases List.mem_cons.mp h with rfl | h
      · decide
      · rcases List.mem_cons.mp h with rfl | h
        · omega
        · obtain ⟨y, hy, rfl⟩ := List.mem_map.mp h
          exact mT y hy, rfl, rfl⟩
    · rintro ρ ⟨ws, x13, hw, e, rfl⟩
      obtain rfl : ws = [] := by cases ws with
        | nil => rfl
        | cons _ _ => cases e
      exact nx _ _ _ _ hp2
    · rintro d ds ρ ⟨ws, x13, hw, e, rfl⟩ ih
      cases ws with
      | nil => cases e
      | cons a ws =>
        cases e
        have ha := hw a (by simp)
        have ob := op_bd (g := g) T1 T2 a
        have ev : valF r.b r.m a = a + opO g L1 m1 L2 m2 a := r.val a
        have rpv : Rpr (.int (a + opO g L1 m1 L2 m2 a)) := rpr_i (by omega) (by omega)
        ((conv => whnf); try dsimp only [List.set_cons_zero, List.set_cons_succ]); refine ⟨rfl, ?_⟩
        ((conv => whnf); try dsimp only [List.set_cons_zero, List.set_cons_succ]); refine ⟨rfl, r.b, r.m, _, rfl, r.rw_, ?_⟩
        rw [ev]
        ((conv => whnf); try dsimp only [List.set_cons_zero, List.set_cons_succ]); refine ⟨rpv, ?_⟩
        ((conv => whnf); try dsimp only [List.set_cons_zero, List.set_cons_succ]); refine ⟨g, L1, L2, m1, m2, a, rfl, R1, R2, ?_⟩
        ((conv => whnf); try dsimp only [List.set_cons_zero, List.set_cons_succ]); refine ⟨rpv, ?_⟩
        ((conv => whnf); try dsimp only [List.set_cons_zero, List.set_cons_succ]); refine Br.ofN (fun c => absurd rfl c) (fun _ => ?_)
        exact ⟨_, Fgt.refl _, ih _ ⟨ws, _, fun z h => hw z (by simp [h]), rfl, rfl⟩⟩
  · rintro d ds acc ρ ⟨as, rs, q1, q2, rfl, rfl⟩ ih
    cases rs with
    | nil => cases q2
    | cons z rs =>
      cases q2
      have la : as.length < F.length := by rw [q1]; simp
      ((conv => whnf); try dsimp only [List.set_cons_zero, List.set_cons_succ]); refine ⟨rfl, ?_⟩
      ((conv => whnf); try dsimp only [List.set_cons_zero, List.set_cons_succ]); refine Br.tt ?_
      ((conv => whnf); try dsimp only [List.set_cons_zero, List.set_cons_succ]); refine ⟨by rw [List.length_map, List.length_map]; omega, ?_⟩
      exact ih _ _ ⟨as ++ [z], rs, by rw [q1]; simp, rfl, by rw [List.map_append, List.map_append]; rfl, rfl⟩
theorem right_go {n m : Nat} {p p5 : SV} {Q : SV → List SV → Prop} {E : Nat → D → List SV → Prop} (hn : n < 1000) (hp5 : Pool (n + 300) p5) (hq : ∀ p', Pool (n + 1000) p' → Q (.d (.bl true)) [p']) {L1 L2 : List Int} {m1 m2 : List (Int × Int)} (h1 : L1.length = m) (h2 : L2.length = m) (T1 : FarT L1 m1) (T2 : FarT L2 m2) (g : Nat) (x1 : Option SV) :
    w_law_right_7 [some p5, x1, some (.d (.int m)), some (.d (tabX L1 m1 [])), some (.d (tabX L2 m2 [])), some (.d (ruleD L1 m1)), some (.d (ruleD L2 m2)), some (.lst [.str (shw (shapeD L1 (normF L1 m1))), .str (shw (shapeD L2 (normF L2 m2)))]), some (.d (sgD g)), none, none, none, none, none, none] (endsOf [true] [p] Q) (errsOf [true] [p] E) := by
  have r1 := far_rpr T1
  have r2 := far_rpr T2
  ((conv => whnf); try dsimp only [List.set_cons_zero, List.set_cons_succ]); refine ⟨g, m, L1, L2, m1, m2, rfl, h1, h2, T1, T2, fun B C N => ?_⟩
  ((conv => whnf); try dsimp only [List.set_cons_zero, List.set_cons_succ]); refine ⟨rfl, ?_⟩
  ((conv => whnf); try dsimp only [List.set_cons_zero, List.set_cons_succ]); refine ⟨few3 (by show 3 ≤ 1000; decide), ?_⟩
  ((conv => whnf); try dsimp only [List.set_cons_zero, List.set_cons_succ]); refine ⟨op_rpr h1 h2 T1 T2 N (op_len h1 h2 T1 T2 N), ?_⟩
  ((conv => whnf); try dsimp only [List.set_cons_zero, List.set_cons_succ]); refine ⟨g, m, L1, L2, m1, m2, rfl, h1, h2, T1, T2, fun rs l3 ho => ?_⟩
  ((conv => whnf); try dsimp only [List.set_cons_zero, List.set_cons_succ])
  refine forL_ind (fun ds ρ => ∃ (ws : List (FX m)) (j : Nat) (p6 : SV) (x12 x13 x14 : Option SV), j + ws.length ≤ 3 ∧ (∀ r ∈ ws, ∀ a, r.o a = opO g L1 m1 L2 m2 a) ∧ ds = ws.map FX.d ∧ Pool (n + 300 + j) p6 ∧ ρ = [some p6, x1, some (.d (.int m)), some (.d (tabX L1 m1 [])), some (.d (tabX L2 m2 [])), some (.d (ruleD L1 m1)), some (.d (ruleD L2 m2)), some (.lst [.str (shw (shapeD L1 (normF L1 m1))), .str (shw (shapeD L2 (normF L2 m2)))]), some (.d (sgD g)), some (.d (.lst (B.map D.int))), some (.d (.lst (C.map mkP))), some (.d (.str (shw (.lst [.int m, .lst (B.map D.int), .lst (C.map mkP)])))), x12, x13, x14]) ?_ ?_ _ _ ⟨rs, 0, p5, none, none, none, by omega, ho, rfl, hp5, rfl⟩
  · rintro ρ ⟨ws, j, p6, x12, x13, x14, hj, hw, e, hp6, rfl⟩
    ((conv => whnf); try dsimp only [List.set_cons_zero, List.set_cons_succ]); refine ⟨L1, m1, rfl, r1, ?_⟩
    ((conv => whnf); try dsimp only [List.set_cons_zero, List.set_cons_succ]); refine ⟨L2, m2, rfl, r2, ?_⟩
    ((conv => whnf); try dsimp only [List.set_cons_zero, List.set_cons_succ]); refine ⟨few3 (by show 2 ≤ 1000; decide), ?_⟩
    have ts : ∀ d ∈ [D.str (shw (shapeD L1 (normF L1 m1))), D.str (shw (shapeD L2 (normF L2 m2)))], TxS d := fun d hd => by
      simp only [List.mem_cons, List.not_mem_nil, or_false] at hd
      rcases hd with rfl | rfl <;> exact ⟨_, _, rfl⟩
    ((conv => whnf); try dsimp only [List.set_cons_zero, List.set_cons_succ]); refine ⟨⟨txs_shp ts, txs_shp ts⟩, ?_⟩
    rw [txs_deq ts]
    ((conv => whnf); try dsimp only [List.set_cons_zero, List.set_cons_succ]); exact hq p6 (hp6.mono (by omega))
  · rintro d ds ρ ⟨ws, j, p6, x12, x13, x14, hj, hw, e, hp6, rfl⟩ ih
    cases ws with
    | nil => cases e
    | cons r ws =>
      cases e
      rw [List.length_cons] at hj
      refine turn38 h1 h2 T1 T2 N r (hw r (by simp)) p6 hp6 (by omega) _ _ _ _ _ _ _ _ fun p7 y12 y13 y14 hp7 => ?_
      exact ⟨_, Fgt.refl _, ih _ ⟨ws, j + 1, p7, _, _, _, by omega, fun r hr => hw r (by simp [hr]), rfl, hp7.mono (by omega), rfl⟩⟩
theorem law_law_right : LawOf N_law_right [true] c_law_right w_law_right := by
  rintro svs Q E - ⟨n, p, rfl, hp, hn, hq⟩
  show w_law_right [some p, none, none, none, none, none, none, none, none, none, none, none, none, none, none] _ _
  ((conv => whnf); try dsimp only [List.set_cons_zero, List.set_cons_succ]); refine ⟨rfl, ?_⟩
  ((conv => whnf); try dsimp only [List.set_cons_zero, List.set_cons_succ]); refine ⟨n, _, 4, rfl, hp, by omega, by decide, by decide, fun kd p1 k0 k1 hp1 => ?_⟩
  have k1' : kd < 4 := k1
  ((conv => whnf); try dsimp only [List.set_cons_zero, List.set_cons_succ]); refine ⟨rfl, ?_⟩
  ((conv => whnf); try dsimp only [List.set_cons_zero, List.set_cons_succ]); refine ⟨n + 1, _, 12, rfl, hp1, by omega, by decide, by decide, fun s0 p2 s00 s01 hp2 => ?_⟩
  have s01' : s0 < 12 := s01
  obtain ⟨m, hm⟩ : ∃ m : Nat, (m : Int) = 1 + s0 := ⟨(1 + s0).toNat, by omega⟩
  ((conv => whnf); try dsimp only [List.set_cons_zero, List.set_cons_succ]); rw [← hm]; refine ⟨rfl, ?_⟩
  ((conv => whnf); try dsimp only [List.set_cons_zero, List.set_cons_succ]); refine ⟨cpw (by decide) (by decide) (by decide), ?_⟩
  ((conv => whnf); try dsimp only [List.set_cons_zero, List.set_cons_succ]); refine ⟨n + 2, _, m, 10 ^ 30, rfl, hp2, by omega, by omega, by omega, by decide, by decide, fun L1 m1 p3 e1 T1 hp3 => ?_⟩
  ((conv => whnf); try dsimp only [List.set_cons_zero, List.set_cons_succ]); refine ⟨rfl, ?_⟩
  ((conv => whnf); try dsimp only [List.set_cons_zero, List.set_cons_succ]); refine ⟨cpw (by decide) (by decide) (by decide), ?_⟩
  ((conv => whnf); try dsimp only [List.set_cons_zero, List.set_cons_succ]); refine ⟨n + 103, _, m, 10 ^ 30, rfl, hp3.mono (by omega), by omega, by omega, by omega, by decide, by decide, fun L2 m2 p4 e2 T2 hp4 => ?_⟩
  have h1 : L1.length = m := by omega
  have h2 : L2.length = m := by omega
  have r1 := far_rpr T1
  have r2 := far_rpr T2
  ((conv => whnf); try dsimp only [List.set_cons_zero, List.set_cons_succ]); refine ⟨_, at0, ?_⟩
  ((conv => whnf); try dsimp only [List.set_cons_zero, List.set_cons_succ]); refine ⟨_, at1, ?_⟩
  ((conv => whnf); try dsimp only [List.set_cons_zero, List.set_cons_succ]); refine ⟨L1, m1, rfl, T1.tab.rw_, T1.tab.nf, rfl, _, _, rfl, ?_⟩
  ((conv => whnf); try dsimp only [List.set_cons_zero, List.set_cons_succ]); refine ⟨_, at0, ?_⟩
  ((conv => whnf); try dsimp only [List.set_cons_zero, List.set_cons_succ]); refine ⟨_, at1, ?_⟩
  ((conv => whnf); try dsimp only [List.set_cons_zero, List.set_cons_succ]); refine ⟨L2, m2, rfl, T2.tab.rw_, T2.tab.nf, rfl, _, _, rfl, ?_⟩
  ((conv => whnf); try dsimp only [List.set_cons_zero, List.set_cons_succ]); refine ⟨L1, m1, rfl, r1, ?_⟩
  ((conv => whnf); try dsimp only [List.set_cons_zero, List.set_cons_succ]); refine ⟨L2, m2, rfl, r2, ?_⟩
  ((conv => whnf); try dsimp only [List.set_cons_zero, List.set_cons_succ]); refine ⟨few3 (by show 2 ≤ 1000; decide), ?_⟩
  have hp5 : Pool (n + 300) p4 := hp4.mono (by omega)
  have hk : kd = 0 ∨ kd = 1 ∨ kd = 2 ∨ kd = 3 := by omega
  rcases hk with rfl | rfl | rfl | rfl
  · ((conv => whnf); try dsimp only [List.set_cons_zero, List.set_cons_succ]); refine Br.ff ?_
    ((conv => whnf); try dsimp only [List.set_cons_zero, List.set_cons_succ]); refine ⟨few3 (by show 3 ≤ 1000; decide), ?_⟩
    ((conv => whnf); try dsimp only [List.set_cons_zero, List.set_cons_succ]); refine ⟨_, at0, ?_⟩
    ((conv => whnf); try dsimp only [List.set_cons_zero, List.set_cons_succ]); exact right_go hn hp5 hq h1 h2 T1 T2 0 _
  · ((conv => whnf); try dsimp only [List.set_cons_zero, List.set_cons_succ]); refine Br.ff ?_
    ((conv => whnf); try dsimp only [List.set_cons_zero, List.set_cons_succ]); refine ⟨few3 (by show 3 ≤ 1000; decide), ?_⟩
    ((conv => whnf); try dsimp only [List.set_cons_zero, List.set_cons_succ]); refine ⟨_, at1, ?_⟩
    ((conv => whnf); try dsimp only [List.set_cons_zero, List.set_cons_succ]); exact right_go hn hp5 hq h1 h2 T1 T2 1 _
  · ((conv => whnf); try dsimp only [List.set_cons_zero, List.set_cons_succ]); refine Br.ff ?_
    ((conv => whnf); try dsimp only [List.set_cons_zero, List.set_cons_succ]); refine ⟨few3 (by show 3 ≤ 1000; decide), ?_⟩
    ((conv => whnf); try dsimp only [List.set_cons_zero, List.set_cons_succ]); refine ⟨_, at2, ?_⟩
    ((conv => whnf); try dsimp only [List.set_cons_zero, List.set_cons_succ]); exact right_go hn hp5 hq h1 h2 T1 T2 2 _
  · ((conv => whnf); try dsimp only [List.set_cons_zero, List.set_cons_succ]); refine Br.tt ?_
    ((conv => whnf); try dsimp only [List.set_cons_zero, List.set_cons_succ]); refine ⟨m, L1, m1, rfl, h1, T1, ?_⟩
    ((conv => whnf); try dsimp only [List.set_cons_zero, List.set_cons_succ]); refine Br.tt ?_
    ((conv => whnf); try dsimp only [List.set_cons_zero, List.set_cons_succ]); refine ⟨L1, m1, rfl, r1, ?_⟩
    ((conv => whnf); try dsimp only [List.set_cons_zero, List.set_cons_succ]); refine ⟨L2, m2, rfl, r2, ?_⟩
    ((conv => whnf); try dsimp only [List.set_cons_zero, List.set_cons_succ]); refine ⟨few3 (by show 2 ≤ 1000; decide), ?_⟩
    have ts : ∀ d ∈ [D.str (shw (shapeD L1 (normF L1 m1))), D.str (shw (shapeD L2 (normF L2 m2)))], TxS d := fun d hd => by
      simp only [List.mem_cons, List.not_mem_nil, or_false] at hd
      rcases hd with rfl | rfl <;> exact ⟨_, _, rfl⟩
    ((conv => whnf); try dsimp only [List.set_cons_zero, List.set_cons_succ]); refine ⟨⟨txs_shp ts, txs_shp ts⟩, ?_⟩
    rw [txs_deq ts]
    ((conv => whnf); try dsimp only [List.set_cons_zero, List.set_cons_succ]); exact hq p4 (hp5.mono (by omega))
theorem ok_law_right {Γ : Wd} (T : Tx Γ) (G : Γ.gk = true) : FnE Γ 11 "_law_right" [true] c_law_right :=
  fnE_of T.d_law_right sc_law_right (by intro _ _ _ _ _ _ _ _ us hl; exact match us, hl with | [_], _ => rfl) T.bn rfl (tr_law_right T G) law_law_right


/-! law: script 0, spot 1, pool 2, turn 3 -/
theorem sc_law : FnScope N_law ["script"] (defScope st_law) := ⟨rfl, rfl, rfl, by decide +kernel, rfl, by decide +kernel, by decide +kernel⟩
abbrev w_law_1 : WS := wIf (wNotT (wTst (wCall [true] c_law_right (wCons (wRef 2) (wNil))))) (wRetF (wC (.bl false))) (wNext)
abbrev w_law_2 : WS := wFor (wRng1 (wCons (wC (.int 1)) (wNil))) (gNm 3) w_law_1
abbrev w_law_3 : WS := wSeq (wAsg 2 (wCall [false, false] c_law_pool (wCons (wVar 0) (wCons (wVar 1) (wNil))))) w_law_2
abbrev w_law_4 : WS := wRetF (wC (.bl true))
def w_law : WS :=
  wSeq (wFor (wRng1 (wCons (wB kMax (wCons (wC (.int 1)) (wCons (wB kMin (wCons (wC (.int 6)) (wCons (wB kLen (wCons (wVar 0) (wNil))) (wNil)))) (wNil)))) (wNil))) (gNm 1) w_law_3) w_law_4
theorem tr_law {Γ : Wd} (T : Tx Γ) (G : Γ.gk = true) (X : Cx) (C : Ctx Γ X N_law (defScope st_law) (fun _ => true) 11) (P : Own X) (dc : DefCx X) : SSs Γ [] X (defBody st_law) w_law :=
  sss_cons (ss_for C P (is := [1]) (si_range1 C (sa_cons (se_max C (sa_cons (se_int) (sa_cons (se_min C (sa_cons (se_int) (sa_cons (se_len C (sa_cons (se_var C 0) (sa_nil))) (sa_nil)))) (sa_nil)))) (sa_nil))) (sg_name C 1) (sss_cons (ss_asg C 2 (se_call C (FnE.mono (ok_law_pool T) (by decide)) (sa_cons (se_var C 0) (sa_cons (se_var C 1) (sa_nil)))))
  (sss_one (ss_for C P (is := [3]) (si_range1 C (sa_cons (se_int) (sa_nil))) (sg_name C 3) (sss_one (ss_if (st_not (st_val (se_call C (FnE.mono (ok_law_right T G) (by decide)) (sa_cons (se_ref C 2) (sa_nil))))) (sss_one (ss_retF (se_bl))) (sss_nil)))))))
  (sss_one (ss_retF (se_bl)))

theorem law_law : LawOf N_law [false] c_law w_law := by
  rintro svs Q E - ⟨ns, rfl, few, hq⟩
  ((conv => whnf); try dsimp only [List.set_cons_zero, List.set_cons_succ])
  have hk : ∀ m : Int, m ≤ 63 → (if (if m < 6 then m else 6) > 1 then if m < 6 then m else 6 else 1) ≤ 63 ∧ 1 ≤ (if (if m < 6 then m else 6) > 1 then if m < 6 then m else 6 else 1) := fun m h => by
    split <;> split at * <;> omega
  have hk := hk ns.length (by omega)
  generalize (if (if (ns.length : Int) < 6 then (ns.length : Int) else 6) > 1 then if (ns.length : Int) < 6 then (ns.length : Int) else 6 else 1) = kk at hk ⊢
  refine ⟨by omega, by omega, ?_⟩
  refine forL_ind (fun ds ρ => ∃ (zs : List Nat) (x y z : Option SV), ds = zs.map (fun (i : Nat) => D.int (0 + (i : Int))) ∧ (∀ i ∈ zs, i < 64) ∧ ρ = [some (.d (.scr ns)), x, y, z]) ?_ ?_ _ _ ⟨List.range kk.toNat, none, none, none, rfl, fun i hi => by
    have := List.mem_range.mp hi; omega, rfl⟩
  · rintro ρ ⟨zs, x, y, z, e, hz, rfl⟩
    ((conv => whnf); try dsimp only [List.set_cons_zero, List.set_cons_succ]); exact hq
  · rintro d ds ρ ⟨zs, x, y, z, e, hz, rfl⟩ ih
    cases zs with
    | nil => cases e
    | cons i zs =>
      cases e
      have hi := hz i (by simp)
      ((conv => whnf); try dsimp only [List.set_cons_zero, List.set_cons_succ]); refine ⟨ns, 0 + (i : Int), rfl, by omega, by omega, fun p hp => ?_⟩
      obtain ⟨a, b, c, rfl, pb⟩ := id hp
      ((conv => whnf); try dsimp only [List.set_cons_zero, List.set_cons_succ]); refine ⟨by decide, by decide, ?_⟩
      refine forL_ind (fun ds ρ => ∃ (n : Nat) (p : SV) (y : Option SV), n + 1000 * ds.length ≤ 1000 ∧ Pool n p ∧ ρ = [some (.d (.scr ns)), some (.d (.int (0 + (i : Int)))), some p, y]) ?_ ?_ _ _ ⟨0, _, _, by decide, hp, rfl⟩
      · rintro ρ ⟨n, p, y, hn, hp, rfl⟩
        exact ⟨_, Fgt.refl _, ih _ ⟨zs, _, _, _, rfl, fun j hj => hz j (by simp [hj]), rfl⟩⟩
      · rintro d ds ρ ⟨n, p, y, hn, hp, rfl⟩ ih2
        ((conv => whnf); try dsimp only [List.set_cons_zero, List.set_cons_succ]); refine ⟨rfl, ?_⟩
        ((conv => whnf); try dsimp only [List.set_cons_zero, List.set_cons_succ]); refine ⟨n, _, rfl, hp, by simp at hn; omega, fun p' hp' => ?_⟩
        ((conv => whnf); try dsimp only [List.set_cons_zero, List.set_cons_succ]); refine Br.ff ?_
        exact ⟨_, Fgt.refl _, ih2 _ ⟨n + 1000, _, _, by simp at hn; omega, hp', rfl⟩⟩

theorem mem_cases_0 {f : Str} (h : f ∈ [("kept_base" : Str), ("kept_changes" : Str), ("rows" : Str), ("extent" : Str)]) : f = "kept_base" ∨ f = "kept_changes" ∨ f = "rows" ∨ f = "extent" := by simpa using h
def clOf (C0 : Addr) : Nat → Cl := fun n => match n with | 0 => ⟨C0, ["kept_base", "kept_changes", "rows", "extent"], none, []⟩ | _ => default
theorem all_mk {P : Program} {w : World} {K : PySem.W.Frag} {h : Heap} {mg : Str → Option Value} {fa : Addr} (X : K.In h) (G : h.Ns mainGlobals mg) (hfa : mg "law" = some (.ref fa))
    {t_MOST_WEEK : Tok}
    {C0 : Addr}
    {gl0 : Addr}
    {gm0 : Addr}
    {f_law_pool : Addr} {od_law_pool an_law_pool : Option Addr} {sl_law_pool : Array (Option Value)} {oc_law_pool kV_law_pool dc_law_pool pm_law_pool cd_law_pool ct_law_pool : Value}
    {f_law_draw : Addr} {od_law_draw an_law_draw : Option Addr} {sl_law_draw : Array (Option Value)} {oc_law_draw kV_law_draw dc_law_draw pm_law_draw cd_law_draw ct_law_draw : Value}
    {f_check_weeks : Addr} {od_check_weeks an_check_weeks : Option Addr} {sl_check_weeks : Array (Option Value)} {oc_check_weeks kV_check_weeks dc_check_weeks pm_check_weeks cd_check_weeks ct_check_weeks : Value}
    {f_rows_of : Addr} {od_rows_of an_rows_of : Option Addr} {sl_rows_of : Array (Option Value)} {oc_rows_of kV_rows_of dc_rows_of pm_rows_of cd_rows_of ct_rows_of : Value}
    {f_count_up_to : Addr} {od_count_up_to an_count_up_to : Option Addr} {sl_count_up_to : Array (Option Value)} {oc_count_up_to kV_count_up_to dc_count_up_to pm_count_up_to cd_count_up_to ct_count_up_to : Value}
    {f_offset_at : Addr} {od_offset_at an_offset_at : Option Addr} {sl_offset_at : Array (Option Value)} {oc_offset_at kV_offset_at dc_offset_at pm_offset_at cd_offset_at ct_offset_at : Value}
    {f_value_at : Addr} {od_value_at an_value_at : Option Addr} {sl_value_at : Array (Option Value)} {oc_value_at kV_value_at dc_value_at pm_value_at cd_value_at ct_value_at : Value}
    {f_extent_of : Addr} {od_extent_of an_extent_of : Option Addr} {sl_extent_of : Array (Option Value)} {oc_extent_of kV_extent_of dc_extent_of pm_extent_of cd_extent_of ct_extent_of : Value}
    {f_latest_start : Addr} {od_latest_start an_latest_start : Option Addr} {sl_latest_start : Array (Option Value)} {oc_latest_start kV_latest_start dc_latest_start pm_latest_start cd_latest_start ct_latest_start : Value}
    {f_first_start : Addr} {od_first_start an_first_start : Option Addr} {sl_first_start : Array (Option Value)} {oc_first_start kV_first_start dc_first_start pm_first_start cd_first_start ct_first_start : Value}
    {f_normal_changes : Addr} {od_normal_changes an_normal_changes : Option Addr} {sl_normal_changes : Array (Option Value)} {oc_normal_changes kV_normal_changes dc_normal_changes pm_normal_changes cd_normal_changes ct_normal_changes : Value}
    {f_asked_moments : Addr} {od_asked_moments an_asked_moments : Option Addr} {sl_asked_moments : Array (Option Value)} {oc_asked_moments kV_asked_moments dc_asked_moments pm_asked_moments cd_asked_moments ct_asked_moments : Value}
    {f_gathered : Addr} {od_gathered an_gathered : Option Addr} {sl_gathered : Array (Option Value)} {oc_gathered kV_gathered dc_gathered pm_gathered cd_gathered ct_gathered : Value}
    {f_nearer : Addr} {od_nearer an_nearer : Option Addr} {sl_nearer : Array (Option Value)} {oc_nearer kV_nearer dc_nearer pm_nearer cd_nearer ct_nearer : Value}
    {f_nearest_between : Addr} {od_nearest_between an_nearest_between : Option Addr} {sl_nearest_between : Array (Option Value)} {oc_nearest_between kV_nearest_between dc_nearest_between pm_nearest_between cd_nearest_between ct_nearest_between : Value}
    {f_shared_parts : Addr} {od_shared_parts an_shared_parts : Option Addr} {sl_shared_parts : Array (Option Value)} {oc_shared_parts kV_shared_parts dc_shared_parts pm_shared_parts cd_shared_parts ct_shared_parts : Value}
    {f_first_falling : Addr} {od_first_falling an_first_falling : Option Addr} {sl_first_falling : Array (Option Value)} {oc_first_falling kV_first_falling dc_first_falling pm_first_falling cd_first_falling ct_first_falling : Value}
    {f_steps_in_turn : Addr} {od_steps_in_turn an_steps_in_turn : Option Addr} {sl_steps_in_turn : Array (Option Value)} {oc_steps_in_turn kV_steps_in_turn dc_steps_in_turn pm_steps_in_turn cd_steps_in_turn ct_steps_in_turn : Value}
    {f_Rule_init : Addr} {od_Rule_init an_Rule_init : Option Addr} {sl_Rule_init : Array (Option Value)} {oc_Rule_init kV_Rule_init dc_Rule_init pm_Rule_init cd_Rule_init ct_Rule_init : Value}
    {f_Rule_week : Addr} {od_Rule_week an_Rule_week : Option Addr} {sl_Rule_week : Array (Option Value)} {oc_Rule_week kV_Rule_week dc_Rule_week pm_Rule_week cd_Rule_week ct_Rule_week : Value}
    {p_Rule_week : Addr} {r_Rule_week : List Value}
    {f_Rule_base : Addr} {od_Rule_base an_Rule_base : Option Addr} {sl_Rule_base : Array (Option Value)} {oc_Rule_base kV_Rule_base dc_Rule_base pm_Rule_base cd_Rule_base ct_Rule_base : Value}
    {p_Rule_base : Addr} {r_Rule_base : List Value}
    {f_Rule_changes : Addr} {od_Rule_changes an_Rule_changes : Option Addr} {sl_Rule_changes : Array (Option Value)} {oc_Rule_changes kV_Rule_changes dc_Rule_changes pm_Rule_changes cd_Rule_changes ct_Rule_changes : Value}
    {p_Rule_changes : Addr} {r_Rule_changes : List Value}
    {f_Rule_eq : Addr} {od_Rule_eq an_Rule_eq : Option Addr} {sl_Rule_eq : Array (Option Value)} {oc_Rule_eq kV_Rule_eq dc_Rule_eq pm_Rule_eq cd_Rule_eq ct_Rule_eq : Value}
    {f_Rule_call : Addr} {od_Rule_call an_Rule_call : Option Addr} {sl_Rule_call : Array (Option Value)} {oc_Rule_call kV_Rule_call dc_Rule_call pm_Rule_call cd_Rule_call ct_Rule_call : Value}
    {f_Rule_rshift : Addr} {od_Rule_rshift an_Rule_rshift : Option Addr} {sl_Rule_rshift : Array (Option Value)} {oc_Rule_rshift kV_Rule_rshift dc_Rule_rshift pm_Rule_rshift cd_Rule_rshift ct_Rule_rshift : Value}
    {f_Rule_mul : Addr} {od_Rule_mul an_Rule_mul : Option Addr} {sl_Rule_mul : Array (Option Value)} {oc_Rule_mul kV_Rule_mul dc_Rule_mul pm_Rule_mul cd_Rule_mul ct_Rule_mul : Value}
    {f_Rule_rmul : Addr} {od_Rule_rmul an_Rule_rmul : Option Addr} {sl_Rule_rmul : Array (Option Value)} {oc_Rule_rmul kV_Rule_rmul dc_Rule_rmul pm_Rule_rmul cd_Rule_rmul ct_Rule_rmul : Value}
    {f_Rule_or : Addr} {od_Rule_or an_Rule_or : Option Addr} {sl_Rule_or : Array (Option Value)} {oc_Rule_or kV_Rule_or dc_Rule_or pm_Rule_or cd_Rule_or ct_Rule_or : Value}
    {f_Rule_and : Addr} {od_Rule_and an_Rule_and : Option Addr} {sl_Rule_and : Array (Option Value)} {oc_Rule_and kV_Rule_and dc_Rule_and pm_Rule_and cd_Rule_and ct_Rule_and : Value}
    {f_in_turn : Addr} {od_in_turn an_in_turn : Option Addr} {sl_in_turn : Array (Option Value)} {oc_in_turn kV_in_turn dc_in_turn pm_in_turn cd_in_turn ct_in_turn : Value}
    {f_later_of : Addr} {od_later_of an_later_of : Option Addr} {sl_later_of : Array (Option Value)} {oc_later_of kV_later_of dc_later_of pm_later_of cd_later_of ct_later_of : Value}
    {f_earlier_of : Addr} {od_earlier_of an_earlier_of : Option Addr} {sl_earlier_of : Array (Option Value)} {oc_earlier_of kV_earlier_of dc_earlier_of pm_earlier_of cd_earlier_of ct_earlier_of : Value}
    {f_law_offset : Addr} {od_law_offset an_law_offset : Option Addr} {sl_law_offset : Array (Option Value)} {oc_law_offset kV_law_offset dc_law_offset pm_law_offset cd_law_offset ct_law_offset : Value}
    {f_law_rising : Addr} {od_law_rising an_law_rising : Option Addr} {sl_law_rising : Array (Option Value)} {oc_law_rising kV_law_rising dc_law_rising pm_law_rising cd_law_rising ct_law_rising : Value}
    {f_law_lone : Addr} {od_law_lone an_law_lone : Option Addr} {sl_law_lone : Array (Option Value)} {oc_law_lone kV_law_lone dc_law_lone pm_law_lone cd_law_lone ct_law_lone : Value}
    {f_law_shape : Addr} {od_law_shape an_law_shape : Option Addr} {sl_law_shape : Array (Option Value)} {oc_law_shape kV_law_shape dc_law_shape pm_law_shape cd_law_shape ct_law_shape : Value}
    {f_law_wide : Addr} {od_law_wide an_law_wide : Option Addr} {sl_law_wide : Array (Option Value)} {oc_law_wide kV_law_wide dc_law_wide pm_law_wide cd_law_wide ct_law_wide : Value}
    {f_law_far : Addr} {od_law_far an_law_far : Option Addr} {sl_law_far : Array (Option Value)} {oc_law_far kV_law_far dc_law_far pm_law_far cd_law_far ct_law_far : Value}
    {f_law_start : Addr} {od_law_start an_law_start : Option Addr} {sl_law_start : Array (Option Value)} {oc_law_start kV_law_start dc_law_start pm_law_start cd_law_start ct_law_start : Value}
    {f_law_groups : Addr} {od_law_groups an_law_groups : Option Addr} {sl_law_groups : Array (Option Value)} {oc_law_groups kV_law_groups dc_law_groups pm_law_groups cd_law_groups ct_law_groups : Value}
    {f_law_wait : Addr} {od_law_wait an_law_wait : Option Addr} {sl_law_wait : Array (Option Value)} {oc_law_wait kV_law_wait dc_law_wait pm_law_wait cd_law_wait ct_law_wait : Value}
    {f_law_both : Addr} {od_law_both an_law_both : Option Addr} {sl_law_both : Array (Option Value)} {oc_law_both kV_law_both dc_law_both pm_law_both cd_law_both ct_law_both : Value}
    {f_law_made : Addr} {od_law_made an_law_made : Option Addr} {sl_law_made : Array (Option Value)} {oc_law_made kV_law_made dc_law_made pm_law_made cd_law_made ct_law_made : Value}
    {f_law_twice : Addr} {od_law_twice an_law_twice : Option Addr} {sl_law_twice : Array (Option Value)} {oc_law_twice kV_law_twice dc_law_twice pm_law_twice cd_law_twice ct_law_twice : Value}
    {f_law_right : Addr} {od_law_right an_law_right : Option Addr} {sl_law_right : Array (Option Value)} {oc_law_right kV_law_right dc_law_right pm_law_right cd_law_right ct_law_right : Value}
    {f_law : Addr} {od_law an_law : Option Addr} {sl_law : Array (Option Value)} {oc_law kV_law dc_law pm_law cd_law ct_law : Value}
    (bnall : ∀ x ∈ bnames, PySem.W.nsIn K mainGlobals x = some none)
    (q_MOST_WEEK : PySem.W.nsIn K mainGlobals "MOST_WEEK" = some (some (.int 12 t_MOST_WEEK)))
    (cn0 : PySem.W.nsIn K mainGlobals "Rule" = some (some (.ref C0)))
    (pg0 : PySem.W.plainGet K C0 Str.empty = true)
    (hd0 : PySem.W.hasDictIn K C0 = true)
    (po0 : PySem.W.plainOver K C0 = true)
    (sa0 : PySem.W.findIn K (.ref C0) "__setattr__" = some (some (.builtin "object.__setattr__")))
    (no0_kept_base : PySem.W.findIn K (.ref C0) "kept_base" = some none)
    (no0_kept_changes : PySem.W.findIn K (.ref C0) "kept_changes" = some none)
    (no0_rows : PySem.W.findIn K (.ref C0) "rows" = some none)
    (no0_extent : PySem.W.findIn K (.ref C0) "extent" = some none)
    (ica0 : PySem.W.findIn K (.ref C0) "__class__" = some (some (.builtin "object.__class__")))
    (icg0 : PySem.W.specialIn K (.builtin "object.__class__") "__get__" = some (some (.builtin "getset_descriptor.__get__")))
    (ict0 : PySem.W.takesIn K (.builtin "object.__class__") = some true)
    (icm0 : PySem.W.mroIn K C0 (.type "object") = some true)
    (ik0_0 : PySem.W.kitOne K (.type "int") (.ref C0) = some false)
    (ik0_1 : PySem.W.kitOne K (.type "bool") (.ref C0) = some false)
    (ik0_2 : PySem.W.kitOne K (.type "str") (.ref C0) = some false)
    (ik0_3 : PySem.W.kitOne K (.type "list") (.ref C0) = some false)
    (ik0_4 : PySem.W.kitOne K (.type "tuple") (.ref C0) = some false)
    (ik0_5 : PySem.W.kitOne K (.type "NoneType") (.ref C0) = some false)
    (ml0 : PySem.W.findIn K (.ref C0) "__mul__" = some (some (.ref gl0)))
    (mn0 : PySem.W.subIn K (.ref C0) (.type "int") = some false)
    (mr0 : PySem.W.findIn K (.ref C0) "__rmul__" = some (some (.ref gm0)))
    (sf0 : PySem.W.selfFirst K C0 = true)
    (a_law_pool : PySem.W.nsIn K mainGlobals "_law_pool" = some (some (.ref f_law_pool)))
    (l_law_pool : K.lookup f_law_pool = some ⟨oc_law_pool, od_law_pool, .func (PySem.W.fnOf "_law_pool" "_law_pool" (defArgs st_law_pool) (defBody st_law_pool) (defScope st_law_pool) .none kV_law_pool dc_law_pool pm_law_pool an_law_pool cd_law_pool ct_law_pool), sl_law_pool⟩)
    (cc_law_pool : PySem.W.codeIn K cd_law_pool "_law_pool" = true)
    (k_law_pool : PySem.W.keepIn K (.ref f_law_pool) = true)
    (a_law_draw : PySem.W.nsIn K mainGlobals "_law_draw" = some (some (.ref f_law_draw)))
    (l_law_draw : K.lookup f_law_draw = some ⟨oc_law_draw, od_law_draw, .func (PySem.W.fnOf "_law_draw" "_law_draw" (defArgs st_law_draw) (defBody st_law_draw) (defScope st_law_draw) .none kV_law_draw dc_law_draw pm_law_draw an_law_draw cd_law_draw ct_law_draw), sl_law_draw⟩)
    (cc_law_draw : PySem.W.codeIn K cd_law_draw "_law_draw" = true)
    (k_law_draw : PySem.W.keepIn K (.ref f_law_draw) = true)
    (a_check_weeks : PySem.W.nsIn K mainGlobals "check_weeks" = some (some (.ref f_check_weeks)))
    (l_check_weeks : K.lookup f_check_weeks = some ⟨oc_check_weeks, od_check_weeks, .func (PySem.W.fnOf "check_weeks" "check_weeks" (defArgs st_check_weeks) (defBody st_check_weeks) (defScope st_check_weeks) .none kV_check_weeks dc_check_weeks pm_check_weeks an_check_weeks cd_check_weeks ct_check_weeks), sl_check_weeks⟩)
    (cc_check_weeks : PySem.W.codeIn K cd_check_weeks "check_weeks" = true)
    (k_check_weeks : PySem.W.keepIn K (.ref f_check_weeks) = true)
    (a_rows_of : PySem.W.nsIn K mainGlobals "rows_of" = some (some (.ref f_rows_of)))
    (l_rows_of : K.lookup f_rows_of = some ⟨oc_rows_of, od_rows_of, .func (PySem.W.fnOf "rows_of" "rows_of" (defArgs st_rows_of) (defBody st_rows_of) (defScope st_rows_of) .none kV_rows_of dc_rows_of pm_rows_of an_rows_of cd_rows_of ct_rows_of), sl_rows_of⟩)
    (cc_rows_of : PySem.W.codeIn K cd_rows_of "rows_of" = true)
    (k_rows_of : PySem.W.keepIn K (.ref f_rows_of) = true)
    (a_count_up_to : PySem.W.nsIn K mainGlobals "count_up_to" = some (some (.ref f_count_up_to)))
    (l_count_up_to : K.lookup f_count_up_to = some ⟨oc_count_up_to, od_count_up_to, .func (PySem.W.fnOf "count_up_to" "count_up_to" (defArgs st_count_up_to) (defBody st_count_up_to) (defScope st_count_up_to) .none kV_count_up_to dc_count_up_to pm_count_up_to an_count_up_to cd_count_up_to ct_count_up_to), sl_count_up_to⟩)
    (cc_count_up_to : PySem.W.codeIn K cd_count_up_to "count_up_to" = true)
    (k_count_up_to : PySem.W.keepIn K (.ref f_count_up_to) = true)
    (a_offset_at : PySem.W.nsIn K mainGlobals "offset_at" = some (some (.ref f_offset_at)))
    (l_offset_at : K.lookup f_offset_at = some ⟨oc_offset_at, od_offset_at, .func (PySem.W.fnOf "offset_at" "offset_at" (defArgs st_offset_at) (defBody st_offset_at) (defScope st_offset_at) .none kV_offset_at dc_offset_at pm_offset_at an_offset_at cd_offset_at ct_offset_at), sl_offset_at⟩)
    (cc_offset_at : PySem.W.codeIn K cd_offset_at "offset_at" = true)
    (k_offset_at : PySem.W.keepIn K (.ref f_offset_at) = true)
    (a_value_at : PySem.W.nsIn K mainGlobals "value_at" = some (some (.ref f_value_at)))
    (l_value_at : K.lookup f_value_at = some ⟨oc_value_at, od_value_at, .func (PySem.W.fnOf "value_at" "value_at" (defArgs st_value_at) (defBody st_value_at) (defScope st_value_at) .none kV_value_at dc_value_at pm_value_at an_value_at cd_value_at ct_value_at), sl_value_at⟩)
    (cc_value_at : PySem.W.codeIn K cd_value_at "value_at" = true)
    (k_value_at : PySem.W.keepIn K (.ref f_value_at) = true)
    (a_extent_of : PySem.W.nsIn K mainGlobals "extent_of" = some (some (.ref f_extent_of)))
    (l_extent_of : K.lookup f_extent_of = some ⟨oc_extent_of, od_extent_of, .func (PySem.W.fnOf "extent_of" "extent_of" (defArgs st_extent_of) (defBody st_extent_of) (defScope st_extent_of) .none kV_extent_of dc_extent_of pm_extent_of an_extent_of cd_extent_of ct_extent_of), sl_extent_of⟩)
    (cc_extent_of : PySem.W.codeIn K cd_extent_of "extent_of" = true)
    (k_extent_of : PySem.W.keepIn K (.ref f_extent_of) = true)
    (a_latest_start : PySem.W.nsIn K mainGlobals "latest_start" = some (some (.ref f_latest_start)))
    (l_latest_start : K.lookup f_latest_start = some ⟨oc_latest_start, od_latest_start, .func (PySem.W.fnOf "latest_start" "latest_start" (defArgs st_latest_start) (defBody st_latest_start) (defScope st_latest_start) .none kV_latest_start dc_latest_start pm_latest_start an_latest_start cd_latest_start ct_latest_start), sl_latest_start⟩)
    (cc_latest_start : PySem.W.codeIn K cd_latest_start "latest_start" = true)
    (k_latest_start : PySem.W.keepIn K (.ref f_latest_start) = true)
    (a_first_start : PySem.W.nsIn K mainGlobals "first_start" = some (some (.ref f_first_start)))
    (l_first_start : K.lookup f_first_start = some ⟨oc_first_start, od_first_start, .func (PySem.W.fnOf "first_start" "first_start" (defArgs st_first_start) (defBody st_first_start) (defScope st_first_start) .none kV_first_start dc_first_start pm_first_start an_first_start cd_first_start ct_first_start), sl_first_start⟩)
    (cc_first_start : PySem.W.codeIn K cd_first_start "first_start" = true)
    (k_first_start : PySem.W.keepIn K (.ref f_first_start) = true)
    (a_normal_changes : PySem.W.nsIn K mainGlobals "normal_changes" = some (some (.ref f_normal_changes)))
    (l_normal_changes : K.lookup f_normal_changes = some ⟨oc_normal_changes, od_normal_changes, .func (PySem.W.fnOf "normal_changes" "normal_changes" (defArgs st_normal_changes) (defBody st_normal_changes) (defScope st_normal_changes) .none kV_normal_changes dc_normal_changes pm_normal_changes an_normal_changes cd_normal_changes ct_normal_changes), sl_normal_changes⟩)
    (cc_normal_changes : PySem.W.codeIn K cd_normal_changes "normal_changes" = true)
    (k_normal_changes : PySem.W.keepIn K (.ref f_normal_changes) = true)
    (a_asked_moments : PySem.W.nsIn K mainGlobals "asked_moments" = some (some (.ref f_asked_moments)))
    (l_asked_moments : K.lookup f_asked_moments = some ⟨oc_asked_moments, od_asked_moments, .func (PySem.W.fnOf "asked_moments" "asked_moments" (defArgs st_asked_moments) (defBody st_asked_moments) (defScope st_asked_moments) .none kV_asked_moments dc_asked_moments pm_asked_moments an_asked_moments cd_asked_moments ct_asked_moments), sl_asked_moments⟩)
    (cc_asked_moments : PySem.W.codeIn K cd_asked_moments "asked_moments" = true)
    (k_asked_moments : PySem.W.keepIn K (.ref f_asked_moments) = true)
    (a_gathered : PySem.W.nsIn K mainGlobals "gathered" = some (some (.ref f_gathered)))
    (l_gathered : K.lookup f_gathered = some ⟨oc_gathered, od_gathered, .func (PySem.W.fnOf "gathered" "gathered" (defArgs st_gathered) (defBody st_gathered) (defScope st_gathered) .none kV_gathered dc_gathered pm_gathered an_gathered cd_gathered ct_gathered), sl_gathered⟩)
    (cc_gathered : PySem.W.codeIn K cd_gathered "gathered" = true)
    (k_gathered : PySem.W.keepIn K (.ref f_gathered) = true)
    (a_nearer : PySem.W.nsIn K mainGlobals "nearer" = some (some (.ref f_nearer)))
    (l_nearer : K.lookup f_nearer = some ⟨oc_nearer, od_nearer, .func (PySem.W.fnOf "nearer" "nearer" (defArgs st_nearer) (defBody st_nearer) (defScope st_nearer) .none kV_nearer dc_nearer pm_nearer an_nearer cd_nearer ct_nearer), sl_nearer⟩)
    (cc_nearer : PySem.W.codeIn K cd_nearer "nearer" = true)
    (k_nearer : PySem.W.keepIn K (.ref f_nearer) = true)
    (a_nearest_between : PySem.W.nsIn K mainGlobals "nearest_between" = some (some (.ref f_nearest_between)))
    (l_nearest_between : K.lookup f_nearest_between = some ⟨oc_nearest_between, od_nearest_between, .func (PySem.W.fnOf "nearest_between" "nearest_between" (defArgs st_nearest_between) (defBody st_nearest_between) (defScope st_nearest_between) .none kV_nearest_between dc_nearest_between pm_nearest_between an_nearest_between cd_nearest_between ct_nearest_between), sl_nearest_between⟩)
    (cc_nearest_between : PySem.W.codeIn K cd_nearest_between "nearest_between" = true)
    (k_nearest_between : PySem.W.keepIn K (.ref f_nearest_between) = true)
    (a_shared_parts : PySem.W.nsIn K mainGlobals "shared_parts" = some (some (.ref f_shared_parts)))
    (l_shared_parts : K.lookup f_shared_parts = some ⟨oc_shared_parts, od_shared_parts, .func (PySem.W.fnOf "shared_parts" "shared_parts" (defArgs st_shared_parts) (defBody st_shared_parts) (defScope st_shared_parts) .none kV_shared_parts dc_shared_parts pm_shared_parts an_shared_parts cd_shared_parts ct_shared_parts), sl_shared_parts⟩)
    (cc_shared_parts : PySem.W.codeIn K cd_shared_parts "shared_parts" = true)
    (k_shared_parts : PySem.W.keepIn K (.ref f_shared_parts) = true)
    (a_first_falling : PySem.W.nsIn K mainGlobals "first_falling" = some (some (.ref f_first_falling)))
    (l_first_falling : K.lookup f_first_falling = some ⟨oc_first_falling, od_first_falling, .func (PySem.W.fnOf "first_falling" "first_falling" (defArgs st_first_falling) (defBody st_first_falling) (defScope st_first_falling) .none kV_first_falling dc_first_falling pm_first_falling an_first_falling cd_first_falling ct_first_falling), sl_first_falling⟩)
    (cc_first_falling : PySem.W.codeIn K cd_first_falling "first_falling" = true)
    (k_first_falling : PySem.W.keepIn K (.ref f_first_falling) = true)
    (a_steps_in_turn : PySem.W.nsIn K mainGlobals "steps_in_turn" = some (some (.ref f_steps_in_turn)))
    (l_steps_in_turn : K.lookup f_steps_in_turn = some ⟨oc_steps_in_turn, od_steps_in_turn, .func (PySem.W.fnOf "steps_in_turn" "steps_in_turn" (defArgs st_steps_in_turn) (defBody st_steps_in_turn) (defScope st_steps_in_turn) .none kV_steps_in_turn dc_steps_in_turn pm_steps_in_turn an_steps_in_turn cd_steps_in_turn ct_steps_in_turn), sl_steps_in_turn⟩)
    (cc_steps_in_turn : PySem.W.codeIn K cd_steps_in_turn "steps_in_turn" = true)
    (k_steps_in_turn : PySem.W.keepIn K (.ref f_steps_in_turn) = true)
    (a_Rule_init : PySem.W.findIn K (.ref C0) "__init__" = some (some (.ref f_Rule_init)))
    (i_Rule_init : PySem.W.isFn K (.ref f_Rule_init) = true)
    (mk_Rule_init : PySem.W.makesIn K C0 = true)
    (kc_Rule_init : PySem.W.keepIn K (.ref C0) = true)
    (l_Rule_init : K.lookup f_Rule_init = some ⟨oc_Rule_init, od_Rule_init, .func (PySem.W.fnOf "__init__" "Rule.__init__" (defArgs st_Rule_init) (defBody st_Rule_init) (defScope st_Rule_init) .none kV_Rule_init dc_Rule_init pm_Rule_init an_Rule_init cd_Rule_init ct_Rule_init), sl_Rule_init⟩)
    (cc_Rule_init : PySem.W.codeIn K cd_Rule_init "Rule.__init__" = true)
    (k_Rule_init : PySem.W.keepIn K (.ref f_Rule_init) = true)
    (a_Rule_week : PySem.W.findIn K (.ref C0) "week" = some (some (.ref p_Rule_week)))
    (pgt_Rule_week : PySem.W.specialIn K (.ref p_Rule_week) "__get__" = some (some (.builtin "property.__get__")))
    (ptk_Rule_week : PySem.W.takesIn K (.ref p_Rule_week) = some true)
    (prc_Rule_week : PySem.W.recIn K p_Rule_week "property" = some (.ref f_Rule_week :: r_Rule_week))
    (l_Rule_week : K.lookup f_Rule_week = some ⟨oc_Rule_week, od_Rule_week, .func (PySem.W.fnOf "week" "Rule.week" (defArgs st_Rule_week) (defBody st_Rule_week) (defScope st_Rule_week) .none kV_Rule_week dc_Rule_week pm_Rule_week an_Rule_week cd_Rule_week ct_Rule_week), sl_Rule_week⟩)
    (cc_Rule_week : PySem.W.codeIn K cd_Rule_week "Rule.week" = true)
    (k_Rule_week : PySem.W.keepIn K (.ref f_Rule_week) = true)
    (a_Rule_base : PySem.W.findIn K (.ref C0) "base" = some (some (.ref p_Rule_base)))
    (pgt_Rule_base : PySem.W.specialIn K (.ref p_Rule_base) "__get__" = some (some (.builtin "property.__get__")))
    (ptk_Rule_base : PySem.W.takesIn K (.ref p_Rule_base) = some true)
    (prc_Rule_base : PySem.W.recIn K p_Rule_base "property" = some (.ref f_Rule_base :: r_Rule_base))
    (l_Rule_base : K.lookup f_Rule_base = some ⟨oc_Rule_base, od_Rule_base, .func (PySem.W.fnOf "base" "Rule.base" (defArgs st_Rule_base) (defBody st_Rule_base) (defScope st_Rule_base) .none kV_Rule_base dc_Rule_base pm_Rule_base an_Rule_base cd_Rule_base ct_Rule_base), sl_Rule_base⟩)
    (cc_Rule_base : PySem.W.codeIn K cd_Rule_base "Rule.base" = true)
    (k_Rule_base : PySem.W.keepIn K (.ref f_Rule_base) = true)
    (a_Rule_changes : PySem.W.findIn K (.ref C0) "changes" = some (some (.ref p_Rule_changes)))
    (pgt_Rule_changes : PySem.W.specialIn K (.ref p_Rule_changes) "__get__" = some (some (.builtin "property.__get__")))
    (ptk_Rule_changes : PySem.W.takesIn K (.ref p_Rule_changes) = some true)
    (prc_Rule_changes : PySem.W.recIn K p_Rule_changes "property" = some (.ref f_Rule_changes :: r_Rule_changes))
    (l_Rule_changes : K.lookup f_Rule_changes = some ⟨oc_Rule_changes, od_Rule_changes, .func (PySem.W.fnOf "changes" "Rule.changes" (defArgs st_Rule_changes) (defBody st_Rule_changes) (defScope st_Rule_changes) .none kV_Rule_changes dc_Rule_changes pm_Rule_changes an_Rule_changes cd_Rule_changes ct_Rule_changes), sl_Rule_changes⟩)
    (cc_Rule_changes : PySem.W.codeIn K cd_Rule_changes "Rule.changes" = true)
    (k_Rule_changes : PySem.W.keepIn K (.ref f_Rule_changes) = true)
    (a_Rule_eq : PySem.W.findIn K (.ref C0) "__eq__" = some (some (.ref f_Rule_eq)))
    (i_Rule_eq : PySem.W.isFn K (.ref f_Rule_eq) = true)
    (fi_Rule_eq : PySem.W.fnIn K f_Rule_eq = true)
    (l_Rule_eq : K.lookup f_Rule_eq = some ⟨oc_Rule_eq, od_Rule_eq, .func (PySem.W.fnOf "__eq__" "Rule.__eq__" (defArgs st_Rule_eq) (defBody st_Rule_eq) (defScope st_Rule_eq) .none kV_Rule_eq dc_Rule_eq pm_Rule_eq an_Rule_eq cd_Rule_eq ct_Rule_eq), sl_Rule_eq⟩)
    (cc_Rule_eq : PySem.W.codeIn K cd_Rule_eq "Rule.__eq__" = true)
    (k_Rule_eq : PySem.W.keepIn K (.ref f_Rule_eq) = true)
    (a_Rule_call : PySem.W.findIn K (.ref C0) "__call__" = some (some (.ref f_Rule_call)))
    (i_Rule_call : PySem.W.isFn K (.ref f_Rule_call) = true)
    (fi_Rule_call : PySem.W.fnIn K f_Rule_call = true)
    (l_Rule_call : K.lookup f_Rule_call = some ⟨oc_Rule_call, od_Rule_call, .func (PySem.W.fnOf "__call__" "Rule.__call__" (defArgs st_Rule_call) (defBody st_Rule_call) (defScope st_Rule_call) .none kV_Rule_call dc_Rule_call pm_Rule_call an_Rule_call cd_Rule_call ct_Rule_call), sl_Rule_call⟩)
    (cc_Rule_call : PySem.W.codeIn K cd_Rule_call "Rule.__call__" = true)
    (k_Rule_call : PySem.W.keepIn K (.ref f_Rule_call) = true)
    (a_Rule_rshift : PySem.W.findIn K (.ref C0) "__rshift__" = some (some (.ref f_Rule_rshift)))
    (i_Rule_rshift : PySem.W.isFn K (.ref f_Rule_rshift) = true)
    (fi_Rule_rshift : PySem.W.fnIn K f_Rule_rshift = true)
    (l_Rule_rshift : K.lookup f_Rule_rshift = some ⟨oc_Rule_rshift, od_Rule_rshift, .func (PySem.W.fnOf "__rshift__" "Rule.__rshift__" (defArgs st_Rule_rshift) (defBody st_Rule_rshift) (defScope st_Rule_rshift) .none kV_Rule_rshift dc_Rule_rshift pm_Rule_rshift an_Rule_rshift cd_Rule_rshift ct_Rule_rshift), sl_Rule_rshift⟩)
    (cc_Rule_rshift : PySem.W.codeIn K cd_Rule_rshift "Rule.__rshift__" = true)
    (k_Rule_rshift : PySem.W.keepIn K (.ref f_Rule_rshift) = true)
    (a_Rule_mul : PySem.W.findIn K (.ref C0) "__mul__" = some (some (.ref f_Rule_mul)))
    (i_Rule_mul : PySem.W.isFn K (.ref f_Rule_mul) = true)
    (fi_Rule_mul : PySem.W.fnIn K f_Rule_mul = true)
    (l_Rule_mul : K.lookup f_Rule_mul = some ⟨oc_Rule_mul, od_Rule_mul, .func (PySem.W.fnOf "__mul__" "Rule.__mul__" (defArgs st_Rule_mul) (defBody st_Rule_mul) (defScope st_Rule_mul) .none kV_Rule_mul dc_Rule_mul pm_Rule_mul an_Rule_mul cd_Rule_mul ct_Rule_mul), sl_Rule_mul⟩)
    (cc_Rule_mul : PySem.W.codeIn K cd_Rule_mul "Rule.__mul__" = true)
    (k_Rule_mul : PySem.W.keepIn K (.ref f_Rule_mul) = true)
    (a_Rule_rmul : PySem.W.findIn K (.ref C0) "__rmul__" = some (some (.ref f_Rule_rmul)))
    (i_Rule_rmul : PySem.W.isFn K (.ref f_Rule_rmul) = true)
    (fi_Rule_rmul : PySem.W.fnIn K f_Rule_rmul = true)
    (l_Rule_rmul : K.lookup f_Rule_rmul = some ⟨oc_Rule_rmul, od_Rule_rmul, .func (PySem.W.fnOf "__rmul__" "Rule.__rmul__" (defArgs st_Rule_rmul) (defBody st_Rule_rmul) (defScope st_Rule_rmul) .none kV_Rule_rmul dc_Rule_rmul pm_Rule_rmul an_Rule_rmul cd_Rule_rmul ct_Rule_rmul), sl_Rule_rmul⟩)
    (cc_Rule_rmul : PySem.W.codeIn K cd_Rule_rmul "Rule.__rmul__" = true)
    (k_Rule_rmul : PySem.W.keepIn K (.ref f_Rule_rmul) = true)
    (a_Rule_or : PySem.W.findIn K (.ref C0) "__or__" = some (some (.ref f_Rule_or)))
    (i_Rule_or : PySem.W.isFn K (.ref f_Rule_or) = true)
    (fi_Rule_or : PySem.W.fnIn K f_Rule_or = true)
    (l_Rule_or : K.lookup f_Rule_or = some ⟨oc_Rule_or, od_Rule_or, .func (PySem.W.fnOf "__or__" "Rule.__or__" (defArgs st_Rule_or) (defBody st_Rule_or) (defScope st_Rule_or) .none kV_Rule_or dc_Rule_or pm_Rule_or an_Rule_or cd_Rule_or ct_Rule_or), sl_Rule_or⟩)
    (cc_Rule_or : PySem.W.codeIn K cd_Rule_or "Rule.__or__" = true)
    (k_Rule_or : PySem.W.keepIn K (.ref f_Rule_or) = true)
    (a_Rule_and : PySem.W.findIn K (.ref C0) "__and__" = some (some (.ref f_Rule_and)))
    (i_Rule_and : PySem.W.isFn K (.ref f_Rule_and) = true)
    (fi_Rule_and : PySem.W.fnIn K f_Rule_and = true)
    (l_Rule_and : K.lookup f_Rule_and = some ⟨oc_Rule_and, od_Rule_and, .func (PySem.W.fnOf "__and__" "Rule.__and__" (defArgs st_Rule_and) (defBody st_Rule_and) (defScope st_Rule_and) .none kV_Rule_and dc_Rule_and pm_Rule_and an_Rule_and cd_Rule_and ct_Rule_and), sl_Rule_and⟩)
    (cc_Rule_and : PySem.W.codeIn K cd_Rule_and "Rule.__and__" = true)
    (k_Rule_and : PySem.W.keepIn K (.ref f_Rule_and) = true)
    (a_in_turn : PySem.W.nsIn K mainGlobals "in_turn" = some (some (.ref f_in_turn)))
    (l_in_turn : K.lookup f_in_turn = some ⟨oc_in_turn, od_in_turn, .func (PySem.W.fnOf "in_turn" "in_turn" (defArgs st_in_turn) (defBody st_in_turn) (defScope st_in_turn) .none kV_in_turn dc_in_turn pm_in_turn an_in_turn cd_in_turn ct_in_turn), sl_in_turn⟩)
    (cc_in_turn : PySem.W.codeIn K cd_in_turn "in_turn" = true)
    (k_in_turn : PySem.W.keepIn K (.ref f_in_turn) = true)
    (a_later_of : PySem.W.nsIn K mainGlobals "later_of" = some (some (.ref f_later_of)))
    (l_later_of : K.lookup f_later_of = some ⟨oc_later_of, od_later_of, .func (PySem.W.fnOf "later_of" "later_of" (defArgs st_later_of) (defBody st_later_of) (defScope st_later_of) .none kV_later_of dc_later_of pm_later_of an_later_of cd_later_of ct_later_of), sl_later_of⟩)
    (cc_later_of : PySem.W.codeIn K cd_later_of "later_of" = true)
    (k_later_of : PySem.W.keepIn K (.ref f_later_of) = true)
    (a_earlier_of : PySem.W.nsIn K mainGlobals "earlier_of" = some (some (.ref f_earlier_of)))
    (l_earlier_of : K.lookup f_earlier_of = some ⟨oc_earlier_of, od_earlier_of, .func (PySem.W.fnOf "earlier_of" "earlier_of" (defArgs st_earlier_of) (defBody st_earlier_of) (defScope st_earlier_of) .none kV_earlier_of dc_earlier_of pm_earlier_of an_earlier_of cd_earlier_of ct_earlier_of), sl_earlier_of⟩)
    (cc_earlier_of : PySem.W.codeIn K cd_earlier_of "earlier_of" = true)
    (k_earlier_of : PySem.W.keepIn K (.ref f_earlier_of) = true)
    (a_law_offset : PySem.W.nsIn K mainGlobals "_law_offset" = some (some (.ref f_law_offset)))
    (l_law_offset : K.lookup f_law_offset = some ⟨oc_law_offset, od_law_offset, .func (PySem.W.fnOf "_law_offset" "_law_offset" (defArgs st_law_offset) (defBody st_law_offset) (defScope st_law_offset) .none kV_law_offset dc_law_offset pm_law_offset an_law_offset cd_law_offset ct_law_offset), sl_law_offset⟩)
    (cc_law_offset : PySem.W.codeIn K cd_law_offset "_law_offset" = true)
    (k_law_offset : PySem.W.keepIn K (.ref f_law_offset) = true)
    (a_law_rising : PySem.W.nsIn K mainGlobals "_law_rising" = some (some (.ref f_law_rising)))
    (l_law_rising : K.lookup f_law_rising = some ⟨oc_law_rising, od_law_rising, .func (PySem.W.fnOf "_law_rising" "_law_rising" (defArgs st_law_rising) (defBody st_law_rising) (defScope st_law_rising) .none kV_law_rising dc_law_rising pm_law_rising an_law_rising cd_law_rising ct_law_rising), sl_law_rising⟩)
    (cc_law_rising : PySem.W.codeIn K cd_law_rising "_law_rising" = true)
    (k_law_rising : PySem.W.keepIn K (.ref f_law_rising) = true)
    (a_law_lone : PySem.W.nsIn K mainGlobals "_law_lone" = some (some (.ref f_law_lone)))
    (l_law_lone : K.lookup f_law_lone = some ⟨oc_law_lone, od_law_lone, .func (PySem.W.fnOf "_law_lone" "_law_lone" (defArgs st_law_lone) (defBody st_law_lone) (defScope st_law_lone) .none kV_law_lone dc_law_lone pm_law_lone an_law_lone cd_law_lone ct_law_lone), sl_law_lone⟩)
    (cc_law_lone : PySem.W.codeIn K cd_law_lone "_law_lone" = true)
    (k_law_lone : PySem.W.keepIn K (.ref f_law_lone) = true)
    (a_law_shape : PySem.W.nsIn K mainGlobals "_law_shape" = some (some (.ref f_law_shape)))
    (l_law_shape : K.lookup f_law_shape = some ⟨oc_law_shape, od_law_shape, .func (PySem.W.fnOf "_law_shape" "_law_shape" (defArgs st_law_shape) (defBody st_law_shape) (defScope st_law_shape) .none kV_law_shape dc_law_shape pm_law_shape an_law_shape cd_law_shape ct_law_shape), sl_law_shape⟩)
    (cc_law_shape : PySem.W.codeIn K cd_law_shape "_law_shape" = true)
    (k_law_shape : PySem.W.keepIn K (.ref f_law_shape) = true)
    (a_law_wide : PySem.W.nsIn K mainGlobals "_law_wide" = some (some (.ref f_law_wide)))
    (l_law_wide : K.lookup f_law_wide = some ⟨oc_law_wide, od_law_wide, .func (PySem.W.fnOf "_law_wide" "_law_wide" (defArgs st_law_wide) (defBody st_law_wide) (defScope st_law_wide) .none kV_law_wide dc_law_wide pm_law_wide an_law_wide cd_law_wide ct_law_wide), sl_law_wide⟩)
    (cc_law_wide : PySem.W.codeIn K cd_law_wide "_law_wide" = true)
    (k_law_wide : PySem.W.keepIn K (.ref f_law_wide) = true)
    (a_law_far : PySem.W.nsIn K mainGlobals "_law_far" = some (some (.ref f_law_far)))
    (l_law_far : K.lookup f_law_far = some ⟨oc_law_far, od_law_far, .func (PySem.W.fnOf "_law_far" "_law_far" (defArgs st_law_far) (defBody st_law_far) (defScope st_law_far) .none kV_law_far dc_law_far pm_law_far an_law_far cd_law_far ct_law_far), sl_law_far⟩)
    (cc_law_far : PySem.W.codeIn K cd_law_far "_law_far" = true)
    (k_law_far : PySem.W.keepIn K (.ref f_law_far) = true)
    (a_law_start : PySem.W.nsIn K mainGlobals "_law_start" = some (some (.ref f_law_start)))
    (l_law_start : K.lookup f_law_start = some ⟨oc_law_start, od_law_start, .func (PySem.W.fnOf "_law_start" "_law_start" (defArgs st_law_start) (defBody st_law_start) (defScope st_law_start) .none kV_law_start dc_law_start pm_law_start an_law_start cd_law_start ct_law_start), sl_law_start⟩)
    (cc_law_start : PySem.W.codeIn K cd_law_start "_law_start" = true)
    (k_law_start : PySem.W.keepIn K (.ref f_law_start) = true)
    (a_law_groups : PySem.W.nsIn K mainGlobals "_law_groups" = some (some (.ref f_law_groups)))
    (l_law_groups : K.lookup f_law_groups = some ⟨oc_law_groups, od_law_groups, .func (PySem.W.fnOf "_law_groups" "_law_groups" (defArgs st_law_groups) (defBody st_law_groups) (defScope st_law_groups) .none kV_law_groups dc_law_groups pm_law_groups an_law_groups cd_law_groups ct_law_groups), sl_law_groups⟩)
    (cc_law_groups : PySem.W.codeIn K cd_law_groups "_law_groups" = true)
    (k_law_groups : PySem.W.keepIn K (.ref f_law_groups) = true)
    (a_law_wait : PySem.W.nsIn K mainGlobals "_law_wait" = some (some (.ref f_law_wait)))
    (l_law_wait : K.lookup f_law_wait = some ⟨oc_law_wait, od_law_wait, .func (PySem.W.fnOf "_law_wait" "_law_wait" (defArgs st_law_wait) (defBody st_law_wait) (defScope st_law_wait) .none kV_law_wait dc_law_wait pm_law_wait an_law_wait cd_law_wait ct_law_wait), sl_law_wait⟩)
    (cc_law_wait : PySem.W.codeIn K cd_law_wait "_law_wait" = true)
    (k_law_wait : PySem.W.keepIn K (.ref f_law_wait) = true)
    (a_law_both : PySem.W.nsIn K mainGlobals "_law_both" = some (some (.ref f_law_both)))
    (l_law_both : K.lookup f_law_both = some ⟨oc_law_both, od_law_both, .func (PySem.W.fnOf "_law_both" "_law_both" (defArgs st_law_both) (defBody st_law_both) (defScope st_law_both) .none kV_law_both dc_law_both pm_law_both an_law_both cd_law_both ct_law_both), sl_law_both⟩)
    (cc_law_both : PySem.W.codeIn K cd_law_both "_law_both" = true)
    (k_law_both : PySem.W.keepIn K (.ref f_law_both) = true)
    (a_law_made : PySem.W.nsIn K mainGlobals "_law_made" = some (some (.ref f_law_made)))
    (l_law_made : K.lookup f_law_made = some ⟨oc_law_made, od_law_made, .func (PySem.W.fnOf "_law_made" "_law_made" (defArgs st_law_made) (defBody st_law_made) (defScope st_law_made) .none kV_law_made dc_law_made pm_law_made an_law_made cd_law_made ct_law_made), sl_law_made⟩)
    (cc_law_made : PySem.W.codeIn K cd_law_made "_law_made" = true)
    (k_law_made : PySem.W.keepIn K (.ref f_law_made) = true)
    (a_law_twice : PySem.W.nsIn K mainGlobals "_law_twice" = some (some (.ref f_law_twice)))
    (l_law_twice : K.lookup f_law_twice = some ⟨oc_law_twice, od_law_twice, .func (PySem.W.fnOf "_law_twice" "_law_twice" (defArgs st_law_twice) (defBody st_law_twice) (defScope st_law_twice) .none kV_law_twice dc_law_twice pm_law_twice an_law_twice cd_law_twice ct_law_twice), sl_law_twice⟩)
    (cc_law_twice : PySem.W.codeIn K cd_law_twice "_law_twice" = true)
    (k_law_twice : PySem.W.keepIn K (.ref f_law_twice) = true)
    (a_law_right : PySem.W.nsIn K mainGlobals "_law_right" = some (some (.ref f_law_right)))
    (l_law_right : K.lookup f_law_right = some ⟨oc_law_right, od_law_right, .func (PySem.W.fnOf "_law_right" "_law_right" (defArgs st_law_right) (defBody st_law_right) (defScope st_law_right) .none kV_law_right dc_law_right pm_law_right an_law_right cd_law_right ct_law_right), sl_law_right⟩)
    (cc_law_right : PySem.W.codeIn K cd_law_right "_law_right" = true)
    (k_law_right : PySem.W.keepIn K (.ref f_law_right) = true)
    (a_law : PySem.W.nsIn K mainGlobals "law" = some (some (.ref f_law)))
    (l_law : K.lookup f_law = some ⟨oc_law, od_law, .func (PySem.W.fnOf "law" "law" (defArgs st_law) (defBody st_law) (defScope st_law) .none kV_law dc_law pm_law an_law cd_law ct_law), sl_law⟩)
    (cc_law : PySem.W.codeIn K cd_law "law" = true)
    (k_law : PySem.W.keepIn K (.ref f_law) = true) :
    ∃ (fd : FuncData) (cl : Nat → Cl) (exc : Nat → Addr), (cl 0).tab = [] ∧ (∀ (s : Shared) (v : Value), BindsTo s fd ⟨[v], []⟩ [("script", v)]) ∧ ∀ base : Heap, K.In base → base.Ns mainGlobals mg → FnG ⟨P, w, K, mg, base, cl, exc, true⟩ 12 fa fd ["script"] (spC ⟨P, w, K, mg, base, cl, exc, true⟩ [false] c_law) := by
  have e := hfa.symm.trans (PySem.W.mg_of X G a_law)
  cases e
  refine ⟨PySem.W.fnOf "law" "law" (defArgs st_law) (defBody st_law) (defScope st_law) .none kV_law dc_law pm_law an_law cd_law ct_law, clOf C0, fun _ => 0, rfl, fun s v => .of_eq rfl, fun base _ _ => ?_⟩
  have T : Tx ⟨P, w, K, mg, base, clOf C0, fun _ => 0, true⟩ := { bn := (fun x m => PySem.W.mg_none_of X G (bnall x m)), c_MOST_WEEK := ⟨_, PySem.W.mg_of X G q_MOST_WEEK⟩, K_0 := ⟨⟨pg0, hd0, po0, sa0⟩, by show List.Nodup (["kept_base", "kept_changes", "rows", "extent"] : List Str); decide +kernel, by intro f hf; rcases mem_cases_0 hf with rfl | rfl | rfl | rfl <;> assumption, by show List.length (["kept_base", "kept_changes", "rows", "extent"] : List Str) ≤ 100; decide⟩, F_0 := rfl, I_0 := ⟨PySem.W.mg_of X G cn0, ⟨⟨pg0, hd0, po0, sa0⟩, by show List.Nodup (["kept_base", "kept_changes", "rows", "extent"] : List Str); decide +kernel, by intro f hf; rcases mem_cases_0 hf with rfl | rfl | rfl | rfl <;> assumption, by show List.length (["kept_base", "kept_changes", "rows", "extent"] : List Str) ≤ 100; decide⟩, ica0, icg0, ict0, icm0, ik0_0, ik0_1, ik0_2, ik0_3, ik0_4, ik0_5⟩, ML_0 := ⟨⟨gl0, ml0⟩, mn0⟩, MR_0 := ⟨gm0, mr0⟩, S_0 := sf0, d_law_pool := ⟨_, _, PySem.W.mg_of X G a_law_pool, fun_mk (st := st_law_pool) l_law_pool cc_law_pool k_law_pool⟩, d_law_draw := ⟨_, _, PySem.W.mg_of X G a_law_draw, fun_mk (st := st_law_draw) l_law_draw cc_law_draw k_law_draw⟩, d_check_weeks := ⟨_, _, PySem.W.mg_of X G a_check_weeks, fun_mk (st := st_check_weeks) l_check_weeks cc_check_weeks k_check_weeks⟩, d_rows_of := ⟨_, _, PySem.W.mg_of X G a_rows_of, fun_mk (st := st_rows_of) l_rows_of cc_rows_of k_rows_of⟩, d_count_up_to := ⟨_, _, PySem.W.mg_of X G a_count_up_to, fun_mk (st := st_count_up_to) l_count_up_to cc_count_up_to k_count_up_to⟩, d_offset_at := ⟨_, _, PySem.W.mg_of X G a_offset_at, fun_mk (st := st_offset_at) l_offset_at cc_offset_at k_offset_at⟩, d_value_at := ⟨_, _, PySem.W.mg_of X G a_value_at, fun_mk (st := st_value_at) l_value_at cc_value_at k_value_at⟩, d_extent_of := ⟨_, _, PySem.W.mg_of X G a_extent_of, fun_mk (st := st_extent_of) l_extent_of cc_extent_of k_extent_of⟩, d_latest_start := ⟨_, _, PySem.W.mg_of X G a_latest_start, fun_mk (st := st_latest_start) l_latest_start cc_latest_start k_latest_start⟩, d_first_start := ⟨_, _, PySem.W.mg_of X G a_first_start, fun_mk (st := st_first_start) l_first_start cc_first_start k_first_start⟩, d_normal_changes := ⟨_, _, PySem.W.mg_of X G a_normal_changes, fun_mk (st := st_normal_changes) l_normal_changes cc_normal_changes k_normal_changes⟩, d_asked_moments := ⟨_, _, PySem.W.mg_of X G a_asked_moments, fun_mk (st := st_asked_moments) l_asked_moments cc_asked_moments k_asked_moments⟩, d_gathered := ⟨_, _, PySem.W.mg_of X G a_gathered, fun_mk (st := st_gathered) l_gathered cc_gathered k_gathered⟩, d_nearer := ⟨_, _, PySem.W.mg_of X G a_nearer, fun_mk (st := st_nearer) l_nearer cc_nearer k_nearer⟩, d_nearest_between := ⟨_, _, PySem.W.mg_of X G a_nearest_between, fun_mk (st := st_nearest_between) l_nearest_between cc_nearest_between k_nearest_between⟩, d_shared_parts := ⟨_, _, PySem.W.mg_of X G a_shared_parts, fun_mk (st := st_shared_parts) l_shared_parts cc_shared_parts k_shared_parts⟩, d_first_falling := ⟨_, _, PySem.W.mg_of X G a_first_falling, fun_mk (st := st_first_falling) l_first_falling cc_first_falling k_first_falling⟩, d_steps_in_turn := ⟨_, _, PySem.W.mg_of X G a_steps_in_turn, fun_mk (st := st_steps_in_turn) l_steps_in_turn cc_steps_in_turn k_steps_in_turn⟩, d_Rule_init := ⟨PySem.W.mg_of X G cn0, f_Rule_init, _, ⟨mk_Rule_init, a_Rule_init, i_Rule_init, kc_Rule_init⟩, fun_mk (st := st_Rule_init) l_Rule_init cc_Rule_init k_Rule_init⟩, d_Rule_week := ⟨p_Rule_week, f_Rule_week, _, ⟨a_Rule_week, pgt_Rule_week, ptk_Rule_week, ⟨_, prc_Rule_week⟩⟩, fun_mk (st := st_Rule_week) l_Rule_week cc_Rule_week k_Rule_week⟩, d_Rule_base := ⟨p_Rule_base, f_Rule_base, _, ⟨a_Rule_base, pgt_Rule_base, ptk_Rule_base, ⟨_, prc_Rule_base⟩⟩, fun_mk (st := st_Rule_base) l_Rule_base cc_Rule_base k_Rule_base⟩, d_Rule_changes := ⟨p_Rule_changes, f_Rule_changes, _, ⟨a_Rule_changes, pgt_Rule_changes, ptk_Rule_changes, ⟨_, prc_Rule_changes⟩⟩, fun_mk (st := st_Rule_changes) l_Rule_changes cc_Rule_changes k_Rule_changes⟩, d_Rule_eq := ⟨by show ¬ ("__eq__" : Str) ∈ (["kept_base", "kept_changes", "rows", "extent"] : List Str); decide +kernel, f_Rule_eq, _, a_Rule_eq, i_Rule_eq, fi_Rule_eq, fun_mk (st := st_Rule_eq) l_Rule_eq cc_Rule_eq k_Rule_eq⟩, d_Rule_call := ⟨by show ¬ ("__call__" : Str) ∈ (["kept_base", "kept_changes", "rows", "extent"] : List Str); decide +kernel, f_Rule_call, _, a_Rule_call, i_Rule_call, fi_Rule_call, fun_mk (st := st_Rule_call) l_Rule_call cc_Rule_call k_Rule_call⟩, d_Rule_rshift := ⟨by show ¬ ("__rshift__" : Str) ∈ (["kept_base", "kept_changes", "rows", "extent"] : List Str); decide +kernel, f_Rule_rshift, _, a_Rule_rshift, i_Rule_rshift, fi_Rule_rshift, fun_mk (st := st_Rule_rshift) l_Rule_rshift cc_Rule_rshift k_Rule_rshift⟩, d_Rule_mul := ⟨by show ¬ ("__mul__" : Str) ∈ (["kept_base", "kept_changes", "rows", "extent"] : List Str); decide +kernel, f_Rule_mul, _, a_Rule_mul, i_Rule_mul, fi_Rule_mul, fun_mk (st := st_Rule_mul) l_Rule_mul cc_Rule_mul k_Rule_mul⟩, d_Rule_rmul := ⟨by show ¬ ("__rmul__" : Str) ∈ (["kept_base", "kept_changes", "rows", "extent"] : List Str); decide +kernel, f_Rule_rmul, _, a_Rule_rmul, i_Rule_rmul, fi_Rule_rmul, fun_mk (st := st_Rule_rmul) l_Rule_rmul cc_Rule_rmul k_Rule_rmul⟩, d_Rule_or := ⟨by show ¬ ("__or__" : Str) ∈ (["kept_base", "kept_changes", "rows", "extent"] : List Str); decide +kernel, f_Rule_or, _, a_Rule_or, i_Rule_or, fi_Rule_or, fun_mk (st := st_Rule_or) l_Rule_or cc_Rule_or k_Rule_or⟩, d_Rule_and := ⟨by show ¬ ("__and__" : Str) ∈ (["kept_base", "kept_changes", "rows", "extent"] : List Str); decide +kernel, f_Rule_and, _, a_Rule_and, i_Rule_and, fi_Rule_and, fun_mk (st := st_Rule_and) l_Rule_and cc_Rule_and k_Rule_and⟩, d_in_turn := ⟨_, _, PySem.W.mg_of X G a_in_turn, fun_mk (st := st_in_turn) l_in_turn cc_in_turn k_in_turn⟩, d_later_of := ⟨_, _, PySem.W.mg_of X G a_later_of, fun_mk (st := st_later_of) l_later_of cc_later_of k_later_of⟩, d_earlier_of := ⟨_, _, PySem.W.mg_of X G a_earlier_of, fun_mk (st := st_earlier_of) l_earlier_of cc_earlier_of k_earlier_of⟩, d_law_offset := ⟨_, _, PySem.W.mg_of X G a_law_offset, fun_mk (st := st_law_offset) l_law_offset cc_law_offset k_law_offset⟩, d_law_rising := ⟨_, _, PySem.W.mg_of X G a_law_rising, fun_mk (st := st_law_rising) l_law_rising cc_law_rising k_law_rising⟩, d_law_lone := ⟨_, _, PySem.W.mg_of X G a_law_lone, fun_mk (st := st_law_lone) l_law_lone cc_law_lone k_law_lone⟩, d_law_shape := ⟨_, _, PySem.W.mg_of X G a_law_shape, fun_mk (st := st_law_shape) l_law_shape cc_law_shape k_law_shape⟩, d_law_wide := ⟨_, _, PySem.W.mg_of X G a_law_wide, fun_mk (st := st_law_wide) l_law_wide cc_law_wide k_law_wide⟩, d_law_far := ⟨_, _, PySem.W.mg_of X G a_law_far, fun_mk (st := st_law_far) l_law_far cc_law_far k_law_far⟩, d_law_start := ⟨_, _, PySem.W.mg_of X G a_law_start, fun_mk (st := st_law_start) l_law_start cc_law_start k_law_start⟩, d_law_groups := ⟨_, _, PySem.W.mg_of X G a_law_groups, fun_mk (st := st_law_groups) l_law_groups cc_law_groups k_law_groups⟩, d_law_wait := ⟨_, _, PySem.W.mg_of X G a_law_wait, fun_mk (st := st_law_wait) l_law_wait cc_law_wait k_law_wait⟩, d_law_both := ⟨_, _, PySem.W.mg_of X G a_law_both, fun_mk (st := st_law_both) l_law_both cc_law_both k_law_both⟩, d_law_made := ⟨_, _, PySem.W.mg_of X G a_law_made, fun_mk (st := st_law_made) l_law_made cc_law_made k_law_made⟩, d_law_twice := ⟨_, _, PySem.W.mg_of X G a_law_twice, fun_mk (st := st_law_twice) l_law_twice cc_law_twice k_law_twice⟩, d_law_right := ⟨_, _, PySem.W.mg_of X G a_law_right, fun_mk (st := st_law_right) l_law_right cc_law_right k_law_right⟩, d_law := ⟨_, _, PySem.W.mg_of X G a_law, fun_mk (st := st_law) l_law cc_law k_law⟩ }
  exact fnG_of (fun_mk (st := st_law) l_law cc_law k_law) sc_law T.bn rfl (tr_law T rfl) law_law
end Law
open PySem PySem.W PyProof.Rows
set_option maxRecDepth 100000 in
set_option maxHeartbeats 0 in
theorem PySem.Challenge.cw_dueclocks_k38_rules_far_apart_holds : PySem.Challenge.rw_dueclocks_k38_rules_far_apart.Holds := by
  w_on; o_law; k_head; (case hw => w_witness2)
  k_fill
  refine Dv.walk_dv (l := PySem.Challenge.rw_dueclocks_k38_rules_far_apart) (k := 12) rfl rfl ⟨rfl, by decide, by decide⟩ (fun w h Y => PySem.W.kIn_of Y) ?F
  case F =>
    intro w mg fa h KX G hmg
    refine' Law.all_mk KX G hmg ?bnall ?q_MOST_WEEK ?cn0 ?pg0 ?hd0 ?po0 ?sa0 ?no0_kept_base ?no0_kept_changes ?no0_rows ?no0_extent ?ica0 ?icg0 ?ict0 ?icm0 ?ik0_0 ?ik0_1 ?ik0_2 ?ik0_3 ?ik0_4 ?ik0_5 ?ml0 ?mn0 ?mr0 ?sf0 ?a_law_pool ?l_law_pool ?cc_law_pool ?k_law_pool ?a_law_draw ?l_law_draw ?cc_law_draw ?k_law_draw ?a_check_weeks ?l_check_weeks ?cc_check_weeks ?k_check_weeks ?a_rows_of ?l_rows_of ?cc_rows_of ?k_rows_of ?a_count_up_to ?l_count_up_to ?cc_count_up_to ?k_count_up_to ?a_offset_at ?l_offset_at ?cc_offset_at ?k_offset_at ?a_value_at ?l_value_at ?cc_value_at ?k_value_at ?a_extent_of ?l_extent_of ?cc_extent_of ?k_extent_of ?a_latest_start ?l_latest_start ?cc_latest_start ?k_latest_start ?a_first_start ?l_first_start ?cc_first_start ?k_first_start ?a_normal_changes ?l_normal_changes ?cc_normal_changes ?k_normal_changes ?a_asked_moments ?l_asked_moments ?cc_asked_moments ?k_asked_moments ?a_gathered ?l_gathered ?cc_gathered ?k_gathered ?a_nearer ?l_nearer ?cc_nearer ?k_nearer ?a_nearest_between ?l_nearest_between ?cc_nearest_between ?k_nearest_between ?a_shared_parts ?l_shared_parts ?cc_shared_parts ?k_shared_parts ?a_first_falling ?l_first_falling ?cc_first_falling ?k_first_falling ?a_steps_in_turn ?l_steps_in_turn ?cc_steps_in_turn ?k_steps_in_turn ?a_Rule_init ?i_Rule_init ?mk_Rule_init ?kc_Rule_init ?l_Rule_init ?cc_Rule_init ?k_Rule_init ?a_Rule_week ?pgt_Rule_week ?ptk_Rule_week ?prc_Rule_week ?l_Rule_week ?cc_Rule_week ?k_Rule_week ?a_Rule_base ?pgt_Rule_base ?ptk_Rule_base ?prc_Rule_base ?l_Rule_base ?cc_Rule_base ?k_Rule_base ?a_Rule_changes ?pgt_Rule_changes ?ptk_Rule_changes ?prc_Rule_changes ?l_Rule_changes ?cc_Rule_changes ?k_Rule_changes ?a_Rule_eq ?i_Rule_eq ?fi_Rule_eq ?l_Rule_eq ?cc_Rule_eq ?k_Rule_eq ?a_Rule_call ?i_Rule_call ?fi_Rule_call ?l_Rule_call ?cc_Rule_call ?k_Rule_call ?a_Rule_rshift ?i_Rule_rshift ?fi_Rule_rshift ?l_Rule_rshift ?cc_Rule_rshift ?k_Rule_rshift ?a_Rule_mul ?i_Rule_mul ?fi_Rule_mul ?l_Rule_mul ?cc_Rule_mul ?k_Rule_mul ?a_Rule_rmul ?i_Rule_rmul ?fi_Rule_rmul ?l_Rule_rmul ?cc_Rule_rmul ?k_Rule_rmul ?a_Rule_or ?i_Rule_or ?fi_Rule_or ?l_Rule_or ?cc_Rule_or ?k_Rule_or ?a_Rule_and ?i_Rule_and ?fi_Rule_and ?l_Rule_and ?cc_Rule_and ?k_Rule_and ?a_in_turn ?l_in_turn ?cc_in_turn ?k_in_turn ?a_later_of ?l_later_of ?cc_later_of ?k_later_of ?a_earlier_of ?l_earlier_of ?cc_earlier_of ?k_earlier_of ?a_law_offset ?l_law_offset ?cc_law_offset ?k_law_offset ?a_law_rising ?l_law_rising ?cc_law_rising ?k_law_rising ?a_law_lone ?l_law_lone ?cc_law_lone ?k_law_lone ?a_law_shape ?l_law_shape ?cc_law_shape ?k_law_shape ?a_law_wide ?l_law_wide ?cc_law_wide ?k_law_wide ?a_law_far ?l_law_far ?cc_law_far ?k_law_far ?a_law_start ?l_law_start ?cc_law_start ?k_law_start ?a_law_groups ?l_law_groups ?cc_law_groups ?k_law_groups ?a_law_wait ?l_law_wait ?cc_law_wait ?k_law_wait ?a_law_both ?l_law_both ?cc_law_both ?k_law_both ?a_law_made ?l_law_made ?cc_law_made ?k_law_made ?a_law_twice ?l_law_twice ?cc_law_twice ?k_law_twice ?a_law_right ?l_law_right ?cc_law_right ?k_law_right ?a_law ?l_law ?cc_law ?k_law
    (case bnall => intro x hx; simp only [Dv.bnames, List.mem_cons, List.not_mem_nil, or_false] at hx; rcases hx with rfl | rfl | rfl | rfl | rfl | rfl | rfl | rfl | rfl | rfl | rfl | rfl | rfl | rfl | rfl | rfl | rfl | rfl | rfl | rfl | rfl | rfl | rfl | rfl | rfl <;> k_is)
    (case q_MOST_WEEK => k_is)
    (case cn0 => k_is)
    (case pg0 => k_is)
    (case hd0 => k_is)
    (case po0 => k_is)
    (case sa0 => k_is)
    (case no0_kept_base => k_is)
    (case no0_kept_changes => k_is)
    (case no0_rows => k_is)
    (case no0_extent => k_is)
    (case ica0 => k_is)
    (case icg0 => k_is)
    (case ict0 => k_is)
    (case icm0 => k_is)
    (case ik0_0 => kit_is)
    (case ik0_1 => kit_is)
    (case ik0_2 => kit_is)
    (case ik0_3 => kit_is)
    (case ik0_4 => kit_is)
    (case ik0_5 => kit_is)
    (case ml0 => k_is)
    (case mn0 => k_is)
    (case mr0 => k_is)
    (case sf0 => k_is)
    (case a_law_pool => k_is)
    (case l_law_pool => k_is)
    (case cc_law_pool => k_is)
    (case k_law_pool => k_is)
    (case a_law_draw => k_is)
    (case l_law_draw => k_is)
    (case cc_law_draw => k_is)
    (case k_law_draw => k_is)
    (case a_check_weeks => k_is)
    (case l_check_weeks => k_is)
    (case cc_check_weeks => k_is)
    (case k_check_weeks => k_is)
    (case a_rows_of => k_is)
    (case l_rows_of => k_is)
    (case cc_rows_of => k_is)
    (case k_rows_of => k_is)
    (case a_count_up_to => k_is)
    (case l_count_up_to => k_is)
    (case cc_count_up_to => k_is)
    (case k_count_up_to => k_is)
    (case a_offset_at => k_is)
    (case l_offset_at => k_is)
    (case cc_offset_at => k_is)
    (case k_offset_at => k_is)
    (case a_value_at => k_is)
    (case l_value_at => k_is)
    (case cc_value_at => k_is)
    (case k_value_at => k_is)
    (case a_extent_of => k_is)
    (case l_extent_of => k_is)
    (case cc_extent_of => k_is)
    (case k_extent_of => k_is)
    (case a_latest_start => k_is)
    (case l_latest_start => k_is)
    (case cc_latest_start => k_is)
    (case k_latest_start => k_is)
    (case a_first_start => k_is)
    (case l_first_start => k_is)
    (case cc_first_start => k_is)
    (case k_first_start => k_is)
    (case a_normal_changes => k_is)
    (case l_normal_changes => k_is)
    (case cc_normal_changes => k_is)
    (case k_normal_changes => k_is)
    (case a_asked_moments => k_is)
    (case l_asked_moments => k_is)
    (case cc_asked_moments => k_is)
    (case k_asked_moments => k_is)
    (case a_gathered => k_is)
    (case l_gathered => k_is)
    (case cc_gathered => k_is)
    (case k_gathered => k_is)
    (case a_nearer => k_is)
    (case l_nearer => k_is)
    (case cc_nearer => k_is)
    (case k_nearer => k_is)
    (case a_nearest_between => k_is)
    (case l_nearest_between => k_is)
    (case cc_nearest_between => k_is)
    (case k_nearest_between => k_is)
    (case a_shared_parts => k_is)
    (case l_shared_parts => k_is)
    (case cc_shared_parts => k_is)
    (case k_shared_parts => k_is)
    (case a_first_falling => k_is)
    (case l_first_falling => k_is)
    (case cc_first_falling => k_is)
    (case k_first_falling => k_is)
    (case a_steps_in_turn => k_is)
    (case l_steps_in_turn => k_is)
    (case cc_steps_in_turn => k_is)
    (case k_steps_in_turn => k_is)
    (case a_Rule_init => k_is)
    (case i_Rule_init => k_is)
    (case mk_Rule_init => k_is)
    (case kc_Rule_init => k_is)
    (case l_Rule_init => k_is)
    (case cc_Rule_init => k_is)
    (case k_Rule_init => k_is)
    (case a_Rule_week => k_is)
    (case pgt_Rule_week => k_is)
    (case ptk_Rule_week => k_is)
    (case prc_Rule_week => k_is)
    (case l_Rule_week => k_is)
    (case cc_Rule_week => k_is)
    (case k_Rule_week => k_is)
    (case a_Rule_base => k_is)
    (case pgt_Rule_base => k_is)
    (case ptk_Rule_base => k_is)
    (case prc_Rule_base => k_is)
    (case l_Rule_base => k_is)
    (case cc_Rule_base => k_is)
    (case k_Rule_base => k_is)
    (case a_Rule_changes => k_is)
    (case pgt_Rule_changes => k_is)
    (case ptk_Rule_changes => k_is)
    (case prc_Rule_changes => k_is)
    (case l_Rule_changes => k_is)
    (case cc_Rule_changes => k_is)
    (case k_Rule_changes => k_is)
    (case a_Rule_eq => k_is)
    (case i_Rule_eq => k_is)
    (case fi_Rule_eq => k_is)
    (case l_Rule_eq => k_is)
    (case cc_Rule_eq => k_is)
    (case k_Rule_eq => k_is)
    (case a_Rule_call => k_is)
    (case i_Rule_call => k_is)
    (case fi_Rule_call => k_is)
    (case l_Rule_call => k_is)
    (case cc_Rule_call => k_is)
    (case k_Rule_call => k_is)
    (case a_Rule_rshift => k_is)
    (case i_Rule_rshift => k_is)
    (case fi_Rule_rshift => k_is)
    (case l_Rule_rshift => k_is)
    (case cc_Rule_rshift => k_is)
    (case k_Rule_rshift => k_is)
    (case a_Rule_mul => k_is)
    (case i_Rule_mul => k_is)
    (case fi_Rule_mul => k_is)
    (case l_Rule_mul => k_is)
    (case cc_Rule_mul => k_is)
    (case k_Rule_mul => k_is)
    (case a_Rule_rmul => k_is)
    (case i_Rule_rmul => k_is)
    (case fi_Rule_rmul => k_is)
    (case l_Rule_rmul => k_is)
    (case cc_Rule_rmul => k_is)
    (case k_Rule_rmul => k_is)
    (case a_Rule_or => k_is)
    (case i_Rule_or => k_is)
    (case fi_Rule_or => k_is)
    (case l_Rule_or => k_is)
    (case cc_Rule_or => k_is)
    (case k_Rule_or => k_is)
    (case a_Rule_and => k_is)
    (case i_Rule_and => k_is)
    (case fi_Rule_and => k_is)
    (case l_Rule_and => k_is)
    (case cc_Rule_and => k_is)
    (case k_Rule_and => k_is)
    (case a_in_turn => k_is)
    (case l_in_turn => k_is)
    (case cc_in_turn => k_is)
    (case k_in_turn => k_is)
    (case a_later_of => k_is)
    (case l_later_of => k_is)
    (case cc_later_of => k_is)
    (case k_later_of => k_is)
    (case a_earlier_of => k_is)
    (case l_earlier_of => k_is)
    (case cc_earlier_of => k_is)
    (case k_earlier_of => k_is)
    (case a_law_offset => k_is)
    (case l_law_offset => k_is)
    (case cc_law_offset => k_is)
    (case k_law_offset => k_is)
    (case a_law_rising => k_is)
    (case l_law_rising => k_is)
    (case cc_law_rising => k_is)
    (case k_law_rising => k_is)
    (case a_law_lone => k_is)
    (case l_law_lone => k_is)
    (case cc_law_lone => k_is)
    (case k_law_lone => k_is)
    (case a_law_shape => k_is)
    (case l_law_shape => k_is)
    (case cc_law_shape => k_is)
    (case k_law_shape => k_is)
    (case a_law_wide => k_is)
    (case l_law_wide => k_is)
    (case cc_law_wide => k_is)
    (case k_law_wide => k_is)
    (case a_law_far => k_is)
    (case l_law_far => k_is)
    (case cc_law_far => k_is)
    (case k_law_far => k_is)
    (case a_law_start => k_is)
    (case l_law_start => k_is)
    (case cc_law_start => k_is)
    (case k_law_start => k_is)
    (case a_law_groups => k_is)
    (case l_law_groups => k_is)
    (case cc_law_groups => k_is)
    (case k_law_groups => k_is)
    (case a_law_wait => k_is)
    (case l_law_wait => k_is)
    (case cc_law_wait => k_is)
    (case k_law_wait => k_is)
    (case a_law_both => k_is)
    (case l_law_both => k_is)
    (case cc_law_both => k_is)
    (case k_law_both => k_is)
    (case a_law_made => k_is)
    (case l_law_made => k_is)
    (case cc_law_made => k_is)
    (case k_law_made => k_is)
    (case a_law_twice => k_is)
    (case l_law_twice => k_is)
    (case cc_law_twice => k_is)
    (case k_law_twice => k_is)
    (case a_law_right => k_is)
    (case l_law_right => k_is)
    (case cc_law_right => k_is)
    (case k_law_right => k_is)
    (case a_law => k_is)
    (case l_law => k_is)
    (case cc_law => k_is)
    (case k_law => k_is)
#print axioms PySem.Challenge.cw_dueclocks_k38_rules_far_apart_holds


