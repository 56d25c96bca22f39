import PyProof.Rows.All
import Wide.All
import OpenK.AllK
import Wide.FinOn
import HandS.ForMost
import HandS.ForExc
import HandS.IsInst
import HandS.TupAny
import HandS.CallSlots
import HandS.Deep
import PyProof.ListOps
import PyProof.Walk
import PyProof.WalkLemmas
import HandS.List
import HandS.Walk
import HandS.Comp
import HandS.SortInts
import HandS.Style
import PySem.Challenge.RW_latestart_k46_integers_and_records
set_option Elab.async false
set_option linter.all false
set_option maxRecDepth 100000
namespace Mw
open PySem PySem.Spec PyProof.Rows L2

/-! ## data -/
structure Wd where
  K : PySem.W.Frag
  mg : Str → Option Value

inductive D where
  | non | bl (b : Bool) | int (i : Int) | str (s : List Nat)
  | tup (xs : List D) | lst (xs : List D)
  | obj (c : Str) (ns : List Str) (xs : List D)

inductive O where
  | d (x : D) | lst (xs : List O) | dct (ks : List D) (xs : List O) | obj (c : Str) (ns : List Str) (xs : List O)

mutual
def O.toD : O → D
  | .d x => x
  | .lst xs => .lst (toDs xs)
  | .dct _ _ => .non
  | .obj c ns xs => .obj c ns (toDs xs)
def toDs : List O → List D
  | [] => []
  | x :: xs => x.toD :: toDs xs
end
mutual
def O.fz : O → Bool
  | .d _ => true
  | .lst xs => fzs xs
  | .dct _ _ => false
  | .obj _ _ xs => fzs xs
def fzs : List O → Bool
  | [] => true
  | x :: xs => x.fz && fzs xs
end
/-- a list whose items are plain -/
abbrev O.l (ds : List D) : O := .lst (ds.map O.d)
theorem toDs_d : ∀ ds : List D, toDs (ds.map O.d) = ds
  | [] => rfl
  | d :: ds => by show d :: toDs (ds.map O.d) = _; rw [toDs_d ds]
theorem fzs_d : ∀ ds : List D, fzs (ds.map O.d) = true
  | [] => rfl
  | d :: ds => by show (true && fzs (ds.map O.d)) = true; rw [fzs_d ds]; rfl

def keyD : Key → D
  | .inl i => .int i
  | .inr s => .str s.cps.toList

mutual
inductive Rep (g : Wd) (F : Hp) : V → D → Prop
  | non : Rep g F .non .non
  | bl (b : Bool) : Rep g F (.bl b) (.bl b)
  | int (i : Int) : Rep g F (.int i) (.int i)
  | str {s : List Nat} (h : s.length ≤ sizeLine) : Rep g F (.str ⟨s.toArray⟩) (.str s)
  | tup {a : Addr} {vs : List V} {ds : List D} (h : SqT g.K F a vs) (hl : vs.length ≤ sizeLine) (r : Reps g F vs ds) : Rep g F (.ref a) (.tup ds)
  | lst {a : Addr} {vs : List V} {ds : List D} (h : SqL g.K F a vs) (hl : vs.length ≤ sizeLine) (r : Reps g F vs ds) : Rep g F (.ref a) (.lst ds)
  | obj {a C dx : Addr} {fs : List (Str × V)} {c : Str} {ns : List Str} {ds : List D} (hc : g.mg c = some (.ref C)) (h : F a = some (.ins C dx fs)) (hd : F dx = some (.own a))
      (hn : fs.map (·.1) = ns) (r : Reps g F (fs.map (·.2)) ds) : Rep g F (.ref a) (.obj c ns ds)
inductive Reps (g : Wd) (F : Hp) : List V → List D → Prop
  | nil : Reps g F [] []
  | cons {v : V} {vs : List V} {d : D} {ds : List D} (h : Rep g F v d) (t : Reps g F vs ds) : Reps g F (v :: vs) (d :: ds)
end
mutual
inductive RepO (g : Wd) (F H : Hp) : V → O → List Addr → Prop
  | d {v : V} {x : D} (r : Rep g F v x) : RepO g F H v (.d x) []
  | lst {a : Addr} {vs : List V} {os : List O} {fp : List Addr} (h : H a = some (.lst vs)) (hl : vs.length ≤ sizeLine) (r : RepOs g F H vs os fp) : RepO g F H (.ref a) (.lst os) (a :: fp)
  | obj {a C dx : Addr} {fs : List (Str × V)} {c : Str} {ns : List Str} {os : List O} {fp : List Addr} (hc : g.mg c = some (.ref C)) (h : H a = some (.ins C dx fs)) (hd : H dx = some (.own a))
      (hn : fs.map (·.1) = ns) (r : RepOs g F H (fs.map (·.2)) os fp) : RepO g F H (.ref a) (.obj c ns os) (a :: dx :: fp)
  | dk {a : Addr} {kvs : List (Key × V)} {ks : List D} {os : List O} {fp : List Addr} (h : H a = some (.dK kvs)) (hk : kvs.map (fun p => keyD p.1) = ks) (r : RepOs g F H (kvs.map (·.2)) os fp) : RepO g F H (.ref a) (.dct ks os) (a :: fp)
  | dt {a : Addr} {kvs : List (List Key × V)} {ks : List D} {os : List O} {fp : List Addr} (h : H a = some (.dT kvs)) (hk : kvs.map (fun p => D.tup (p.1.map keyD)) = ks) (r : RepOs g F H (kvs.map (·.2)) os fp) : RepO g F H (.ref a) (.dct ks os) (a :: fp)
inductive RepOs (g : Wd) (F H : Hp) : List V → List O → List Addr → Prop
  | nil : RepOs g F H [] [] []
  | cons {v : V} {vs : List V} {o : O} {os : List O} {f fp : List Addr} (h : RepO g F H v o f) (t : RepOs g F H vs os fp) : RepOs g F H (v :: vs) (o :: os) (f ++ fp)
end

def Ext (F F' : Hp) : Prop := ∀ a o, F a = some o → F' a = some o
theorem Ext.refl (F : Hp) : Ext F F := fun _ _ h => h
theorem Ext.trans {A B C : Hp} (x : Ext A B) (y : Ext B C) : Ext A C := fun a o h => y a o (x a o h)
theorem Ext.rd {F F' : Hp} {a : Addr} {u : HO} (e : Ext F F') (h : Rd F a u) : Rd F' a u := by
  rcases h with h | ⟨o, h⟩
  · exact .inl (e _ _ h)
  · exact .inr ⟨o, e _ _ h⟩
theorem Ext.sqT {K : PySem.W.Frag} {F F' : Hp} {a : Addr} {vs : List V} (e : Ext F F') (h : SqT K F a vs) : SqT K F' a vs := h.imp e.rd id
theorem Ext.sqL {K : PySem.W.Frag} {F F' : Hp} {a : Addr} {vs : List V} (e : Ext F F') (h : SqL K F a vs) : SqL K F' a vs := h.imp e.rd id
mutual
theorem Rep.mono {g : Wd} {F F' : Hp} (e : Ext F F') : ∀ {v : V} {d : D}, Rep g F v d → Rep g F' v d
  | _, _, .non => .non
  | _, _, .bl b => .bl b
  | _, _, .int i => .int i
  | _, _, .str h => .str h
  | _, _, .tup h hl r => .tup (e.sqT h) hl (Reps.mono e r)
  | _, _, .lst h hl r => .lst (e.sqL h) hl (Reps.mono e r)
  | _, _, .obj hc h hd hn r => .obj hc (e _ _ h) (e _ _ hd) hn (Reps.mono e r)
theorem Reps.mono {g : Wd} {F F' : Hp} (e : Ext F F') : ∀ {vs : List V} {ds : List D}, Reps g F vs ds → Reps g F' vs ds
  | _, _, .nil => .nil
  | _, _, .cons h t => .cons (Rep.mono e h) (Reps.mono e t)
end
mutual
theorem RepO.mono {g : Wd} {F F' H H' : Hp} (e : Ext F F') : ∀ {v : V} {o : O} {fp : List Addr}, RepO g F H v o fp → (∀ a ∈ fp, ∀ u, H a = some u → H' a = some u) → RepO g F' H' v o fp
  | _, _, _, .d r, _ => .d (r.mono e)
  | _, _, _, .lst h hl r, k => .lst (k _ (by simp) _ h) hl (RepOs.mono e r fun a ha => k a (by simp [ha]))
  | _, _, _, .obj hc h hd hn r, k => .obj hc (k _ (by simp) _ h) (k _ (by simp) _ hd) hn (RepOs.mono e r fun a ha => k a (by simp [ha]))
  | _, _, _, .dk h hk r, k => .dk (k _ (by simp) _ h) hk (RepOs.mono e r fun a ha => k a (by simp [ha]))
  | _, _, _, .dt h hk r, k => .dt (k _ (by simp) _ h) hk (RepOs.mono e r fun a ha => k a (by simp [ha]))
theorem RepOs.mono {g : Wd} {F F' H H' : Hp} (e : Ext F F') : ∀ {vs : List V} {os : List O} {fp : List Addr}, RepOs g F H vs os fp → (∀ a ∈ fp, ∀ u, H a = some u → H' a = some u) → RepOs g F' H' vs os fp
  | _, _, _, .nil, _ => .nil
  | _, _, _, .cons h t, k => .cons (RepO.mono e h fun a ha => k a (by simp [ha])) (RepOs.mono e t fun a ha => k a (by simp [ha]))
end
mutual
theorem RepO.there {g : Wd} {F H : Hp} : ∀ {v : V} {o : O} {fp : List Addr}, RepO g F H v o fp → ∀ a ∈ fp, H a ≠ none
  | _, _, _, .d r, _, h => by cases h
  | _, _, _, .lst h hl r, a, ha => by
    rcases List.mem_cons.mp ha with rfl | ha
    · rw [h]; simp
    · exact RepOs.there r a ha
  | _, _, _, .obj hc h hd hn r, a, ha => by
    rcases List.mem_cons.mp ha with rfl | ha
    · rw [h]; simp
    · rcases List.mem_cons.mp ha with rfl | ha
      · rw [hd]; simp
      · exact RepOs.there r a ha
  | _, _, _, .dk h hk r, a, ha => by
    rcases List.mem_cons.mp ha with rfl | ha
    · rw [h]; simp
    · exact RepOs.there r a ha
  | _, _, _, .dt h hk r, a, ha => by
    rcases List.mem_cons.mp ha with rfl | ha
    · rw [h]; simp
    · exact RepOs.there r a ha
theorem RepOs.there {g : Wd} {F H : Hp} : ∀ {vs : List V} {os : List O} {fp : List Addr}, RepOs g F H vs os fp → ∀ a ∈ fp, H a ≠ none
  | _, _, _, .nil, _, h => by cases h
  | _, _, _, .cons h t, a, ha => by
    rcases List.mem_append.mp ha with ha | ha
    · exact RepO.there h a ha
    · exact RepOs.there t a ha
end
mutual
/-- what is owned is frozen: F' knows all of its footprint -/
theorem RepO.freeze {g : Wd} {F F' H : Hp} (e : Ext F F') : ∀ {v : V} {o : O} {fp : List Addr}, RepO g F H v o fp → o.fz = true → (∀ a ∈ fp, ∀ u, H a = some u → F' a = some u) → Rep g F' v o.toD
  | _, _, _, .d r, _, _ => r.mono e
  | _, _, _, .lst h hl r, z, k => .lst (.inl (.inl (k _ (by simp) _ h))) hl (RepOs.freeze e r z fun a ha => k a (by simp [ha]))
  | _, _, _, .obj hc h hd hn r, z, k => .obj hc (k _ (by simp) _ h) (k _ (by simp) _ hd) hn (RepOs.freeze e r z fun a ha => k a (by simp [ha]))
  | _, _, _, .dk h hk r, z, _ => nomatch z
  | _, _, _, .dt h hk r, z, _ => nomatch z
theorem RepOs.freeze {g : Wd} {F F' H : Hp} (e : Ext F F') : ∀ {vs : List V} {os : List O} {fp : List Addr}, RepOs g F H vs os fp → fzs os = true → (∀ a ∈ fp, ∀ u, H a = some u → F' a = some u) → Reps g F' vs (toDs os)
  | _, _, _, .nil, _, _ => .nil
  | _, _, _, .cons h t, z, k => by
    have z := Bool.and_eq_true_iff.mp (show (_ && _) = true from z)
    exact .cons (RepO.freeze e h z.1 fun a ha => k a (by simp [ha])) (RepOs.freeze e t z.2 fun a ha => k a (by simp [ha]))
end
theorem Reps.length {g : Wd} {F : Hp} : ∀ {vs : List V} {ds : List D}, Reps g F vs ds → vs.length = ds.length
  | _, _, .nil => rfl
  | _, _, .cons h t => by simp [Reps.length t]
theorem RepOs.length {g : Wd} {F H : Hp} : ∀ {vs : List V} {os : List O} {fp}, RepOs g F H vs os fp → vs.length = os.length
  | _, _, _, .nil => rfl
  | _, _, _, .cons h t => by simp [RepOs.length t]
theorem Reps.get {g : Wd} {F : Hp} : ∀ {vs : List V} {ds : List D} {i : Nat} {d : D}, Reps g F vs ds → ds[i]? = some d → ∃ v, vs[i]? = some v ∧ Rep g F v d
  | _, _, _, _, .nil, h => by simp at h
  | _, _, 0, _, .cons h t, e => by simp at e; subst e; exact ⟨_, rfl, h⟩
  | _, _, i + 1, _, .cons h t, e => by simpa using Reps.get (i := i) t (by simpa using e)
theorem Reps.getV {g : Wd} {F : Hp} : ∀ {vs : List V} {ds : List D} {i : Nat} {v : V}, Reps g F vs ds → vs[i]? = some v → ∃ d, ds[i]? = some d ∧ Rep g F v d
  | _, _, _, _, .nil, h => by simp at h
  | _, _, 0, _, .cons h t, e => by simp at e; subst e; exact ⟨_, rfl, h⟩
  | _, _, i + 1, _, .cons h t, e => by simpa using Reps.getV (i := i) t (by simpa using e)
theorem Reps.app {g : Wd} {F : Hp} : ∀ {vs ws : List V} {ds es : List D}, Reps g F vs ds → Reps g F ws es → Reps g F (vs ++ ws) (ds ++ es)
  | _, _, _, _, .nil, s => s
  | _, _, _, _, .cons h t, s => .cons h (Reps.app t s)
theorem Reps.take {g : Wd} {F : Hp} : ∀ {vs : List V} {ds : List D} (n : Nat), Reps g F vs ds → Reps g F (vs.take n) (ds.take n)
  | _, _, 0, _ => .nil
  | _, _, _ + 1, .nil => .nil
  | _, _, n + 1, .cons r t => .cons r (Reps.take n t)
theorem Reps.drop {g : Wd} {F : Hp} : ∀ {vs : List V} {ds : List D} (n : Nat), Reps g F vs ds → Reps g F (vs.drop n) (ds.drop n)
  | _, _, 0, r => r
  | _, _, _ + 1, .nil => .nil
  | _, _, n + 1, .cons _ t => Reps.drop n t
/-- plain items of an owned list -/
theorem RepOs.ofReps {g : Wd} {F H : Hp} : ∀ {vs : List V} {ds : List D}, Reps g F vs ds → RepOs g F H vs (ds.map O.d) []
  | _, _, .nil => .nil
  | _, _, .cons h t => .cons (f := []) (fp := []) (.d h) (RepOs.ofReps t)
theorem RepOs.toReps {g : Wd} {F H : Hp} : ∀ {vs : List V} {ds : List D} {fp}, RepOs g F H vs (ds.map O.d) fp → Reps g F vs ds ∧ fp = []
  | _, [], _, .nil => ⟨.nil, rfl⟩
  | _, _ :: ds, _, .cons (.d h) t => by
    obtain ⟨r, rfl⟩ := RepOs.toReps (ds := ds) t
    exact ⟨.cons h r, rfl⟩
end Mw

set_option Elab.async false
set_option linter.all false
set_option maxRecDepth 100000
set_option autoImplicit false
namespace Mw
open PySem PySem.Spec PyProof.Rows L2

/-! ## environments, results -/
inductive Slo where
  | un | shr (d : D) | mu (b : Bool) (o : O)
abbrev Ro := List Slo
inductive R where
  | d (x : D) | own (o : O) | pk (o : O)
structure Exc where
  c : Str
  ns : List Str
  ds : List D
inductive Res (α : Type) where
  | ok (a : α) (ρ : Ro) (q : Bool) | ex (x : Exc) (ρ : Ro) | no
def Res.bind {α β : Type} : Res α → (α → Ro → Bool → Res β) → Res β
  | .ok a ρ q, k => k a ρ q
  | .ex x ρ, _ => .ex x ρ
  | .no, _ => .no
@[simp] theorem Res.bind_ok {α β : Type} (a : α) (ρ : Ro) (q : Bool) (k : α → Ro → Bool → Res β) : (Res.ok a ρ q).bind k = k a ρ q := rfl
@[simp] theorem Res.bind_ex {α β : Type} (x : Exc) (ρ : Ro) (k : α → Ro → Bool → Res β) : (Res.ex x ρ : Res α).bind k = .ex x ρ := rfl
@[simp] theorem Res.bind_no {α β : Type} (k : α → Ro → Bool → Res β) : (Res.no : Res α).bind k = .no := rfl
theorem Res.bind_assoc {α β γ : Type} (r : Res α) (k : α → Ro → Bool → Res β) (l : β → Ro → Bool → Res γ) : (r.bind k).bind l = r.bind fun a ρ q => (k a ρ q).bind l := by cases r <;> rfl
abbrev M := Ro → Res R
abbrev MB := Ro → Res Bool
def R.isPk : R → Bool
  | .pk _ => true
  | _ => false

/-! ## the state -/
structure Stt (g : Wd) (F H : Hp) (σ : L2.St) (ρ : Ro) (fp : Nat → List Addr) : Prop where
  sub : Ext F H
  len : σ.length = ρ.length
  un : ∀ (i : Nat), (∀ (b : Bool) (o : O), ρ[i]? ≠ some (.mu b o)) → fp i = []
  shr : ∀ (i : Nat) (d : D), ρ[i]? = some (.shr d) → ∃ v, σ[i]? = some (some v) ∧ Rep g F v d
  mu : ∀ (i : Nat) (b : Bool) (o : O), ρ[i]? = some (.mu b o) → ∃ v, σ[i]? = some (some v) ∧ RepO g F H v o (fp i)
  nd : ∀ i, (fp i).Nodup
  dis : ∀ i j a, a ∈ fp i → a ∈ fp j → i = j
  fre : ∀ i a, a ∈ fp i → F a = none
def Own (fp : Nat → List Addr) : Addr → Prop := fun a => ∃ i, a ∈ fp i
def Plus (S : Addr → Prop) (fr : List Addr) : Addr → Prop := fun a => S a ∨ a ∈ fr
structure Step (F H : Hp) (S : Addr → Prop) (F' H' : Hp) (S' : Addr → Prop) : Prop where
  ext : Ext F F'
  keep : ∀ a o, ¬ S a → H a = some o → H' a = some o
  new : ∀ a o, F' a = some o → F a = some o ∨ S a ∨ H a = none
  fre : ∀ a, S' a → S a ∨ H a = none
theorem Step.refl (F H : Hp) (S : Addr → Prop) : Step F H S F H S := ⟨.refl F, fun _ _ _ h => h, fun _ _ h => .inl h, fun _ h => .inl h⟩
theorem Step.trans {F H F1 H1 F2 H2 : Hp} {S S1 S2 : Addr → Prop} (a : Step F H S F1 H1 S1) (b : Step F1 H1 S1 F2 H2 S2) : Step F H S F2 H2 S2 := by
  have back : ∀ x, H1 x = none → S x ∨ H x = none := fun x h => by
    by_cases hs : S x
    · exact .inl hs
    · cases q : H x with
      | none => exact .inr rfl
      | some o => rw [a.keep x o hs q] at h; cases h
  refine ⟨a.ext.trans b.ext, fun x o hs h => b.keep x o (fun z => ?_) (a.keep x o hs h), fun x o h => ?_, fun x h => ?_⟩
  · rcases a.fre x z with z | z
    · exact hs z
    · rw [h] at z; cases z
  · rcases b.new x o h with h | h | h
    · exact a.new x o h
    · exact .inr (a.fre x h)
    · exact .inr (back x h)
  · rcases b.fre x h with h | h
    · exact a.fre x h
    · exact back x h
theorem Step.frame {F H F' H' : Hp} {S S' : Addr → Prop} (a : Step F H S F' H' S') (fr : List Addr) : Step F H (Plus S fr) F' H' (Plus S' fr) :=
  ⟨a.ext, fun x o hs h => a.keep x o (fun z => hs (.inl z)) h, fun x o h => (a.new x o h).imp id (fun z => z.imp .inl id), fun x h => by
    rcases h with h | h
    · exact (a.fre x h).imp .inl id
    · exact .inl (.inr h)⟩
theorem Step.weak {F H F' H' : Hp} {S S' S'' : Addr → Prop} (a : Step F H S F' H' S') (h : ∀ x, S'' x → S' x) : Step F H S F' H' S'' := ⟨a.ext, a.keep, a.new, fun x z => a.fre x (h x z)⟩

def RepR (g : Wd) (F H : Hp) (S : Addr → Prop) (v : V) (r : R) (fr : List Addr) : Prop := match r with
  | .d x => Rep g F v x ∧ fr = []
  | .own o => RepO g F H v o fr ∧ ∀ a ∈ fr, F a = none ∧ ¬ S a
  | .pk o => fr = [] ∧ ∃ fp, RepO g F H v o fp
inductive RepRs (g : Wd) (F H : Hp) (S : Addr → Prop) : List V → List R → List Addr → Prop
  | nil : RepRs g F H S [] [] []
  | cons {v : V} {vs : List V} {r : R} {rs : List R} {f fr : List Addr} (h : RepR g F H S v r f) (t : RepRs g F H S vs rs fr) : RepRs g F H S (v :: vs) (r :: rs) (f ++ fr)
def RepX (g : Wd) (F : Hp) (cls : Value) (d : Option Addr) (x : Exc) : Prop :=
  ∃ C, cls = .ref C ∧ g.mg x.c = some (.ref C) ∧ ((d = none ∧ x.ns = [] ∧ x.ds = []) ∨ ∃ dx fs, d = some dx ∧ F dx = some (.xd fs) ∧ fs.map (·.1) = x.ns ∧ Reps g F (fs.map (·.2)) x.ds)

theorem RepR.out {g : Wd} {F H : Hp} {S : Addr → Prop} {v : V} {r : R} {fr : List Addr} (h : RepR g F H S v r fr) : ∀ a ∈ fr, F a = none ∧ ¬ S a ∧ H a ≠ none := by
  cases r with
  | d x => obtain ⟨_, rfl⟩ := h; intro a ha; cases ha
  | own o => exact fun a ha => ⟨(h.2 a ha).1, (h.2 a ha).2, h.1.there a ha⟩
  | pk o => obtain ⟨rfl, _⟩ := h; intro a ha; cases ha
theorem RepRs.out {g : Wd} {F H : Hp} {S : Addr → Prop} {vs : List V} {rs : List R} {fr : List Addr} (h : RepRs g F H S vs rs fr) : ∀ a ∈ fr, F a = none ∧ ¬ S a ∧ H a ≠ none := by
  induction h with
  | nil => intro a ha; cases ha
  | cons h t ih =>
    intro a ha
    rcases List.mem_append.mp ha with ha | ha
    · exact h.out a ha
    · exact ih a ha
/-- a result that waits while other parts run -/
theorem RepR.keep {g : Wd} {F H F' H' : Hp} {S S' : Addr → Prop} {v : V} {r : R} {fr : List Addr} (h : RepR g F H S v r fr) (s : Step F H S F' H' S') (q : r.isPk = true → Ext H H') : RepR g F' H' S' v r fr := by
  cases r with
  | d x => exact ⟨h.1.mono s.ext, h.2⟩
  | own o =>
    have o' := RepR.out (r := .own o) h
    refine ⟨h.1.mono s.ext fun a ha u e => s.keep a u (o' a ha).2.1 e, fun a ha => ⟨?_, fun z => ?_⟩⟩
    · cases e : F' a with
      | none => rfl
      | some u =>
        rcases s.new a u e with e | e | e
        · rw [(o' a ha).1] at e; cases e
        · exact absurd e (o' a ha).2.1
        · exact absurd e (o' a ha).2.2
    · rcases s.fre a z with z | z
      · exact (o' a ha).2.1 z
      · exact (o' a ha).2.2 z
  | pk o => exact ⟨h.1, h.2.imp fun fp r => r.mono s.ext fun a _ u e => q rfl a u e⟩

/-! ## obligations -/
abbrev VRel (α β : Type) := Hp → Hp → (Addr → Prop) → β → α → List Addr → Prop
def Ob {α β : Type} (g : Wd) (W : WX) (σ : L2.St) (F H : Hp) (S : Addr → Prop) (Z : Bool → Hp → Ro → Prop) (RR : VRel α β) (res : Res α) (Q : β → Hp → Prop) : Prop :=
  res ≠ .no ∧
  (∀ r ρ' q, res = .ok r ρ' q → ∀ v F' H' fp' fr, Step F H S F' H' (Plus (Own fp') fr) → Stt g F' H' σ ρ' fp' → RR F' H' (Own fp') v r fr → fr.Nodup → Z q H' ρ' → Q v H') ∧
  (∀ x ρ', res = .ex x ρ' → ∀ cls d F' H' fp', Step F H S F' H' (Own fp') → Stt g F' H' σ ρ' fp' → RepX g F' cls d x → Z false H' ρ' → W cls d σ H')
/-- a borrowed place stays borrowed -/
def Kb (ρ ρ' : Ro) : Prop := ∀ (k : Nat) (o : O), ρ[k]? = some (.mu true o) → ∃ o', ρ'[k]? = some (.mu true o')
theorem Kb.refl (ρ : Ro) : Kb ρ ρ := fun _ o h => ⟨o, h⟩
theorem Kb.trans {a b c : Ro} (x : Kb a b) (y : Kb b c) : Kb a c := fun k o h => by
  obtain ⟨o', h⟩ := x k o h
  exact y k o' h
def Zq (H : Hp) (ρ : Ro) : Bool → Hp → Ro → Prop := fun q H' ρ' => Kb ρ ρ' ∧ (q = true → Ext H H' ∧ ρ' = ρ)
def tR {α β : Type} (g : Wd) (W : WX) (RR : VRel α β) (m : Ro → Res α) : L2.St → Hp → (β → Hp → Prop) → Prop := fun σ H Q =>
  ∃ F ρ fp, Stt g F H σ ρ fp ∧ Ob g W σ F H (Own fp) (Zq H ρ) RR (m ρ) Q
abbrev tM (g : Wd) (W : WX) (m : M) : TE := tR g W (RepR g) m
def mArgs : List M → Ro → Res (List R)
  | [], ρ => .ok [] ρ true
  | m :: ms, ρ => (m ρ).bind fun r ρ1 q1 => (mArgs ms ρ1).bind fun rs ρ2 q2 => if (r.isPk && !q2) = true then .no else .ok (r :: rs) ρ2 (q1 && q2)
abbrev tA (g : Wd) (W : WX) (ms : List M) : TA := tR g W (RepRs g) (mArgs ms)

theorem Ob.imp {α β : Type} {g : Wd} {W : WX} {σ : L2.St} {F H : Hp} {S : Addr → Prop} {Z : Bool → Hp → Ro → Prop} {RR : VRel α β} {res : Res α} {Q Q' : β → Hp → Prop} (h : Ob g W σ F H S Z RR res Q) (i : ∀ v H, Q v H → Q' v H) : Ob g W σ F H S Z RR res Q' :=
  ⟨h.1, fun r ρ' q e v F' H' fp' fr a b c d z => i _ _ (h.2.1 r ρ' q e v F' H' fp' fr a b c d z), h.2.2⟩
theorem tR.imp {α β : Type} {g : Wd} {W : WX} {RR : VRel α β} {m : Ro → Res α} {σ : L2.St} {H : Hp} {Q Q' : β → Hp → Prop} (h : tR g W RR m σ H Q) (i : ∀ v H, Q v H → Q' v H) : tR g W RR m σ H Q' := by
  obtain ⟨F, ρ, fp, st, ob⟩ := h
  exact ⟨F, ρ, fp, st, ob.imp i⟩
/-- after a first part -/
theorem Ob.after {α β : Type} {g : Wd} {W : WX} {σ : L2.St} {F H F1 H1 : Hp} {S S1 : Addr → Prop} {Z : Bool → Hp → Ro → Prop} {RR : VRel α β} {res : Res α} {Q : β → Hp → Prop} (h : Ob g W σ F H S Z RR res Q) (s : Step F H S F1 H1 S1) : Ob g W σ F1 H1 S1 Z RR res Q :=
  ⟨h.1, fun r ρ' q e v F' H' fp' fr a b c d z => h.2.1 r ρ' q e v F' H' fp' fr (s.trans a) b c d z, fun x ρ' e cls d F' H' fp' a b c z => h.2.2 x ρ' e cls d F' H' fp' (s.trans a) b c z⟩
/-- one part, then the rest: what the first one is to reach -/
theorem Ob.bind {α β γ δ : Type} {g : Wd} {W : WX} {σ : L2.St} {F H : Hp} {S : Addr → Prop} {Z Z1 : Bool → Hp → Ro → Prop} {RR : VRel α β} {RR1 : VRel γ δ} {res : Res γ} {k : γ → Ro → Bool → Res α} {Q : β → Hp → Prop} {Q1 : δ → Hp → Prop}
    (h : Ob g W σ F H S Z RR (res.bind k) Q)
    (i : ∀ r ρ1 q1, res = .ok r ρ1 q1 → ∀ v F1 H1 fp1 fr1, Step F H S F1 H1 (Plus (Own fp1) fr1) → Stt g F1 H1 σ ρ1 fp1 → RR1 F1 H1 (Own fp1) v r fr1 → fr1.Nodup → Z1 q1 H1 ρ1 → Ob g W σ F1 H1 (Plus (Own fp1) fr1) Z RR (k r ρ1 q1) Q → Q1 v H1)
    (hz : ∀ H' ρ', Z1 false H' ρ' → Z false H' ρ') : Ob g W σ F H S Z1 RR1 res Q1 := by
  refine ⟨fun e => ?_, fun r ρ1 q1 e v F1 H1 fp1 fr1 a b c d z => ?_, fun x ρ' e => ?_⟩
  · subst e; exact h.1 rfl
  · subst e; exact i r ρ1 q1 rfl v F1 H1 fp1 fr1 a b c d z (Ob.after h a)
  · subst e; exact fun cls d F' H' fp' a b c z => h.2.2 x ρ' rfl cls d F' H' fp' a b c (hz _ _ z)
theorem tR.bind {α β γ δ : Type} {g : Wd} {W : WX} {RR : VRel α β} {RR1 : VRel γ δ} {m : Ro → Res γ} {k : γ → Ro → Bool → Res α} {σ : L2.St} {H : Hp} {Q : β → Hp → Prop} {Q1 : δ → Hp → Prop}
    (h : tR g W RR (fun ρ => (m ρ).bind k) σ H Q)
    (i : ∀ F ρ fp, Stt g F H σ ρ fp → ∀ r ρ1 q1, m ρ = .ok r ρ1 q1 → ∀ v F1 H1 fp1 fr1, Step F H (Own fp) F1 H1 (Plus (Own fp1) fr1) → Stt g F1 H1 σ ρ1 fp1 → RR1 F1 H1 (Own fp1) v r fr1 → fr1.Nodup → Zq H ρ q1 H1 ρ1 → Ob g W σ F1 H1 (Plus (Own fp1) fr1) (Zq H ρ) RR (k r ρ1 q1) Q → Q1 v H1) :
    tR g W RR1 m σ H Q1 := by
  obtain ⟨F, ρ, fp, st, ob⟩ := h
  exact ⟨F, ρ, fp, st, ob.bind (i F ρ fp st) fun _ _ z => z⟩
theorem tA_nil {g : Wd} {W : WX} {σ : L2.St} {H : Hp} {Q : List V → Hp → Prop} (h : tA g W [] σ H Q) : Q [] H := by
  obtain ⟨F, ρ, fp, st, ob⟩ := h
  exact ob.2.1 [] ρ true rfl [] F H fp [] ⟨.refl F, fun _ _ _ h => h, fun _ _ h => .inl h, fun a h => .inl (h.elim id fun z => nomatch z)⟩ st .nil List.nodup_nil ⟨.refl ρ, fun _ => ⟨.refl H, rfl⟩⟩
theorem tA_cons {g : Wd} {W : WX} {m : M} {ms : List M} {σ : L2.St} {H : Hp} {Q : List V → Hp → Prop} (h : tA g W (m :: ms) σ H Q) : tM g W m σ H fun x H1 => tA g W ms σ H1 fun xs H2 => Q (x :: xs) H2 := by
  refine tR.bind h fun F ρ fp st r ρ1 q1 e1 v F1 H1 fp1 fr1 s1 st1 r1 n1 z1 ob => ⟨F1, ρ1, fp1, st1, ?_⟩
  refine ⟨fun e => ob.1 (by rw [e]; rfl), fun rs ρ2 q2 e vs F2 H2 fp2 fr2 s2 st2 r2 n2 z2 => ?_, fun x ρ' e cls d F' H' fp' a b c z => ?_⟩
  · rw [e] at ob
    by_cases hp : (r.isPk && !q2) = true
    · exact absurd (if_pos hp) ob.1
    · have hq : r.isPk = true → Ext H1 H2 := fun hk => (z2.2 (by cases q2 <;> simp_all)).1
      have o1 := r1.out
      have r1' := r1.keep s2 hq
      have o1' := r1'.out
      refine ob.2.1 (r :: rs) ρ2 (q1 && q2) (if_neg hp) (v :: vs) F2 H2 fp2 (fr1 ++ fr2) ((s2.frame fr1).weak fun x hx => ?_) st2 (.cons (r1.keep (s2.weak fun x hx => .inl hx) hq) r2) ?_ ⟨z1.1.trans z2.1, fun hz => ?_⟩
      · rcases hx with hx | hx
        · exact .inl (.inl hx)
        · rcases List.mem_append.mp hx with hx | hx
          · exact .inr hx
          · exact .inl (.inr hx)
      · exact List.nodup_append.mpr ⟨n1, n2, fun a ha b hb e => (o1' a ha).2.1 (.inr (e ▸ hb))⟩
      · have hz := Bool.and_eq_true_iff.mp hz
        exact ⟨(z1.2 hz.1).1.trans (z2.2 hz.2).1, (z2.2 hz.2).2.trans (z1.2 hz.1).2⟩
  · rw [e] at ob
    exact ob.2.2 x ρ' rfl cls d F' H' fp' ((a.frame fr1).weak fun x hx => .inl hx) b c ⟨z1.1.trans z.1, fun z => nomatch z⟩

/-! ## operations on results -/
structure LStep (F H : Hp) (fr : List Addr) (F' H' : Hp) (fr' : List Addr) : Prop where
  ext : Ext F F'
  exh : Ext H H'
  sub : Ext F' H'
  new : ∀ a o, F' a = some o → F a = some o ∨ a ∈ fr ∨ H a = none
  fre : ∀ a ∈ fr', a ∈ fr ∨ H a = none
def LeafG (g : Wd) (leaf : List R → Option R) (vs : List V) (H : Hp) (Q : VK) : Prop :=
  ∃ F S rs fr rr, Ext F H ∧ (∀ a, S a → H a ≠ none ∧ F a = none) ∧ RepRs g F H S vs rs fr ∧ fr.Nodup ∧ leaf rs = some rr ∧
    ∀ v F' H' fr', LStep F H fr F' H' fr' → RepR g F' H' S v rr fr' → fr'.Nodup → Q v H'
def mOps (ms : List M) (leaf : List R → Option R) : M := fun ρ => (mArgs ms ρ).bind fun rs ρ' q => match leaf rs with
  | some r => .ok r ρ' q
  | none => .no
theorem Stt.grown {g : Wd} {F H F' H' : Hp} {σ : L2.St} {ρ : Ro} {fp : Nat → List Addr} (s : Stt g F H σ ρ fp) (e : Ext F F') (eh : Ext H H') (sub : Ext F' H') (n : ∀ a, Own fp a → F' a = none) : Stt g F' H' σ ρ fp :=
  ⟨sub, s.len, s.un, fun i d h => (s.shr i d h).imp fun v h => ⟨h.1, h.2.mono e⟩, fun i b o h => (s.mu i b o h).imp fun v h => ⟨h.1, h.2.mono e fun a _ u => eh a u⟩, s.nd, s.dis, fun i a h => n a ⟨i, h⟩⟩
theorem Stt.there {g : Wd} {F H : Hp} {σ : L2.St} {ρ : Ro} {fp : Nat → List Addr} (s : Stt g F H σ ρ fp) {a : Addr} (h : Own fp a) : H a ≠ none ∧ F a = none := by
  obtain ⟨i, h⟩ := h
  refine ⟨?_, s.fre i a h⟩
  cases e : ρ[i]? with
  | none => rw [s.un i fun b o z => by rw [e] at z; cases z] at h; cases h
  | some x =>
    cases x with
    | un => rw [s.un i fun b o z => by rw [e] at z; cases z] at h; cases h
    | shr d => rw [s.un i fun b o z => by rw [e] at z; cases z] at h; cases h
    | mu b o =>
      obtain ⟨v, _, r⟩ := s.mu i b o e
      exact r.there a h
theorem tM_ops {g : Wd} {W : WX} {ms : List M} {leaf : List R → Option R} {σ : L2.St} {H : Hp} {Q : VK} (h : tM g W (mOps ms leaf) σ H Q) : tA g W ms σ H fun vs H1 => LeafG g leaf vs H1 Q := by
  refine tR.bind h fun F ρ fp st rs ρ1 q1 e1 vs F1 H1 fp1 fr1 s1 st1 r1 n1 z1 ob => ?_
  cases e : leaf rs with
  | none => rw [e] at ob; exact absurd rfl ob.1
  | some rr =>
    rw [e] at ob
    have o1 := r1.out
    refine ⟨F1, Own fp1, rs, fr1, rr, st1.sub, fun a ha => st1.there ha, r1, n1, e, fun v F' H' fr' l r' n' => ?_⟩
    refine ob.2.1 rr ρ1 q1 rfl v F' H' fp1 fr' ⟨l.ext, fun a o _ h => l.exh a o h, fun a o h => ?_, fun a h => ?_⟩ (st1.grown l.ext l.exh l.sub fun a ha => ?_) r' n' ⟨z1.1, fun z => ⟨(z1.2 z).1.trans l.exh, (z1.2 z).2⟩⟩
    · rcases l.new a o h with h | h | h
      · exact .inl h
      · exact .inr (.inl (.inr h))
      · exact .inr (.inr h)
    · rcases h with h | h
      · exact .inl (.inl h)
      · exact (l.fre a h).imp .inr id
    · cases q : F' a with
      | none => rfl
      | some u =>
        rcases l.new a u q with q | q | q
        · rw [(st1.there ha).2] at q; cases q
        · exact absurd ha (o1 a q).2.1
        · exact absurd q (st1.there ha).1
end Mw

set_option Elab.async false
set_option linter.all false
set_option maxRecDepth 100000
set_option autoImplicit false
namespace Mw
open PySem PySem.Spec PyProof.Rows L2
noncomputable section

/-! ## bounds; what the kernel is not to run -/
def hide {α : Type} (a : α) : α := Classical.choose (⟨a, rfl⟩ : ∃ x, x = a)
theorem hide_eq {α : Type} (a : α) : hide a = a := Classical.choose_spec (⟨a, rfl⟩ : ∃ x, x = a)
theorem hide_dec {p : Prop} [Decidable p] (h : hide (decide p) = true) : p := by rw [hide_eq] at h; exact of_decide_eq_true h
theorem dec_hide {p : Prop} [Decidable p] (h : p) : hide (decide p) = true := by rw [hide_eq]; exact decide_eq_true h
def lenOk (n : Nat) : Bool := hide (decide (n ≤ 16777216))
theorem lenOk_le {n : Nat} (h : lenOk n = true) : n ≤ 16777216 := hide_dec h
theorem lenOk_of {n : Nat} (h : n ≤ 1000000) : lenOk n = true := dec_hide (by omega)
def mulOk (i j : Int) : Bool := hide (decide ((-18446744073709551616 < i ∧ i < 18446744073709551616) ∨ (-18446744073709551616 < j ∧ j < 18446744073709551616)))
theorem mulOk_iff {i j : Int} (h : mulOk i j = true) : (-18446744073709551616 < i ∧ i < 18446744073709551616) ∨ (-18446744073709551616 < j ∧ j < 18446744073709551616) := hide_dec h
theorem mulOk_l {i j : Int} (h0 : -1000000000 ≤ i) (h : i ≤ 1000000000) : mulOk i j = true := dec_hide (by omega)
theorem mulOk_r {i j : Int} (h0 : -1000000000 ≤ j) (h : j ≤ 1000000000) : mulOk i j = true := dec_hide (by omega)
def repOk (n : Int) (l : Nat) : Bool := hide (decide (0 ≤ n ∧ n ≤ 1000 ∧ l ≤ 1000))
theorem repOk_iff {n : Int} {l : Nat} (h : repOk n l = true) : 0 ≤ n ∧ n ≤ 1000 ∧ l ≤ 1000 := hide_dec h
theorem repOk_of {n : Int} {l : Nat} (h0 : 0 ≤ n) (h : n ≤ 1000) (hl : l ≤ 1000) : repOk n l = true := dec_hide ⟨h0, h, hl⟩
def rgOk (j : Int) : Bool := hide (decide (-4611686018427387904 ≤ j ∧ j < 4611686018427387904))
theorem rgOk_iff {j : Int} (h : rgOk j = true) : -4611686018427387904 ≤ j ∧ j < 4611686018427387904 := hide_dec h
theorem rgOk_of {j : Int} (h0 : -1000000 ≤ j) (h : j ≤ 1000000) : rgOk j = true := dec_hide (by omega)
def powOk (i j : Int) : Bool := hide (decide (0 ≤ j ∧ j ≤ 1000 ∧ i.natAbs < 1000000))
theorem powOk_iff {i j : Int} (h : powOk i j = true) : 0 ≤ j ∧ j ≤ 1000 ∧ i.natAbs < 1000000 := hide_dec h
theorem powOk_of {i j : Int} (h0 : 0 ≤ j) (h : j ≤ 1000) (h1 : 0 ≤ i) (h2 : i < 1000000) : powOk i j = true := dec_hide ⟨h0, h, by omega⟩
def divOk (j : Int) : Bool := hide (decide (0 < j ∧ j < 1073741824))
theorem divOk_iff {j : Int} (h : divOk j = true) : 0 < j ∧ j < 1073741824 := hide_dec h
theorem divOk_of {j : Int} (h0 : 0 < j) (h : j < 1000000000) : divOk j = true := dec_hide (by omega)
def modOk (j : Int) : Bool := hide (decide (0 < j))
theorem modOk_iff {j : Int} (h : modOk j = true) : 0 < j := hide_dec h
theorem modOk_of {j : Int} (h0 : 0 < j) : modOk j = true := dec_hide h0
/-! ## plain readings of results -/
def undO : List O → Option (List D)
  | [] => some []
  | .d x :: r => (undO r).map (x :: ·)
  | _ :: _ => none
def O.plain : O → Option D
  | .d x => some x
  | .lst os => (undO os).map D.lst
  | _ => none
def R.pl : R → Option D
  | .d x => some x
  | .own o => o.plain
  | .pk o => o.plain
/-- the items of an owned plain list -/
def R.ol : R → Option (List D)
  | .own (.lst os) => undO os
  | .pk (.lst os) => undO os
  | _ => none
@[simp] theorem undO_map (ds : List D) : undO (ds.map O.d) = some ds := by
  induction ds with
  | nil => rfl
  | cons d ds ih => simp [undO, ih]
@[simp] theorem undO_nil : undO [] = some [] := rfl
@[simp] theorem undO_cons (x : D) (r : List O) : undO (.d x :: r) = (undO r).map (x :: ·) := rfl
@[simp] theorem undO_app (ds : List D) (r : List O) : undO (ds.map O.d ++ r) = (undO r).map (ds ++ ·) := by
  induction ds with
  | nil => simp [undO]
  | cons d ds ih => simp [undO, ih, Option.map_map, Function.comp_def]
theorem undO_eq {os : List O} {ds : List D} (h : undO os = some ds) : os = ds.map O.d := by
  induction os generalizing ds with
  | nil => cases h; rfl
  | cons o os ih =>
    cases o with
    | d x =>
      rw [undO_cons] at h
      cases e : undO os with
      | none => rw [e] at h; cases h
      | some es => rw [e] at h; cases h; rw [ih e]; rfl
    | lst xs => cases h
    | dct ks xs => cases h
    | obj c ns xs => cases h
@[simp] theorem R.pl_d (x : D) : (R.d x).pl = some x := rfl
@[simp] theorem R.pl_own (ds : List D) : (R.own (.lst (ds.map O.d))).pl = some (.lst ds) := by simp [R.pl, O.plain]
@[simp] theorem R.pl_pk (ds : List D) : (R.pk (.lst (ds.map O.d))).pl = some (.lst ds) := by simp [R.pl, O.plain]
@[simp] theorem R.ol_own (ds : List D) : (R.own (.lst (ds.map O.d))).ol = some ds := by simp [R.ol]
@[simp] theorem R.ol_pk (ds : List D) : (R.pk (.lst (ds.map O.d))).ol = some ds := by simp [R.ol]
@[simp] theorem R.isPk_d (x : D) : (R.d x).isPk = false := rfl
@[simp] theorem R.isPk_own (o : O) : (R.own o).isPk = false := rfl
@[simp] theorem R.isPk_pk (o : O) : (R.pk o).isPk = true := rfl

section
variable {g : Wd} {F H : Hp} {S : Addr → Prop} {v : V} {r : R} {fr : List Addr}
theorem RepR.ofOl (h : RepR g F H S v r fr) {ds : List D} (e : r.ol = some ds) : ∃ a vs, v = .ref a ∧ H a = some (.lst vs) ∧ vs.length ≤ sizeLine ∧ Reps g F vs ds := by
  have key : ∀ {o : O} {fp}, RepO g F H v o fp → ∀ os, o = .lst os → undO os = some ds → ∃ a vs, v = .ref a ∧ H a = some (.lst vs) ∧ vs.length ≤ sizeLine ∧ Reps g F vs ds := by
    intro o fp hr os e1 e2
    subst e1
    rw [undO_eq e2] at hr
    cases hr with
    | lst h1 hl r => exact ⟨_, _, rfl, h1, hl, r.toReps.1⟩
  cases r with
  | d x => cases e
  | own o =>
    cases o with
    | lst os => exact key h.1 os rfl e
    | d _ => cases e
    | dct _ _ => cases e
    | obj _ _ _ => cases e
  | pk o =>
    cases o with
    | lst os => obtain ⟨_, fp, hr⟩ := h; exact key hr os rfl e
    | d _ => cases e
    | dct _ _ => cases e
    | obj _ _ _ => cases e
theorem plain_lst {o : O} {x : D} (e : o.plain = some x) : o = .d x ∨ ∃ os ds, o = .lst os ∧ undO os = some ds ∧ x = .lst ds := by
  cases o with
  | d y => cases e; exact .inl rfl
  | lst os =>
    right
    have e : (undO os).map D.lst = some x := e
    cases q : undO os with
    | none => rw [q] at e; cases e
    | some ds => rw [q] at e; cases e; exact ⟨os, ds, rfl, q, rfl⟩
  | dct _ _ => cases e
  | obj _ _ _ => cases e
/-- data, or an owned plain list -/
theorem RepR.ofPl (h : RepR g F H S v r fr) {x : D} (e : r.pl = some x) : Rep g F v x ∨ ∃ a vs ds, x = .lst ds ∧ v = .ref a ∧ H a = some (.lst vs) ∧ vs.length ≤ sizeLine ∧ Reps g F vs ds := by
  cases r with
  | d y => cases e; exact .inl h.1
  | own o =>
    rcases plain_lst e with rfl | ⟨os, ds, rfl, q, rfl⟩
    · cases h.1; exact .inl (by assumption)
    · obtain ⟨a, vs, e1, e2, e3, e4⟩ := RepR.ofOl (r := .own (.lst os)) h q
      exact .inr ⟨a, vs, ds, rfl, e1, e2, e3, e4⟩
  | pk o =>
    rcases plain_lst e with rfl | ⟨os, ds, rfl, q, rfl⟩
    · obtain ⟨_, fp, hr⟩ := h; cases hr; exact .inl (by assumption)
    · obtain ⟨a, vs, e1, e2, e3, e4⟩ := RepR.ofOl (r := .pk (.lst os)) h q
      exact .inr ⟨a, vs, ds, rfl, e1, e2, e3, e4⟩
theorem RepR.int (h : RepR g F H S v r fr) {i : Int} (e : r.pl = some (.int i)) : v = .int i := by
  rcases h.ofPl e with h | ⟨_, _, _, z, _⟩
  · cases h; rfl
  · cases z
theorem RepR.bl (h : RepR g F H S v r fr) {i : Bool} (e : r.pl = some (.bl i)) : v = .bl i := by
  rcases h.ofPl e with h | ⟨_, _, _, z, _⟩
  · cases h; rfl
  · cases z
theorem RepR.non (h : RepR g F H S v r fr) (e : r.pl = some .non) : v = .non := by
  rcases h.ofPl e with h | ⟨_, _, _, z, _⟩
  · cases h; rfl
  · cases z
theorem RepR.str (h : RepR g F H S v r fr) {s : List Nat} (e : r.pl = some (.str s)) : v = .str ⟨s.toArray⟩ ∧ s.length ≤ sizeLine := by
  rcases h.ofPl e with h | ⟨_, _, _, z, _⟩
  · cases h with | str h1 => exact ⟨rfl, h1⟩
  · cases z
theorem RepR.tup (h : RepR g F H S v r fr) {ds : List D} (e : r.pl = some (.tup ds)) : ∃ a vs, v = .ref a ∧ SqT g.K F a vs ∧ vs.length ≤ sizeLine ∧ Reps g F vs ds := by
  rcases h.ofPl e with h | ⟨_, _, _, z, _⟩
  · cases h with | tup h1 hl r => exact ⟨_, _, rfl, h1, hl, r⟩
  · cases z
theorem RepR.lst (h : RepR g F H S v r fr) (sub : Ext F H) {ds : List D} (e : r.pl = some (.lst ds)) : ∃ a vs, v = .ref a ∧ SqL g.K H a vs ∧ vs.length ≤ sizeLine ∧ Reps g F vs ds := by
  rcases h.ofPl e with h | ⟨a, vs, _, z, e1, e2, e3, e4⟩
  · cases h with | lst h1 hl r => exact ⟨_, _, rfl, sub.sqL h1, hl, r⟩
  · cases z; exact ⟨a, vs, e1, .inl (.inl e2), e3, e4⟩
/-- read in the whole heap -/
theorem RepR.whole (h : RepR g F H S v r fr) (sub : Ext F H) {x : D} (e : r.pl = some x) : Rep g H v x := by
  rcases h.ofPl e with h | ⟨a, vs, ds, rfl, rfl, e2, e3, e4⟩
  · exact h.mono sub
  · exact .lst (.inl (.inl e2)) e3 (e4.mono sub)
end
theorem RepRs.one {g : Wd} {F H : Hp} {S : Addr → Prop} {vs : List V} {r : R} {fr : List Addr} (h : RepRs g F H S vs [r] fr) : ∃ v, vs = [v] ∧ RepR g F H S v r fr := by
  cases h with
  | cons h t => cases t; exact ⟨_, rfl, by simpa using h⟩
theorem RepRs.two {g : Wd} {F H : Hp} {S : Addr → Prop} {vs : List V} {r q : R} {fr : List Addr} (h : RepRs g F H S vs [r, q] fr) : ∃ v w f1 f2, vs = [v, w] ∧ fr = f1 ++ f2 ∧ RepR g F H S v r f1 ∧ RepR g F H S w q f2 := by
  cases h with
  | cons h t =>
    obtain ⟨w, rfl, h2⟩ := t.one
    exact ⟨_, _, _, _, rfl, rfl, h, h2⟩

/-! ## leaves: what an operation on values gives -/
theorem LStep.refl {F H : Hp} {fr : List Addr} (s : Ext F H) : LStep F H fr F H [] := ⟨.refl F, .refl H, s, fun _ _ h => .inl h, fun _ h => nomatch h⟩
/-- the value is plain data that stands already -/
theorem leaf_d {g : Wd} {F H : Hp} {S : Addr → Prop} {fr : List Addr} {d : D} {Q : VK} (s : Ext F H) (k : ∀ v F' H' fr', LStep F H fr F' H' fr' → RepR g F' H' S v (.d d) fr' → fr'.Nodup → Q v H') {v : V} (h : Rep g F v d) : Q v H :=
  k v F H [] (.refl s) ⟨h, rfl⟩ List.nodup_nil
theorem ext_upd {H : Hp} {p : Addr} {o : HO} (h : H p = none) : Ext H (upd H p o) := fun a u e => by
  rw [upd_ne (ne_of_none e h)]; exact e
theorem ext_upd2 {F H : Hp} {p : Addr} {o : HO} (s : Ext F H) : Ext F H → Ext (upd F p o) (upd H p o) := fun _ a u e => by
  unfold upd at e ⊢
  split at e
  · next z => rw [if_pos z]; exact e
  · next z => rw [if_neg z]; exact s a u e
theorem fnone {F H : Hp} {p : Addr} (s : Ext F H) (h : H p = none) : F p = none := by
  cases e : F p with
  | none => rfl
  | some o => rw [s p o e] at h; cases h
/-- a new tuple of data -/
theorem leaf_tup {g : Wd} {F H : Hp} {S : Addr → Prop} {fr : List Addr} {ds : List D} {Q : VK} (s : Ext F H) (k : ∀ v F' H' fr', LStep F H fr F' H' fr' → RepR g F' H' S v (.d (.tup ds)) fr' → fr'.Nodup → Q v H')
    {vs : List V} (h : Reps g F vs ds) (hl : vs.length ≤ sizeLine) {p : Addr} (hp : H p = none) : Q (.ref p) (upd H p (.tup vs)) := by
  have fp := fnone s hp
  refine k (.ref p) (upd F p (.tup vs)) (upd H p (.tup vs)) [] ⟨ext_upd fp, ext_upd hp, ext_upd2 s s, fun a o e => ?_, fun _ h => nomatch h⟩ ⟨.tup (.inl (.inl upd_same)) hl (h.mono (ext_upd fp)), rfl⟩ List.nodup_nil
  by_cases z : a = p
  · subst z; exact .inr (.inr hp)
  · rw [upd_ne z] at e; exact .inl e
/-- a new list of data -/
theorem leaf_lst {g : Wd} {F H : Hp} {S : Addr → Prop} {fr : List Addr} {ds : List D} {Q : VK} (s : Ext F H) (hS : ∀ a, S a → H a ≠ none ∧ F a = none) (k : ∀ v F' H' fr', LStep F H fr F' H' fr' → RepR g F' H' S v (.own (O.l ds)) fr' → fr'.Nodup → Q v H')
    {vs : List V} (h : Reps g F vs ds) (hl : vs.length ≤ sizeLine) {p : Addr} (hp : H p = none) : Q (.ref p) (upd H p (.lst vs)) := by
  have fp := fnone s hp
  refine k (.ref p) F (upd H p (.lst vs)) [p] ⟨.refl F, ext_upd hp, s.trans (ext_upd hp), fun a o e => .inl e, fun a h => ?_⟩ ⟨.lst upd_same hl (.ofReps h), fun a h => ?_⟩ (by simp)
  · rw [List.mem_singleton] at h; subst h; exact .inr hp
  · rw [List.mem_singleton] at h; subst h; exact ⟨fp, fun z => (hS a z).1 hp⟩
/-- what is handed over is frozen -/
theorem freezeF (F H : Hp) (fr : List Addr) : ∃ F', F' = (fun a => if a ∈ fr then H a else F a) := ⟨_, rfl⟩
def frz (F H : Hp) (fr : List Addr) : Hp := fun a => if a ∈ fr then H a else F a
theorem frz_ext {F H : Hp} {fr : List Addr} (s : Ext F H) : Ext F (frz F H fr) := fun a o e => by
  unfold frz; split
  · exact s a o e
  · exact e
theorem frz_sub {F H : Hp} {fr : List Addr} (s : Ext F H) : Ext (frz F H fr) H := fun a o e => by
  unfold frz at e; split at e
  · exact e
  · exact s a o e
theorem frz_mem {F H : Hp} {fr : List Addr} {a : Addr} (h : a ∈ fr) : frz F H fr a = H a := if_pos h
theorem frz_new {F H : Hp} {fr : List Addr} {a : Addr} {o : HO} (e : frz F H fr a = some o) : F a = some o ∨ a ∈ fr := by
  unfold frz at e; split at e
  · exact .inr (by assumption)
  · exact .inl e
/-- a result that is stored: data -/
def R.st : R → Option D
  | .d x => some x
  | .own o => if o.fz = true then some o.toD else none
  | .pk (.d x) => some x
  | .pk _ => none
@[simp] theorem R.st_d (x : D) : (R.d x).st = some x := rfl
@[simp] theorem R.st_own (ds : List D) : (R.own (.lst (ds.map O.d))).st = some (.lst ds) := by
  show (if (O.lst (ds.map O.d)).fz = true then some (O.lst (ds.map O.d)).toD else none) = _
  rw [show (O.lst (ds.map O.d)).fz = true from fzs_d ds, if_pos rfl, show (O.lst (ds.map O.d)).toD = .lst (toDs (ds.map O.d)) from rfl, toDs_d]
def sts : List R → Option (List D)
  | [] => some []
  | r :: rs => match r.st, sts rs with
    | some x, some xs => some (x :: xs)
    | _, _ => none
theorem RepR.st {g : Wd} {F H F' : Hp} {S : Addr → Prop} {v : V} {r : R} {fr : List Addr} (h : RepR g F H S v r fr) {x : D} (e : r.st = some x) (ex : Ext F F') (k : ∀ a ∈ fr, F' a = H a) : Rep g F' v x := by
  cases r with
  | d y => cases e; exact h.1.mono ex
  | own o =>
    unfold R.st at e
    dsimp only at e
    split at e
    · next z => cases e; exact h.1.freeze ex z fun a ha u q => (k a ha).trans q
    · cases e
  | pk o =>
    cases o with
    | d y =>
      cases e
      obtain ⟨_, fp, hr⟩ := h
      cases hr with
      | d r => exact r.mono ex
    | lst _ => cases e
    | dct _ _ => cases e
    | obj _ _ _ => cases e
theorem RepRs.sts {g : Wd} {F H F' : Hp} {S : Addr → Prop} {vs : List V} {rs : List R} {fr : List Addr} (h : RepRs g F H S vs rs fr) {xs : List D} (e : sts rs = some xs) (ex : Ext F F') (k : ∀ a ∈ fr, F' a = H a) : Reps g F' vs xs := by
  induction h generalizing xs with
  | nil => cases e; exact .nil
  | @cons v vs r rs f fr h t ih =>
    unfold Mw.sts at e
    split at e
    · next x' xs' e1 e2 =>
      cases e
      exact .cons (h.st e1 ex fun a ha => k a (by simp [ha])) (ih e2 fun a ha => k a (by simp [ha]))
    · cases e
theorem lstep_frz {F H : Hp} {fr : List Addr} (s : Ext F H) : LStep F H fr (frz F H fr) H [] :=
  ⟨frz_ext s, .refl H, frz_sub s, fun a o e => (frz_new e).imp id .inl, fun _ h => nomatch h⟩
theorem LStep.thn {F H F1 H1 F2 H2 : Hp} {fr f2 : List Addr} (a : LStep F H fr F1 H1 []) (b : LStep F1 H1 [] F2 H2 f2) : LStep F H fr F2 H2 f2 :=
  ⟨a.ext.trans b.ext, a.exh.trans b.exh, b.sub, fun x o e => by
    rcases b.new x o e with e | e | e
    · exact a.new x o e
    · cases e
    · cases q : H x with
      | none => exact .inr (.inr rfl)
      | some u => exact absurd (a.exh x u q) (by rw [e]; simp), fun x h => by
    rcases b.fre x h with h | h
    · cases h
    · cases q : H x with
      | none => exact .inr rfl
      | some u => exact absurd (a.exh x u q) (by rw [h]; simp)⟩

/-! ## judgements -/
abbrev gOf (X : Cx) : Wd := ⟨X.K, X.mg⟩
abbrev SE (X : Cx) (W : WX) (e : Expr) (m : M) : Prop := PE X e (tM (gOf X) W m)
abbrev SA (X : Cx) (W : WX) (es : List Expr) (ms : List M) : Prop := PA X es (tA (gOf X) W ms)
theorem PE.wk {X : Cx} {e : Expr} {t t' : TE} (h : PE X e t) (i : ∀ σ H Q, t' σ H Q → t σ H Q) : PE X e t' := ⟨fun pins s σ H Q I q => h.run pins s σ H Q I (i σ H Q q)⟩
theorem PA.wk {X : Cx} {e : List Expr} {t t' : TA} (h : PA X e t) (i : ∀ σ H Q, t' σ H Q → t σ H Q) : PA X e t' := ⟨fun po pins s σ H Q I q => h.run po pins s σ H Q I (i σ H Q q)⟩
theorem PT.wk {X : Cx} {e : Expr} {t t' : TT} (h : PT X e t) (i : ∀ σ H Q, t' σ H Q → t σ H Q) : PT X e t' := ⟨fun pins s σ H Q I q => h.run pins s σ H Q I (i σ H Q q)⟩
theorem PW.wk {X : Cx} {e : Expr} {t t' : TT} (h : PW X e t) (i : ∀ σ H Q, t' σ H Q → t σ H Q) : PW X e t' := ⟨fun wh pins s σ H Q I q => h.run wh pins s σ H Q I (i σ H Q q)⟩
theorem PS.wk {X : Cx} {e : Stmt} {t t' : TS} (h : PS X e t) (i : ∀ D σ H, t' D σ H → t D σ H) : PS X e t' := ⟨fun pins s σ H D I q => h.run pins s σ H D I (i D σ H q)⟩
theorem PSs.wk {X : Cx} {e : List Stmt} {t t' : TS} (h : PSs X e t) (i : ∀ D σ H, t' D σ H → t D σ H) : PSs X e t' := ⟨fun pins s σ H D I q => h.run pins s σ H D I (i D σ H q)⟩

section
variable {X : Cx} {W : WX} {pos : Pos} {a b c : Expr} {es : List Expr} {ma mb mc : M} {ms : List M}
theorem a_nil : SA X W [] [] := PA.wk pa_nil fun σ H Q h => tA_nil h
theorem a_cons (ha : SE X W a ma) (hr : SA X W es ms) (hs : starEach (a :: es) X.env = (false, eval a X.env) :: starEach es X.env := by rfl) : SA X W (a :: es) (ma :: ms) := PA.wk (pa_cons ha hr hs) fun σ H Q h => tA_cons h

/-! ### names, constants -/
def nm (i : Nat) : M := fun ρ => match ρ[i]? with
  | some (.shr d) => .ok (.d d) ρ true
  | some (.mu _ o) => .ok (.pk o) ρ true
  | _ => .no
theorem tR.ret {α β : Type} {g : Wd} {W : WX} {RR : VRel α β} {m : Ro → Res α} {σ : L2.St} {H : Hp} {Q : β → Hp → Prop} (h : tR g W RR m σ H Q)
    (i : ∀ F ρ fp, Stt g F H σ ρ fp → Ob g W σ F H (Own fp) (Zq H ρ) RR (m ρ) Q → ∃ v r, m ρ = .ok r ρ true ∧ RR F H (Own fp) v r []) : ∃ v, ∃ F ρ fp r, Stt g F H σ ρ fp ∧ m ρ = .ok r ρ true ∧ RR F H (Own fp) v r [] ∧ Q v H := by
  obtain ⟨F, ρ, fp, st, ob⟩ := h
  obtain ⟨v, r, e, rr⟩ := i F ρ fp st ob
  exact ⟨v, F, ρ, fp, r, st, e, rr, ob.2.1 r ρ true e v F H fp [] ⟨.refl F, fun _ _ _ h => h, fun _ _ h => .inl h, fun x h => .inl (h.elim id fun z => nomatch z)⟩ st rr List.nodup_nil ⟨.refl ρ, fun _ => ⟨.refl H, rfl⟩⟩⟩
theorem tM_nm {g : Wd} {i : Nat} {σ : L2.St} {H : Hp} {Q : VK} (h : tM g W (nm i) σ H Q) : tVar i σ H Q := by
  obtain ⟨F, ρ, fp, st, ob⟩ := h
  have fin : ∀ {v : V} {r : R}, σ[i]? = some (some v) → nm i ρ = .ok r ρ true → RepR g F H (Own fp) v r [] → tVar i σ H Q := fun {v r} e1 e2 rr =>
    ⟨v, e1, ob.2.1 r ρ true e2 v F H fp [] ⟨.refl F, fun _ _ _ h => h, fun _ _ h => .inl h, fun x h => .inl (h.elim id fun z => nomatch z)⟩ st rr List.nodup_nil ⟨.refl ρ, fun _ => ⟨.refl H, rfl⟩⟩⟩
  cases e : ρ[i]? with
  | none => exact absurd (by unfold nm; rw [e]) ob.1
  | some x =>
    cases x with
    | un => exact absurd (by unfold nm; rw [e]) ob.1
    | shr d =>
      obtain ⟨v, e1, r⟩ := st.shr i d e
      exact fin (r := .d d) e1 (by unfold nm; rw [e]) ⟨r, rfl⟩
    | mu b o =>
      obtain ⟨v, e1, r⟩ := st.mu i b o e
      exact fin (r := .pk o) e1 (by unfold nm; rw [e]) ⟨rfl, _, r⟩
theorem s_nm {i : Nat} {x : Str} (hN : X.N[i]? = some x) (hv : Vis X.env.scope x) (hd : (x == ("__debug__" : Str)) = false := by decide) (hcd : (x == ("__classdict__" : Str)) = false := by decide) : SE X W (.Name x pos) (nm i) :=
  PE.wk (pe_var hN hv hd hcd) fun σ H Q h => tM_nm h
def mC (d : D) : M := fun ρ => .ok (.d d) ρ true
theorem tM_C {g : Wd} {d : D} {v : V} {σ : L2.St} {H : Hp} {Q : VK} (h : tM g W (mC d) σ H Q) (r : ∀ F, Rep g F v d) : tC v σ H Q := by
  obtain ⟨F, ρ, fp, st, ob⟩ := h
  exact ob.2.1 (.d d) ρ true rfl v F H fp [] ⟨.refl F, fun _ _ _ h => h, fun _ _ h => .inl h, fun x h => .inl (h.elim id fun z => nomatch z)⟩ st ⟨r F, rfl⟩ List.nodup_nil ⟨.refl ρ, fun _ => ⟨.refl H, rfl⟩⟩
theorem s_int {i : Int} {j : Nat} : SE X W (.Constant (.int i) j pos) (mC (.int i)) := PE.wk pe_int fun σ H Q h => tM_C h fun F => .int i
theorem s_bl {i : Bool} {j : Nat} : SE X W (.Constant (.bool i) j pos) (mC (.bl i)) := PE.wk pe_bl fun σ H Q h => tM_C h fun F => .bl i
theorem s_non {j : Nat} : SE X W (.Constant .none j pos) (mC .non) := PE.wk pe_non fun σ H Q h => tM_C h fun F => .non
theorem rep_str {g : Wd} {F : Hp} {x : Str} {s : List Nat} (e : x.cps.toList = s) (hl : s.length ≤ sizeLine) : Rep g F (.str x) (.str s) := by
  subst e
  obtain ⟨c⟩ := x
  have := Rep.str (g := g) (F := F) (s := c.toList) hl
  simpa using this
theorem s_str {x : Str} {s : List Nat} {j : Nat} (e : x.cps.toList = s := by rfl) (hl : s.length ≤ sizeLine := by decide) : SE X W (.Constant (.str x) j pos) (mC (.str s)) := PE.wk pe_str fun σ H Q h => tM_C h fun F => rep_str e hl
theorem s_glob {x : Str} {v : V} {u : Value} {d : D} (hg : Gl X x) (hm : X.mg x = some u) (r : RelV v u) (hr : ∀ F, Rep (gOf X) F v d) (hd : (x == ("__debug__" : Str)) = false := by decide) : SE X W (.Name x pos) (mC d) :=
  PE.wk (pe_glob hg hm r hd) fun σ H Q h => tM_C h hr
end
end
end Mw

set_option Elab.async false
set_option linter.all false
set_option maxRecDepth 100000
set_option autoImplicit false
namespace Mw
open PySem PySem.Spec PyProof.Rows L2
noncomputable section

/-! ### list + list, whatever holds them -/
theorem ladd (l : Addr) (items : Array Value) (n : Nat) (sl1 : Array (Option Value)) (b : Addr) (items2 : Array Value) (n2 : Nat) (sl2 : Array (Option Value)) (hc0 : items.size + items2.size ≤ sizeLine) :
    Meets (Builtin.«list.__add__» ⟨[.ref l, .ref b], []⟩) (fun _ R s => s.heap.get? l = some { cls := .type "list", dict := none, data := .seq items n, slots := sl1 } ∧ s.heap.get? b = some { cls := .type "list", dict := none, data := .seq items2 n2, slots := sl2 } ∧ R (.ok (.ret (Value.ref s.heap.objs.size))) { s with heap := s.heap.push { cls := Value.type "list", data := Data.seq (items ++ items2) }, toks := s.toks }) :=
  .of_wp fun prog w A R s h => by obtain ⟨hp, g, d, tk, os⟩ := s; obtain ⟨hl, hb, h⟩ := h; have f1 := AutoSeq1.idx_int; have f2 := AutoSeq1.sub_tuple_tuple; have f3 := AutoSeq1.sub_list_list; have f4 := AutoSeq1.sub_tuple_list; have f5 := AutoSeq1.sub_list_tuple; wp_walk using AutoSeq1.wpAny_loadPart' hl, AutoSeq1.wpAny_loadPart' hb; exact ⟨_, rfl, h⟩
section
variable {X : Cx}
def rCatL (K : PySem.W.Frag) : R2 := fun x y H Q => ∃ l b xs zs, x = .ref l ∧ y = .ref b ∧ SqL K H l xs ∧ SqL K H b zs ∧ xs.length + zs.length ≤ sizeLine ∧ ∀ p, H p = none → Q (.ref p) (upd H p (.lst (xs ++ zs)))
theorem op_catL : OpR X (binaryOp .Add) (rCatL X.K) := by
  intro pins s σ H x y v u Q I rx ry h
  obtain ⟨l, b, xs, zs, rfl, rfl, hH, hB, hz, q⟩ := h
  cases rx
  cases ry
  obtain ⟨its, r, ⟨⟨cls, dd, data, sl⟩, n, ho, hc, hdn, hd⟩, hlen⟩ := I.list hH
  obtain ⟨its2, r2, ⟨⟨cls2, dd2, data2, sl2⟩, n2, ho2, hc2, hdn2, hd2⟩, hlen2⟩ := I.list hB
  simp only at hc hd hdn hc2 hd2 hdn2
  subst hc hd hdn hc2 hd2 hdn2
  have e1 := r.length
  have e2 := r2.length
  refine concat_meets ⟨_, ho, rfl⟩ ⟨_, ho2, rfl⟩ noFill_list_add seq_list_add F.slot_list_add F.entry_list_add (F.args_list_add_2 _ _) (ladd l its.toArray n _ b its2.toArray n2 _ (by rw [List.size_toArray, List.size_toArray]; omega)) ⟨ho, ho2, ?_⟩
  have ea : its.toArray ++ its2.toArray = (its ++ its2).toArray := by simp
  rw [ea]
  exact ⟨.ref _, _, I.lnew (t' := s.toks) (r.append r2) (by rw [List.length_append]; omega), rfl, q _ I.fresh⟩
end
section
variable {X : Cx} {W : WX} {pos : Pos} {a b c : Expr} {es : List Expr} {ma mb mc : M} {ms : List M}

/-! ### operators -/
abbrev leaf1 (f : R → Option R) : List R → Option R
  | [x] => f x
  | _ => none
abbrev leaf2 (f : R → R → Option R) : List R → Option R
  | [x, y] => f x y
  | _ => none
/-- what a rule about two values is asked -/
structure LF (g : Wd) (leaf : Option R) (F H : Hp) (S : Addr → Prop) (fr : List Addr) (Q : VK) : Prop where
  sub : Ext F H
  hS : ∀ a, S a → H a ≠ none ∧ F a = none
  nd : fr.Nodup
  go : ∃ rr, leaf = some rr ∧ ∀ v F' H' fr', LStep F H fr F' H' fr' → RepR g F' H' S v rr fr' → fr'.Nodup → Q v H'
theorem LF.val {g : Wd} {leaf : Option R} {F H : Hp} {S : Addr → Prop} {fr : List Addr} {Q : VK} (l : LF g leaf F H S fr Q) {d : D} (e : leaf = some (.d d)) {v : V} (h : Rep g F v d) : Q v H := by
  obtain ⟨rr, e', k⟩ := l.go
  rw [e] at e'; cases e'
  exact leaf_d l.sub k h
theorem LF.tup {g : Wd} {leaf : Option R} {F H : Hp} {S : Addr → Prop} {fr : List Addr} {Q : VK} (l : LF g leaf F H S fr Q) {ds : List D} (e : leaf = some (.d (.tup ds))) {vs : List V} (h : Reps g F vs ds) (hl : vs.length ≤ sizeLine) {p : Addr} (hp : H p = none) : Q (.ref p) (upd H p (.tup vs)) := by
  obtain ⟨rr, e', k⟩ := l.go
  rw [e] at e'; cases e'
  exact leaf_tup l.sub k h hl hp
theorem LF.lst {g : Wd} {leaf : Option R} {F H : Hp} {S : Addr → Prop} {fr : List Addr} {Q : VK} (l : LF g leaf F H S fr Q) {ds : List D} (e : leaf = some (.own (.lst (ds.map O.d)))) {vs : List V} (h : Reps g F vs ds) (hl : vs.length ≤ sizeLine) {p : Addr} (hp : H p = none) : Q (.ref p) (upd H p (.lst vs)) := by
  obtain ⟨rr, e', k⟩ := l.go
  rw [e] at e'; cases e'
  exact leaf_lst l.sub l.hS k h hl hp
theorem LF.has {g : Wd} {leaf : Option R} {F H : Hp} {S : Addr → Prop} {fr : List Addr} {Q : VK} (l : LF g leaf F H S fr Q) : ∃ r, leaf = some r := l.go.imp fun _ h => h.1
/-- a rule by its leaf -/
def LOk1 (g : Wd) (f : R → Option R) (r : V → Hp → VK → Prop) : Prop := ∀ F H S x p fr Q, RepR g F H S x p fr → LF g (f p) F H S fr Q → r x H Q
def LOk2 (g : Wd) (f : R → R → Option R) (r : R2) : Prop := ∀ F H S x y p q f1 f2 Q, RepR g F H S x p f1 → RepR g F H S y q f2 → LF g (f p q) F H S (f1 ++ f2) Q → r x y H Q
theorem LOk2.at {g : Wd} {f : R → R → Option R} {r : R2} (h : LOk2 g f r) {vs : List V} {H : Hp} {Q : VK} (l : LeafG g (leaf2 f) vs H Q) : ∃ x y, vs = [x, y] ∧ r x y H Q := by
  obtain ⟨F, S, rs, fr, rr, sub, hS, rp, nd, e, k⟩ := l
  match rs, e, rp with
  | [p, q], e, rp =>
    obtain ⟨v, w, f1, f2, rfl, rfl, h1, h2⟩ := rp.two
    exact ⟨v, w, rfl, h F H S v w p q f1 f2 Q h1 h2 ⟨sub, hS, nd, rr, e, k⟩⟩
theorem LOk1.at {g : Wd} {f : R → Option R} {r : V → Hp → VK → Prop} (h : LOk1 g f r) {vs : List V} {H : Hp} {Q : VK} (l : LeafG g (leaf1 f) vs H Q) : ∃ x, vs = [x] ∧ r x H Q := by
  obtain ⟨F, S, rs, fr, rr, sub, hS, rp, nd, e, k⟩ := l
  match rs, e, rp with
  | [p], e, rp =>
    obtain ⟨v, rfl, h1⟩ := rp.one
    exact ⟨v, rfl, h F H S v p fr Q h1 ⟨sub, hS, nd, rr, e, k⟩⟩
def m1 (f : R → Option R) (ma : M) : M := mOps [ma] (leaf1 f)
def m2 (f : R → R → Option R) (ma mb : M) : M := mOps [ma, mb] (leaf2 f)
theorem tM_m1 {g : Wd} {f : R → Option R} {r : V → Hp → VK → Prop} (h : LOk1 g f r) {σ : L2.St} {H : Hp} {Q : VK} (t : tM g W (m1 f ma) σ H Q) : tM g W ma σ H fun x H1 => r x H1 Q := by
  refine (tA_cons (tM_ops t)).imp fun x H1 q => ?_
  obtain ⟨y, e, q⟩ := h.at (tA_nil q)
  cases e; exact q
theorem tM_m2 {g : Wd} {f : R → R → Option R} {r : R2} (h : LOk2 g f r) {σ : L2.St} {H : Hp} {Q : VK} (t : tM g W (m2 f ma mb) σ H Q) : tOp r (tM g W ma) (tM g W mb) σ H Q := by
  refine (tA_cons (tM_ops t)).imp fun x H1 q => (tA_cons q).imp fun y H2 q => ?_
  obtain ⟨x', y', e, q⟩ := h.at (tA_nil q)
  cases e; exact q
/-- a op b -/
theorem s_bin {op : Operator} {f : R → R → Option R} {r : R2} (ho : OpR X (binaryOp op) r) (hl : LOk2 (gOf X) f r) (ha : SE X W a ma) (hb : SE X W b mb) : SE X W (.BinOp a op b pos) (m2 f ma mb) :=
  PE.wk (pe_op ho ha hb) fun σ H Q h => tM_m2 hl h
theorem s_un {op : UnaryOp} {f : R → Option R} {r : V → Hp → VK → Prop} (ho : UnR X (unaryOp op) r) (hl : LOk1 (gOf X) f r) (ha : SE X W a ma) : SE X W (.UnaryOp op a pos) (m1 f ma) :=
  PE.wk (pe_un ho ha) fun σ H Q h => tM_m1 hl h
theorem s_cmp {op : CmpOp} {f : R → R → Option R} {r : R2} (ho : OpR X (compareOp op) r) (hl : LOk2 (gOf X) f r) (ha : SE X W a ma) (hb : SE X W b mb) (hm : behindInMarks op b = false) : SE X W (.Compare a [op] [b] pos) (m2 f ma mb) :=
  PE.wk (pe_cmpR ho ha hb hm) fun σ H Q h => tM_m2 hl h
theorem s_ix {f : R → R → Option R} {r : R2} (ho : IxR X r) (hl : LOk2 (gOf X) f r) (ha : SE X W a ma) (hb : SE X W b mb) (hs : PlainIx b) : SE X W (.Subscript a b pos) (m2 f ma mb) :=
  PE.wk (pe_ix ho ha hb hs) fun σ H Q h => tM_m2 hl h
theorem LOk2.or {g : Wd} {f : R → R → Option R} {r r' : R2} (h : ∀ F H S x y p q f1 f2 Q, RepR g F H S x p f1 → RepR g F H S y q f2 → LF g (f p q) F H S (f1 ++ f2) Q → r x y H Q ∨ r' x y H Q) : LOk2 g f (fun x y H Q => r x y H Q ∨ r' x y H Q) := h

/-! + -/
def lAdd (p q : R) : Option R := match p.pl, q.pl with
  | some (.int i), some (.int j) => some (.d (.int (i + j)))
  | some (.str s), some (.str t) => if lenOk (s.length + t.length) = true then some (.d (.str (s ++ t))) else none
  | some (.tup s), some (.tup t) => if lenOk (s.length + t.length) = true then some (.d (.tup (s ++ t))) else none
  | some (.lst s), some (.lst t) => if lenOk (s.length + t.length) = true then some (.own (.lst ((s ++ t).map O.d))) else none
  | _, _ => none
theorem str_app {s t : List Nat} : (⟨s.toArray⟩ : Str) ++ ⟨t.toArray⟩ = ⟨(s ++ t).toArray⟩ := by
  show (⟨s.toArray ++ t.toArray⟩ : Str) = _
  simp
theorem str_len {s : List Nat} : (⟨s.toArray⟩ : Str).length = s.length := by
  show s.toArray.size = _
  simp
theorem op_addA : OpR X (binaryOp .Add) (fun x y H Q => (rI0 fun i j => .int (i + j)) x y H Q ∨ ((fun x y H Q => ∃ i j, x = .str i ∧ y = .str j ∧ i.length + j.length ≤ sizeLine ∧ Q (.str (i ++ j)) H) x y H Q ∨ (rCatA X.K x y H Q ∨ rCatL X.K x y H Q))) :=
  op_add.or (op_add_str.or (op_catA.or op_catL))
theorem l_add : LOk2 (gOf X) lAdd (fun x y H Q => (rI0 fun i j => .int (i + j)) x y H Q ∨ ((fun x y H Q => ∃ i j, x = .str i ∧ y = .str j ∧ i.length + j.length ≤ sizeLine ∧ Q (.str (i ++ j)) H) x y H Q ∨ (rCatA X.K x y H Q ∨ rCatL X.K x y H Q))) := by
  intro F H S x y p q f1 f2 Q rx ry l
  obtain ⟨rr, e⟩ := l.has
  have e0 := e
  unfold lAdd at e
  split at e
  · next i j e1 e2 =>
    cases e
    exact .inl ⟨i, j, rx.int e1, ry.int e2, l.val e0 (.int _)⟩
  · next s t e1 e2 =>
    split at e
    · next hl =>
      have hl := lenOk_le hl
      cases e
      obtain ⟨rfl, h1⟩ := rx.str e1
      obtain ⟨rfl, h2⟩ := ry.str e2
      rw [← sizeLine_eq] at hl
      refine .inr (.inl ⟨_, _, rfl, rfl, by rw [str_len, str_len]; exact hl, ?_⟩)
      rw [str_app]
      exact l.val e0 (.str (by rw [List.length_append]; exact hl))
    · cases e
  · next s t e1 e2 =>
    split at e
    · next hl =>
      have hl := lenOk_le hl
      cases e
      obtain ⟨a1, vs, rfl, k1, n1, r1⟩ := rx.tup e1
      obtain ⟨a2, ws, rfl, k2, n2, r2⟩ := ry.tup e2
      rw [← sizeLine_eq] at hl
      have hl' : vs.length + ws.length ≤ sizeLine := by rw [r1.length, r2.length]; exact hl
      refine .inr (.inr (.inl ⟨a1, a2, vs, ws, rfl, rfl, l.sub.sqT k1, l.sub.sqT k2, hl', fun z => ?_, fun _ z => ?_, fun _ _ p hp => ?_⟩))
      · subst z
        have z : s = [] := List.eq_nil_of_length_eq_zero r1.length.symm
        subst z
        exact l.val e0 (.tup k2 n2 (by simpa using r2))
      · subst z
        have z : t = [] := List.eq_nil_of_length_eq_zero r2.length.symm
        subst z
        exact l.val e0 (.tup k1 n1 (by simpa using r1))
      · exact l.tup e0 (r1.app r2) (by rw [List.length_append]; exact hl') hp
    · cases e
  · next s t e1 e2 =>
    split at e
    · next hl =>
      have hl := lenOk_le hl
      cases e
      obtain ⟨a1, vs, rfl, k1, n1, r1⟩ := rx.lst l.sub e1
      obtain ⟨a2, ws, rfl, k2, n2, r2⟩ := ry.lst l.sub e2
      rw [← sizeLine_eq] at hl
      have hl' : vs.length + ws.length ≤ sizeLine := by rw [r1.length, r2.length]; exact hl
      exact .inr (.inr (.inr ⟨a1, a2, vs, ws, rfl, rfl, k1, k2, hl', fun p hp => l.lst e0 (r1.app r2) (by rw [List.length_append]; exact hl') hp⟩))
    · cases e
  · cases e
theorem s_add (ha : SE X W a ma) (hb : SE X W b mb) : SE X W (.BinOp a .Add b pos) (m2 lAdd ma mb) := s_bin op_addA l_add ha hb
/-! ints -/
def lI (f : Int → Int → Option D) (p q : R) : Option R := match p.pl, q.pl with
  | some (.int i), some (.int j) => (f i j).map R.d
  | _, _ => none
theorem lI_some {f : Int → Int → Option D} {p q : R} {rr : R} (e : lI f p q = some rr) : ∃ i j d, p.pl = some (.int i) ∧ q.pl = some (.int j) ∧ f i j = some d ∧ rr = .d d := by
  unfold lI at e
  split at e
  · next i j e1 e2 =>
    cases q' : f i j with
    | none => rw [q'] at e; cases e
    | some d => rw [q'] at e; cases e; exact ⟨i, j, d, e1, e2, q', rfl⟩
  · cases e
theorem l_I {f : Int → Int → Option D} {C : Int → Int → Prop} {h : Int → Int → V} (k : ∀ i j d, f i j = some d → C i j ∧ ∀ F, Rep (gOf X) F (h i j) d) : LOk2 (gOf X) (lI f) (rI C h) := by
  intro F H S x y p q f1 f2 Q rx ry l
  obtain ⟨rr, e⟩ := l.has
  obtain ⟨i, j, d, e1, e2, e3, rfl⟩ := lI_some e
  exact ⟨i, j, rx.int e1, ry.int e2, (k i j d e3).1, l.val e ((k i j d e3).2 F)⟩
theorem l_I0 {f : Int → Int → Option D} {h : Int → Int → V} (k : ∀ i j d, f i j = some d → ∀ F, Rep (gOf X) F (h i j) d) : LOk2 (gOf X) (lI f) (rI0 h) := by
  intro F H S x y p q f1 f2 Q rx ry l
  obtain ⟨rr, e⟩ := l.has
  obtain ⟨i, j, d, e1, e2, e3, rfl⟩ := lI_some e
  exact ⟨i, j, rx.int e1, ry.int e2, l.val e (k i j d e3 F)⟩
abbrev lSub := lI fun i j => some (.int (i - j))
abbrev lMod := lI fun i j => if modOk j = true then some (.int (i % j)) else none
abbrev lDiv := lI fun i j => if divOk j = true then some (.int (i / j)) else none
abbrev lPow := lI fun i j => if powOk i j = true then some (.int (i ^ j.toNat)) else none
abbrev lLt := lI fun i j => some (.bl (decide (i < j)))
abbrev lLe := lI fun i j => some (.bl (decide (i ≤ j)))
abbrev lGt := lI fun i j => some (.bl (decide (j < i)))
abbrev lGe := lI fun i j => some (.bl (decide (j ≤ i)))
theorem s_sub (ha : SE X W a ma) (hb : SE X W b mb) : SE X W (.BinOp a .Sub b pos) (m2 lSub ma mb) := s_bin op_sub (l_I0 fun i j d e F => by cases e; exact .int _) ha hb
theorem s_mod (ha : SE X W a ma) (hb : SE X W b mb) : SE X W (.BinOp a .Mod b pos) (m2 lMod ma mb) := s_bin op_mod (l_I fun i j d e => by
  split at e
  · cases e; exact ⟨modOk_iff (by assumption), fun F => .int _⟩
  · cases e) ha hb
theorem s_div (ha : SE X W a ma) (hb : SE X W b mb) : SE X W (.BinOp a .FloorDiv b pos) (m2 lDiv ma mb) := s_bin op_fdiv (l_I fun i j d e => by
  split at e
  · cases e; exact ⟨divOk_iff (by assumption), fun F => .int _⟩
  · cases e) ha hb
theorem s_pow (ha : SE X W a ma) (hb : SE X W b mb) : SE X W (.BinOp a .Pow b pos) (m2 lPow ma mb) := s_bin op_pow (l_I fun i j d e => by
  split at e
  · next h => have h := powOk_iff h; cases e; exact ⟨⟨h.1, by omega, by have := h.2.2; omega⟩, fun F => .int _⟩
  · cases e) ha hb
theorem s_lt (ha : SE X W a ma) (hb : SE X W b mb) : SE X W (.Compare a [.Lt] [b] pos) (m2 lLt ma mb) := s_cmp op_lt (l_I0 fun i j d e F => by cases e; exact .bl _) ha hb (nomark _)
theorem s_le (ha : SE X W a ma) (hb : SE X W b mb) : SE X W (.Compare a [.LtE] [b] pos) (m2 lLe ma mb) := s_cmp op_le (l_I0 fun i j d e F => by cases e; exact .bl _) ha hb (nomark _)
theorem s_gt (ha : SE X W a ma) (hb : SE X W b mb) : SE X W (.Compare a [.Gt] [b] pos) (m2 lGt ma mb) := s_cmp op_gt (l_I0 fun i j d e F => by cases e; exact .bl _) ha hb (nomark _)
theorem s_ge (ha : SE X W a ma) (hb : SE X W b mb) : SE X W (.Compare a [.GtE] [b] pos) (m2 lGe ma mb) := s_cmp op_ge (l_I0 fun i j d e F => by cases e; exact .bl _) ha hb (nomark _)
abbrev lNeg (p : R) : Option R := match p.pl with
  | some (.int i) => some (.d (.int (-i)))
  | _ => none
theorem s_neg (ha : SE X W a ma) : SE X W (.UnaryOp .USub a pos) (m1 lNeg ma) := s_un un_neg (by
  intro F H S x p fr Q rx l
  obtain ⟨rr, e⟩ := l.has
  have e0 := e
  dsimp only [lNeg] at e
  split at e
  · next i e1 => cases e; exact ⟨i, rx.int e1, l.val e0 (.int _)⟩
  · cases e) ha
end
end
end Mw

set_option Elab.async false
set_option linter.all false
set_option maxRecDepth 100000
set_option autoImplicit false
namespace Mw
open PySem PySem.Spec PyProof.Rows L2
noncomputable section

section
variable {X : Cx} {W : WX} {pos : Pos} {a b c : Expr} {es : List Expr} {ma mb mc : M} {ms : List M}

/-! ### * -/
def rRepS : R2 := fun x y H Q => ∃ s n, x = .str s ∧ y = .int n ∧ 0 ≤ n ∧ n ≤ 1000 ∧ s.length ≤ 1000 ∧ Q (.str ⟨(List.replicate n.toNat s.cps.toList).flatten.toArray⟩) H
theorem size_repS (its : List Nat) : ∀ (m : Nat) (acc : Array Nat), (List.foldl (fun x1 x2 => x1 ++ x2) acc (List.replicate m its.toArray)) = acc ++ (List.replicate m its).flatten.toArray := by
  intro m
  induction m with
  | zero => intro acc; simp
  | succ m ih => intro acc; rw [List.replicate_succ, List.foldl_cons, ih, List.replicate_succ, List.flatten_cons]; simp [Array.append_assoc]
theorem flat_len {α : Type} (m : Nat) (l : List α) : (List.replicate m l).flatten.length = m * l.length := by
  induction m with
  | zero => simp
  | succ m ih => rw [List.replicate_succ, List.flatten_cons, List.length_append, ih, Nat.succ_mul, Nat.add_comm]
theorem op_repS : OpR X (binaryOp .Mult) rRepS := by
  intro pins s σ H x y v u Q I rx ry h
  obtain ⟨z, n, rfl, rfl, h0, h1, hz, q⟩ := h
  obtain ⟨t, rfl⟩ := rx
  obtain ⟨t', rfl⟩ := ry
  obtain ⟨⟨l⟩⟩ := z
  have hz : l.length ≤ 1000 := hz
  have sl : (1000 * 1000 : Nat) ≤ sizeLine := by rw [sizeLine_eq]; decide
  have hm : l.length * n.toNat ≤ 1000 * 1000 := Nat.mul_le_mul hz (by omega)
  have hlen : ((⟨⟨l⟩⟩ : Str)).length = l.length := rfl
  have n1 : ¬ n < -(2 ^ 63 : Int) := by omega
  have n2 : ¬ n ≥ (2 ^ 63 : Int) := by omega
  refine P.mul_str (by rw [decide_eq_false n1, decide_eq_false n2]; rfl) (fun h2 _ => ?_) (fun h2 _ => ?_) ?_
  · rw [hlen]
    have : (1000 : Int) ≤ (2 ^ 63 - 1) / n := by
      have : (2 ^ 63 - 1) / 1000 ≤ (2 ^ 63 - 1) / n := by
        have e1 : (2 ^ 63 - 1 : Int) / 1000 * n ≤ 2 ^ 63 - 1 := by omega
        exact Int.le_ediv_of_mul_le (by omega) e1
      omega
    omega
  · rw [hlen]
    unfold Builtin.Str.tooLong
    exact decide_eq_false (by omega)
  · have fin : ∀ (w : Str), w = ⟨(List.replicate n.toNat l).flatten.toArray⟩ → Q (.str w) H := fun w e => by rw [e]; exact q
    by_cases hn : n < 1
    · rw [if_pos hn]
      have : n = 0 := by omega
      subst this
      exact ⟨by decide, .str _, H, I.tok _, ⟨_, rfl⟩, fin _ rfl⟩
    · rw [if_neg hn]
      by_cases hk : (n == 1 || (⟨⟨l⟩⟩ : Str).length == 0) = true
      · rw [if_pos hk]
        refine ⟨.str ⟨⟨l⟩⟩, H, I, ⟨_, rfl⟩, fin _ ?_⟩
        rcases Bool.or_eq_true_iff.mp hk with hk | hk
        · have : n = 1 := by simpa using hk
          subst this; simp
        · have : l = [] := List.eq_nil_of_length_eq_zero (show l.length = 0 by simpa using (show (l.length == 0) = true from hk))
          subst this; simp
      · rw [if_neg hk]
        have e := size_repS l n.toNat #[]
        simp only [Array.empty_append] at e
        refine ⟨?_, .str _, H, I.tok _, ⟨_, rfl⟩, fin _ (by rw [← e])⟩
        show (List.foldl (fun x1 x2 => x1 ++ x2) #[] (List.replicate n.toNat l.toArray)).size ≤ sizeLine
        rw [e, List.size_toArray, flat_len]
        rw [Nat.mul_comm] at hm
        omega
def lMul (p q : R) : Option R := match p.pl, q.pl with
  | some (.int i), some (.int j) => if mulOk i j = true then some (.d (.int (i * j))) else none
  | some (.str s), some (.int n) => if repOk n s.length = true then some (.d (.str (List.replicate n.toNat s).flatten)) else none
  | some (.lst _), some (.int n) => match p.ol with
    | some s => if repOk n s.length = true then some (.own (.lst ((List.replicate n.toNat s).flatten.map O.d))) else none
    | none => none
  | _, _ => none
theorem Reps.flat {g : Wd} {F : Hp} {vs : List V} {ds : List D} (h : Reps g F vs ds) : ∀ n : Nat, Reps g F (List.replicate n vs).flatten (List.replicate n ds).flatten
  | 0 => .nil
  | n + 1 => by
    rw [List.replicate_succ, List.replicate_succ, List.flatten_cons, List.flatten_cons]
    exact h.app (Reps.flat h n)
theorem op_mulA : OpR X (binaryOp .Mult) (fun x y H Q => (rI CMul fun i j => .int (i * j)) x y H Q ∨ (rRepS x y H Q ∨ rRep x y H Q)) := op_mul.or (op_repS.or op_rep)
theorem l_mul : LOk2 (gOf X) lMul (fun x y H Q => (rI CMul fun i j => .int (i * j)) x y H Q ∨ (rRepS x y H Q ∨ rRep x y H Q)) := by
  intro F H S x y p q f1 f2 Q rx ry l
  obtain ⟨rr, e⟩ := l.has
  have e0 := e
  unfold lMul at e
  split at e
  · next i j e1 e2 =>
    split at e
    · next hc =>
      have hc := mulOk_iff hc
      cases e
      exact .inl ⟨i, j, rx.int e1, ry.int e2, by unfold CMul; omega, l.val e0 (.int _)⟩
    · cases e
  · next s n e1 e2 =>
    split at e
    · next hc =>
      have hc := repOk_iff hc
      cases e
      obtain ⟨rfl, h1⟩ := rx.str e1
      refine .inr (.inl ⟨_, n, rfl, ry.int e2, hc.1, hc.2.1, by rw [str_len]; exact hc.2.2, l.val e0 (.str ?_)⟩)
      show (List.replicate n.toNat s).flatten.length ≤ sizeLine
      rw [flat_len, sizeLine_eq]
      have := Nat.mul_le_mul (show n.toNat ≤ 1000 by omega) hc.2.2
      omega
    · cases e
  · next s' n e1 e2 =>
    split at e
    · next s e3 =>
      split at e
      · next hc =>
        have hc := repOk_iff hc
        cases e
        obtain ⟨a1, vs, rfl, k1, n1, r1⟩ := rx.ofOl e3
        have hz : vs.length * n.toNat ≤ sizeLine := by
          rw [sizeLine_eq, r1.length]
          have := Nat.mul_le_mul hc.2.2 (show n.toNat ≤ 1000 by omega)
          omega
        exact .inr (.inr ⟨a1, n, vs, rfl, ry.int e2, k1, by omega, by omega, hz, fun p hp => l.lst e0 (r1.flat _) (by rw [flat_len, Nat.mul_comm]; exact hz) hp⟩)
      · cases e
    · cases e
  · cases e
theorem s_mul (ha : SE X W a ma) (hb : SE X W b mb) : SE X W (.BinOp a .Mult b pos) (m2 lMul ma mb) := s_bin op_mulA l_mul ha hb

/-! ### is None -/
def D.isNon : D → Bool
  | .non => true
  | _ => false
theorem rep_non {g : Wd} {F : Hp} {v : V} {d : D} (h : Rep g F v d) : decide (v = .non) = d.isNon := by
  cases h <;> first | rfl | exact decide_eq_false (fun z => nomatch z)
def lIsN (p q : R) : Option R := match p.pl, q.pl with
  | some x, some .non => some (.d (.bl x.isNon))
  | _, _ => none
def lNotN (p q : R) : Option R := match p.pl, q.pl with
  | some x, some .non => some (.d (.bl (!x.isNon)))
  | _, _ => none
theorem s_isN (ha : SE X W a ma) (hb : SE X W b mb) : SE X W (.Compare a [.Is] [b] pos) (m2 lIsN ma mb) := s_cmp op_isN (by
  intro F H S x y p q f1 f2 Q rx ry l
  obtain ⟨rr, e⟩ := l.has
  have e0 := e
  unfold lIsN at e
  split at e
  · next i e1 e2 =>
    cases e
    refine ⟨ry.non e2, ?_⟩
    rw [rep_non (rx.whole l.sub e1)]
    exact l.val e0 (.bl _)
  · cases e) ha hb (nomark _)
theorem s_notN (ha : SE X W a ma) (hb : SE X W b mb) : SE X W (.Compare a [.IsNot] [b] pos) (m2 lNotN ma mb) := s_cmp op_notN (by
  intro F H S x y p q f1 f2 Q rx ry l
  obtain ⟨rr, e⟩ := l.has
  have e0 := e
  unfold lNotN at e
  split at e
  · next i e1 e2 =>
    cases e
    refine ⟨ry.non e2, ?_⟩
    rw [rep_non (rx.whole l.sub e1)]
    exact l.val e0 (.bl _)
  · cases e) ha hb (nomark _)

/-! ### data as the library's -/
mutual
def D.py : D → PyData
  | .non => .none
  | .bl b => .bool b
  | .int i => .int i
  | .str s => .str ⟨s.toArray⟩
  | .tup xs => .tuple (pys xs)
  | .lst xs => .list (pys xs)
  | .obj _ _ _ => .dict []
def pys : List D → List PyData
  | [] => []
  | x :: xs => x.py :: pys xs
end
mutual
def D.nob : D → Bool
  | .tup xs => nobs xs
  | .lst xs => nobs xs
  | .obj _ _ _ => false
  | _ => true
def nobs : List D → Bool
  | [] => true
  | x :: xs => x.nob && nobs xs
end
mutual
theorem Rep.dp {g : Wd} {H : Hp} : ∀ {v : V} {d : D}, Rep g H v d → d.nob = true → Dp g.K H v d.py
  | _, _, .non, _ => .non
  | _, _, .bl b, _ => .bl b
  | _, _, .int i, _ => .int i
  | _, _, .str h, _ => .str _
  | _, _, .tup h hl r, n => .tup h (Reps.dp r n)
  | _, _, .lst h hl r, n => .lst h (Reps.dp r n)
  | _, _, .obj hc h hd hn r, n => nomatch n
theorem Reps.dp {g : Wd} {H : Hp} : ∀ {vs : List V} {ds : List D}, Reps g H vs ds → nobs ds = true → DpAll g.K H vs (pys ds)
  | _, _, .nil, _ => .nil
  | _, _, .cons h t, n => by
    have n := Bool.and_eq_true_iff.mp (show (_ && _) = true from n)
    exact .cons (Rep.dp h n.1) (Reps.dp t n.2)
end
theorem pys_map (ds : List D) : pys ds = ds.map D.py := by
  induction ds with
  | nil => rfl
  | cons d ds ih => show d.py :: pys ds = _; rw [ih]; rfl
/-- of a shape that == can be asked of -/
def D.shp (d : D) : Bool := d.nob && SeqAt.shaped d.py
/-- Python's == -/
def D.eqv (x y : D) : Bool := PyData.eqv x.py y.py
@[simp] theorem eqv_int (i j : Int) : D.eqv (.int i) (.int j) = (i == j) := rfl
@[simp] theorem eqv_bl (i j : Bool) : D.eqv (.bl i) (.bl j) = (i == j) := rfl
@[simp] theorem shp_int (i : Int) : D.shp (.int i) = true := rfl
@[simp] theorem shp_bl (i : Bool) : D.shp (.bl i) = true := rfl
@[simp] theorem shp_non : D.shp .non = true := rfl
def lEq (p q : R) : Option R := match p.pl, q.pl with
  | some (.int i), some (.int j) => some (.d (.bl (decide (i = j))))
  | some (.bl i), some (.bl j) => some (.d (.bl (decide (i = j))))
  | some (.str i), some (.str j) => some (.d (.bl (decide (i = j))))
  | some x, some y => if x.shp = true ∧ y.shp = true then some (.d (.bl (D.eqv x y))) else none
  | _, _ => none
def lNe (p q : R) : Option R := match p.pl, q.pl with
  | some (.int i), some (.int j) => some (.d (.bl (!decide (i = j))))
  | some (.bl i), some (.bl j) => some (.d (.bl (!decide (i = j))))
  | some (.str i), some (.str j) => some (.d (.bl (!decide (i = j))))
  | some x, some y => if x.shp = true ∧ y.shp = true then some (.d (.bl (!D.eqv x y))) else none
  | _, _ => none
theorem shp_dp {g : Wd} {H : Hp} {v : V} {d : D} (h : Rep g H v d) (s : d.shp = true) : Dp g.K H v d.py ∧ SeqAt.shaped d.py = true := by
  have s := Bool.and_eq_true_iff.mp s
  exact ⟨h.dp s.1, s.2⟩
theorem l_eq : LOk2 (gOf X) lEq (fun x y H Q => rEq x y H Q ∨ rEqD X.K x y H Q) := by
  intro F H S x y p q f1 f2 Q rx ry l
  obtain ⟨rr, e⟩ := l.has
  have e0 := e
  unfold lEq at e
  split at e
  · next i j e1 e2 =>
    cases e
    rw [rx.int e1, ry.int e2]
    refine .inl ⟨rfl, ?_⟩
    rw [show decide (V.int i = V.int j) = decide (i = j) from decide_eq_decide.mpr ⟨fun h => V.int.inj h, fun h => by rw [h]⟩]
    exact l.val e0 (.bl _)
  · next i j e1 e2 =>
    cases e
    rw [rx.bl e1, ry.bl e2]
    refine .inl ⟨rfl, ?_⟩
    rw [show decide (V.bl i = V.bl j) = decide (i = j) from decide_eq_decide.mpr ⟨fun h => V.bl.inj h, fun h => by rw [h]⟩]
    exact l.val e0 (.bl _)
  · next i j e1 e2 =>
    cases e
    rw [(rx.str e1).1, (ry.str e2).1]
    refine .inl ⟨rfl, ?_⟩
    rw [show decide (V.str ⟨i.toArray⟩ = V.str ⟨j.toArray⟩) = decide (i = j) from decide_eq_decide.mpr ⟨fun h => by simpa using h, fun h => by rw [h]⟩]
    exact l.val e0 (.bl _)
  · next x' y' _ _ _ e1 e2 =>
    split at e
    · next hs =>
      cases e
      obtain ⟨d1, s1⟩ := shp_dp (rx.whole l.sub e1) hs.1
      obtain ⟨d2, s2⟩ := shp_dp (ry.whole l.sub e2) hs.2
      exact .inr ⟨_, _, d1, d2, s1, s2, l.val e0 (.bl _)⟩
    · cases e
  · cases e
theorem l_ne : LOk2 (gOf X) lNe (fun x y H Q => rNe x y H Q ∨ rNeD X.K x y H Q) := by
  intro F H S x y p q f1 f2 Q rx ry l
  obtain ⟨rr, e⟩ := l.has
  have e0 := e
  unfold lNe at e
  split at e
  · next i j e1 e2 =>
    cases e
    rw [rx.int e1, ry.int e2]
    refine .inl ⟨rfl, ?_⟩
    rw [show decide (V.int i = V.int j) = decide (i = j) from decide_eq_decide.mpr ⟨fun h => V.int.inj h, fun h => by rw [h]⟩]
    exact l.val e0 (.bl _)
  · next i j e1 e2 =>
    cases e
    rw [rx.bl e1, ry.bl e2]
    refine .inl ⟨rfl, ?_⟩
    rw [show decide (V.bl i = V.bl j) = decide (i = j) from decide_eq_decide.mpr ⟨fun h => V.bl.inj h, fun h => by rw [h]⟩]
    exact l.val e0 (.bl _)
  · next i j e1 e2 =>
    cases e
    rw [(rx.str e1).1, (ry.str e2).1]
    refine .inl ⟨rfl, ?_⟩
    rw [show decide (V.str ⟨i.toArray⟩ = V.str ⟨j.toArray⟩) = decide (i = j) from decide_eq_decide.mpr ⟨fun h => by simpa using h, fun h => by rw [h]⟩]
    exact l.val e0 (.bl _)
  · next x' y' _ _ _ e1 e2 =>
    split at e
    · next hs =>
      cases e
      obtain ⟨d1, s1⟩ := shp_dp (rx.whole l.sub e1) hs.1
      obtain ⟨d2, s2⟩ := shp_dp (ry.whole l.sub e2) hs.2
      exact .inr ⟨_, _, d1, d2, s1, s2, l.val e0 (.bl _)⟩
    · cases e
  · cases e
theorem s_eq (hu : X.A.units + 64 < cLine) (ha : SE X W a ma) (hb : SE X W b mb) : SE X W (.Compare a [.Eq] [b] pos) (m2 lEq ma mb) := s_cmp (op_eq.or (op_eqD hu)) l_eq ha hb (nomark _)
theorem s_ne (hu : X.A.units + 64 < cLine) (ha : SE X W a ma) (hb : SE X W b mb) : SE X W (.Compare a [.NotEq] [b] pos) (m2 lNe ma mb) := s_cmp (op_ne.or (op_neD hu)) l_ne ha hb (nomark _)

/-! ### in -/
def D.flat : D → Bool
  | .non | .bl _ | .int _ | .str _ => true
  | _ => false
def flats (ds : List D) : Bool := ds.all D.flat
theorem rep_flat {g : Wd} {F : Hp} {v : V} {d : D} (h : Rep g F v d) (e : d.flat = true) : L2.flatV v = true := by
  cases h <;> first | rfl | cases e
theorem reps_flat {g : Wd} {F : Hp} {vs : List V} {ds : List D} (h : Reps g F vs ds) (e : flats ds = true) : vs.all L2.flatV = true := by
  induction ds generalizing vs with
  | nil => cases h; rfl
  | cons d ds ih =>
    cases h with
    | cons h t =>
      have e := Bool.and_eq_true_iff.mp (show (d.flat && flats ds) = true from e)
      rw [List.all_cons, rep_flat h e.1, ih t e.2]; rfl
theorem eqV_eqv {g : Wd} {F F' : Hp} {v w : V} {d e : D} (h : Rep g F v d) (k : Rep g F' w e) (fd : d.flat = true) (fe : e.flat = true) : L2.eqV v w = D.eqv d e := by
  cases h <;> first | (cases fd; done) | skip
  all_goals (cases k <;> first | (cases fe; done) | rfl)
theorem inV_any {g : Wd} {F F' : Hp} {v : V} {d : D} (h : Rep g F v d) (fd : d.flat = true) : ∀ {vs : List V} {ds : List D}, Reps g F' vs ds → flats ds = true → L2.inV v vs = ds.any fun z => D.eqv z d
  | _, _, .nil, _ => rfl
  | _, _, .cons (d := d') (ds := ds') k t, e => by
    have e := Bool.and_eq_true_iff.mp (show (d'.flat && flats ds') = true from e)
    show (L2.eqV _ v || L2.inV v _) = (D.eqv _ _ || _)
    rw [eqV_eqv k h e.1 fd, inV_any h fd t e.2]
/-- x in c: a sign in a text, a flat thing in a list or tuple of flat things, data in a list -/
def isIn (p q : R) : Option Bool := match p.pl, q.pl with
  | some (.str [n]), some (.str s) => some (decide (n ∈ s))
  | some x, some (.tup ds) => if x.flat = true ∧ flats ds = true then some (ds.any fun z => D.eqv z x) else none
  | some x, some (.lst ds) => if x.flat = true ∧ flats ds = true then some (ds.any fun z => D.eqv z x) else if x.shp = true ∧ (D.lst ds).shp = true then some (ds.any fun z => D.eqv z x) else none
  | _, _ => none
def lIn (p q : R) : Option R := (isIn p q).map fun b => .d (.bl b)
def lNotIn (p q : R) : Option R := (isIn p q).map fun b => .d (.bl (!b))
def rInA (K : PySem.W.Frag) (neg : Bool) : R2 := fun x y H Q => (∃ (c : Nat) (z : Str), x = .str ⟨#[c]⟩ ∧ y = .str z ∧ Q (.bl (if neg then !decide (c ∈ z.cps.toList) else decide (c ∈ z.cps.toList))) H) ∨ (rIn K neg x y H Q ∨
  ∃ d ds, Dp K H x d ∧ Dp K H y (.list ds) ∧ SeqAt.shaped d = true ∧ SeqAt.shaped (.list ds) = true ∧ Q (.bl (if neg then !ds.any fun z => PyData.eqv z d else ds.any fun z => PyData.eqv z d)) H)
theorem l_inA (neg : Bool) : LOk2 (gOf X) (fun p q => (isIn p q).map fun b => .d (.bl (if neg then !b else b))) (rInA X.K neg) := by
  intro F H S x y p q f1 f2 Q rx ry l
  obtain ⟨rr, e⟩ := l.has
  dsimp only at e l
  cases e1 : isIn p q with
  | none => rw [e1] at e; cases e
  | some b =>
    rw [e1] at l
    have fin : Q (.bl (if neg then !b else b)) H := l.val rfl (.bl _)
    unfold isIn at e1
    split at e1
    · next n s h1 h2 =>
      cases e1
      exact .inl ⟨n, _, (rx.str h1).1, (ry.str h2).1, fin⟩
    · next x' ds h1 h2 =>
      split at e1
      · next hc =>
        cases e1
        obtain ⟨a1, vs, rfl, k1, n1, r1⟩ := ry.tup h2
        have rxw := rx.whole l.sub h1
        refine .inr (.inl ⟨a1, vs, rfl, .inr (l.sub.sqT k1), rep_flat rxw hc.1, reps_flat r1 hc.2, ?_⟩)
        rw [inV_any rxw hc.1 r1 hc.2]
        exact fin
      · cases e1
    · next x' ds _ h1 h2 =>
      obtain ⟨a1, vs, rfl, k1, n1, r1⟩ := ry.lst l.sub h2
      have rxw := rx.whole l.sub h1
      split at e1
      · next hc =>
        cases e1
        refine .inr (.inl ⟨a1, vs, rfl, .inl k1, rep_flat rxw hc.1, reps_flat r1 hc.2, ?_⟩)
        rw [inV_any rxw hc.1 r1 hc.2]
        exact fin
      · split at e1
        · next hc =>
          cases e1
          obtain ⟨d1, s1⟩ := shp_dp rxw hc.1
          obtain ⟨d2, s2⟩ := shp_dp (ry.whole l.sub h2) hc.2
          refine .inr (.inr ⟨_, _, d1, d2, s1, s2, ?_⟩)
          rw [pys_map, List.any_map]
          exact fin
        · cases e1
    · cases e1
theorem s_in (hu : X.A.units + 65 < cLine) (ha : SE X W a ma) (hb : SE X W b mb) (hm : behindInMarks .In b = false) : SE X W (.Compare a [.In] [b] pos) (m2 lIn ma mb) :=
  s_cmp (op_in_sign.or (op_in_seq.or (op_inD hu))) (l_inA false) ha hb hm
theorem s_notin (hu : X.A.units + 65 < cLine) (ha : SE X W a ma) (hb : SE X W b mb) (hm : behindInMarks .NotIn b = false) : SE X W (.Compare a [.NotIn] [b] pos) (m2 lNotIn ma mb) :=
  s_cmp (op_notIn_sign.or (op_notIn_seq.or (op_notInD hu))) (l_inA true) ha hb hm
end
end
end Mw

set_option Elab.async false
set_option linter.all false
set_option maxRecDepth 100000
set_option autoImplicit false
namespace Mw
open PySem PySem.Spec PyProof.Rows L2
noncomputable section

section
variable {X : Cx} {W : WX} {pos : Pos} {a b c : Expr} {es : List Expr} {ma mb mc : M} {ms : List M}

/-! ### places -/
theorem ixN_lt {n : Nat} {i : Int} {j : Nat} (h : ixN n i = some j) : j < n := (ixN_seq h).2.1
theorem Reps.atI {g : Wd} {F : Hp} {vs : List V} {ds : List D} (h : Reps g F vs ds) {i : Int} {d : D} (e : L2.atI ds i = some d) : ∃ v, L2.atI vs i = some v ∧ Rep g F v d := by
  unfold L2.atI at e ⊢
  rw [h.length]
  cases q : ixN ds.length i with
  | none => rw [q] at e; cases e
  | some j => rw [q] at e; exact h.get e
theorem RepOs.get {g : Wd} {F H : Hp} : ∀ {vs : List V} {os : List O} {fp : List Addr} {i : Nat} {o : O}, RepOs g F H vs os fp → os[i]? = some o → ∃ v f, vs[i]? = some v ∧ RepO g F H v o f
  | _, _, _, _, _, .nil, h => by simp at h
  | _, _, _, 0, _, .cons h t, e => by simp at e; subst e; exact ⟨_, _, rfl, h⟩
  | _, _, _, i + 1, _, .cons h t, e => by simpa using RepOs.get (i := i) t (by simpa using e)
theorem RepOs.atI {g : Wd} {F H : Hp} {vs : List V} {os : List O} {fp : List Addr} (h : RepOs g F H vs os fp) {i : Int} {o : O} (e : L2.atI os i = some o) : ∃ v f, L2.atI vs i = some v ∧ RepO g F H v o f := by
  unfold L2.atI at e ⊢
  rw [h.length]
  cases q : ixN os.length i with
  | none => rw [q] at e; cases e
  | some j => rw [q] at e; exact h.get e
@[simp] theorem atI_map {α β : Type} (f : α → β) (xs : List α) (i : Int) : L2.atI (xs.map f) i = (L2.atI xs i).map f := by
  unfold L2.atI
  rw [List.length_map]
  cases ixN xs.length i with
  | none => rfl
  | some j => simp
def O.r : O → R
  | .d x => .d x
  | o => .pk o
@[simp] theorem O.r_d (x : D) : (O.d x).r = .d x := rfl
def lIx (p q : R) : Option R := match q.pl with
  | some (.int i) => match p with
    | .d (.lst ds) => (L2.atI ds i).map R.d
    | .d (.tup ds) => (L2.atI ds i).map R.d
    | .d (.str s) => (L2.atI s i).map fun c => .d (.str [c])
    | .own (.lst os) => (L2.atI os i).map O.r
    | .pk (.lst os) => (L2.atI os i).map O.r
    | _ => none
  | _ => none
theorem LF.pk {g : Wd} {leaf : Option R} {F H : Hp} {S : Addr → Prop} {fr : List Addr} {Q : VK} (l : LF g leaf F H S fr Q) {o : O} (e : leaf = some o.r) {v : V} {f : List Addr} (h : RepO g F H v o f) : Q v H := by
  obtain ⟨rr, e', k⟩ := l.go
  rw [e] at e'; cases e'
  refine k v F H [] (.refl l.sub) ?_ List.nodup_nil
  cases o with
  | d x => cases h; exact ⟨by assumption, rfl⟩
  | lst _ => exact ⟨rfl, f, h⟩
  | dct _ _ => exact ⟨rfl, f, h⟩
  | obj _ _ _ => exact ⟨rfl, f, h⟩
theorem l_ix : LOk2 (gOf X) lIx (rIx X.K) := by
  intro F H S x y p q f1 f2 Q rx ry l
  obtain ⟨rr, e⟩ := l.has
  have e0 := e
  unfold lIx at e
  split at e
  · next i e2 =>
    have hy := ry.int e2
    have own : ∀ {o : O} {os : List O} {fp}, RepO (gOf X) F H x o fp → o = .lst os → (L2.atI os i).map O.r = some rr → rIx X.K x y H Q := by
      intro o os fp hr eo e
      subst eo
      cases q' : L2.atI os i with
      | none => rw [q'] at e; cases e
      | some o =>
        rw [q'] at e; cases e
        cases hr with
        | lst h hl r =>
          obtain ⟨v, f, h1, h2⟩ := r.atI q'
          exact .inl ⟨_, _, i, v, rfl, hy, .inl (.inl h), h1, l.pk e0 h2⟩
    split at e
    · next ds =>
      obtain ⟨a1, vs, rfl, k1, n1, r1⟩ := rx.lst l.sub (ds := ds) rfl
      cases q' : L2.atI ds i with
      | none => rw [q'] at e; cases e
      | some d =>
        rw [q'] at e; cases e
        obtain ⟨v, h1, h2⟩ := r1.atI q'
        exact .inl ⟨a1, vs, i, v, rfl, hy, k1, h1, l.val e0 h2⟩
    · next ds =>
      obtain ⟨a1, vs, rfl, k1, n1, r1⟩ := rx.tup (ds := ds) rfl
      cases q' : L2.atI ds i with
      | none => rw [q'] at e; cases e
      | some d =>
        rw [q'] at e; cases e
        obtain ⟨v, h1, h2⟩ := r1.atI q'
        exact .inr (.inl ⟨a1, vs, i, v, rfl, hy, l.sub.sqT k1, h1, l.val e0 h2⟩)
    · next s =>
      obtain ⟨rfl, h1⟩ := rx.str (s := s) rfl
      cases q' : L2.atI s i with
      | none => rw [q'] at e; cases e
      | some d =>
        rw [q'] at e; cases e
        refine .inr (.inr ⟨_, i, d, rfl, hy, by rw [str_len]; exact h1, q', l.val e0 ?_⟩)
        exact .str (s := [d]) (by rw [sizeLine_eq]; show 1 ≤ 16777216; decide)
    · next os => exact own rx.1 rfl e
    · next os =>
      obtain ⟨_, fp, hr⟩ := rx
      exact own hr rfl e
    · cases e
  · cases e
theorem s_at (ha : SE X W a ma) (hb : SE X W b mb) (hs : PlainIx b := by exact fun _ _ => rfl) : SE X W (.Subscript a b pos) (m2 lIx ma mb) := s_ix ix_seq l_ix ha hb hs

/-! ### slices -/
def cutA {α : Type} (xs : List α) (lo hi : Option Int) : List α := (xs.drop (HT.sIx xs.length 0 lo)).take (HT.sIx xs.length xs.length hi - HT.sIx xs.length 0 lo)
theorem cutA_len {α : Type} (xs : List α) (lo hi : Option Int) : (cutA xs lo hi).length ≤ xs.length := by
  unfold cutA; rw [List.length_take, List.length_drop]; omega
theorem Reps.cut {g : Wd} {F : Hp} {vs : List V} {ds : List D} (h : Reps g F vs ds) (lo hi : Option Int) : Reps g F (cutV vs lo hi) (cutA ds lo hi) := by
  unfold cutV cutA
  rw [h.length]
  exact (h.drop _).take _
def lSl (p : R) (lo hi : Option Int) : Option R := match p.pl with
  | some (.str s) => some (.d (.str (cutA s lo hi)))
  | some (.tup ds) => some (.d (.tup (cutA ds lo hi)))
  | some (.lst ds) => some (.own (.lst ((cutA ds lo hi).map O.d)))
  | _ => none
def rSlAll (K : PySem.W.Frag) : V → Option Int → Option Int → Hp → VK → Prop := fun x lo hi H Q => rSlS x lo hi H Q ∨ (rSlA K x lo hi H Q ∨ rSlL K x lo hi H Q)
theorem l_sl {lo hi : Option Int} {F H : Hp} {S : Addr → Prop} {x : V} {p : R} {fr : List Addr} {Q : VK} (rx : RepR (gOf X) F H S x p fr) {fr' : List Addr} (l : LF (gOf X) (lSl p lo hi) F H S fr' Q) : rSlAll X.K x lo hi H Q := by
  obtain ⟨rr, e⟩ := l.has
  have e0 := e
  unfold lSl at e
  split at e
  · next s h1 =>
    cases e
    obtain ⟨rfl, h2⟩ := rx.str h1
    have hh : (cutS ⟨s.toArray⟩ lo hi) = ⟨(cutA s lo hi).toArray⟩ := by
      unfold cutS cutA
      rw [str_len]
    refine .inl ⟨_, rfl, by rw [str_len]; exact h2, ?_⟩
    rw [hh]
    exact l.val e0 (.str (Nat.le_trans (cutA_len _ _ _) h2))
  · next ds h1 =>
    cases e
    obtain ⟨a1, vs, rfl, k1, n1, r1⟩ := rx.tup h1
    refine .inr (.inl ⟨a1, vs, rfl, l.sub.sqT k1, fun z => ?_, fun _ p hp => l.tup e0 (r1.cut lo hi) (Nat.le_trans (cutV_length _ _ _) n1) hp⟩)
    have : cutA ds lo hi = ds := by
      unfold cutA
      rw [← r1.length, z.1, z.2]
      simp [r1.length]
    rw [this] at e0
    exact l.val e0 (.tup k1 n1 r1)
  · next ds h1 =>
    cases e
    obtain ⟨a1, vs, rfl, k1, n1, r1⟩ := rx.lst l.sub h1
    exact .inr (.inr ⟨a1, vs, rfl, k1, fun p hp => l.lst e0 (r1.cut lo hi) (Nat.le_trans (cutV_length _ _ _) n1) hp⟩)
  · cases e
theorem sl_all : SlR X (rSlAll X.K) := sl_str.or (sl_tupA.or sl_list)
/-- an expression whose value is an int -/
def mInt (m : M) : M := fun ρ => (m ρ).bind fun r ρ' q => match r with
  | .d (.int i) => .ok (.d (.int i)) ρ' q
  | _ => .no
theorem tM_int {g : Wd} {m : M} {σ : L2.St} {H : Hp} {Q : VK} (h : tM g W (mInt m) σ H Q) : tM g W m σ H fun x H1 => ∃ i, x = .int i ∧ Q (.int i) H1 := by
  refine tR.bind h fun F ρ fp st r ρ1 q1 e1 v F1 H1 fp1 fr1 s1 st1 r1 n1 z1 ob => ?_
  cases r with
  | d x =>
    cases x with
    | int i =>
      refine ⟨i, r1.int rfl, ?_⟩
      have := ob.2.1 (.d (.int i)) ρ1 q1 rfl (.int i) F1 H1 fp1 fr1 (.refl _ _ _) st1 ⟨.int i, r1.2⟩ n1 z1
      exact this
    | _ => exact absurd rfl ob.1
  | _ => exact absurd rfl ob.1
def mSl (ma : M) : Option M → Option M → M
  | none, none => mOps [ma] fun rs => match rs with | [p] => lSl p none none | _ => none
  | some ml, none => mOps [ma, mInt ml] fun rs => match rs with | [p, .d (.int i)] => lSl p (some i) none | _ => none
  | none, some mh => mOps [ma, mInt mh] fun rs => match rs with | [p, .d (.int i)] => lSl p none (some i) | _ => none
  | some ml, some mh => mOps [ma, mInt ml, mInt mh] fun rs => match rs with | [p, .d (.int i), .d (.int j)] => lSl p (some i) (some j) | _ => none
variable {p2 : Pos}
theorem s_sl00 (ha : SE X W a ma) : SE X W (.Subscript a (.Slice none none none p2) pos) (mSl ma none none) := PE.wk (pe_slice sl_all ha po_none po_none) fun σ H Q h =>
  (tA_cons (tM_ops h)).imp fun x H1 q => by
    obtain ⟨F, S, rs, fr, rr, sub, hS, rp, nd, e, k⟩ := tA_nil q
    dsimp only at e
    split at e
    · next p =>
      obtain ⟨v, ev, h1⟩ := rp.one
      cases ev
      exact l_sl h1 (fr' := fr) ⟨sub, hS, nd, rr, e, k⟩
    · cases e
theorem s_sl10 (ha : SE X W a ma) (hb : SE X W b mb) : SE X W (.Subscript a (.Slice (some b) none none p2) pos) (mSl ma (some mb) none) := PE.wk (pe_slice sl_all ha (po_some hb) po_none) fun σ H Q h =>
  (tA_cons (tM_ops h)).imp fun x H1 q => (tM_int (tA_cons q)).imp fun y H2 ⟨i, e1, q⟩ => ⟨i, e1, by
    obtain ⟨F, S, rs, fr, rr, sub, hS, rp, nd, e, k⟩ := tA_nil q
    dsimp only at e
    split at e
    · next p j =>
      obtain ⟨v, w, f1, f2, ev, rfl, h1, h2⟩ := rp.two
      cases ev
      cases h2.int rfl
      exact l_sl h1 (fr' := f1 ++ f2) ⟨sub, hS, nd, rr, e, k⟩
    · cases e⟩
theorem s_sl01 (ha : SE X W a ma) (hb : SE X W b mb) : SE X W (.Subscript a (.Slice none (some b) none p2) pos) (mSl ma none (some mb)) := PE.wk (pe_slice sl_all ha po_none (po_some hb)) fun σ H Q h =>
  (tA_cons (tM_ops h)).imp fun x H1 q => (tM_int (tA_cons q)).imp fun y H2 ⟨i, e1, q⟩ => ⟨i, e1, by
    obtain ⟨F, S, rs, fr, rr, sub, hS, rp, nd, e, k⟩ := tA_nil q
    dsimp only at e
    split at e
    · next p j =>
      obtain ⟨v, w, f1, f2, ev, rfl, h1, h2⟩ := rp.two
      cases ev
      cases h2.int rfl
      exact l_sl h1 (fr' := f1 ++ f2) ⟨sub, hS, nd, rr, e, k⟩
    · cases e⟩
theorem RepRs.three {g : Wd} {F H : Hp} {S : Addr → Prop} {vs : List V} {r q t : R} {fr : List Addr} (h : RepRs g F H S vs [r, q, t] fr) : ∃ v w u f1 f2 f3, vs = [v, w, u] ∧ fr = f1 ++ (f2 ++ f3) ∧ RepR g F H S v r f1 ∧ RepR g F H S w q f2 ∧ RepR g F H S u t f3 := by
  cases h with
  | cons h t =>
    obtain ⟨w, u, f2, f3, rfl, rfl, h2, h3⟩ := t.two
    exact ⟨_, _, _, _, _, _, rfl, rfl, h, h2, h3⟩
theorem s_sl11 (ha : SE X W a ma) (hb : SE X W b mb) (hc : SE X W c mc) : SE X W (.Subscript a (.Slice (some b) (some c) none p2) pos) (mSl ma (some mb) (some mc)) := PE.wk (pe_slice sl_all ha (po_some hb) (po_some hc)) fun σ H Q h =>
  (tA_cons (tM_ops h)).imp fun x H1 q => (tM_int (tA_cons q)).imp fun y H2 ⟨i, e1, q⟩ => ⟨i, e1, (tM_int (tA_cons q)).imp fun z H3 ⟨j, e2, q⟩ => ⟨j, e2, by
    obtain ⟨F, S, rs, fr, rr, sub, hS, rp, nd, e, k⟩ := tA_nil q
    dsimp only at e
    split at e
    · next p j =>
      obtain ⟨v, w, u, f1, f2, f3, ev, rfl, h1, h2, h3⟩ := rp.three
      cases ev
      cases h2.int rfl
      cases h3.int rfl
      exact l_sl h1 (fr' := f1 ++ (f2 ++ f3)) ⟨sub, hS, nd, rr, e, k⟩
    · cases e⟩⟩

/-! ### calls of built-in functions -/
variable {x : Str} {p : Pos}
theorem s_blt1 {id : String} {f : R → Option R} {r : List V → Hp → VK → Prop} (ho : CallR X (.builtin id) r) (hl : LOk1 (gOf X) f (fun v H Q => r [v] H Q)) (hg : Gl X x) (hm : X.mg x = none) (hv : bootBuiltins x = some (.builtin id)) (ha : SE X W a ma)
    (he : starEach [a] X.env = (false, eval a X.env) :: starEach [] X.env := by rfl) (hn : x ≠ "__name__" := by decide) (hdb : (x == ("__debug__" : Str)) = false := by decide) : SE X W (.Call (.Name x p) [a] [] pos) (m1 f ma) :=
  PE.wk (pe_callB ho hg hm hv (pa_cons ha pa_nil he) hn hdb he rfl) fun σ H Q h => tM_m1 hl h
theorem s_ty1 {T : String} {f : R → Option R} {r : List V → Hp → VK → Prop} (ho : CallR X (.type T) r) (hl : LOk1 (gOf X) f (fun v H Q => r [v] H Q)) (hg : Gl X x) (hm : X.mg x = none) (hv : bootBuiltins x = some (.type T)) (ha : SE X W a ma)
    (he : starEach [a] X.env = (false, eval a X.env) :: starEach [] X.env := by rfl) (hn : x ≠ "__name__" := by decide) (hdb : (x == ("__debug__" : Str)) = false := by decide) : SE X W (.Call (.Name x p) [a] [] pos) (m1 f ma) :=
  PE.wk (pe_callTy ho hg hm hv (pa_cons ha pa_nil he) hn hdb he rfl) fun σ H Q h => tM_m1 hl h
theorem s_blt2 {id : String} {f : R → R → Option R} {r : List V → Hp → VK → Prop} (ho : CallR X (.builtin id) r) (hl : LOk2 (gOf X) f (fun v w H Q => r [v, w] H Q)) (hg : Gl X x) (hm : X.mg x = none) (hv : bootBuiltins x = some (.builtin id)) (ha : SE X W a ma) (hb : SE X W b mb)
    (he : starEach [a, b] X.env = (false, eval a X.env) :: starEach [b] X.env := by rfl) (hpl : (backTo pos (starEach [b] X.env)).any (·.1) = false := by rfl) (hs : starEach [b] X.env = (false, eval b X.env) :: starEach [] X.env := by rfl)
    (hn : x ≠ "__name__" := by decide) (hdb : (x == ("__debug__" : Str)) = false := by decide) : SE X W (.Call (.Name x p) [a, b] [] pos) (m2 f ma mb) :=
  PE.wk (pe_callB ho hg hm hv (pa_cons ha (pa_cons hb pa_nil hs) he) hn hdb he hpl) fun σ H Q h => tM_m2 hl h
def lLen (p : R) : Option R := match p with
  | .d (.str s) => some (.d (.int s.length))
  | .d (.lst ds) => some (.d (.int ds.length))
  | .d (.tup ds) => some (.d (.int ds.length))
  | .own (.lst os) => some (.d (.int os.length))
  | .pk (.lst os) => some (.d (.int os.length))
  | _ => none
theorem l_len : LOk1 (gOf X) lLen (fun v H Q => (fun xs H Q => ∃ x n, xs = [x] ∧ LenV X.K x H n ∧ Q (.int n) H) [v] H Q) := by
  intro F H S x p fr Q rx l
  obtain ⟨rr, e⟩ := l.has
  have e0 := e
  have own : ∀ {o : O} {os : List O} {fp}, RepO (gOf X) F H x o fp → o = .lst os → LenV X.K x H os.length := by
    intro o os fp hr eo
    subst eo
    cases hr with
    | lst h hl r => exact .inl ⟨_, .inl (.inl h), r.length.symm⟩
  unfold lLen at e
  split at e
  · next s =>
    cases e
    obtain ⟨rfl, h1⟩ := rx.str (s := s) rfl
    exact ⟨_, s.length, rfl, ⟨by rw [str_len]; exact h1, str_len.symm⟩, l.val e0 (.int _)⟩
  · next ds =>
    cases e
    obtain ⟨a1, vs, rfl, k1, n1, r1⟩ := rx.lst l.sub (ds := ds) rfl
    exact ⟨_, ds.length, rfl, .inl ⟨vs, k1, r1.length.symm⟩, l.val e0 (.int _)⟩
  · next ds =>
    cases e
    obtain ⟨a1, vs, rfl, k1, n1, r1⟩ := rx.tup (ds := ds) rfl
    exact ⟨_, ds.length, rfl, .inr ⟨vs, l.sub.sqT k1, r1.length.symm⟩, l.val e0 (.int _)⟩
  · next os => cases e; exact ⟨_, os.length, rfl, own rx.1 rfl, l.val e0 (.int _)⟩
  · next os =>
    cases e
    obtain ⟨_, fp, hr⟩ := rx
    exact ⟨_, os.length, rfl, own hr rfl, l.val e0 (.int _)⟩
  · cases e
theorem s_len (hg : Gl X "len") (hm : X.mg "len" = none) (ha : SE X W a ma) (he : starEach [a] X.env = (false, eval a X.env) :: starEach [] X.env := by rfl) : SE X W (.Call (.Name "len" p) [a] [] pos) (m1 lLen ma) := s_blt1 call_len l_len hg hm PySem.boot_len ha he
def lInt1 (p : R) : Option R := match p.pl with
  | some (.int i) => some (.d (.int i))
  | some (.bl k) => some (.d (.int (if k then 1 else 0)))
  | _ => none
theorem s_int1 (hg : Gl X "int") (hm : X.mg "int" = none) (ha : SE X W a ma) (he : starEach [a] X.env = (false, eval a X.env) :: starEach [] X.env := by rfl) : SE X W (.Call (.Name "int" p) [a] [] pos) (m1 lInt1 ma) := s_ty1 call_int1 (by
  intro F H S x p fr Q rx l
  obtain ⟨rr, e⟩ := l.has
  have e0 := e
  unfold lInt1 at e
  split at e
  · next i h1 => cases e; rw [rx.int h1]; exact .inl ⟨i, rfl, l.val e0 (.int _)⟩
  · next i h1 => cases e; rw [rx.bl h1]; exact .inr ⟨i, rfl, l.val e0 (.int _)⟩
  · cases e) hg hm (by decide +kernel) ha he
abbrev lMax2 := lI fun i j => some (.int (if j > i then j else i))
abbrev lMin2 := lI fun i j => some (.int (if j < i then j else i))
theorem l_I00 {f : Int → Int → Option D} {h : Int → Int → V} (k : ∀ i j d, f i j = some d → ∀ F, Rep (gOf X) F (h i j) d) : LOk2 (gOf X) (lI f) (fun v w H Q => (fun xs H Q => ∃ i j, xs = [.int i, .int j] ∧ Q (h i j) H) [v, w] H Q) := by
  intro F H S x y p q f1 f2 Q rx ry l
  obtain ⟨rr, e⟩ := l.has
  obtain ⟨i, j, d, e1, e2, e3, rfl⟩ := lI_some e
  rw [rx.int e1, ry.int e2]
  exact ⟨i, j, rfl, l.val e (k i j d e3 F)⟩
theorem s_max2 (hc : X.calm = true) (hg : Gl X "max") (hm : X.mg "max" = none) (ha : SE X W a ma) (hb : SE X W b mb) (he : starEach [a, b] X.env = (false, eval a X.env) :: starEach [b] X.env := by rfl) (hpl : (backTo pos (starEach [b] X.env)).any (·.1) = false := by rfl) (hs : starEach [b] X.env = (false, eval b X.env) :: starEach [] X.env := by rfl) : SE X W (.Call (.Name "max" p) [a, b] [] pos) (m2 lMax2 ma mb) :=
  s_blt2 (call_max2 hc) (l_I00 fun i j d e F => by cases e; exact .int _) hg hm (by decide +kernel) ha hb he hpl hs
theorem s_min2 (hc : X.calm = true) (hg : Gl X "min") (hm : X.mg "min" = none) (ha : SE X W a ma) (hb : SE X W b mb) (he : starEach [a, b] X.env = (false, eval a X.env) :: starEach [b] X.env := by rfl) (hpl : (backTo pos (starEach [b] X.env)).any (·.1) = false := by rfl) (hs : starEach [b] X.env = (false, eval b X.env) :: starEach [] X.env := by rfl) : SE X W (.Call (.Name "min" p) [a, b] [] pos) (m2 lMin2 ma mb) :=
  s_blt2 (call_min2 hc) (l_I00 fun i j d e F => by cases e; exact .int _) hg hm (by decide +kernel) ha hb he hpl hs
/-- isinstance(e, T) -/
def D.kind : D → Option String
  | .non => some "NoneType" | .bl _ => some "bool" | .int _ => some "int" | .str _ => some "str" | .tup _ => some "tuple" | .lst _ => some "list" | .obj _ _ _ => none
def isK (T : String) (k : String) : Bool := k == T || (T == "int" && k == "bool")
def lIsi (T : String) (p : R) : Option R := match p.pl with
  | some x => x.kind.map fun k => .d (.bl (isK T k))
  | none => none
theorem rep_ty {K : PySem.W.Frag} {mg : Str → Option Value} {H : Hp} {v : V} {d : D} (h : Rep ⟨K, mg⟩ H v d) {k : String} (e : d.kind = some k) : TyX K H v (.type k) := by
  have tup : ∀ {a : Addr} {vs : List V}, SqT K H a vs → TyX K H (.ref a) (.type "tuple") := by
    intro a vs q
    rcases q with (q | ⟨o, q⟩) | ⟨o, its, n, h1, h2, _⟩
    · exact .base (.tup q)
    · exact .fTuple q
    · exact .kTuple h1 h2
  have lst : ∀ {a : Addr} {vs : List V}, SqL K H a vs → TyX K H (.ref a) (.type "list") := by
    intro a vs q
    rcases q with (q | ⟨o, q⟩) | ⟨o, its, n, h1, h2, _⟩
    · exact .base (.lst q)
    · exact .base (.frz q)
    · exact .kList h1 h2
  cases h with
  | non => cases e; exact .base .non
  | bl b => cases e; exact .base (.bl b)
  | int i => cases e; exact .base (.int i)
  | str h => cases e; exact .base (.str _)
  | tup h hl r => cases e; exact tup h
  | lst h hl r => cases e; exact lst h
  | obj hc h hd hn r => cases e
theorem kit_is {K : PySem.W.Frag} {T k : String} (hT : T = "int" ∨ T = "bool" ∨ T = "str" ∨ T = "list" ∨ T = "tuple") {d : D} (e : d.kind = some k) : PySem.W.kitOne K (.type k) (.type T) = some (isK T k) := by
  have hk : k = "NoneType" ∨ k = "bool" ∨ k = "int" ∨ k = "str" ∨ k = "tuple" ∨ k = "list" := by
    cases d <;> simp [D.kind] at e <;> subst e <;> simp
  rcases hT with rfl | rfl | rfl | rfl | rfl <;> rcases hk with rfl | rfl | rfl | rfl | rfl | rfl <;> exact kit_ty (by decide +kernel)
theorem s_isi {T : String} {xT : Str} {pT : Pos} (hT : T = "int" ∨ T = "bool" ∨ T = "str" ∨ T = "list" ∨ T = "tuple") (hg : Gl X "isinstance") (hm : X.mg "isinstance" = none) (hgT : Gl X xT) (hmT : X.mg xT = none) (hvT : bootBuiltins xT = some (.type T)) (ha : SE X W a ma)
    (he : starEach [a, .Name xT pT] X.env = (false, eval a X.env) :: starEach [.Name xT pT] X.env := by rfl) (hn : xT ≠ "__name__" := by decide) (hdb : (xT == ("__debug__" : Str)) = false := by decide) :
    SE X W (.Call (.Name "isinstance" p) [a, .Name xT pT] [] pos) (m1 (lIsi T) ma) :=
  PE.wk (pe_callB call_isi hg hm (by decide +kernel) (pa_cons ha (pa_cons (pe_bltn hgT hmT hvT (v := .ty T) rfl hn hdb) pa_nil rfl) he) (by decide) (by decide) he rfl) fun σ H Q h => (tA_cons (tM_ops h)).imp fun x H1 q => by
    obtain ⟨F, S, rs, fr, rr, sub, hS, rp, nd, e, k⟩ := tA_nil q
    match rs, e, rp with
    | [p], e, rp =>
      obtain ⟨v, ev, h1⟩ := rp.one
      cases ev
      have l : LF (gOf X) (lIsi T p) F H1 S fr Q := ⟨sub, hS, nd, rr, e, k⟩
      have e : lIsi T p = some rr := e
      have e0 := e
      unfold lIsi at e
      split at e
      · next d h2 =>
        cases h3 : d.kind with
        | none => rw [h3] at e; cases e
        | some kd =>
          rw [h3] at e; cases e
          exact ⟨x, .ty T, .type kd, .type T, isK T kd, rfl, .ty T, rep_ty (h1.whole sub h2) h3, kit_is hT h3, l.val e0 (.bl _)⟩
      · cases e
end
end
end Mw

set_option Elab.async false
set_option linter.all false
set_option maxRecDepth 100000
set_option autoImplicit false
namespace Mw
open PySem PySem.Spec PyProof.Rows L2
noncomputable section

section
variable {X : Cx} {W : WX} {pos : Pos} {a b c : Expr} {es : List Expr} {ma mb mc : M} {ms : List M}
/-! ### displays -/
def mLst (ms : List M) : M := mOps ms fun rs => match sts rs with
  | some ds => if lenOk ds.length = true then some (.own (.lst (ds.map O.d))) else none
  | none => none
def mTup (ms : List M) : M := mOps ms fun rs => match sts rs with
  | some ds => if lenOk ds.length = true then some (.d (.tup ds)) else none
  | none => none
theorem s_lst (h : SA X W es ms) : SE X W (.List es pos) (mLst ms) := PE.wk (pe_lst h) fun σ H Q h => (tM_ops h).imp fun vs H1 q => by
  obtain ⟨F, S, rs, fr, rr, sub, hS, rp, nd, e, k⟩ := q
  dsimp only at e
  split at e
  · next ds e1 =>
    split at e
    · next hl =>
      have hl := lenOk_le hl
      cases e
      have r1 := rp.sts e1 (frz_ext sub) fun a ha => frz_mem ha
      have hl' : vs.length ≤ sizeLine := by rw [r1.length, sizeLine_eq]; exact hl
      refine ⟨hl', fun p hp => leaf_lst (S := S) (fr := []) (frz_sub sub) (fun a ha => ⟨(hS a ha).1, ?_⟩) (fun v F' H' fr' l => k v F' H' fr' ((lstep_frz sub).thn l)) r1 hl' hp⟩
      unfold frz
      rw [if_neg fun z => (rp.out a z).2.1 ha]
      exact (hS a ha).2
    · cases e
  · cases e
theorem s_tup {k0 : Nat} (h : SA X W es ms) : SE X W (.Tuple es k0 pos) (mTup ms) := PE.wk (pe_tup h) fun σ H Q h => (tM_ops h).imp fun vs H1 q => by
  obtain ⟨F, S, rs, fr, rr, sub, hS, rp, nd, e, k⟩ := q
  dsimp only at e
  split at e
  · next ds e1 =>
    split at e
    · next hl =>
      have hl := lenOk_le hl
      cases e
      have r1 := rp.sts e1 (frz_ext sub) fun a ha => frz_mem ha
      have hl' : vs.length ≤ sizeLine := by rw [r1.length, sizeLine_eq]; exact hl
      exact ⟨hl', fun p hp => leaf_tup (S := S) (fr := []) (frz_sub sub) (fun v F' H' fr' l => k v F' H' fr' ((lstep_frz sub).thn l)) r1 hl' hp⟩
    · cases e
  · cases e

/-! ### tests -/
def RepB : VRel Bool Bool := fun _ _ _ v b fr => v = b ∧ fr = []
abbrev tB' (g : Wd) (W : WX) (m : MB) : TT := tR g W RepB m
abbrev ST (X : Cx) (W : WX) (e : Expr) (m : MB) : Prop := PT X e (tB' (gOf X) W m)
abbrev SW (X : Cx) (W : WX) (e : Expr) (m : MB) : Prop := PW X e (tB' (gOf X) W m)
def mTest (m : M) : MB := fun ρ => (m ρ).bind fun r ρ' q => match r with
  | .d (.bl b) => .ok b ρ' q
  | _ => .no
theorem tM_test {g : Wd} {m : M} {σ : L2.St} {H : Hp} {Q : Bool → Hp → Prop} (h : tB' g W (mTest m) σ H Q) : tM g W m σ H fun x H1 => ∃ k, x = .bl k ∧ Q k H1 := by
  refine tR.bind h fun F ρ fp st r ρ1 q1 e1 v F1 H1 fp1 fr1 s1 st1 r1 n1 z1 ob => ?_
  cases r with
  | d x =>
    cases x with
    | bl i => exact ⟨i, r1.bl rfl, ob.2.1 i ρ1 q1 rfl i F1 H1 fp1 fr1 (.refl _ _ _) st1 ⟨rfl, r1.2⟩ n1 z1⟩
    | _ => exact absurd rfl ob.1
  | _ => exact absurd rfl ob.1
theorem st_val (h : SE X W a ma) (he : ∀ whole, isTrue a X.env whole = (do let v ← whole; standAt a.pos; holding [v] (truthy v)) := by intro _; rfl) : ST X W a (mTest ma) :=
  PT.wk (pt_val h he) fun σ H Q h => tM_test h
def mAnd (a b : MB) : MB := fun ρ => (a ρ).bind fun x ρ1 q1 => if x = true then (b ρ1).bind fun y ρ2 q2 => .ok y ρ2 (q1 && q2) else .ok false ρ1 q1
def mOr (a b : MB) : MB := fun ρ => (a ρ).bind fun x ρ1 q1 => if x = true then .ok true ρ1 q1 else (b ρ1).bind fun y ρ2 q2 => .ok y ρ2 (q1 && q2)
def mNot (a : MB) : MB := fun ρ => (a ρ).bind fun x ρ1 q1 => .ok (!x) ρ1 q1
/-- the second part behind a first that has given nothing to hold -/
theorem tR.after {α β : Type} {g : Wd} {RR : VRel α β} {b : Ro → Res α} {σ : L2.St} {H H1 F1 : Hp} {ρ ρ1 : Ro} {q1 : Bool} {fp1 : Nat → List Addr} {Q : β → Hp → Prop} (st1 : Stt g F1 H1 σ ρ1 fp1) (z1 : Zq H ρ q1 H1 ρ1)
    (ob : Ob g W σ F1 H1 (Own fp1) (Zq H ρ) RR ((b ρ1).bind fun y ρ2 q2 => .ok y ρ2 (q1 && q2)) Q) : tR g W RR b σ H1 Q := by
  refine ⟨F1, ρ1, fp1, st1, ?_⟩
  refine Ob.bind ob (fun r ρ2 q2 e2 v F2 H2 fp2 fr2 s2 st2 r2 n2 z2 ob2 => ?_) fun H' ρ' z => ⟨z1.1.trans z.1, fun z => nomatch z⟩
  have hm : ∀ {Z : Bool → Hp → Ro → Prop} {S : Addr → Prop}, Ob g W σ F2 H2 S Z RR (Res.ok r ρ2 (q1 && q2)) Q → Step F2 H2 S F2 H2 (Plus (Own fp2) fr2) → Z (q1 && q2) H2 ρ2 → Q v H2 := fun {Z S} ob s z => ob.2.1 r ρ2 (q1 && q2) rfl v F2 H2 fp2 fr2 s st2 r2 n2 z
  exact hm ob2 (.refl _ _ _) ⟨z1.1.trans z2.1, fun hz => by
    have hz := Bool.and_eq_true_iff.mp hz
    exact ⟨(z1.2 hz.1).1.trans (z2.2 hz.2).1, (z2.2 hz.2).2.trans (z1.2 hz.1).2⟩⟩
theorem plus_nil {S : Addr → Prop} : Plus S [] = S := by
  funext x
  exact propext ⟨fun h => Or.elim h id (fun z => nomatch z), fun h => Or.inl h⟩
theorem tB_and {g : Wd} {ta tb : MB} {σ : L2.St} {H : Hp} {Q : Bool → Hp → Prop} (h : tB' g W (mAnd ta tb) σ H Q) : tAnd (tB' g W ta) (tB' g W tb) σ H Q := by
  refine tR.bind h fun F ρ fp st x ρ1 q1 e1 v F1 H1 fp1 fr1 s1 st1 r1 n1 z1 ob => ?_
  obtain ⟨rfl, rfl⟩ := r1
  cases v with
  | true =>
    rw [if_pos rfl] at ob ⊢
    rw [plus_nil] at ob
    exact tR.after st1 z1 ob
  | false =>
    rw [if_neg (by decide)] at ob ⊢
    exact ob.2.1 false ρ1 q1 rfl false F1 H1 fp1 [] (.refl _ _ _) st1 ⟨rfl, rfl⟩ n1 z1
theorem tB_or {g : Wd} {ta tb : MB} {σ : L2.St} {H : Hp} {Q : Bool → Hp → Prop} (h : tB' g W (mOr ta tb) σ H Q) : tOr (tB' g W ta) (tB' g W tb) σ H Q := by
  refine tR.bind h fun F ρ fp st x ρ1 q1 e1 v F1 H1 fp1 fr1 s1 st1 r1 n1 z1 ob => ?_
  obtain ⟨rfl, rfl⟩ := r1
  cases v with
  | true =>
    rw [if_pos rfl] at ob ⊢
    exact ob.2.1 true ρ1 q1 rfl true F1 H1 fp1 [] (.refl _ _ _) st1 ⟨rfl, rfl⟩ n1 z1
  | false =>
    rw [if_neg (by decide)] at ob ⊢
    rw [plus_nil] at ob
    exact tR.after st1 z1 ob
theorem tB_not {g : Wd} {ta : MB} {σ : L2.St} {H : Hp} {Q : Bool → Hp → Prop} (h : tB' g W (mNot ta) σ H Q) : tNot (tB' g W ta) σ H Q := by
  refine tR.bind h fun F ρ fp st x ρ1 q1 e1 v F1 H1 fp1 fr1 s1 st1 r1 n1 z1 ob => ?_
  obtain ⟨rfl, rfl⟩ := r1
  exact ob.2.1 (!v) ρ1 q1 rfl (!v) F1 H1 fp1 [] (.refl _ _ _) st1 ⟨rfl, rfl⟩ n1 z1
variable {ta tb : MB}
theorem sw_and1 (ha : ST X W a ta) : SW X W (.BoolOp .And [a] pos) ta := pw_and1 ha
theorem sw_or1 (ha : ST X W a ta) : SW X W (.BoolOp .Or [a] pos) ta := pw_or1 ha
theorem sw_and (ha : ST X W a ta) (hb : SW X W (.BoolOp .And (b :: es) pos) tb) : SW X W (.BoolOp .And (a :: b :: es) pos) (mAnd ta tb) := PW.wk (pw_and ha hb) fun σ H Q h => tB_and h
theorem sw_or (ha : ST X W a ta) (hb : SW X W (.BoolOp .Or (b :: es) pos) tb) : SW X W (.BoolOp .Or (a :: b :: es) pos) (mOr ta tb) := PW.wk (pw_or ha hb) fun σ H Q h => tB_or h
theorem st_pw (h : SW X W a ta) : ST X W a ta := PW.pt h
theorem st_not (ha : ST X W a ta) : ST X W (.UnaryOp .Not a pos) (mNot ta) := PT.wk (pt_not ha) fun σ H Q h => tB_not h
/-! values of and, or, not -/
def mAndV (a b : M) : M := fun ρ => (a ρ).bind fun x ρ1 q1 => match x with
  | .d (.bl true) => (b ρ1).bind fun y ρ2 q2 => .ok y ρ2 (q1 && q2)
  | .d (.bl false) => .ok (.d (.bl false)) ρ1 q1
  | _ => .no
def mOrV (a b : M) : M := fun ρ => (a ρ).bind fun x ρ1 q1 => match x with
  | .d (.bl false) => (b ρ1).bind fun y ρ2 q2 => .ok y ρ2 (q1 && q2)
  | .d (.bl true) => .ok (.d (.bl true)) ρ1 q1
  | _ => .no
def lNot (p : R) : Option R := match p.pl with
  | some (.bl b) => some (.d (.bl (!b)))
  | _ => none
theorem s_and1 {op : BoolOp} (ha : SE X W a ma) : SE X W (.BoolOp op [a] pos) ma := pe_one ha
theorem s_and (ha : SE X W a ma) (hb : SE X W (.BoolOp .And (b :: es) pos) mb) : SE X W (.BoolOp .And (a :: b :: es) pos) (mAndV ma mb) := PE.wk (pe_and ha hb) fun σ H Q h => by
  refine tR.bind h fun F ρ fp st x ρ1 q1 e1 v F1 H1 fp1 fr1 s1 st1 r1 n1 z1 ob => ?_
  cases x with
  | d x =>
    cases x with
    | bl i =>
      obtain rfl := r1.2
      refine ⟨i, r1.bl rfl, ?_⟩
      cases i with
      | true => rw [if_pos rfl]; rw [plus_nil] at ob; exact tR.after st1 z1 ob
      | false => rw [if_neg (by decide)]; exact ob.2.1 (.d (.bl false)) ρ1 q1 rfl (.bl false) F1 H1 fp1 [] (.refl _ _ _) st1 ⟨.bl _, rfl⟩ n1 z1
    | _ => exact absurd rfl ob.1
  | _ => exact absurd rfl ob.1
theorem s_or (ha : SE X W a ma) (hb : SE X W (.BoolOp .Or (b :: es) pos) mb) : SE X W (.BoolOp .Or (a :: b :: es) pos) (mOrV ma mb) := PE.wk (pe_or ha hb) fun σ H Q h => by
  refine tR.bind h fun F ρ fp st x ρ1 q1 e1 v F1 H1 fp1 fr1 s1 st1 r1 n1 z1 ob => ?_
  cases x with
  | d x =>
    cases x with
    | bl i =>
      obtain rfl := r1.2
      refine ⟨i, r1.bl rfl, ?_⟩
      cases i with
      | false => rw [if_neg (by decide)]; rw [plus_nil] at ob; exact tR.after st1 z1 ob
      | true => rw [if_pos rfl]; exact ob.2.1 (.d (.bl true)) ρ1 q1 rfl (.bl true) F1 H1 fp1 [] (.refl _ _ _) st1 ⟨.bl _, rfl⟩ n1 z1
    | _ => exact absurd rfl ob.1
  | _ => exact absurd rfl ob.1
theorem s_not (ha : SE X W a ma) : SE X W (.UnaryOp .Not a pos) (m1 lNot ma) := PE.wk (pe_not ha) fun σ H Q h => tM_m1 (r := fun x H Q => ∃ c, x = .bl c ∧ Q (.bl (!c)) H) (by
  intro F H S x p fr Q rx l
  obtain ⟨rr, e⟩ := l.has
  have e0 := e
  unfold lNot at e
  split at e
  · next i h1 => cases e; exact ⟨i, rx.bl h1, l.val e0 (.bl _)⟩
  · cases e) h

/-! ## statements -/
end
inductive SRes where
  | nx (ρ : Ro) | rt (r : R) (ρ : Ro) | bk (ρ : Ro) | ct (ρ : Ro) | ex (x : Exc) (ρ : Ro) | no
abbrev MS := Ro → SRes
def Res.stm {α : Type} : Res α → (α → Ro → SRes) → SRes
  | .ok a ρ _, k => k a ρ
  | .ex x ρ, _ => .ex x ρ
  | .no, _ => .no
@[simp] theorem Res.stm_ok {α : Type} (a : α) (ρ : Ro) (q : Bool) (k : α → Ro → SRes) : (Res.ok a ρ q).stm k = k a ρ := rfl
@[simp] theorem Res.stm_ex {α : Type} (x : Exc) (ρ : Ro) (k : α → Ro → SRes) : (Res.ex x ρ : Res α).stm k = .ex x ρ := rfl
@[simp] theorem Res.stm_no {α : Type} (k : α → Ro → SRes) : (Res.no : Res α).stm k = .no := rfl
def SRes.thn : SRes → (Ro → SRes) → SRes
  | .nx ρ, k => k ρ
  | r, _ => r
@[simp] theorem SRes.thn_nx (ρ : Ro) (k : Ro → SRes) : (SRes.nx ρ).thn k = k ρ := rfl
@[simp] theorem SRes.thn_rt (r : R) (ρ : Ro) (k : Ro → SRes) : (SRes.rt r ρ).thn k = .rt r ρ := rfl
@[simp] theorem SRes.thn_bk (ρ : Ro) (k : Ro → SRes) : (SRes.bk ρ).thn k = .bk ρ := rfl
@[simp] theorem SRes.thn_ct (ρ : Ro) (k : Ro → SRes) : (SRes.ct ρ).thn k = .ct ρ := rfl
@[simp] theorem SRes.thn_ex (x : Exc) (ρ : Ro) (k : Ro → SRes) : (SRes.ex x ρ).thn k = .ex x ρ := rfl
@[simp] theorem SRes.thn_no (k : Ro → SRes) : SRes.no.thn k = .no := rfl
/-- a borrowed place stays, at its address -/
def Kbs (ρ : Ro) (σ : L2.St) (ρ' : Ro) (σ' : L2.St) : Prop := ∀ (k : Nat) (o : O), ρ[k]? = some (.mu true o) → (∃ o', ρ'[k]? = some (.mu true o')) ∧ σ'[k]? = σ[k]?
theorem Kbs.refl (ρ : Ro) (σ : L2.St) : Kbs ρ σ ρ σ := fun _ o h => ⟨⟨o, h⟩, rfl⟩
theorem Kbs.trans {a b c : Ro} {s t u : L2.St} (x : Kbs a s b t) (y : Kbs b t c u) : Kbs a s c u := fun k o h => by
  obtain ⟨⟨o', h1⟩, e1⟩ := x k o h
  obtain ⟨h2, e2⟩ := y k o' h1
  exact ⟨h2, e2.trans e1⟩
theorem Kb.s {a b : Ro} {σ : L2.St} (h : Kb a b) : Kbs a σ b σ := fun k o z => ⟨h k o z, rfl⟩
structure ObS (g : Wd) (W : WX) (ρ : Ro) (σ : L2.St) (F H : Hp) (S : Addr → Prop) (res : SRes) (D : Ends) : Prop where
  no : res ≠ .no
  nx : ∀ ρ', res = .nx ρ' → ∀ σ' F' H' fp', Step F H S F' H' (Own fp') → Stt g F' H' σ' ρ' fp' → Kbs ρ σ ρ' σ' → D.nx σ' H'
  bk : ∀ ρ', res = .bk ρ' → ∀ σ' F' H' fp', Step F H S F' H' (Own fp') → Stt g F' H' σ' ρ' fp' → Kbs ρ σ ρ' σ' → D.bk σ' H'
  ct : ∀ ρ', res = .ct ρ' → ∀ σ' F' H' fp', Step F H S F' H' (Own fp') → Stt g F' H' σ' ρ' fp' → Kbs ρ σ ρ' σ' → D.ct σ' H'
  rt : ∀ r ρ', res = .rt r ρ' → ∀ v σ' F' H' fp' fr, Step F H S F' H' (Plus (Own fp') fr) → Stt g F' H' σ' ρ' fp' → RepR g F' H' (Own fp') v r fr → fr.Nodup → Kbs ρ σ ρ' σ' → D.rt v H'
  ex : ∀ x ρ', res = .ex x ρ' → ∀ cls d σ' F' H' fp', Step F H S F' H' (Own fp') → Stt g F' H' σ' ρ' fp' → RepX g F' cls d x → Kbs ρ σ ρ' σ' → W cls d σ' H'
def tS (g : Wd) (W : WX) (m : MS) : TS := fun D σ H => ∃ F ρ fp, Stt g F H σ ρ fp ∧ ObS g W ρ σ F H (Own fp) (m ρ) D
abbrev SS (X : Cx) (W : WX) (st : Stmt) (m : MS) : Prop := PS X st (tS (gOf X) W m)
abbrev SSs (X : Cx) (W : WX) (st : List Stmt) (m : MS) : Prop := PSs X st (tS (gOf X) W m)
theorem ObS.after {g : Wd} {W : WX} {ρ ρ1 : Ro} {σ σ1 : L2.St} {F H F1 H1 : Hp} {S S1 : Addr → Prop} {res : SRes} {D : Ends} (h : ObS g W ρ σ F H S res D) (s : Step F H S F1 H1 S1) (k : Kbs ρ σ ρ1 σ1) : ObS g W ρ1 σ1 F1 H1 S1 res D :=
  ⟨h.no, fun ρ' e σ' F' H' fp' a b c => h.nx ρ' e σ' F' H' fp' (s.trans a) b (k.trans c), fun ρ' e σ' F' H' fp' a b c => h.bk ρ' e σ' F' H' fp' (s.trans a) b (k.trans c),
   fun ρ' e σ' F' H' fp' a b c => h.ct ρ' e σ' F' H' fp' (s.trans a) b (k.trans c), fun r ρ' e v σ' F' H' fp' fr a b c d f => h.rt r ρ' e v σ' F' H' fp' fr (s.trans a) b c d (k.trans f),
   fun x ρ' e cls d σ' F' H' fp' a b c f => h.ex x ρ' e cls d σ' F' H' fp' (s.trans a) b c (k.trans f)⟩
/-- a statement that begins with an expression -/
theorem tS_of {α β : Type} {g : Wd} {W : WX} {RR : VRel α β} {m : Ro → Res α} {k : α → Ro → SRes} {D : Ends} {σ : L2.St} {H : Hp} {Q : β → Hp → Prop} (h : tS g W (fun ρ => (m ρ).stm k) D σ H)
    (i : ∀ r ρ1 v F1 H1 fp1 fr1, Stt g F1 H1 σ ρ1 fp1 → RR F1 H1 (Own fp1) v r fr1 → fr1.Nodup → ObS g W ρ1 σ F1 H1 (Plus (Own fp1) fr1) (k r ρ1) D → Q v H1) : tR g W RR m σ H Q := by
  obtain ⟨F, ρ, fp, st, ob⟩ := h
  have ob : ObS g W ρ σ F H (Own fp) ((m ρ).stm k) D := ob
  refine ⟨F, ρ, fp, st, fun e => ?_, fun r ρ1 q e v F1 H1 fp1 fr1 s1 st1 r1 n1 z1 => ?_, fun x ρ' e cls d F' H' fp' a b c z => ?_⟩
  · rw [e] at ob; exact ob.no rfl
  · rw [e] at ob; exact i r ρ1 v F1 H1 fp1 fr1 st1 r1 n1 (ob.after s1 z1.1.s)
  · rw [e] at ob; exact ob.ex x ρ' rfl cls d σ F' H' fp' a b c z.1.s

section
variable {X : Cx} {W : WX} {pos : Pos} {a b c : Expr} {es : List Expr} {ma mb mc : M} {ms : List M} {st : Stmt} {sts : List Stmt} {m n : MS} {tc : MB}
def mNx : MS := fun ρ => .nx ρ
def mBk : MS := fun ρ => .bk ρ
def mCt : MS := fun ρ => .ct ρ
def mSeq (m n : MS) : MS := fun ρ => (m ρ).thn n
def mRt (m : M) : MS := fun ρ => (m ρ).stm fun r ρ' => .rt r ρ'
def mRtN : MS := fun ρ => .rt (.d .non) ρ
def mIf (c : MB) (m n : MS) : MS := fun ρ => (c ρ).stm fun b ρ' => if b = true then m ρ' else n ρ'
def mDrop (m : M) : MS := fun ρ => (m ρ).stm fun _ ρ' => .nx ρ'
theorem tS_nx {g : Wd} {D : Ends} {σ : L2.St} {H : Hp} (h : tS g W mNx D σ H) : D.nx σ H := by
  obtain ⟨F, ρ, fp, st, ob⟩ := h
  exact ob.nx ρ rfl σ F H fp (.refl _ _ _) st (.refl _ _)
theorem ss_nil : SSs X W [] mNx := PSs.wk pss_nil fun D σ H h => tS_nx h
theorem ss_cons (h1 : SS X W st m) (h2 : SSs X W sts n) : SSs X W (st :: sts) (mSeq m n) := PSs.wk (pss_cons h1 h2) fun D σ H h => by
  obtain ⟨F, ρ, fp, st, ob⟩ := h
  refine ⟨F, ρ, fp, st, ?_⟩
  have ob : ObS (gOf X) W ρ σ F H (Own fp) ((m ρ).thn n) D := ob
  cases e : m ρ with
  | nx ρ1 =>
    rw [e] at ob
    refine ⟨(fun z => nomatch z), fun ρ' q σ' F' H' fp' s1 st1 k1 => ?_, fun ρ' q => (nomatch q), fun ρ' q => (nomatch q), fun r ρ' q => (nomatch q), fun r ρ' q => (nomatch q)⟩
    cases q
    exact ⟨F', ρ1, fp', st1, ob.after s1 k1⟩
  | rt r ρ1 => rw [e] at ob; exact ⟨ob.no, fun ρ' q => (nomatch q), ob.bk, ob.ct, ob.rt, ob.ex⟩
  | bk ρ1 => rw [e] at ob; exact ⟨ob.no, fun ρ' q => (nomatch q), ob.bk, ob.ct, ob.rt, ob.ex⟩
  | ct ρ1 => rw [e] at ob; exact ⟨ob.no, fun ρ' q => (nomatch q), ob.bk, ob.ct, ob.rt, ob.ex⟩
  | ex x ρ1 => rw [e] at ob; exact ⟨ob.no, fun ρ' q => (nomatch q), ob.bk, ob.ct, ob.rt, ob.ex⟩
  | no => rw [e] at ob; exact absurd rfl ob.no
theorem ss_one (h1 : SS X W st m) : SSs X W [st] m := pss_one h1
theorem ss_pass : SS X W (.Pass pos) mNx := PS.wk ps_pass fun D σ H h => tS_nx h
theorem ss_doc {x : Str} {j : Nat} {pos' : Pos} : SS X W (.Expr (.Constant (.str x) j pos) pos') mNx := PS.wk ps_doc fun D σ H h => tS_nx h
theorem ss_break : SS X W (.Break pos) mBk := PS.wk ps_break fun D σ H ⟨F, ρ, fp, st, ob⟩ => ob.bk ρ rfl σ F H fp (.refl _ _ _) st (.refl _ _)
theorem ss_continue : SS X W (.Continue pos) mCt := PS.wk ps_continue fun D σ H ⟨F, ρ, fp, st, ob⟩ => ob.ct ρ rfl σ F H fp (.refl _ _ _) st (.refl _ _)
theorem ss_ret (h : SE X W a ma) : SS X W (.Return (some a) pos) (mRt ma) := PS.wk (ps_ret h) fun D σ H h =>
  tS_of h fun r ρ1 v F1 H1 fp1 fr1 st1 r1 n1 ob => ob.rt r ρ1 rfl v σ F1 H1 fp1 fr1 (.refl _ _ _) st1 r1 n1 (.refl _ _)
theorem ss_retN : SS X W (.Return none pos) mRtN := PS.wk ps_retN fun D σ H ⟨F, ρ, fp, st, ob⟩ => ob.rt (.d .non) ρ rfl .non σ F H fp [] (by rw [plus_nil]; exact .refl _ _ _) st ⟨.non, rfl⟩ List.nodup_nil (.refl _ _)
theorem ss_if {sa sb : List Stmt} (hc : ST X W a tc) (h1 : SSs X W sa m) (h2 : SSs X W sb n) : SS X W (.If a sa sb pos) (mIf tc m n) := PS.wk (ps_if hc h1 h2) fun D σ H h =>
  tS_of h fun r ρ1 v F1 H1 fp1 fr1 st1 r1 n1 ob => by
    obtain ⟨rfl, rfl⟩ := r1
    rw [plus_nil] at ob
    cases v with
    | true => rw [if_pos rfl] at ob ⊢; exact ⟨F1, ρ1, fp1, st1, ob⟩
    | false => rw [if_neg (by decide)] at ob ⊢; exact ⟨F1, ρ1, fp1, st1, ob⟩
theorem ss_expr (h : SE X W a ma) (hs : swapsWith a none pos.line X.env = pure false := by rfl) : SS X W (.Expr a pos) (mDrop ma) := PS.wk (ps_expr h hs) fun D σ H h =>
  tS_of h fun r ρ1 v F1 H1 fp1 fr1 st1 r1 n1 ob => ob.nx ρ1 rfl σ F1 H1 fp1 ((Step.refl _ _ _).weak fun x z => .inl z) st1 (.refl _ _)
end
end
end Mw

set_option Elab.async false
set_option linter.all false
set_option maxRecDepth 100000
set_option autoImplicit false
namespace Mw
open PySem PySem.Spec PyProof.Rows L2
noncomputable section

/-! ### storing into a place -/
def SlOk (g : Wd) (F H : Hp) (v : V) (s : Slo) (f : List Addr) : Prop := match s with
  | .un => f = []
  | .shr d => Rep g F v d ∧ f = []
  | .mu _ o => RepO g F H v o f
theorem set_get {α : Type} {l : List α} {i j : Nat} {x y : α} (h : (l.set i x)[j]? = some y) : (i = j ∧ y = x ∧ i < l.length) ∨ (i ≠ j ∧ l[j]? = some y) := by
  rw [List.getElem?_set] at h
  split at h
  · next e =>
    split at h
    · cases h; exact .inl ⟨e, rfl, by omega⟩
    · cases h
  · next e => exact .inr ⟨e, h⟩
theorem Stt.put {g : Wd} {F H : Hp} {σ : L2.St} {ρ : Ro} {fp : Nat → List Addr} (st : Stt g F H σ ρ fp) {v : V} {s : Slo} {f : List Addr} (i : Nat) (h : SlOk g F H v s f) (nd : f.Nodup) (out : ∀ a ∈ f, F a = none ∧ ¬ Own fp a) :
    ∃ fp', Stt g F H (σ.set i (some v)) (ρ.set i s) fp' ∧ ∀ a, Own fp' a → Plus (Own fp) f a := by
  by_cases hi : i < ρ.length
  · have hi' : i < σ.length := by rw [st.len]; exact hi
    have hs : ∀ {w : Option V}, (σ.set i w)[i]? = some w := fun {w} => by rw [List.getElem?_set]; simp [hi']
    have hn : ∀ {j : Nat} {w : Option V}, i ≠ j → (σ.set i w)[j]? = σ[j]? := fun {j w} e => by rw [List.getElem?_set, if_neg e]
    have sl : ∀ b o, s = .mu b o → RepO g F H v o f := fun b o e => by subst e; exact h
    refine ⟨fun k => if k = i then f else fp k, ⟨st.sub, by simp [st.len], fun j hj => ?_, fun j d hd => ?_, fun j b o ho => ?_, fun j => ?_, fun j k a ha hb => ?_, fun j a ha => ?_⟩, fun a ⟨j, ha⟩ => ?_⟩
    · try dsimp only
      split
      · next e =>
        subst e
        cases s with
        | un => exact h
        | shr d => exact h.2
        | mu b o => exact absurd (by rw [List.getElem?_set]; simp [hi]) (hj b o)
      · next e => exact st.un j fun b o z => hj b o (by rw [List.getElem?_set, if_neg fun z => e z.symm]; exact z)
    · rcases set_get hd with ⟨rfl, rfl, _⟩ | ⟨ne, hd⟩
      · exact ⟨v, hs, h.1⟩
      · rw [hn ne]; exact st.shr j d hd
    · rcases set_get ho with ⟨rfl, e, _⟩ | ⟨ne, ho⟩
      · (try dsimp only); rw [if_pos rfl]; exact ⟨v, hs, sl b o e.symm⟩
      · (try dsimp only); rw [if_neg fun z => ne z.symm, hn ne]; exact st.mu j b o ho
    · (try dsimp only); split
      · exact nd
      · exact st.nd j
    · try dsimp only at ha hb
      split at ha <;> split at hb
      · next e1 e2 => exact e1.trans e2.symm
      · exact absurd ⟨k, hb⟩ (out a ha).2
      · exact absurd ⟨j, ha⟩ (out a hb).2
      · exact st.dis j k a ha hb
    · try dsimp only at ha
      split at ha
      · exact (out a ha).1
      · exact st.fre j a ha
    · try dsimp only at ha
      split at ha
      · exact .inr ha
      · exact .inl ⟨j, ha⟩
  · have e1 : ρ.set i s = ρ := List.set_eq_of_length_le (by omega)
    have e2 : σ.set i (some v) = σ := List.set_eq_of_length_le (by rw [st.len]; omega)
    rw [e1, e2]
    exact ⟨fp, st, fun a h => .inl h⟩
/-- a place is given up -/
theorem Stt.drop {g : Wd} {F H : Hp} {σ : L2.St} {ρ : Ro} {fp : Nat → List Addr} (st : Stt g F H σ ρ fp) (i : Nat) :
    ∃ fp', Stt g F H σ (ρ.set i .un) fp' ∧ (∀ a, Own fp' a → Own fp a) ∧ (i < ρ.length → ∀ a ∈ fp i, ¬ Own fp' a) := by
  refine ⟨fun k => if k = i then [] else fp k, ⟨st.sub, by simp [st.len], fun j hj => ?_, fun j d hd => ?_, fun j b o ho => ?_, fun j => ?_, fun j k a ha hb => ?_, fun j a ha => ?_⟩, fun a ⟨j, ha⟩ => ?_, fun hi a ha ⟨j, hb⟩ => ?_⟩
  · try dsimp only
    split
    · rfl
    · next e => exact st.un j fun b o z => hj b o (by rw [List.getElem?_set, if_neg fun z => e z.symm]; exact z)
  · rcases set_get hd with ⟨rfl, z, _⟩ | ⟨ne, hd⟩
    · cases z
    · exact st.shr j d hd
  · rcases set_get ho with ⟨rfl, e, _⟩ | ⟨ne, ho⟩
    · cases e
    · (try dsimp only); rw [if_neg fun z => ne z.symm]; exact st.mu j b o ho
  · (try dsimp only); split
    · exact List.nodup_nil
    · exact st.nd j
  · try dsimp only at ha hb
    split at ha <;> split at hb
    · cases ha
    · cases ha
    · cases hb
    · exact st.dis j k a ha hb
  · try dsimp only at ha
    split at ha
    · cases ha
    · exact st.fre j a ha
  · try dsimp only at ha
    split at ha
    · cases ha
    · exact ⟨j, ha⟩
  · try dsimp only at hb
    split at hb
    · cases hb
    · next e => exact e (st.dis j i a hb ha)
/-- the place i holds a borrowed thing -/
def isBor (ρ : Ro) (i : Nat) : Bool := match ρ[i]? with
  | some (.mu true _) => true
  | _ => false
theorem Kbs.set {ρ : Ro} {σ : L2.St} {i : Nat} (h : isBor ρ i = false) (s : Slo) (w : Option V) : Kbs ρ σ (ρ.set i s) (σ.set i w) := fun k o e => by
  by_cases hk : i = k
  · subst hk
    unfold isBor at h
    rw [e] at h; cases h
  · exact ⟨⟨o, by rw [List.getElem?_set, if_neg hk]; exact e⟩, by rw [List.getElem?_set, if_neg hk]⟩
theorem Kb.set {ρ : Ro} {i : Nat} (h : isBor ρ i = false) (s : Slo) : Kb ρ (ρ.set i s) := fun k o e => by
  by_cases hk : i = k
  · subst hk
    unfold isBor at h
    rw [e] at h; cases h
  · exact ⟨o, by rw [List.getElem?_set, if_neg hk]; exact e⟩
def R.slo : R → Option Slo
  | .d x => some (.shr x)
  | .own o => some (.mu false o)
  | .pk _ => none
@[simp] theorem R.slo_d (x : D) : (R.d x).slo = some (.shr x) := rfl
@[simp] theorem R.slo_own (o : O) : (R.own o).slo = some (.mu false o) := rfl
theorem RepR.slo {g : Wd} {F H : Hp} {S : Addr → Prop} {v : V} {r : R} {fr : List Addr} (h : RepR g F H S v r fr) {s : Slo} (e : r.slo = some s) : SlOk g F H v s fr := by
  cases r with
  | d x => cases e; exact h
  | own o => cases e; exact h.1
  | pk o => cases e
/-- name = e -/
def mSet (i : Nat) (m : M) : MS := fun ρ => (m ρ).stm fun r ρ' => if isBor ρ' i = true then .no else match r.slo with
  | some s => .nx (ρ'.set i s)
  | none => .no
theorem tS_set {g : Wd} {W : WX} {i : Nat} {m : M} {D : Ends} {σ : L2.St} {H : Hp} (h : tS g W (mSet i m) D σ H) : tM g W m σ H fun x H1 => D.nx (σ.set i (some x)) H1 := by
  refine tS_of h fun r ρ1 v F1 H1 fp1 fr1 st1 r1 n1 ob => ?_
  by_cases hb : isBor ρ1 i = true
  · rw [if_pos hb] at ob; exact absurd rfl ob.no
  · rw [if_neg hb] at ob
    cases e : r.slo with
    | none => rw [e] at ob; exact absurd rfl ob.no
    | some s =>
      rw [e] at ob
      obtain ⟨fp', st', k⟩ := st1.put i (r1.slo e) n1 fun a ha => ⟨(r1.out a ha).1, (r1.out a ha).2.1⟩
      exact ob.nx _ rfl _ F1 H1 fp' ((Step.refl _ _ _).weak k) st' (.set (by simpa using hb) _ _)
section
variable {X : Cx} {W : WX} {pos : Pos} {a b c tg : Expr} {es : List Expr} {ma mb mc : M} {ms : List M} {st : Stmt} {sts : List Stmt} {m n : MS} {tc : MB}
theorem ss_set {i : Nat} {x : Str} {pos' : Pos} (hN : X.N.Nodup) (hi : X.N[i]? = some x) (hx : Loc X.env.scope x) (ha : SE X W a ma) (hs : swapsWith a (some (.Name x pos')) pos.line X.env = pure false := by rfl) (hf : X.fn x = true ∨ X.env.scope.names.lookup x = some .local := by first | exact .inl rfl | exact .inr rfl) :
    SS X W (.Assign [.Name x pos'] a pos) (mSet i ma) := PS.wk (ps_set hN hi hx ha hs hf) fun D σ H h => tS_set h
/-- name += e -/
def lAddP (p q : R) : Option R := match p.pl, q.pl with
  | some (.int i), some (.int j) => some (.d (.int (i + j)))
  | some (.str s), some (.str t) => if lenOk (s.length + t.length) = true then some (.d (.str (s ++ t))) else none
  | _, _ => none
def rAddP : R2 := fun x y H Q => (rI0 fun i j => .int (i + j)) x y H Q ∨ (fun x y H Q => ∃ i j, x = .str i ∧ y = .str j ∧ i.length + j.length ≤ sizeLine ∧ Q (.str (i ++ j)) H) x y H Q
theorem l_addP : LOk2 (gOf X) lAddP rAddP := by
  intro F H S x y p q f1 f2 Q rx ry l
  obtain ⟨rr, e⟩ := l.has
  have e0 := e
  unfold lAddP at e
  split at e
  · next i j e1 e2 => cases e; exact .inl ⟨i, j, rx.int e1, ry.int e2, l.val e0 (.int _)⟩
  · next s t e1 e2 =>
    split at e
    · next hl =>
      have hl := lenOk_le hl
      cases e
      obtain ⟨rfl, h1⟩ := rx.str e1
      obtain ⟨rfl, h2⟩ := ry.str e2
      rw [← sizeLine_eq] at hl
      refine .inr ⟨_, _, rfl, rfl, by rw [str_len, str_len]; exact hl, ?_⟩
      rw [str_app]
      exact l.val e0 (.str (by rw [List.length_append]; exact hl))
    · cases e
  · cases e
def mAug (i : Nat) (m : M) : MS := mSet i (m2 lAddP (nm i) m)
theorem ss_aug {i : Nat} {x : Str} {pos' : Pos} (hN : X.N.Nodup) (hi : X.N[i]? = some x) (hx : Loc X.env.scope x) (ha : SE X W a ma) (hf : X.fn x = true ∨ X.env.scope.names.lookup x = some .local := by first | exact .inl rfl | exact .inr rfl) :
    SS X W (.AugAssign (.Name x pos') .Add a pos) (mAug i ma) := PS.wk (ps_aug (ti := rAddP) hN hi hx ha (fun pins s σ H x y v u Q I rx ry q => (iop_add.or iop_add_str) pins s σ H x y v u Q I rx ry q) hf) fun D σ H h => tM_nm (tM_m2 l_addP (tS_set h))

/-! ### targets -/
end
inductive Tg where
  | nm (i : Nat) | tup (ts : List Tg)
mutual
def asg : Tg → D → Ro → Option Ro
  | .nm i, x, ρ => if isBor ρ i = true then none else some (ρ.set i (.shr x))
  | .tup ts, .tup xs, ρ => asgs ts xs ρ
  | .tup _, _, _ => none
def asgs : List Tg → List D → Ro → Option Ro
  | [], [], ρ => some ρ
  | t :: ts, x :: xs, ρ => match asg t x ρ with
    | some ρ' => asgs ts xs ρ'
    | none => none
  | _, _, _ => none
end
theorem asgs_len : ∀ {ts : List Tg} {xs : List D} {ρ ρ' : Ro}, asgs ts xs ρ = some ρ' → ts.length = xs.length
  | [], [], _, _, _ => rfl
  | t :: ts, x :: xs, ρ, ρ', h => by
    unfold asgs at h
    split at h
    · rw [List.length_cons, List.length_cons, asgs_len h]
    · cases h
  | [], _ :: _, _, _, h => by simp [asgs] at h
  | _ :: _, [], _, _, h => by simp [asgs] at h
mutual
def Tg.slots : Tg → List Nat
  | .nm i => [i]
  | .tup ts => slotsL ts
def slotsL : List Tg → List Nat
  | [] => []
  | t :: ts => t.slots ++ slotsL ts
end
def Onl (l : List Nat) (σ σ' : L2.St) : Prop := σ'.length = σ.length ∧ ∀ j, j ∉ l → σ'[j]? = σ[j]?
theorem Onl.refl (l : List Nat) (σ : L2.St) : Onl l σ σ := ⟨rfl, fun _ _ => rfl⟩
theorem Onl.trans {l l' : List Nat} {a b c : L2.St} (x : Onl l a b) (y : Onl l' b c) : Onl (l ++ l') a c := ⟨y.1.trans x.1, fun j h => (y.2 j fun z => h (List.mem_append_right _ z)).trans (x.2 j fun z => h (List.mem_append_left _ z))⟩
def tG (g : Wd) (t : Tg) : TG := fun v σ H Q => ∃ F ρ fp x ρ', Stt g F H σ ρ fp ∧ Rep g F v x ∧ asg t x ρ = some ρ' ∧ ∀ σ' fp', Stt g F H σ' ρ' fp' → (∀ a, Own fp' a → Own fp a) → Kbs ρ σ ρ' σ' → Onl t.slots σ σ' → Q σ' H
def tGs (g : Wd) (ts : List Tg) : TGs := fun vs σ H Q => ∃ F ρ fp xs ρ', Stt g F H σ ρ fp ∧ Reps g F vs xs ∧ asgs ts xs ρ = some ρ' ∧ ∀ σ' fp', Stt g F H σ' ρ' fp' → (∀ a, Own fp' a → Own fp a) → Kbs ρ σ ρ' σ' → Onl (slotsL ts) σ σ' → Q σ' H
abbrev SG (X : Cx) (e : Expr) (t : Tg) : Prop := PG X e (tG (gOf X) t)
abbrev SGs (X : Cx) (e : List Expr) (ts : List Tg) : Prop := PGs X e (tGs (gOf X) ts)
theorem PG.wk {X : Cx} {e : Expr} {t t' : TG} (h : PG X e t) (i : ∀ v σ H Q, t' v σ H Q → t v σ H Q) : PG X e t' := ⟨fun pins s σ H v u Q I r q => h.run pins s σ H v u Q I r (i v σ H Q q)⟩
theorem PGs.wk {X : Cx} {e : List Expr} {t t' : TGs} (h : PGs X e t) (i : ∀ v σ H Q, t' v σ H Q → t v σ H Q) : PGs X e t' := ⟨fun pins s σ H v u Q I r q => h.run pins s σ H v u Q I r (i v σ H Q q)⟩
section
variable {X : Cx} {W : WX} {pos : Pos} {a b c tg : Expr} {es : List Expr} {ma mb mc : M} {ms : List M} {st : Stmt} {sts : List Stmt} {m n : MS} {tc : MB} {t : Tg} {ts : List Tg}
theorem sg_nm {i : Nat} {x : Str} (hN : X.N.Nodup) (hi : X.N[i]? = some x) (hx : Loc X.env.scope x) (hf : X.fn x = true ∨ X.env.scope.names.lookup x = some .local := by first | exact .inl rfl | exact .inr rfl) : SG X (.Name x pos) (.nm i) :=
  PG.wk (pg_name hN hi hx hf) fun v σ H Q h => by
    obtain ⟨F, ρ, fp, x, ρ', st, r, e, k⟩ := h
    unfold asg at e
    split at e
    · cases e
    · next hb =>
      cases e
      obtain ⟨fp', st', k'⟩ := st.put i (s := .shr x) (f := []) ⟨r, rfl⟩ List.nodup_nil fun a ha => nomatch ha
      exact k _ fp' st' (fun a ha => (k' a ha).elim id fun z => nomatch z) (.set (by simpa using hb) _ _) ⟨by simp, fun j hj => by rw [List.getElem?_set, if_neg fun z => hj (by simp [Tg.slots, z])]⟩
theorem sgs_nil : SGs X [] [] := PGs.wk pgs_nil fun v σ H Q h => by
  obtain ⟨F, ρ, fp, xs, ρ', st, r, e, k⟩ := h
  cases r with
  | nil => simp [asgs] at e; subst e; exact ⟨rfl, k σ fp st (fun _ h => h) (.refl _ _) (.refl _ _)⟩
  | cons => simp [asgs] at e
theorem sgs_cons (h1 : SG X a t) (h2 : SGs X es ts) (hs : (assignEach (a :: es) X.env).map (·.2) = assign a X.env :: (assignEach es X.env).map (·.2) := by rfl) : SGs X (a :: es) (t :: ts) := PGs.wk (pgs_cons h1 h2 hs) fun v σ H Q h => by
  obtain ⟨F, ρ, fp, xs, ρ', st, r, e, k⟩ := h
  cases r with
  | nil => simp [asgs] at e
  | @cons v vs d ds r rs =>
    unfold asgs at e
    split at e
    · next ρ1 e1 => exact ⟨v, vs, rfl, F, ρ, fp, d, ρ1, st, r, e1, fun σ1 fp1 st1 o1 k1 n1 => ⟨F, ρ1, fp1, ds, ρ', st1, rs, e, fun σ' fp' st' o' k' n' => k σ' fp' st' (fun a h => o1 a (o' a h)) (k1.trans k') (n1.trans n')⟩⟩
    · cases e
theorem sg_tup {k : Nat} {n : Nat} (hc : X.calm = true) (h : SGs X es ts) (hn : (assignEach es X.env).length = n := by rfl) (hst : (assignEach es X.env).findIdx? (·.1) = none := by rfl) (hl : ts.length = n := by rfl) : SG X (.Tuple es k pos) (.tup ts) :=
  PG.wk (pg_tup hc h hn hst) fun v σ H Q h => by
    obtain ⟨F, ρ, fp, x, ρ', st, r, e, q⟩ := h
    cases x with
    | tup xs =>
      cases r with
      | tup h1 hl1 rs =>
        have e : asgs ts xs ρ = some ρ' := by unfold asg at e; exact e
        exact ⟨_, _, rfl, st.sub.sqT h1, by rw [rs.length, ← asgs_len e]; exact hl, F, ρ, fp, xs, ρ', st, rs, e, q⟩
    | _ => simp [asg] at e
/-- target = e -/
def mAsg (t : Tg) (m : M) : MS := fun ρ => (m ρ).stm fun r ρ' => match r with
  | .d x => match asg t x ρ' with
    | some ρ2 => .nx ρ2
    | none => .no
  | _ => .no
theorem ss_asg (ha : SE X W a ma) (hg : SG X tg t) (hs : swapsWithSole [tg] a pos.line X.env = pure false := by rfl) (hw : swappedStores [tg] a X.env = pure none := by rfl) (h1 : (assignEach [tg] X.env).map (·.2) = [assign tg X.env] := by rfl) : SS X W (.Assign [tg] a pos) (mAsg t ma) :=
  PS.wk (ps_asg ha hg hs hw h1) fun D σ H h => tS_of h fun r ρ1 v F1 H1 fp1 fr1 st1 r1 n1 ob => by
    cases r with
    | d x =>
      obtain ⟨r1, rfl⟩ := r1
      rw [plus_nil] at ob
      dsimp only at ob
      cases e : asg t x ρ1 with
      | none => rw [e] at ob; exact absurd rfl ob.no
      | some ρ2 =>
        rw [e] at ob
        exact ⟨F1, ρ1, fp1, x, ρ2, st1, r1, e, fun σ' fp' st' o' k' _ => ob.nx ρ2 rfl σ' F1 H1 fp' ((Step.refl _ _ _).weak o') st' k'⟩
    | _ => exact absurd rfl ob.no

/-! ### what a loop walks -/
end
def Yields (g : Wd) (F : Hp) (J : It) (xs : List D) : Prop := ∀ (i : Nat) (F2 H2 : Hp), Ext F F2 → Ext F2 H2 → (i = xs.length → J.stop i H2) ∧ (∀ d, xs[i]? = some d → J.go i H2 ∧ ∀ x H3, J.yld i H2 x H3 → ∃ F3, Ext F3 H3 ∧ Ext F2 F3 ∧ Ext H2 H3 ∧ (∀ a o, F3 a = some o → F2 a = some o ∨ H2 a = none) ∧ Rep g F3 x d)
theorem Yields.mono {g : Wd} {F F' : Hp} {J : It} {xs : List D} (y : Yields g F J xs) (e : Ext F F') : Yields g F' J xs := fun i F2 H2 e1 e2 => y i F2 H2 (e.trans e1) e2
def RepI (g : Wd) : VRel (List D) It := fun F H S J xs fr => Yields g F J xs ∧ fr = []
abbrev MI := Ro → Res (List D)
abbrev tI (g : Wd) (W : WX) (m : MI) : TI := tR g W (RepI g) m
abbrev SI (X : Cx) (W : WX) (tg e : Expr) (m : MI) : Prop := PI X tg e (tI (gOf X) W m)
theorem PI.wk {X : Cx} {tg e : Expr} {t t' : TI} (h : PI X tg e t) (i : ∀ σ H Q, t' σ H Q → t σ H Q) : PI X tg e t' := ⟨fun pins s σ H Q I q => h.run pins s σ H Q I (i σ H Q q)⟩
def forGoR (t : Tg) (b : MS) : List D → MS
  | [], ρ => .nx ρ
  | x :: xs, ρ => match asg t x ρ with
    | none => .no
    | some ρ1 => match b ρ1 with
      | .nx ρ2 => forGoR t b xs ρ2
      | .ct ρ2 => forGoR t b xs ρ2
      | .bk ρ2 => .nx ρ2
      | r => r
def forGo : Tg → MS → List D → MS := hide forGoR
theorem forGo_nil (t : Tg) (b : MS) (ρ : Ro) : forGo t b [] ρ = .nx ρ := by unfold forGo; rw [hide_eq]; rfl
theorem forGo_cons (t : Tg) (b : MS) (x : D) (xs : List D) (ρ : Ro) : forGo t b (x :: xs) ρ = match asg t x ρ with
    | none => .no
    | some ρ1 => (match b ρ1 with
      | .nx ρ2 => forGo t b xs ρ2
      | .ct ρ2 => forGo t b xs ρ2
      | .bk ρ2 => .nx ρ2
      | r => r) := by unfold forGo; rw [hide_eq]; rfl
def mFor (it : MI) (t : Tg) (b : MS) : MS := fun ρ => (it ρ).stm fun xs ρ' => forGo t b xs ρ'
def whGo (c : MB) (b : MS) : Nat → MS
  | 0, _ => .no
  | n + 1, ρ => (c ρ).stm fun x ρ1 => if x = true then (match b ρ1 with
      | .nx ρ2 => whGo c b n ρ2
      | .ct ρ2 => whGo c b n ρ2
      | .bk ρ2 => .nx ρ2
      | r => r) else .nx ρ1
open Classical in
def mWhile (c : MB) (b : MS) : MS := fun ρ => if h : ∃ n, whGo c b n ρ ≠ .no then whGo c b (Classical.choose h) ρ else .no
theorem whGo_more (c : MB) (b : MS) : ∀ (n : Nat) (ρ : Ro), whGo c b n ρ ≠ .no → whGo c b (n + 1) ρ = whGo c b n ρ
  | 0, ρ, h => absurd rfl h
  | n + 1, ρ, h => by
    rw [whGo] at h
    rw [whGo, whGo]
    cases e : c ρ with
    | no => rfl
    | ex x ρ1 => rfl
    | ok x ρ1 q =>
      rw [e] at h
      simp only [Res.stm_ok] at h ⊢
      cases x with
      | false => rfl
      | true =>
        rw [if_pos rfl] at h ⊢
        rw [if_pos rfl]
        cases e2 : b ρ1 with
        | nx ρ2 => rw [e2] at h; exact whGo_more c b n ρ2 h
        | ct ρ2 => rw [e2] at h; exact whGo_more c b n ρ2 h
        | _ => rfl
theorem whGo_le (c : MB) (b : MS) {n k : Nat} {ρ : Ro} (h : whGo c b n ρ ≠ .no) : whGo c b (n + k) ρ = whGo c b n ρ := by
  induction k with
  | zero => rfl
  | succ k ih => rw [← Nat.add_assoc, whGo_more c b (n + k) ρ (by rw [ih]; exact h), ih]
theorem mWhile_eq {c : MB} {b : MS} {n : Nat} {ρ : Ro} {r : SRes} (e : whGo c b n ρ = r) (h : r ≠ .no) : mWhile c b ρ = r := by
  have hx : ∃ n, whGo c b n ρ ≠ .no := ⟨n, by rw [e]; exact h⟩
  unfold mWhile
  rw [dif_pos hx]
  have h2 := Classical.choose_spec hx
  have a1 := whGo_le c b (k := Classical.choose hx) (n := n) (ρ := ρ) (by rw [e]; exact h)
  have a2 := whGo_le c b (k := n) h2
  rw [Nat.add_comm] at a2
  rw [← a2, a1, e]
section
variable {X : Cx} {W : WX} {pos : Pos} {a b c tg : Expr} {es : List Expr} {ma mb mc : M} {ms : List M} {st : Stmt} {sts : List Stmt} {m n : MS} {tc : MB} {t : Tg} {ts : List Tg} {mi : MI}
theorem ss_for (hp : PassesOwn (model X.prog X.w) X.A X.env X.xe) (hc : X.calm = true) (hi : SI X W tg a mi) (hg : SG X tg t) (hb : SSs X W sts m) (hs : ∀ x, foldedSetIterable a X.env x = pure x := by intro _; rfl) : SS X W (.For tg a sts [] pos) (mFor mi t m) :=
  PS.wk (ps_for hp hc hi hg hb hs) fun D σ H h => tS_of h fun xs ρ1 J F1 H1 fp1 fr1 st1 r1 n1 ob => by
    obtain ⟨yl, rfl⟩ := r1
    rw [plus_nil] at ob
    refine ⟨fun i k σ' H' => i ≤ xs.length ∧ k = xs.length - i ∧ ∃ F ρ fp, Stt (gOf X) F H' σ' ρ fp ∧ Ext F1 F ∧ ObS (gOf X) W ρ σ' F H' (Own fp) (forGo t m (xs.drop i) ρ) D, ⟨xs.length, Nat.zero_le _, rfl, F1, ρ1, fp1, st1, .refl _, ob⟩, fun i k σ2 H2 hw => ?_⟩
    obtain ⟨hi, rfl, F, ρ, fp, stt, ex, ob2⟩ := hw
    have Y := yl i F H2 ex stt.sub
    by_cases hl : i < xs.length
    · obtain ⟨d, hd⟩ : ∃ d, xs[i]? = some d := ⟨xs[i], List.getElem?_eq_getElem hl⟩
      have hdr : xs.drop i = d :: xs.drop (i + 1) := by
        rw [List.getElem?_eq_getElem hl] at hd
        cases hd
        exact (List.drop_eq_getElem_cons hl)
      rw [hdr] at ob2
      obtain ⟨go, yy⟩ := Y.2 d hd
      refine .inr ⟨go, fun σ' H' => i + 1 ≤ xs.length ∧ ∃ F ρ fp, Stt (gOf X) F H' σ' ρ fp ∧ Ext F1 F ∧ ObS (gOf X) W ρ σ' F H' (Own fp) (forGo t m (xs.drop (i + 1)) ρ) D, fun σ' H' hN => ⟨xs.length - (i + 1), by omega, hN.1, rfl, hN.2⟩, fun x H3 hy => ?_⟩
      obtain ⟨F3, s3, e3, eh3, n3, r3⟩ := yy x H3 hy
      have own3 : ∀ a, Own fp a → F3 a = none := fun a ha => by
        cases q : F3 a with
        | none => rfl
        | some u =>
          rcases n3 a u q with z | z
          · rw [(stt.there ha).2] at z; cases z
          · exact absurd z (stt.there ha).1
      have st3 := stt.grown e3 eh3 s3 own3
      have step3 : Step F H2 (Own fp) F3 H3 (Own fp) := ⟨e3, fun a o _ h => eh3 a o h, fun a o h => (n3 a o h).imp id .inr, fun a h => .inl h⟩
      have ob3 := ob2.after step3 (.refl ρ σ2)
      cases e : asg t d ρ with
      | none => rw [forGo_cons, e] at ob3; exact absurd rfl ob3.no
      | some ρ4 =>
        rw [forGo_cons, e] at ob3
        dsimp only at ob3
        refine ⟨F3, ρ, fp, d, ρ4, st3, r3, e, fun σ4 fp4 st4 o4 k4 _ => ⟨F3, ρ4, fp4, st4, ?_⟩⟩
        have ob4 := ob3.after ((Step.refl F3 H3 (Own fp)).weak o4) k4
        have next : ∀ ρ5 σ5 F5 H5 fp5, ObS (gOf X) W ρ4 σ4 F3 H3 (Own fp4) (forGo t m (xs.drop (i + 1)) ρ5) D → Step F3 H3 (Own fp4) F5 H5 (Own fp5) → Stt (gOf X) F5 H5 σ5 ρ5 fp5 → Kbs ρ4 σ4 ρ5 σ5 → i + 1 ≤ xs.length ∧ ∃ F ρ fp, Stt (gOf X) F H5 σ5 ρ fp ∧ Ext F1 F ∧ ObS (gOf X) W ρ σ5 F H5 (Own fp) (forGo t m (xs.drop (i + 1)) ρ) D :=
          fun ρ5 σ5 F5 H5 fp5 o s st5 k => ⟨hl, F5, ρ5, fp5, st5, (ex.trans e3).trans s.ext, o.after s k⟩
        cases e5 : m ρ4 with
        | nx ρ5 =>
          rw [e5] at ob4
          exact ⟨fun z => (nomatch z), fun ρ' q σ' F' H' fp' s' st' k' => by cases q; exact next _ _ _ _ _ ob4 s' st' k', fun ρ' q => (nomatch q), fun ρ' q => (nomatch q), fun r ρ' q => (nomatch q), fun r ρ' q => (nomatch q)⟩
        | ct ρ5 =>
          rw [e5] at ob4
          exact ⟨fun z => (nomatch z), fun ρ' q => (nomatch q), fun ρ' q => (nomatch q), fun ρ' q σ' F' H' fp' s' st' k' => by cases q; exact next _ _ _ _ _ ob4 s' st' k', fun r ρ' q => (nomatch q), fun r ρ' q => (nomatch q)⟩
        | bk ρ5 =>
          rw [e5] at ob4
          exact ⟨fun z => (nomatch z), fun ρ' q => (nomatch q), fun ρ' q σ' F' H' fp' s' st' k' => by cases q; exact ob4.nx _ rfl σ' F' H' fp' s' st' k', fun ρ' q => (nomatch q), fun r ρ' q => (nomatch q), fun r ρ' q => (nomatch q)⟩
        | rt r ρ5 => rw [e5] at ob4; exact ⟨fun z => (nomatch z), fun ρ' q => (nomatch q), fun ρ' q => (nomatch q), fun ρ' q => (nomatch q), ob4.rt, ob4.ex⟩
        | ex x ρ5 => rw [e5] at ob4; exact ⟨fun z => (nomatch z), fun ρ' q => (nomatch q), fun ρ' q => (nomatch q), fun ρ' q => (nomatch q), ob4.rt, ob4.ex⟩
        | no => rw [e5] at ob4; exact absurd rfl ob4.no
    · have e : i = xs.length := by omega
      subst e
      refine .inl ⟨Y.1 rfl, ?_⟩
      rw [List.drop_length, forGo_nil] at ob2
      exact ob2.nx ρ rfl σ2 F H2 fp (.refl _ _ _) stt (.refl _ _)
theorem ss_while (hp : PassesOwn (model X.prog X.w) X.A X.env X.xe) (hc : ST X W a tc) (hb : SSs X W sts m) : SS X W (.While a sts [] pos) (mWhile tc m) :=
  PS.wk (ps_while hp hc hb) fun D σ H h => by
    obtain ⟨F, ρ, fp, st, ob⟩ := h
    have hx : ∃ n, whGo tc m n ρ ≠ .no := by
      by_cases hx : ∃ n, whGo tc m n ρ ≠ .no
      · exact hx
      · exact absurd (show mWhile tc m ρ = .no by unfold mWhile; rw [dif_neg hx]) ob.no
    obtain ⟨N, hN⟩ := hx
    rw [mWhile_eq (n := N) rfl hN] at ob
    refine ⟨fun k σ' H' => ∃ F ρ fp, Stt (gOf X) F H' σ' ρ fp ∧ ObS (gOf X) W ρ σ' F H' (Own fp) (whGo tc m k ρ) D, ⟨N, F, ρ, fp, st, ob⟩, fun k σ2 H2 hw => ?_⟩
    obtain ⟨F, ρ, fp, stt, ob2⟩ := hw
    cases k with
    | zero => exact absurd rfl ob2.no
    | succ k =>
      refine tS_of (D := D) (m := tc) (k := fun x ρ1 => if x = true then (match m ρ1 with
        | .nx ρ2 => whGo tc m k ρ2
        | .ct ρ2 => whGo tc m k ρ2
        | .bk ρ2 => .nx ρ2
        | r => r) else .nx ρ1) ⟨F, ρ, fp, stt, ob2⟩ fun x ρ3 v F3 H3 fp3 fr3 st3 r3 n3 ob3 => ?_
      obtain ⟨rfl, rfl⟩ := r3
      rw [plus_nil] at ob3
      cases v with
      | false =>
        rw [if_neg (by decide)] at ob3 ⊢
        exact ob3.nx ρ3 rfl σ2 F3 H3 fp3 (.refl _ _ _) st3 (.refl _ _)
      | true =>
        rw [if_pos rfl] at ob3 ⊢
        refine ⟨fun σ' H' => ∃ F ρ fp, Stt (gOf X) F H' σ' ρ fp ∧ ObS (gOf X) W ρ σ' F H' (Own fp) (whGo tc m k ρ) D, fun σ' H' hN => ⟨k, Nat.lt_succ_self k, hN⟩, F3, ρ3, fp3, st3, ?_⟩
        cases e5 : m ρ3 with
        | nx ρ5 =>
          rw [e5] at ob3
          exact ⟨fun z => (nomatch z), fun ρ' q σ' F' H' fp' s' st' k' => by cases q; exact ⟨F', ρ5, fp', st', ob3.after s' k'⟩, fun ρ' q => (nomatch q), fun ρ' q => (nomatch q), fun r ρ' q => (nomatch q), fun r ρ' q => (nomatch q)⟩
        | ct ρ5 =>
          rw [e5] at ob3
          exact ⟨fun z => (nomatch z), fun ρ' q => (nomatch q), fun ρ' q => (nomatch q), fun ρ' q σ' F' H' fp' s' st' k' => by cases q; exact ⟨F', ρ5, fp', st', ob3.after s' k'⟩, fun r ρ' q => (nomatch q), fun r ρ' q => (nomatch q)⟩
        | bk ρ5 =>
          rw [e5] at ob3
          exact ⟨fun z => (nomatch z), fun ρ' q => (nomatch q), fun ρ' q σ' F' H' fp' s' st' k' => by cases q; exact ob3.nx _ rfl σ' F' H' fp' s' st' k', fun ρ' q => (nomatch q), fun r ρ' q => (nomatch q), fun r ρ' q => (nomatch q)⟩
        | rt r ρ5 => rw [e5] at ob3; exact ⟨fun z => (nomatch z), fun ρ' q => (nomatch q), fun ρ' q => (nomatch q), fun ρ' q => (nomatch q), ob3.rt, ob3.ex⟩
        | ex x ρ5 => rw [e5] at ob3; exact ⟨fun z => (nomatch z), fun ρ' q => (nomatch q), fun ρ' q => (nomatch q), fun ρ' q => (nomatch q), ob3.rt, ob3.ex⟩
        | no => rw [e5] at ob3; exact absurd rfl ob3.no
end
end
end Mw

set_option Elab.async false
set_option linter.all false
set_option maxRecDepth 100000
set_option autoImplicit false
namespace Mw
open PySem PySem.Spec PyProof.Rows L2
noncomputable section

section
variable {X : Cx} {W : WX} {pos : Pos} {a b c tg : Expr} {es : List Expr} {ma mb mc : M} {ms : List M} {st : Stmt} {sts : List Stmt} {m n : MS} {tc : MB} {t : Tg} {ts : List Tg} {mi : MI}
/-! ### walked things -/
theorem pi_seq {tl : TE} (hl : PE X a tl) : PI X tg a (fun σ H R => tl σ H fun x H1 => (∃ p xs, x = .ref p ∧ SqL X.K H1 p xs ∧ R (Itl X.K p) H1) ∨ (∃ p xs, x = .ref p ∧ SqT X.K H1 p xs ∧ R (Itt X.K p) H1) ∨ ∃ z, x = .str z ∧ R (Its z) H1) := by
  refine ⟨fun pins s σ H R I h => ?_⟩
  refine thn (hl.run pins s σ H _ I h) fun v s1 ⟨x, H1, I1, r1, q1⟩ => ?_
  rcases q1 with ⟨p, xs, e, hq, q⟩ | ⟨p, xs, e, hq, q⟩ | ⟨z, e, q⟩
  · subst e
    cases r1
    obtain ⟨its, rv, pl, hz⟩ := I1.list hq
    refine wpAny_pyIter_list pl.isList ?_
    refine ⟨s1.heap.objs.size, [s1.heap.objs.size], _, _, H1, rfl, I1.kept (t' := s1.toks) fun b o e => Heap.get?_push_of_some _ e, turn_list p _, ⟨_, Heap.get?_push_size _ rfl, rfl, rfl⟩, fun b hb => ?_, q⟩
    have e : b = s1.heap.objs.size := by simpa using hb
    subst e
    exact I1.fpOk (Nat.le_refl _) (I1.hok.fresh (Nat.le_refl _))
  · subst e
    cases r1
    obtain ⟨its, rv, pl, hz⟩ := I1.tuple hq
    refine wpAny_pyIter_tuple (show s1.heap.IsTuple p its.toArray from pl) ?_
    refine ⟨s1.heap.objs.size, [s1.heap.objs.size], _, _, H1, rfl, I1.kept (t' := s1.toks) fun b o e => Heap.get?_push_of_some _ e, turn_tuple p _, ⟨_, Heap.get?_push_size _ rfl, rfl, rfl⟩, fun b hb => ?_, q⟩
    have e : b = s1.heap.objs.size := by simpa using hb
    subst e
    exact I1.fpOk (Nat.le_refl _) (I1.hok.fresh (Nat.le_refl _))
  · subst e
    obtain ⟨t, rfl⟩ := r1
    cases ha : z.cps.all (· < 128)
    · exact wpAny_pyIter_wide ha (pi_one (tk := s1.toks) I1 _ (turn_str _ z t "str_iterator" (.inr rfl)) ⟨_, Heap.get?_push_size _ rfl, rfl, rfl⟩ q)
    · exact wpAny_pyIter_ascii ha (pi_one (tk := s1.toks) I1 _ (turn_str _ z t "str_ascii_iterator" (.inl rfl)) ⟨_, Heap.get?_push_size _ rfl, rfl, rfl⟩ q)
/-- what is plain: its items -/
def R.its : R → Option (List D)
  | .d (.lst ds) => some ds
  | .d (.tup ds) => some ds
  | .d (.str s) => some (s.map fun c => .str [c])
  | .own (.lst os) => undO os
  | _ => none
@[simp] theorem R.its_l (ds : List D) : (R.d (.lst ds)).its = some ds := rfl
@[simp] theorem R.its_t (ds : List D) : (R.d (.tup ds)).its = some ds := rfl
@[simp] theorem R.its_o (ds : List D) : (R.own (.lst (ds.map O.d))).its = some ds := by simp [R.its]
def mIt (m : M) : MI := fun ρ => (m ρ).bind fun r ρ' q => match r.its with
  | some ds => .ok ds ρ' q
  | none => .no
theorem yields_list {g : Wd} {F : Hp} {p : Addr} {vs : List V} {ds : List D} (h : SqL g.K F p vs) (r : Reps g F vs ds) : Yields g F (Itl g.K p) ds := by
  intro i F2 H2 e1 e2
  have h2 := e2.sqL (e1.sqL h)
  refine ⟨fun e => ⟨vs, h2, by rw [e, r.length]; exact Nat.le_refl _⟩, fun d hd => ?_⟩
  obtain ⟨v, hv, rv⟩ := r.get hd
  refine ⟨⟨vs, v, h2, hv⟩, fun x H3 hy => ?_⟩
  obtain ⟨rfl, hy⟩ := hy
  have := hy vs h2
  rw [hv] at this; cases this
  exact ⟨F2, e2, .refl _, .refl _, fun a o h => .inl h, rv.mono e1⟩
theorem yields_tup {g : Wd} {F : Hp} {p : Addr} {vs : List V} {ds : List D} (h : SqT g.K F p vs) (r : Reps g F vs ds) : Yields g F (Itt g.K p) ds := by
  intro i F2 H2 e1 e2
  have h2 := e2.sqT (e1.sqT h)
  refine ⟨fun e => ⟨vs, h2, by rw [e, r.length]; exact Nat.le_refl _⟩, fun d hd => ?_⟩
  obtain ⟨v, hv, rv⟩ := r.get hd
  refine ⟨⟨vs, v, h2, hv⟩, fun x H3 hy => ?_⟩
  obtain ⟨rfl, hy⟩ := hy
  have := hy vs h2
  rw [hv] at this; cases this
  exact ⟨F2, e2, .refl _, .refl _, fun a o h => .inl h, rv.mono e1⟩
theorem yields_str {g : Wd} {F : Hp} {s : List Nat} : Yields g F (Its ⟨s.toArray⟩) (s.map fun c => .str [c]) := by
  have w := walk_str (z := ⟨s.toArray⟩)
  intro i F2 H2 e1 e2
  refine ⟨fun e => ?_, fun d hd => ?_⟩
  · have := w.stops H2 trivial
    rw [e, List.length_map]
    simpa using this
  · rw [List.getElem?_map] at hd
    cases hc : s[i]? with
    | none => rw [hc] at hd; cases hd
    | some c =>
      rw [hc] at hd; cases hd
      have hi : i < (⟨s.toArray⟩ : Str).cps.size := by
        have := (List.getElem?_eq_some_iff.mp hc).1
        simpa using this
      refine ⟨w.goes i H2 hi trivial, fun x H3 hy => ?_⟩
      obtain ⟨rfl, c', hc', rfl⟩ := w.yields i H2 x H3 hi trivial hy
      have : c' = c := by
        have h2 : s[i]? = some c' := by simpa using hc'
        rw [hc] at h2; cases h2; rfl
      subst this
      exact ⟨F2, e2, .refl _, .refl _, fun a o h => .inl h, .str (s := [c']) (by rw [sizeLine_eq]; show 1 ≤ 16777216; decide)⟩
theorem si_seq (ha : SE X W a ma) : SI X W tg a (mIt ma) := PI.wk (pi_seq ha) fun σ H R h => by
  refine tR.bind h fun F ρ fp st r ρ1 q1 e1 v F1 H1 fp1 fr1 s1 st1 r1 n1 z1 ob => ?_
  cases e : r.its with
  | none => rw [e] at ob; exact absurd rfl ob.1
  | some ds =>
    rw [e] at ob
    have fin : ∀ (J : It), fr1 = [] → Yields (gOf X) F1 J ds → R J H1 := fun J hf y => by
      subst hf
      exact ob.2.1 ds ρ1 q1 rfl J F1 H1 fp1 [] (by rw [plus_nil]; exact .refl _ _ _) st1 ⟨y, rfl⟩ n1 z1
    cases r with
    | d x =>
      cases x with
      | lst es =>
        cases e
        obtain ⟨hr, hf⟩ := r1
        cases hr with
        | lst h hl rr => exact .inl ⟨_, _, rfl, st1.sub.sqL h, fin _ hf (yields_list h rr)⟩
      | tup es =>
        cases e
        obtain ⟨hr, hf⟩ := r1
        cases hr with
        | tup h hl rr => exact .inr (.inl ⟨_, _, rfl, st1.sub.sqT h, fin _ hf (yields_tup h rr)⟩)
      | str s =>
        cases e
        obtain ⟨hr, hf⟩ := r1
        cases hr with
        | str h => exact .inr (.inr ⟨_, rfl, fin _ hf yields_str⟩)
      | _ => cases e
    | own o =>
      cases o with
      | lst os =>
        have o1 := RepR.out (r := .own (.lst os)) r1
        obtain ⟨p, vs, rfl, hp, hl, rr⟩ := RepR.ofOl (r := .own (.lst os)) r1 (ds := ds) e
        obtain ⟨hr, ho⟩ := r1
        cases hr with
        | @lst _ vs' _ fp' h hl' r' =>
          have hpm : p ∈ p :: fp' := by simp
          have st2 : Stt (gOf X) (frz F1 H1 (p :: fp')) H1 σ ρ1 fp1 := st1.grown (frz_ext st1.sub) (.refl _) (frz_sub st1.sub) fun a ha => by
            unfold frz
            rw [if_neg fun z => (o1 a z).2.1 ha]
            exact (st1.there ha).2
          refine .inl ⟨p, vs, rfl, .inl (.inl hp), ?_⟩
          refine ob.2.1 ds ρ1 q1 rfl _ (frz F1 H1 (p :: fp')) H1 fp1 [] ?_ st2 ⟨yields_list (.inl (.inl ((frz_mem hpm).trans hp))) (rr.mono (frz_ext st1.sub)), rfl⟩ List.nodup_nil z1
          rw [plus_nil]
          exact ⟨frz_ext st1.sub, fun a o _ h => h, fun a o h => (frz_new h).imp id fun z => .inl (.inr z), fun a h => .inl (.inl h)⟩
      | _ => cases e
    | pk o => cases e
variable {p : Pos}
def mRg1 (m : M) : MI := fun ρ => (m ρ).bind fun r ρ' q => match r with
  | .d (.int j) => if rgOk j = true then .ok ((List.range j.toNat).map fun (k : Nat) => D.int k) ρ' q else .no
  | _ => .no
theorem yields_rng {g : Wd} {F : Hp} {lo : Int} {n : Nat} : Yields g F (Itr lo n) ((List.range n).map fun (k : Nat) => D.int (lo + k)) := by
  intro i F2 H2 e1 e2
  refine ⟨fun e => by rw [e, List.length_map, List.length_range]; exact Nat.le_refl _, fun d hd => ?_⟩
  rw [List.getElem?_map] at hd
  cases hc : (List.range n)[i]? with
  | none => rw [hc] at hd; cases hd
  | some c =>
    rw [hc] at hd; cases hd
    obtain ⟨hi, e⟩ := List.getElem?_eq_some_iff.mp hc
    rw [List.length_range] at hi
    rw [List.getElem_range] at e
    subst e
    refine ⟨hi, fun x H3 hy => ?_⟩
    obtain ⟨rfl, rfl⟩ := hy
    exact ⟨F2, e2, .refl _, .refl _, fun a o h => .inl h, .int _⟩
theorem si_rg1 (hg : Gl X "range") (hm : X.mg "range" = none) (ha : SE X W a ma) (he : starEach [a] X.env = (false, eval a X.env) :: starEach [] X.env := by rfl) : SI X W tg (.Call (.Name "range" p) [a] [] pos) (mRg1 ma) := PI.wk (pi_range1 hg hm (pa_cons ha pa_nil he) he) fun σ H R h => by
  refine tR.bind h fun F ρ fp st r ρ1 q1 e1 v F1 H1 fp1 fr1 s1 st1 r1 n1 z1 ob => ?_
  show ∃ j : Int, [v] = [.int j] ∧ -(2 ^ 62) ≤ j ∧ j < 2 ^ 62 ∧ R (Itr 0 j.toNat) H1
  cases r with
  | d x =>
    cases x with
    | int j =>
      dsimp only at ob
      split at ob
      · next hj =>
        have hj := rgOk_iff hj
        obtain ⟨hr, rfl⟩ := r1
        cases hr
        refine ⟨j, rfl, by omega, by omega, ?_⟩
        have y := yields_rng (g := gOf X) (F := F1) (lo := 0) (n := j.toNat)
        simp only [Int.zero_add] at y
        exact ob.2.1 _ ρ1 q1 rfl _ F1 H1 fp1 [] (by rw [plus_nil]; exact .refl _ _ _) st1 ⟨y, rfl⟩ n1 z1
      · exact absurd rfl ob.1
    | _ => exact absurd rfl ob.1
  | _ => exact absurd rfl ob.1
def mRg2 (ma mb : M) : MI := fun ρ => (mArgs [ma, mb] ρ).bind fun rs ρ' q => match rs with
  | [.d (.int i), .d (.int j)] => if (rgOk i && rgOk j) = true then .ok ((List.range (j - i).toNat).map fun (k : Nat) => D.int (i + k)) ρ' q else .no
  | _ => .no
theorem si_rg2 (hg : Gl X "range") (hm : X.mg "range" = none) (ha : SE X W a ma) (hb : SE X W b mb) (he : starEach [a, b] X.env = [(false, eval a X.env), (false, eval b X.env)] := by rfl) (hs2 : starEach [b] X.env = [(false, eval b X.env)] := by rfl) :
    SI X W tg (.Call (.Name "range" p) [a, b] [] pos) (mRg2 ma mb) := PI.wk (pi_range2 hg hm (a_cons ha (a_cons hb a_nil hs2) (he.trans (by rw [hs2]))) he hs2) fun σ H R h => by
  refine tR.bind h fun F ρ fp st rs ρ1 q1 e1 vs F1 H1 fp1 fr1 s1 st1 r1 n1 z1 ob => ?_
  have key : ∀ i j, rs = [.d (.int i), .d (.int j)] → ∃ i j : Int, vs = [.int i, .int j] ∧ (-(2 ^ 62) ≤ i ∧ i < 2 ^ 62 ∧ -(2 ^ 62) ≤ j ∧ j < 2 ^ 62) ∧ R (Itr i (j - i).toNat) H1 := fun i j e => by
    subst e
    dsimp only at ob
    split at ob
    · next hj =>
      have hj := Bool.and_eq_true_iff.mp hj
      have hi := rgOk_iff hj.1
      have hj := rgOk_iff hj.2
      obtain ⟨v, w, f1, f2, rfl, rfl, h1, h2⟩ := r1.two
      obtain ⟨h1, rfl⟩ := h1
      obtain ⟨h2, rfl⟩ := h2
      cases h1; cases h2
      refine ⟨i, j, rfl, by omega, ?_⟩
      exact ob.2.1 _ ρ1 q1 rfl _ F1 H1 fp1 [] (by rw [plus_nil]; exact (Step.refl _ _ _).weak fun x h => .inl h) st1 ⟨yields_rng, rfl⟩ n1 z1
    · exact absurd rfl ob.1
  match rs with
  | [.d (.int i), .d (.int j)] => exact key i j rfl
  | [] => exact absurd rfl ob.1
  | [.d (.int i)] => exact absurd rfl ob.1
  | .d (.int i) :: .d (.int j) :: _ :: _ => exact absurd rfl ob.1
  | .d (.int i) :: .d .non :: _ => exact absurd rfl ob.1
  | .d (.int i) :: .d (.bl _) :: _ => exact absurd rfl ob.1
  | .d (.int i) :: .d (.str _) :: _ => exact absurd rfl ob.1
  | .d (.int i) :: .d (.tup _) :: _ => exact absurd rfl ob.1
  | .d (.int i) :: .d (.lst _) :: _ => exact absurd rfl ob.1
  | .d (.int i) :: .d (.obj _ _ _) :: _ => exact absurd rfl ob.1
  | .d (.int i) :: .own _ :: _ => exact absurd rfl ob.1
  | .d (.int i) :: .pk _ :: _ => exact absurd rfl ob.1
  | .d .non :: _ => exact absurd rfl ob.1
  | .d (.bl _) :: _ => exact absurd rfl ob.1
  | .d (.str _) :: _ => exact absurd rfl ob.1
  | .d (.tup _) :: _ => exact absurd rfl ob.1
  | .d (.lst _) :: _ => exact absurd rfl ob.1
  | .d (.obj _ _ _) :: _ => exact absurd rfl ob.1
  | .own _ :: _ => exact absurd rfl ob.1
  | .pk _ :: _ => exact absurd rfl ob.1

/-! ### an own name handed over, or frozen -/
def mv (i : Nat) : M := fun ρ => match ρ[i]? with
  | some (.shr d) => .ok (.d d) ρ true
  | some (.mu false o) => .ok (.own o) (ρ.set i .un) false
  | _ => .no
def fz (i : Nat) : M := fun ρ => match ρ[i]? with
  | some (.shr d) => .ok (.d d) ρ true
  | some (.mu false o) => if o.fz = true then .ok (.d o.toD) (ρ.set i (.shr o.toD)) false else .no
  | _ => .no
theorem tM_mv {g : Wd} {i : Nat} {σ : L2.St} {H : Hp} {Q : VK} (h : tM g W (mv i) σ H Q) : tVar i σ H Q := by
  obtain ⟨F, ρ, fp, st, ob⟩ := h
  cases e : ρ[i]? with
  | none => exact absurd (by unfold mv; rw [e]) ob.1
  | some x =>
    have hi : i < ρ.length := (List.getElem?_eq_some_iff.mp e).1
    cases x with
    | un => exact absurd (by unfold mv; rw [e]) ob.1
    | shr d =>
      obtain ⟨v, e1, r⟩ := st.shr i d e
      exact ⟨v, e1, ob.2.1 (.d d) ρ true (by unfold mv; rw [e]) v F H fp [] (by rw [plus_nil]; exact .refl _ _ _) st ⟨r, rfl⟩ List.nodup_nil ⟨.refl ρ, fun _ => ⟨.refl H, rfl⟩⟩⟩
    | mu b o =>
      cases b with
      | true => exact absurd (by unfold mv; rw [e]) ob.1
      | false =>
        obtain ⟨v, e1, r⟩ := st.mu i false o e
        obtain ⟨fp', st', k1, k2⟩ := st.drop i
        refine ⟨v, e1, ob.2.1 (.own o) (ρ.set i .un) false (by unfold mv; rw [e]) v F H fp' (fp i) ⟨.refl F, fun a o _ h => h, fun a o h => .inl h, fun a h => .inl (h.elim (k1 a) fun z => ⟨i, z⟩)⟩ st' ⟨r, fun a ha => ⟨st.fre i a ha, k2 hi a ha⟩⟩ (st.nd i) ⟨.set (by unfold isBor; rw [e]) _, fun z => nomatch z⟩⟩
theorem tM_fz {g : Wd} {i : Nat} {σ : L2.St} {H : Hp} {Q : VK} (h : tM g W (fz i) σ H Q) : tVar i σ H Q := by
  obtain ⟨F, ρ, fp, st, ob⟩ := h
  cases e : ρ[i]? with
  | none => exact absurd (by unfold fz; rw [e]) ob.1
  | some x =>
    have hi : i < ρ.length := (List.getElem?_eq_some_iff.mp e).1
    cases x with
    | un => exact absurd (by unfold fz; rw [e]) ob.1
    | shr d =>
      obtain ⟨v, e1, r⟩ := st.shr i d e
      exact ⟨v, e1, ob.2.1 (.d d) ρ true (by unfold fz; rw [e]) v F H fp [] (by rw [plus_nil]; exact .refl _ _ _) st ⟨r, rfl⟩ List.nodup_nil ⟨.refl ρ, fun _ => ⟨.refl H, rfl⟩⟩⟩
    | mu b o =>
      cases b with
      | true => exact absurd (by unfold fz; rw [e]) ob.1
      | false =>
        have he : fz i ρ = if o.fz = true then .ok (.d o.toD) (ρ.set i (.shr o.toD)) false else .no := by unfold fz; rw [e]
        by_cases hz : o.fz = true
        · rw [if_pos hz] at he
          obtain ⟨v, e1, r⟩ := st.mu i false o e
          obtain ⟨fp1, st1, k1, k2⟩ := st.drop i
          have r' : Rep g (frz F H (fp i)) v o.toD := r.freeze (frz_ext st.sub) hz fun a ha u q => (frz_mem ha).trans q
          have st2 : Stt g (frz F H (fp i)) H σ (ρ.set i .un) fp1 := st1.grown (frz_ext st.sub) (.refl _) (frz_sub st.sub) fun a ha => by
            unfold frz
            rw [if_neg fun z => k2 hi a z ha]
            exact (st1.there ha).2
          obtain ⟨fp3, st3, k3⟩ := st2.put i (s := .shr o.toD) (f := []) (v := v) ⟨r', rfl⟩ List.nodup_nil fun a ha => nomatch ha
          have es : (σ.set i (some v)) = σ := by
            apply List.ext_getElem?
            intro j
            rw [List.getElem?_set]
            split
            · next z =>
              subst z
              split
              · exact e1.symm
              · rw [List.getElem?_eq_none (by omega)]
            · rfl
          rw [es, List.set_set] at st3
          refine ⟨v, e1, ob.2.1 _ _ false he v (frz F H (fp i)) H fp3 [] ?_ st3 ⟨r', rfl⟩ List.nodup_nil ⟨.set (by unfold isBor; rw [e]) _, fun z => nomatch z⟩⟩
          rw [plus_nil]
          exact ⟨frz_ext st.sub, fun a o _ h => h, fun a o h => (frz_new h).imp id fun z => .inl ⟨i, z⟩, fun a h => .inl (k1 a ((k3 a h).elim id fun z => nomatch z))⟩
        · rw [if_neg hz] at he
          exact absurd he ob.1
theorem s_mv {i : Nat} {x : Str} (hN : X.N[i]? = some x) (hv : Vis X.env.scope x) (hd : (x == ("__debug__" : Str)) = false := by decide) (hcd : (x == ("__classdict__" : Str)) = false := by decide) : SE X W (.Name x pos) (mv i) :=
  PE.wk (pe_var hN hv hd hcd) fun σ H Q h => tM_mv h
theorem s_fz {i : Nat} {x : Str} (hN : X.N[i]? = some x) (hv : Vis X.env.scope x) (hd : (x == ("__debug__" : Str)) = false := by decide) (hcd : (x == ("__classdict__" : Str)) = false := by decide) : SE X W (.Name x pos) (fz i) :=
  PE.wk (pe_var hN hv hd hcd) fun σ H Q h => tM_fz h

/-! ### a list at a name is changed -/
end
/-- the object at an own place is changed in place -/
theorem Stt.chg {g : Wd} {F H H' : Hp} {σ : L2.St} {ρ : Ro} {fp : Nat → List Addr} (st : Stt g F H σ ρ fp) {i : Nat} {b : Bool} {o o' : O} (e : ρ[i]? = some (.mu b o)) {v : V} (ev : σ[i]? = some (some v)) {f : List Addr}
    (keep : ∀ a u, a ∉ fp i → H a = some u → H' a = some u) (r : RepO g F H' v o' f) (nd : f.Nodup) (fr : ∀ a ∈ f, a ∈ fp i ∨ H a = none) :
    ∃ fp', Stt g F H' σ (ρ.set i (.mu b o')) fp' ∧ Step F H (Own fp) F H' (Own fp') := by
  have hi : i < ρ.length := (List.getElem?_eq_some_iff.mp e).1
  have nf : ∀ a ∈ f, F a = none := fun a ha => by
    rcases fr a ha with z | z
    · exact st.fre i a z
    · exact fnone st.sub z
  have nj : ∀ j, j ≠ i → ∀ a ∈ f, a ∉ fp j := fun j hj a ha hb => by
    rcases fr a ha with z | z
    · exact hj (st.dis j i a hb z)
    · exact (st.there ⟨j, hb⟩).1 z
  have sub' : Ext F H' := fun a u h => keep a u (fun z => by rw [st.fre i a z] at h; cases h) (st.sub a u h)
  refine ⟨fun k => if k = i then f else fp k, ⟨sub', by simp [st.len], fun j hj => ?_, fun j d hd => ?_, fun j b' o1 ho => ?_, fun j => ?_, fun j k a ha hb => ?_, fun j a ha => ?_⟩, ⟨.refl F, fun a u hs h => keep a u (fun z => hs ⟨i, z⟩) h, fun a o h => .inl h, fun a ⟨j, ha⟩ => ?_⟩⟩
  · try dsimp only
    split
    · next z => subst z; exact absurd (by rw [List.getElem?_set]; simp [hi]) (hj b o')
    · next z => exact st.un j fun b o q => hj b o (by rw [List.getElem?_set, if_neg fun y => z y.symm]; exact q)
  · rcases set_get hd with ⟨rfl, z, _⟩ | ⟨ne, hd⟩
    · cases z
    · exact st.shr j d hd
  · rcases set_get ho with ⟨rfl, z, _⟩ | ⟨ne, ho⟩
    · cases z
      (try dsimp only); rw [if_pos rfl]; exact ⟨v, ev, r⟩
    · (try dsimp only); rw [if_neg fun z => ne z.symm]
      obtain ⟨w, ew, rw'⟩ := st.mu j b' o1 ho
      exact ⟨w, ew, rw'.mono (.refl F) fun a ha u h => keep a u (fun z => ne (st.dis i j a z ha)) h⟩
  · (try dsimp only); split
    · exact nd
    · exact st.nd j
  · try dsimp only at ha hb
    split at ha <;> split at hb
    · next e1 e2 => exact e1.trans e2.symm
    · next e1 e2 => exact absurd hb (nj k e2 a ha)
    · next e1 e2 => exact absurd ha (nj j e1 a hb)
    · exact st.dis j k a ha hb
  · try dsimp only at ha
    split at ha
    · exact nf a ha
    · exact st.fre j a ha
  · try dsimp only at ha
    split at ha
    · exact (fr a ha).imp (fun z => ⟨i, z⟩) id
    · exact .inl ⟨j, ha⟩
theorem Kb.chg {ρ : Ro} {i : Nat} {b : Bool} {o o' : O} (e : ρ[i]? = some (.mu b o)) : Kb ρ (ρ.set i (.mu b o')) := fun k u h => by
  by_cases hk : i = k
  · subst hk
    rw [e] at h; cases h
    exact ⟨o', by rw [List.getElem?_set]; simp [(List.getElem?_eq_some_iff.mp e).1]⟩
  · exact ⟨u, by rw [List.getElem?_set, if_neg hk]; exact h⟩
theorem Step.frz {F H : Hp} {S : Addr → Prop} {fr : List Addr} (s : Ext F H) : Step F H (Plus S fr) (frz F H fr) H S :=
  ⟨frz_ext s, fun a o _ h => h, fun a o h => (frz_new h).imp id fun z => .inl (.inr z), fun a h => .inl (.inl h)⟩
theorem Stt.frzd {g : Wd} {F H : Hp} {σ : L2.St} {ρ : Ro} {fp : Nat → List Addr} {fr : List Addr} (st : Stt g F H σ ρ fp) (h : ∀ a ∈ fr, ¬ Own fp a) : Stt g (frz F H fr) H σ ρ fp :=
  st.grown (frz_ext st.sub) (.refl _) (frz_sub st.sub) fun a ha => by
    unfold Mw.frz
    rw [if_neg fun z => h a z ha]
    exact (st.there ha).2
theorem RepOs.app1 {g : Wd} {F H : Hp} : ∀ {vs : List V} {os : List O} {fp : List Addr} {v : V} {x : D}, RepOs g F H vs os fp → Rep g F v x → RepOs g F H (vs ++ [v]) (os ++ [.d x]) fp
  | _, _, _, v, x, .nil, r => .cons (f := []) (fp := []) (.d r) .nil
  | _, _, _, v, x, .cons h t, r => .cons h (RepOs.app1 t r)
theorem RepOs.set1 {g : Wd} {F H : Hp} : ∀ {vs : List V} {os : List O} {fp : List Addr} {v : V} {x : D} (j : Nat), RepOs g F H vs os fp → Rep g F v x → ∃ fp', RepOs g F H (vs.set j v) (os.set j (.d x)) fp' ∧ List.Sublist fp' fp
  | _, _, _, v, x, j, .nil, r => ⟨[], .nil, List.Sublist.refl _⟩
  | _, _, _, v, x, 0, .cons (f := f) (fp := fp) h t, r => ⟨[] ++ fp, .cons (.d r) t, List.sublist_append_right f fp⟩
  | _, _, _, v, x, j + 1, .cons (f := f) (fp := fp) h t, r => by
    obtain ⟨fp', r', s⟩ := RepOs.set1 j t r
    exact ⟨f ++ fp', .cons h r', (List.Sublist.refl f).append s⟩
def isLst (ρ : Ro) (i : Nat) : Bool := match ρ[i]? with
  | some (.mu _ (.lst _)) => true
  | _ => false
/-- name.append(e): the place, a list, gets one more item -/
def pushAt (ρ : Ro) (i : Nat) (x : D) : Option Ro := match ρ[i]? with
  | some (.mu b (.lst os)) => if lenOk (os.length + 1) = true then some (ρ.set i (.mu b (.lst (os ++ [.d x])))) else none
  | _ => none
def mApp (i : Nat) (m : M) : M := fun ρ => if isLst ρ i = true then (m ρ).bind fun r ρ' _ => match r.st with
  | some x => match pushAt ρ' i x with
    | some ρ2 => .ok (.d .non) ρ2 false
    | none => .no
  | none => .no
  else .no
section
variable {X : Cx} {W : WX} {pos : Pos} {a b c tg : Expr} {es : List Expr} {ma mb mc : M} {ms : List M} {st : Stmt} {sts : List Stmt} {m n : MS} {tc : MB} {t : Tg} {ts : List Tg} {mi : MI} {p : Pos}
theorem s_append {i : Nat} {x : Str} {apos : Pos} (hN : X.N[i]? = some x) (hv : Vis X.env.scope x) (ha : SE X W a ma) (hd : (x == ("__debug__" : Str)) = false := by decide) (hcd : (x == ("__classdict__" : Str)) = false := by decide)
    (hbase : attributeBase (.Name x p) "append" X.env (eval (.Name x p) X.env) = eval (.Name x p) X.env := by rfl)
    (hfew : ((backTo pos (starEach (a :: []) X.env)).all (fun x => !x.1) && (backToKw pos (keywordEach [] X.env)).all (fun x => x.1.isSome)
      && decide ((a :: ([] : List Expr)).length + ([] : List Keyword).length + (if ([] : List Keyword).isEmpty then 0 else 1) < 30)) = true := by rfl)
    (hline : (apos.endLine == pos.line) = true := by rfl) (hs : starEach (a :: []) X.env = (false, eval a X.env) :: starEach [] X.env := by rfl) :
    SE X W (.Call (.Attribute (.Name x p) "append" apos) [a] [] pos) (mApp i ma) :=
  PE.wk (pe_bm PySem.F.plainAttrs_list PySem.F.slot_list_append PySem.F.type_list_append mt_append (pe_var hN hv hd hcd) (pa_cons ha pa_nil hs) hbase hfew hline hs rfl) fun σ H Q h => by
    obtain ⟨F, ρ, fp, st, ob⟩ := h
    have ob : Ob (gOf X) W σ F H (Own fp) (Zq H ρ) (RepR (gOf X)) (if isLst ρ i = true then _ else _) Q := ob
    by_cases hl : isLst ρ i = true
    · rw [if_pos hl] at ob
      obtain ⟨b, os, e⟩ : ∃ b os, ρ[i]? = some (.mu b (.lst os)) := by
        unfold isLst at hl
        split at hl
        · next b os e => exact ⟨b, os, e⟩
        · cases hl
      obtain ⟨v, ev, r⟩ := st.mu i b _ e
      obtain ⟨f0, hf0⟩ : ∃ f, f = fp i := ⟨_, rfl⟩
      rw [← hf0] at r
      refine ⟨v, ev, ?_, ?_⟩
      · cases r with
        | lst h hl r => exact .inl ⟨rfl, _, .inl (.inl h)⟩
      · show tM (gOf X) W ma σ H fun y H2 => rAppend v [y] H2 Q
        refine tR.bind (m := ma) (k := fun r ρ' _ => match r.st with
          | some x => match pushAt ρ' i x with
            | some ρ2 => .ok (.d .non) ρ2 false
            | none => .no
          | none => .no) (RR := RepR (gOf X)) (Q := Q) ⟨F, ρ, fp, st, ob⟩ fun F0 ρ0 fp0 st0 r0 ρ1 q1 e1 y F1 H1 fp1 fr1 s1 st1 r1 n1 z1 ob1 => ?_
        cases ex : r0.st with
        | none => rw [ex] at ob1; exact absurd rfl ob1.1
        | some x =>
          rw [ex] at ob1
          dsimp only at ob1
          unfold pushAt at ob1
          split at ob1
          · next ρ2 e2 =>
            split at e2
            · next b2 os2 e3 =>
              split at e2
              · next hlen =>
                have hlen := lenOk_le hlen
                cases e2
                obtain ⟨v2, ev2, r2⟩ := st1.mu i b2 _ e3
                rw [ev] at ev2; cases ev2
                obtain ⟨f1, hf1⟩ : ∃ f, f = fp1 i := ⟨_, rfl⟩
                have nd1 := st1.nd i
                rw [← hf1] at r2 nd1
                cases r2 with
                | @lst l vs2 _ fe h2 hl2 rs2 =>
                  have hne : ∀ a ∈ fe, a ≠ l := fun a ha z => (List.nodup_cons.mp nd1).1 (z ▸ ha)
                  have hlt : vs2.length < sizeLine := by rw [rs2.length, sizeLine_eq]; omega
                  have st2 := st1.frzd fun a ha => (r1.out a ha).2.1
                  have ry : Rep (gOf X) (frz F1 H1 fr1) y x := r1.st ex (frz_ext st1.sub) fun a ha => frz_mem ha
                  obtain ⟨fp3, st3, sp3⟩ := st2.chg (H' := upd H1 l (.lst (vs2 ++ [y]))) e3 ev (o' := .lst (os2 ++ [.d x])) (f := l :: fe) (fun a u ha hu => by
                    rw [upd_ne fun z => ha (by rw [← hf1, z]; simp)]; exact hu)
                    (.lst upd_same (by rw [List.length_append]; exact hlt) (RepOs.app1 (rs2.mono (frz_ext st1.sub) fun a ha u hu => by rw [upd_ne (hne a ha)]; exact hu) ry)) nd1 fun a ha => .inl (by rw [← hf1]; exact ha)
                  refine ⟨l, vs2, y, rfl, rfl, h2, hlt, ob1.2.1 (.d .non) _ false rfl .non _ _ fp3 [] ?_ st3 ⟨.non, rfl⟩ List.nodup_nil ⟨z1.1.trans (.chg e3), fun z => nomatch z⟩⟩
                  rw [plus_nil]
                  exact (Step.frz st1.sub).trans sp3
              · cases e2
            · cases e2
          · exact absurd rfl ob1.1
    · rw [if_neg hl] at ob; exact absurd rfl ob.1
/-- name[k] = e -/
def putAt (ρ : Ro) (i : Nat) (k : Int) (x : D) : Option Ro := match ρ[i]? with
  | some (.mu b (.lst os)) => match ixN os.length k with
    | some j => some (ρ.set i (.mu b (.lst (os.set j (.d x)))))
    | none => none
  | _ => none
def mPut (i : Nat) (mk me : M) : MS := fun ρ => if isLst ρ i = true then (mArgs [me, mInt mk] ρ).stm fun rs ρ' => match rs with
  | [r, .d (.int k)] => match r.st with
    | some x => match putAt ρ' i k x with
      | some ρ2 => .nx ρ2
      | none => .no
    | none => .no
  | _ => .no
  else .no
theorem Kbs.chg {ρ : Ro} {σ : L2.St} {i : Nat} {b : Bool} {o o' : O} (e : ρ[i]? = some (.mu b o)) : Kbs ρ σ (ρ.set i (.mu b o')) σ := fun k u h => ⟨Kb.chg e k u h, rfl⟩
theorem ss_put {i : Nat} {x : Str} {spos : Pos} (hN : X.N[i]? = some x) (hv : Vis X.env.scope x) (ha : SE X W a ma) (hb : SE X W b mb) (hd : (x == ("__debug__" : Str)) = false := by decide) (hcd : (x == ("__classdict__" : Str)) = false := by decide)
    (hA : ∀ v, assign (.Subscript (.Name x p) b spos) X.env v = (do
      let ov ← holding [v] (eval (.Name x p) X.env)
      let iv ← holding [v, ov] (eval b X.env)
      standAt spos
      holding [v, ov, iv] (setItem ov iv v)
      release [v, ov, iv] []) := by intro _; rfl)
    (hs : swapsWithSole [.Subscript (.Name x p) b spos] a pos.line X.env = pure false := by rfl) (hw : swappedStores [.Subscript (.Name x p) b spos] a X.env = pure none := by rfl) (h1 : (assignEach [.Subscript (.Name x p) b spos] X.env).map (·.2) = [assign (.Subscript (.Name x p) b spos) X.env] := by rfl) :
    SS X W (.Assign [.Subscript (.Name x p) b spos] a pos) (mPut i mb ma) :=
  PS.wk (ps_asg ha (pg_sub (pe_var hN hv hd hcd) hb set_list hA) hs hw h1) fun D σ H h => by
    obtain ⟨F, ρ, fp, st, ob⟩ := h
    have ob : ObS (gOf X) W ρ σ F H (Own fp) (if isLst ρ i = true then _ else _) D := ob
    by_cases hl : isLst ρ i = true
    · rw [if_pos hl] at ob
      obtain ⟨b, os, e⟩ : ∃ b os, ρ[i]? = some (.mu b (.lst os)) := by
        unfold isLst at hl
        split at hl
        · next b os e => exact ⟨b, os, e⟩
        · cases hl
      obtain ⟨v, ev, _⟩ := st.mu i b _ e
      have h2 : tA (gOf X) W [ma, mInt mb] σ H fun vs H2 => ∃ y k, vs = [y, .int k] ∧ rSetL v (.int k) y H2 fun H4 => D.nx σ H4 := by
        refine tS_of (m := mArgs [ma, mInt mb]) (k := fun rs ρ' => match rs with
          | [r, .d (.int k)] => match r.st with
            | some x => match putAt ρ' i k x with
              | some ρ2 => .nx ρ2
              | none => .no
            | none => .no
          | _ => .no) (D := D) ⟨F, ρ, fp, st, ob⟩ fun rs ρ1 vs F1 H1 fp1 fr1 st1 r1 n1 ob1 => ?_
        split at ob1
        · next r k =>
          obtain ⟨y, w, fa, fb, rfl, rfl, ra, rb⟩ := r1.two
          obtain ⟨rb, rfl⟩ := rb
          cases rb
          rw [List.append_nil] at ob1 n1
          refine ⟨y, k, rfl, ?_⟩
          split at ob1
          · next x ex =>
            unfold putAt at ob1
            split at ob1
            · next ρ2 e2 =>
              split at e2
              · next b2 os2 e3 =>
                split at e2
                · next j hj =>
                  cases e2
                  obtain ⟨v2, ev2, r2⟩ := st1.mu i b2 _ e3
                  rw [ev] at ev2; cases ev2
                  obtain ⟨f1, hf1⟩ : ∃ f, f = fp1 i := ⟨_, rfl⟩
                  have nd1 := st1.nd i
                  rw [← hf1] at r2 nd1
                  cases r2 with
                  | @lst l vs2 _ fe h2 hl2 rs2 =>
                    have hne : ∀ a ∈ fe, a ≠ l := fun a ha z => (List.nodup_cons.mp nd1).1 (z ▸ ha)
                    have st2 := st1.frzd fun a ha => (ra.out a ha).2.1
                    have ry : Rep (gOf X) (frz F1 H1 fa) y x := ra.st ex (frz_ext st1.sub) fun a ha => frz_mem ha
                    obtain ⟨fe', re', sb⟩ := RepOs.set1 j (rs2.mono (frz_ext st1.sub) (F' := frz F1 H1 fa) (H' := upd H1 l (.lst (vs2.set j y))) fun a ha u hu => by rw [upd_ne (hne a ha)]; exact hu) ry
                    obtain ⟨fp3, st3, sp3⟩ := st2.chg (H' := upd H1 l (.lst (vs2.set j y))) e3 ev (o' := .lst (os2.set j (.d x))) (f := l :: fe') (fun a u ha hu => by
                      rw [upd_ne fun z => ha (by rw [← hf1, z]; simp)]; exact hu)
                      (.lst upd_same (by rw [List.length_set]; exact hl2) re') (List.nodup_cons.mpr ⟨fun z => (List.nodup_cons.mp nd1).1 (sb.subset z), (List.nodup_cons.mp nd1).2.sublist sb⟩) fun a ha => .inl (by
                        rw [← hf1]
                        rcases List.mem_cons.mp ha with z | z
                        · rw [z]; simp
                        · exact List.mem_cons_of_mem _ (sb.subset z))
                    refine ⟨l, vs2, k, j, rfl, rfl, h2, by rw [rs2.length]; exact hj, ob1.nx _ rfl σ _ _ fp3 ?_ st3 (.chg e3)⟩
                    exact (Step.frz st1.sub).trans sp3
                · cases e2
              · cases e2
            · exact absurd rfl ob1.no
          · exact absurd rfl ob1.no
        · exact absurd rfl ob1.no
      refine (tA_cons h2).imp fun y H1 q => ⟨v, ev, (tM_int (tA_cons q)).imp fun z H2 ⟨k, e1, q⟩ => ?_⟩
      obtain ⟨y', k', e2, q⟩ := tA_nil q
      cases e2
      rw [e1]
      exact q
    · rw [if_neg hl] at ob; exact absurd rfl ob.no
end
end
end Mw

set_option Elab.async false
set_option linter.all false
set_option maxRecDepth 100000
set_option autoImplicit false
namespace Mw
open PySem PySem.Spec PyProof.Rows L2
noncomputable section

/-! ## defs -/
inductive FRes where
  | ok (r : R) (as : List Slo) | ex (x : Exc) (as : List Slo) | no
abbrev Fn := List Slo → FRes
def spF (g : Wd) (n : Nat) (f : Fn) : Sp := fun vs H Q E => vs.length = n ∧ ∃ F as fp, Stt g F H (vs.map some) as fp ∧ f as ≠ .no ∧
  (∀ r as', f as = .ok r as' → ∀ v F' H' fp' fr, Step F H (Own fp) F' H' (Plus (Own fp') fr) → Stt g F' H' (vs.map some) as' fp' → RepR g F' H' (Own fp') v r fr → fr.Nodup → r.isPk = false → Kb as as' → Q v H') ∧
  (∀ x as', f as = .ex x as' → ∀ cls d F' H' fp', Step F H (Own fp) F' H' (Own fp') → Stt g F' H' (vs.map some) as' fp' → RepX g F' cls d x → Kb as as' → E cls d H')
def keep : List Slo → Ro → List Slo
  | [], _ => []
  | .mu true _ :: as, s :: ρ => s :: keep as ρ
  | _ :: as, _ :: ρ => .un :: keep as ρ
  | _ :: as, [] => .un :: keep as []
def mkFn (n : Nat) (b : MS) : Fn := fun as => match b (as ++ List.replicate (n - as.length) .un) with
  | .nx ρ => .ok (.d .non) (keep as ρ)
  | .rt r ρ => if r.isPk = true then .no else .ok r (keep as ρ)
  | .ex x ρ => .ex x (keep as ρ)
  | _ => .no
theorem keep_len : ∀ (as : List Slo) (ρ : Ro), (keep as ρ).length = as.length
  | [], _ => rfl
  | .mu true _ :: as, s :: ρ => by simp [keep, keep_len as ρ]
  | .mu false _ :: as, s :: ρ => by simp [keep, keep_len as ρ]
  | .un :: as, s :: ρ => by simp [keep, keep_len as ρ]
  | .shr _ :: as, s :: ρ => by simp [keep, keep_len as ρ]
  | .mu true _ :: as, [] => by simp [keep, keep_len as []]
  | .mu false _ :: as, [] => by simp [keep, keep_len as []]
  | .un :: as, [] => by simp [keep, keep_len as []]
  | .shr _ :: as, [] => by simp [keep, keep_len as []]
theorem keep_get : ∀ (as : List Slo) (ρ : Ro) (k : Nat), (keep as ρ)[k]? = if isBor as k = true then some (ρ[k]?.getD .un) else if k < as.length then some .un else none
  | [], ρ, k => by simp [keep, isBor]
  | a :: as, [], 0 => by
    cases a with
    | mu b o => cases b <;> simp [keep, isBor]
    | un => simp [keep, isBor]
    | shr d => simp [keep, isBor]
  | a :: as, s :: ρ, 0 => by
    cases a with
    | mu b o => cases b <;> simp [keep, isBor]
    | un => simp [keep, isBor]
    | shr d => simp [keep, isBor]
  | a :: as, [], k + 1 => by
    have ih := keep_get as [] k
    have e : isBor (a :: as) (k + 1) = isBor as k := by unfold isBor; simp
    have e2 : (keep (a :: as) [])[k + 1]? = (keep as [])[k]? := by
      cases a with
      | mu b o => cases b <;> simp [keep]
      | un => simp [keep]
      | shr d => simp [keep]
    rw [e2, ih, e]
    simp
  | a :: as, s :: ρ, k + 1 => by
    have ih := keep_get as ρ k
    have e : isBor (a :: as) (k + 1) = isBor as k := by unfold isBor; simp
    have e2 : (keep (a :: as) (s :: ρ))[k + 1]? = (keep as ρ)[k]? := by
      cases a with
      | mu b o => cases b <;> simp [keep]
      | un => simp [keep]
      | shr d => simp [keep]
    rw [e2, ih, e]
    simp
theorem isBor_iff {ρ : Ro} {k : Nat} : isBor ρ k = true ↔ ∃ o, ρ[k]? = some (.mu true o) := by
  unfold isBor
  constructor
  · intro h
    split at h
    · next o e => exact ⟨o, e⟩
    · cases h
  · rintro ⟨o, e⟩; rw [e]
/-- the parameters behind the body -/
theorem Stt.keeps {g : Wd} {F H : Hp} {σ : L2.St} {ρ : Ro} {as : List Slo} {vs : List V} {fp : Nat → List Addr} (st : Stt g F H σ ρ fp) (hl : vs.length = as.length)
    (h0 : ∀ (k : Nat) (o : O), as[k]? = some (.mu true o) → (∃ o', ρ[k]? = some (.mu true o')) ∧ σ[k]? = (vs.map some)[k]?) :
    ∃ fp', Stt g F H (vs.map some) (keep as ρ) fp' ∧ (∀ a, Own fp' a → Own fp a) ∧ Kb as (keep as ρ) := by
  have kg := fun k => keep_get as ρ k
  have bor : ∀ {k : Nat} {s : Slo}, (keep as ρ)[k]? = some s → s ≠ .un → isBor as k = true ∧ ρ[k]? = some s := by
    intro k s h hs
    rw [kg] at h
    split at h
    · next hb =>
      obtain ⟨o, e⟩ := isBor_iff.mp hb
      obtain ⟨⟨o', e'⟩, _⟩ := h0 k o e
      rw [e'] at h ⊢
      exact ⟨hb, h⟩
    · split at h
      · cases h; exact absurd rfl hs
      · cases h
  refine ⟨fun k => if isBor as k = true then fp k else [], ⟨st.sub, by simp [keep_len, hl], fun k hk => ?_, fun k d hd => ?_, fun k b o ho => ?_, fun k => ?_, fun j k a ha hb => ?_, fun k a ha => ?_⟩, fun a ⟨k, ha⟩ => ?_, fun k o e => ?_⟩
  · (try dsimp only); split
    · next hb =>
      obtain ⟨o, e⟩ := isBor_iff.mp hb
      obtain ⟨⟨o', e'⟩, _⟩ := h0 k o e
      exact absurd (by rw [kg, if_pos hb, e']; rfl) (hk true o')
    · rfl
  · obtain ⟨hb, e⟩ := bor hd (by simp)
    obtain ⟨o, e1⟩ := isBor_iff.mp hb
    obtain ⟨⟨o', e'⟩, _⟩ := h0 k o e1
    rw [e] at e'; cases e'
  · obtain ⟨hb, e⟩ := bor ho (by simp)
    (try dsimp only); rw [if_pos hb]
    obtain ⟨o1, e1⟩ := isBor_iff.mp hb
    obtain ⟨_, e2⟩ := h0 k o1 e1
    rw [← e2]
    exact st.mu k b o e
  · (try dsimp only); split
    · exact st.nd k
    · exact List.nodup_nil
  · (try dsimp only at ha hb)
    split at ha
    · split at hb
      · exact st.dis j k a ha hb
      · cases hb
    · cases ha
  · (try dsimp only at ha)
    split at ha
    · exact st.fre k a ha
    · cases ha
  · (try dsimp only at ha)
    split at ha
    · exact ⟨k, ha⟩
    · cases ha
  · obtain ⟨⟨o', e'⟩, _⟩ := h0 k o e
    exact ⟨o', by rw [kg, if_pos (isBor_iff.mpr ⟨o, e⟩), e']; rfl⟩
theorem Stt.pad {g : Wd} {F H : Hp} {σ : L2.St} {ρ : Ro} {fp : Nat → List Addr} (st : Stt g F H σ ρ fp) (n : Nat) : Stt g F H (σ ++ List.replicate n none) (ρ ++ List.replicate n .un) fp := by
  have key : ∀ {i : Nat} {s : Slo}, (ρ ++ List.replicate n .un)[i]? = some s → s ≠ .un → ρ[i]? = some s := by
    intro i s h hs
    by_cases hi : i < ρ.length
    · rw [List.getElem?_append_left hi] at h; exact h
    · rw [List.getElem?_append_right (by omega), List.getElem?_replicate] at h
      split at h
      · cases h; exact absurd rfl hs
      · cases h
  have ks : ∀ {i : Nat} {w : Option V}, σ[i]? = some w → (σ ++ List.replicate n none)[i]? = some w := by
    intro i w h
    rw [List.getElem?_append_left (List.getElem?_eq_some_iff.mp h).1]; exact h
  refine ⟨st.sub, by simp [st.len], fun i h => st.un i fun b o e => h b o ?_, fun i d h => ?_, fun i b o h => ?_, st.nd, st.dis, st.fre⟩
  · rw [List.getElem?_append_left (List.getElem?_eq_some_iff.mp e).1]; exact e
  · exact (st.shr i d (key h (by simp))).imp fun v h => ⟨ks h.1, h.2⟩
  · exact (st.mu i b o (key h (by simp))).imp fun v h => ⟨ks h.1, h.2⟩
/-- A DEF KEEPS THE PROMISE OF ITS MEANING -/
theorem fn_ok {P : Program} {w : World} {K : PySem.W.Frag} {mg : Str → Option Value} {base : Heap} {x qual : Str} {st : Stmt} {f : Addr} {fd : FuncData} {N ps : List Str} {k : Nat} {b : MS} (F : L2.Fun K x qual st f fd) (S : FnScope N ps (defScope st))
    (hbody : ∀ (cdv : Value) (A : Around) (outer : List Env) (s : Shared) (H : Hp) (E : XK), Room k (A.deeper (envOfC qual (defScope st) s.heap.objs.size f cdv)) →
      SSs (cxOf (L2.CX P w) P w K mg base N qual (defScope st) f cdv A outer s H E) (fun c d _ H => E c d H) (defBody st) b) :
    FnOk P w K mg base (L2.CX P w) (k + 1) f fd ps (spF ⟨K, mg⟩ ps.length (mkFn N.length b)) := by
  have hpn : ps.length ≤ N.length := by have := congrArg List.length S.pre; rw [List.length_take] at this; omega
  refine Fun.okX F S (fun vs H Q E h => h.1) fun cdv A outer s H vs Q E hr h => ?_
  obtain ⟨hlen, F0, as, fp, stt, hno, hok, hex⟩ := h
  have hal : vs.length = as.length := by have := stt.len; simpa using this
  have hst : L2.start N vs = vs.map some ++ List.replicate (N.length - vs.length) none := rfl
  refine ⟨_, hbody cdv A outer s H E hr, F0, as ++ List.replicate (N.length - as.length) .un, fp, ?_, ?_⟩
  · rw [hst, hal]; exact stt.pad _
  · have fin : ∀ (ρ' : Ro) (σ' : L2.St) (F' H' : Hp) (fp' : Nat → List Addr), Stt ⟨K, mg⟩ F' H' σ' ρ' fp' → Kbs (as ++ List.replicate (N.length - as.length) .un) (L2.start N vs) ρ' σ' →
        ∃ fp2, Stt ⟨K, mg⟩ F' H' (vs.map some) (keep as ρ') fp2 ∧ (∀ a, Own fp2 a → Own fp' a) ∧ Kb as (keep as ρ') := by
      intro ρ' σ' F' H' fp' st' kb
      refine st'.keeps hal fun k o e => ?_
      have hk := (List.getElem?_eq_some_iff.mp e).1
      obtain ⟨h1, h2⟩ := kb k o (by rw [List.getElem?_append_left hk]; exact e)
      refine ⟨h1, h2.trans ?_⟩
      rw [hst, List.getElem?_append_left (by rw [List.length_map, hal]; exact hk)]
    unfold mkFn at hno hok hex
    refine ⟨fun e => hno (by rw [e]), fun ρ' e σ' F' H' fp' s' st' k' => ?_, fun ρ' e => absurd (by rw [e]) hno, fun ρ' e => absurd (by rw [e]) hno, fun r ρ' e v σ' F' H' fp' fr s' st' r' n' k' => ?_, fun x ρ' e cls d σ' F' H' fp' s' st' r' k' => ?_⟩
    all_goals rw [e] at hno hok hex
    · obtain ⟨fp2, h1, h2, h3⟩ := fin ρ' σ' F' H' fp' st' k'
      exact hok _ _ rfl .non F' H' fp2 [] (by rw [plus_nil]; exact s'.weak h2) h1 ⟨.non, rfl⟩ List.nodup_nil rfl h3
    · obtain ⟨fp2, h1, h2, h3⟩ := fin ρ' σ' F' H' fp' st' k'
      dsimp only at hno hok
      by_cases hp : r.isPk = true
      · rw [if_pos hp] at hno; exact absurd rfl hno
      · rw [if_neg hp] at hok
        refine hok _ _ rfl v F' H' fp2 fr (s'.weak fun x hx => hx.imp (h2 x) id) h1 ?_ n' (by simpa using hp) h3
        cases r with
        | d x => exact r'
        | own o => exact ⟨r'.1, fun a ha => ⟨(r'.2 a ha).1, fun z => (r'.2 a ha).2 (h2 a z)⟩⟩
        | pk o => exact r'
    · obtain ⟨fp2, h1, h2, h3⟩ := fin ρ' σ' F' H' fp' st' k'
      exact hex _ _ rfl cls d F' H' fp2 (s'.weak h2) h1 r' h3
end
end Mw

set_option Elab.async false
set_option linter.all false
set_option maxRecDepth 100000
set_option autoImplicit false
namespace Mw
open PySem PySem.Spec PyProof.Rows L2
noncomputable section

/-! ## calls of defs -/
theorem Stt.cons {g : Wd} {F H : Hp} {σ : L2.St} {ρ : Ro} {fp : Nat → List Addr} (st : Stt g F H σ ρ fp) {v : V} {s : Slo} {f : List Addr} (h : SlOk g F H v s f) (nd : f.Nodup) (out : ∀ a ∈ f, F a = none ∧ ¬ Own fp a) :
    ∃ fp', Stt g F H (some v :: σ) (s :: ρ) fp' ∧ (∀ a, Own fp' a ↔ Own fp a ∨ a ∈ f) := by
  refine ⟨fun k => match k with | 0 => f | k + 1 => fp k, ⟨st.sub, by simp [st.len], fun k hk => ?_, fun k d hd => ?_, fun k b o ho => ?_, fun k => ?_, fun j k a ha hb => ?_, fun k a ha => ?_⟩, fun a => ⟨fun ⟨k, ha⟩ => ?_, fun ha => ?_⟩⟩
  · cases k with
    | zero =>
      cases s with
      | un => exact h
      | shr d => exact h.2
      | mu b o => exact absurd rfl (hk b o)
    | succ k => exact st.un k fun b o e => hk b o (by simpa using e)
  · cases k with
    | zero => simp at hd; subst hd; exact ⟨v, rfl, h.1⟩
    | succ k => simpa using st.shr k d (by simpa using hd)
  · cases k with
    | zero => simp at ho; subst ho; exact ⟨v, rfl, h⟩
    | succ k => simpa using st.mu k b o (by simpa using ho)
  · cases k with
    | zero => exact nd
    | succ k => exact st.nd k
  · cases j with
    | zero =>
      cases k with
      | zero => rfl
      | succ k => exact absurd ⟨k, hb⟩ (out a ha).2
    | succ j =>
      cases k with
      | zero => exact absurd ⟨j, ha⟩ (out a hb).2
      | succ k => exact congrArg (· + 1) (st.dis j k a ha hb)
  · cases k with
    | zero => exact (out a ha).1
    | succ k => exact st.fre k a ha
  · cases k with
    | zero => exact .inr ha
    | succ k => exact .inl ⟨k, ha⟩
  · rcases ha with ⟨k, ha⟩ | ha
    · exact ⟨k + 1, ha⟩
    · exact ⟨0, ha⟩
theorem Stt.tail {g : Wd} {F H : Hp} {σ : L2.St} {ρ : Ro} {v : V} {s : Slo} {fp : Nat → List Addr} (st : Stt g F H (some v :: σ) (s :: ρ) fp) :
    SlOk g F H v s (fp 0) ∧ Stt g F H σ ρ (fun k => fp (k + 1)) ∧ (∀ a ∈ fp 0, ¬ Own (fun k => fp (k + 1)) a) := by
  refine ⟨?_, ⟨st.sub, by simpa using st.len, fun k hk => st.un (k + 1) fun b o e => hk b o (by simpa using e), fun k d hd => ?_, fun k b o ho => ?_, fun k => st.nd (k + 1), fun j k a ha hb => by simpa using st.dis (j + 1) (k + 1) a ha hb, fun k a ha => st.fre (k + 1) a ha⟩, fun a ha ⟨k, hb⟩ => ?_⟩
  · cases s with
    | un => exact st.un 0 fun b o e => by simp at e
    | shr d =>
      obtain ⟨w, e, r⟩ := st.shr 0 d rfl
      simp at e; subst e
      exact ⟨r, st.un 0 fun b o e => by simp at e⟩
    | mu b o =>
      obtain ⟨w, e, r⟩ := st.mu 0 b o rfl
      simp at e; subst e
      exact r
  · simpa using st.shr (k + 1) d (by simpa using hd)
  · simpa using st.mu (k + 1) b o (by simpa using ho)
  · have := st.dis 0 (k + 1) a ha hb
    omega

inductive Ar where
  | v (m : M) | b (i : Nat)
inductive Av where
  | r (r : R) | b (i : Nat)
def live (ρ : Ro) (i : Nat) : Bool := match ρ[i]? with
  | some (.mu _ _) => true
  | some (.shr _) => true
  | _ => false
def mArgB : List Ar → Ro → Res (List Av)
  | [], ρ => .ok [] ρ true
  | .v m :: as, ρ => (m ρ).bind fun r ρ1 q1 => (mArgB as ρ1).bind fun rs ρ2 q2 => if r.isPk = true then .no else .ok (.r r :: rs) ρ2 (q1 && q2)
  | .b i :: as, ρ => if live ρ i = true then (mArgB as ρ).bind fun rs ρ2 q2 => .ok (.b i :: rs) ρ2 q2 else .no
inductive RepAs (g : Wd) (σ : L2.St) (F H : Hp) (S : Addr → Prop) : List V → List Av → List Addr → Prop
  | nil : RepAs g σ F H S [] [] []
  | r {v : V} {vs : List V} {r : R} {rs : List Av} {f fr : List Addr} (h : RepR g F H S v r f) (hp : r.isPk = false) (t : RepAs g σ F H S vs rs fr) : RepAs g σ F H S (v :: vs) (.r r :: rs) (f ++ fr)
  | b {v : V} {vs : List V} {i : Nat} {rs : List Av} {fr : List Addr} (h : σ[i]? = some (some v)) (t : RepAs g σ F H S vs rs fr) : RepAs g σ F H S (v :: vs) (.b i :: rs) fr
def tB (g : Wd) (W : WX) (as : List Ar) : TA := fun σ H Q => tR g W (fun F H S vs rs fr => RepAs g σ F H S vs rs fr) (mArgB as) σ H Q
theorem RepAs.out {g : Wd} {σ : L2.St} {F H : Hp} {S : Addr → Prop} {vs : List V} {rs : List Av} {fr : List Addr} (h : RepAs g σ F H S vs rs fr) : ∀ a ∈ fr, F a = none ∧ ¬ S a ∧ H a ≠ none := by
  induction h with
  | nil => intro a ha; cases ha
  | r h hp t ih =>
    intro a ha
    rcases List.mem_append.mp ha with ha | ha
    · exact h.out a ha
    · exact ih a ha
  | b h t ih => exact ih
theorem tB_nil {g : Wd} {W : WX} {σ : L2.St} {H : Hp} {Q : List V → Hp → Prop} (h : tB g W [] σ H Q) : Q [] H := by
  obtain ⟨F, ρ, fp, st, ob⟩ := h
  exact ob.2.1 [] ρ true rfl [] F H fp [] (by rw [plus_nil]; exact .refl _ _ _) st .nil List.nodup_nil ⟨.refl ρ, fun _ => ⟨.refl H, rfl⟩⟩
theorem tB_v {g : Wd} {W : WX} {m : M} {as : List Ar} {σ : L2.St} {H : Hp} {Q : List V → Hp → Prop} (h : tB g W (.v m :: as) σ H Q) : tM g W m σ H fun x H1 => tB g W as σ H1 fun xs H2 => Q (x :: xs) H2 := by
  refine tR.bind h fun F ρ fp st r ρ1 q1 e1 v F1 H1 fp1 fr1 s1 st1 r1 n1 z1 ob => ⟨F1, ρ1, fp1, st1, ?_⟩
  refine ⟨fun e => ob.1 (by rw [e]; rfl), fun rs ρ2 q2 e vs F2 H2 fp2 fr2 s2 st2 r2 n2 z2 => ?_, fun x ρ' e cls d F' H' fp' a b c z => ?_⟩
  · rw [e] at ob
    by_cases hp : r.isPk = true
    · exact absurd (if_pos hp) ob.1
    · have hp' : r.isPk = false := by simpa using hp
      have hq : r.isPk = true → Ext H1 H2 := fun hk => absurd hk hp
      have o1' := (r1.keep s2 hq).out
      refine ob.2.1 (.r r :: rs) ρ2 (q1 && q2) (if_neg hp) (v :: vs) F2 H2 fp2 (fr1 ++ fr2) ((s2.frame fr1).weak fun x hx => ?_) st2 (.r (r1.keep (s2.weak fun x hx => .inl hx) hq) hp' r2) ?_ ⟨z1.1.trans z2.1, fun hz => ?_⟩
      · rcases hx with hx | hx
        · exact .inl (.inl hx)
        · rcases List.mem_append.mp hx with hx | hx
          · exact .inr hx
          · exact .inl (.inr hx)
      · exact List.nodup_append.mpr ⟨n1, n2, fun a ha b hb e => (o1' a ha).2.1 (.inr (e ▸ hb))⟩
      · have hz := Bool.and_eq_true_iff.mp hz
        exact ⟨(z1.2 hz.1).1.trans (z2.2 hz.2).1, (z2.2 hz.2).2.trans (z1.2 hz.1).2⟩
  · rw [e] at ob
    exact ob.2.2 x ρ' rfl cls d F' H' fp' ((a.frame fr1).weak fun x hx => .inl hx) b c ⟨z1.1.trans z.1, fun z => nomatch z⟩
theorem tB_b {g : Wd} {W : WX} {i : Nat} {as : List Ar} {σ : L2.St} {H : Hp} {Q : List V → Hp → Prop} (h : tB g W (.b i :: as) σ H Q) : tVar i σ H fun x H1 => tB g W as σ H1 fun xs H2 => Q (x :: xs) H2 := by
  obtain ⟨F, ρ, fp, st, ob⟩ := h
  have ob : Ob g W σ F H (Own fp) (Zq H ρ) _ (if live ρ i = true then (mArgB as ρ).bind fun rs ρ2 q2 => .ok (.b i :: rs) ρ2 q2 else .no) Q := ob
  by_cases hl : live ρ i = true
  · rw [if_pos hl] at ob
    obtain ⟨v, ev⟩ : ∃ v, σ[i]? = some (some v) := by
      unfold live at hl
      split at hl
      · next b o e => exact (st.mu i b o e).imp fun _ h => h.1
      · next d e => exact (st.shr i d e).imp fun _ h => h.1
      · cases hl
    refine ⟨v, ev, F, ρ, fp, st, ?_⟩
    refine ⟨fun e => ob.1 (by rw [e]; rfl), fun rs ρ2 q2 e vs F2 H2 fp2 fr2 s2 st2 r2 n2 z2 => ?_, fun x ρ' e cls d F' H' fp' a b c z => ?_⟩
    · rw [e] at ob
      exact ob.2.1 (.b i :: rs) ρ2 q2 rfl (v :: vs) F2 H2 fp2 fr2 s2 st2 (.b ev r2) n2 z2
    · rw [e] at ob
      exact ob.2.2 x ρ' rfl cls d F' H' fp' a b c z
  · rw [if_neg hl] at ob; exact absurd rfl ob.1
abbrev Loan := Option (Nat × Bool)
def lend : List Av → Ro → Option (List Slo × List Loan × Ro)
  | [], ρ => some ([], [], ρ)
  | .r r :: rs, ρ => match r.st, lend rs ρ with
    | some x, some (as, ls, ρ') => some (.shr x :: as, none :: ls, ρ')
    | _, _ => none
  | .b i :: rs, ρ => match ρ[i]? with
    | some (.shr d) => match lend rs ρ with
      | some (as, ls, ρ') => some (.shr d :: as, none :: ls, ρ')
      | none => none
    | some (.mu b o) => match lend rs (ρ.set i .un) with
      | some (as, ls, ρ') => some (.mu true o :: as, some (i, b) :: ls, ρ')
      | none => none
    | _ => none
def back : List Loan → List Slo → Ro → Ro
  | some (i, b) :: ls, .mu true o :: as, ρ => back ls as (ρ.set i (.mu b o))
  | _ :: ls, _ :: as, ρ => back ls as ρ
  | _, _, ρ => ρ
/-- loans: the places that were lent hold the values -/
inductive Lent (σ : L2.St) : List V → List Slo → List Loan → Prop
  | nil : Lent σ [] [] []
  | no {v : V} {vs : List V} {s : Slo} {as : List Slo} {ls : List Loan} (t : Lent σ vs as ls) : Lent σ (v :: vs) (s :: as) (none :: ls)
  | yes {v : V} {vs : List V} {o : O} {as : List Slo} {ls : List Loan} {i : Nat} {b : Bool} (h : σ[i]? = some (some v)) (t : Lent σ vs as ls) : Lent σ (v :: vs) (.mu true o :: as) (some (i, b) :: ls)
inductive RepAf (g : Wd) (σ : L2.St) (F : Hp) : List V → List Av → Prop
  | nil : RepAf g σ F [] []
  | r {v : V} {vs : List V} {r : R} {rs : List Av} (h : ∀ x, r.st = some x → Rep g F v x) (t : RepAf g σ F vs rs) : RepAf g σ F (v :: vs) (.r r :: rs)
  | b {v : V} {vs : List V} {i : Nat} {rs : List Av} (h : σ[i]? = some (some v)) (t : RepAf g σ F vs rs) : RepAf g σ F (v :: vs) (.b i :: rs)
theorem RepAs.frz {g : Wd} {σ : L2.St} {F H : Hp} {S : Addr → Prop} {vs : List V} {rs : List Av} {fr : List Addr} (h : RepAs g σ F H S vs rs fr) {F' : Hp} (e : Ext F F') (k : ∀ a ∈ fr, F' a = H a) : RepAf g σ F' vs rs := by
  induction h with
  | nil => exact .nil
  | r h hp t ih => exact .r (fun x ex => h.st ex e fun a ha => k a (by simp [ha])) (ih fun a ha => k a (by simp [ha]))
  | b h t ih => exact .b h (ih k)
theorem set_self {σ : L2.St} {i : Nat} {v : V} (e : σ[i]? = some (some v)) : σ.set i (some v) = σ := by
  apply List.ext_getElem?
  intro j
  rw [List.getElem?_set]
  split
  · next z =>
    subst z
    rw [if_pos (List.getElem?_eq_some_iff.mp e).1, e]
  · rfl
def lix (ls : List Loan) : List Nat := ls.filterMap fun l => l.map (·.1)
theorem mem_lix {ls : List Loan} {j : Nat} : j ∈ lix ls ↔ ∃ b, some (j, b) ∈ ls := by
  unfold lix
  rw [List.mem_filterMap]
  constructor
  · rintro ⟨l, h, e⟩
    cases l with
    | none => cases e
    | some p => cases e; exact ⟨p.2, h⟩
  · rintro ⟨b, h⟩; exact ⟨_, h, rfl⟩
theorem lend_ok {g : Wd} {σ : L2.St} {F H : Hp} : ∀ {rs : List Av} {vs : List V} {ρ : Ro} {fp : Nat → List Addr} {as : List Slo} {ls : List Loan} {ρu : Ro}, Stt g F H σ ρ fp → RepAf g σ F vs rs → lend rs ρ = some (as, ls, ρu) →
    ∃ fpc fpu, Stt g F H (vs.map some) as fpc ∧ Stt g F H σ ρu fpu ∧ (∀ a, Own fpu a → Own fp a) ∧ (∀ a, Own fpc a → Own fp a) ∧ (∀ a, Own fpu a → ¬ Own fpc a) ∧ Lent σ vs as ls ∧
      (ls.all Option.isNone = true → ρu = ρ ∧ ∀ a, ¬ Own fpc a) ∧ (∀ (j : Nat) (o : O), ρ[j]? = some (.mu true o) → ρu[j]? = some (.mu true o) ∨ some (j, true) ∈ ls) ∧ (lix ls).Nodup ∧ (∀ (i : Nat) (b : Bool), some (i, b) ∈ ls → ∃ o, ρ[i]? = some (.mu b o))
  | [], _, ρ, fp, _, _, _, st, .nil, e => by
    cases e
    refine ⟨fun _ => [], fp, ⟨st.sub, rfl, fun _ _ => rfl, fun i d h => by simp at h, fun i b o h => by simp at h, fun _ => List.nodup_nil, (fun _ _ _ h => nomatch h), (fun _ _ h => nomatch h)⟩, st, fun _ h => h, (fun a ⟨_, h⟩ => nomatch h), (fun a _ ⟨_, h⟩ => nomatch h), .nil, (fun _ => ⟨rfl, (fun a ⟨_, h⟩ => nomatch h)⟩), (fun j o h => .inl h), List.nodup_nil, (fun i b h => nomatch h)⟩
  | .r r :: rs, _, ρ, fp, _, _, _, st, .r (v := v) (vs := vs) h t, e => by
    unfold lend at e
    split at e
    · next x as ls ρ' e1 e2 =>
      cases e
      obtain ⟨fpc, fpu, c1, c2, c3, c4, c5, c6, c7, c8, c9, c10⟩ := lend_ok st t e2
      obtain ⟨fpc', d1, d2⟩ := c1.cons (s := .shr x) (f := []) ⟨h x e1, rfl⟩ List.nodup_nil fun a ha => nomatch ha
      have d3 : ∀ a, Own fpc' a → Own fpc a := fun a ha => ((d2 a).mp ha).elim id fun z => nomatch z
      exact ⟨fpc', fpu, d1, c2, c3, fun a ha => c4 a (d3 a ha), fun a ha hb => c5 a ha (d3 a hb), .no c6, fun hn => ⟨(c7 (by simpa using hn)).1, fun a ha => (c7 (by simpa using hn)).2 a (d3 a ha)⟩, fun j o h => (c8 j o h).imp id fun z => List.mem_cons_of_mem _ z, c9, fun i b h => c10 i b (by simpa using h)⟩
    · cases e
  | .b i :: rs, _, ρ, fp, _, _, _, st, .b (v := v) (vs := vs) h t, e => by
    unfold lend at e
    split at e
    · next d e1 =>
      split at e
      · next as ls ρ' e2 =>
        cases e
        obtain ⟨fpc, fpu, c1, c2, c3, c4, c5, c6, c7, c8, c9, c10⟩ := lend_ok st t e2
        obtain ⟨w, ew, rw'⟩ := st.shr i d e1
        rw [h] at ew; cases ew
        obtain ⟨fpc', d1, d2⟩ := c1.cons (s := .shr d) (f := []) ⟨rw', rfl⟩ List.nodup_nil fun a ha => nomatch ha
        have d3 : ∀ a, Own fpc' a → Own fpc a := fun a ha => ((d2 a).mp ha).elim id fun z => nomatch z
        exact ⟨fpc', fpu, d1, c2, c3, fun a ha => c4 a (d3 a ha), fun a ha hb => c5 a ha (d3 a hb), .no c6, fun hn => ⟨(c7 (by simpa using hn)).1, fun a ha => (c7 (by simpa using hn)).2 a (d3 a ha)⟩, fun j o h => (c8 j o h).imp id fun z => List.mem_cons_of_mem _ z, c9, fun i b h => c10 i b (by simpa using h)⟩
      · cases e
    · next b o e1 =>
      split at e
      · next as ls ρ' e2 =>
        cases e
        have hi : i < ρ.length := (List.getElem?_eq_some_iff.mp e1).1
        obtain ⟨w, ew, rw'⟩ := st.mu i b o e1
        rw [h] at ew; cases ew
        obtain ⟨fp1, st1, k1, k2⟩ := st.drop i
        obtain ⟨fpc, fpu, c1, c2, c3, c4, c5, c6, c7, c8, c9, c10⟩ := lend_ok st1 t e2
        obtain ⟨fpc', d1, d2⟩ := c1.cons (s := .mu true o) (f := fp i) rw' (st.nd i) fun a ha => ⟨st.fre i a ha, fun z => k2 hi a ha (c4 a z)⟩
        refine ⟨fpc', fpu, d1, c2, fun a ha => k1 a (c3 a ha), fun a ha => ?_, fun a ha hb => ?_, .yes h c6, fun hn => absurd hn (by simp), fun j o' h' => ?_, ?_, fun j b' h' => ?_⟩
        · rcases (d2 a).mp ha with z | z
          · exact k1 a (c4 a z)
          · exact ⟨i, z⟩
        · rcases (d2 a).mp hb with z | z
          · exact c5 a ha z
          · exact k2 hi a z (c3 a ha)
        · by_cases hj : i = j
          · subst hj
            rw [e1] at h'; cases h'
            exact .inr (by simp)
          · exact (c8 j o' (by rw [List.getElem?_set, if_neg hj]; exact h')).imp id fun z => List.mem_cons_of_mem _ z
        · show (i :: lix ls).Nodup
          refine List.nodup_cons.mpr ⟨fun z => ?_, c9⟩
          obtain ⟨b', z⟩ := mem_lix.mp z
          obtain ⟨o', z⟩ := c10 i b' z
          rw [List.getElem?_set] at z
          simp [hi] at z
        · rcases List.mem_cons.mp h' with z | z
          · cases z; exact ⟨o, e1⟩
          · obtain ⟨o', q⟩ := c10 j b' z
            rw [List.getElem?_set] at q
            split at q
            · first
                | cases q; done
                | (split at q <;> cases q)
            · exact ⟨o', q⟩
      · cases e
    · cases e
theorem back_ok {g : Wd} {σ : L2.St} {F H : Hp} : ∀ {vs : List V} {as as' : List Slo} {ls : List Loan} {ρu : Ro} {fpu fpc : Nat → List Addr}, Lent σ vs as ls → Stt g F H σ ρu fpu → Stt g F H (vs.map some) as' fpc → (∀ a, Own fpu a → ¬ Own fpc a) → Kb as as' → (lix ls).Nodup →
    (∃ fp2, Stt g F H σ (back ls as' ρu) fp2 ∧ (∀ a, Own fp2 a → Own fpu a ∨ Own fpc a)) ∧ (∀ (j : Nat), j ∉ lix ls → (back ls as' ρu)[j]? = ρu[j]?) ∧ (∀ (j : Nat), j < ρu.length → some (j, true) ∈ ls → ∃ o, (back ls as' ρu)[j]? = some (.mu true o))
  | _, _, as', _, ρu, fpu, fpc, .nil, st, sc, dj, kb, nd => ⟨⟨fpu, by cases as' <;> exact st, fun a h => .inl h⟩, fun j h => by cases as' <;> rfl, (fun j _ h => nomatch h)⟩
  | _, _, [], _, ρu, fpu, fpc, .no t, st, sc, dj, kb, nd => by have := sc.len; simp at this
  | _, _, [], _, ρu, fpu, fpc, .yes h t, st, sc, dj, kb, nd => by have := sc.len; simp at this
  | _, _, s' :: as', _, ρu, fpu, fpc, .no (as := as) (ls := ls) t, st, sc, dj, kb, nd => by
    obtain ⟨h1, h2, h3⟩ := Stt.tail sc
    have e : back (none :: ls) (s' :: as') ρu = back ls as' ρu := by cases s' <;> rfl
    rw [e]
    have ih := back_ok t st h2 (fun a ha ⟨k, hb⟩ => dj a ha ⟨k + 1, hb⟩) (fun k o q => by simpa using kb (k + 1) o (by simpa using q)) nd
    obtain ⟨⟨fp2, a1, a2⟩, a3, a4⟩ := ih
    exact ⟨⟨fp2, a1, fun a ha => (a2 a ha).imp id fun ⟨k, z⟩ => ⟨k + 1, z⟩⟩, a3, fun j hj hm => a4 j hj (by simpa using hm)⟩
  | _, _, s' :: as', _, ρu, fpu, fpc, .yes (as := as) (ls := ls) (i := i) (b := b) h t, st, sc, dj, kb, nd => by
    obtain ⟨o', eo⟩ := kb 0 _ rfl
    simp at eo
    subst eo
    have nd : (i :: lix ls).Nodup := nd
    obtain ⟨h1, h2, h3⟩ := Stt.tail sc
    obtain ⟨fp1, st1, k1⟩ := st.put (v := _) i (s := .mu b o') (f := fpc 0) h1 (sc.nd 0) fun a ha => ⟨sc.fre 0 a ha, fun z => dj a z ⟨0, ha⟩⟩
    rw [set_self h] at st1
    have dj1 : ∀ a, Own fp1 a → ¬ Own (fun k => fpc (k + 1)) a := fun a ha ⟨k, hb⟩ => by
      rcases k1 a ha with z | z
      · exact dj a z ⟨k + 1, hb⟩
      · exact h3 a z ⟨k, hb⟩
    have ih := back_ok t st1 h2 dj1 (fun k o q => by simpa using kb (k + 1) o (by simpa using q)) (List.nodup_cons.mp nd).2
    obtain ⟨⟨fp2, a1, a2⟩, a3, a4⟩ := ih
    have hi : i < ρu.length := by rw [← st.len]; exact (List.getElem?_eq_some_iff.mp h).1
    refine ⟨⟨fp2, a1, fun a ha => ?_⟩, fun j hj => ?_, fun j hj hm => ?_⟩
    · rcases a2 a ha with z | ⟨k, z⟩
      · rcases k1 a z with z | z
        · exact .inl z
        · exact .inr ⟨0, z⟩
      · exact .inr ⟨k + 1, z⟩
    · have hj : j ∉ i :: lix ls := hj
      have := a3 j fun z => hj (List.mem_cons_of_mem _ z)
      refine this.trans ?_
      rw [List.getElem?_set, if_neg fun z => hj (by simp [z])]
    · rcases List.mem_cons.mp hm with z | z
      · cases z
        exact ⟨o', (a3 i (List.nodup_cons.mp nd).1).trans (by rw [List.getElem?_set]; simp [hi])⟩
      · exact a4 j (by simpa using hj) z

def mCall (f : Fn) (args : List Ar) : M := fun ρ => (mArgB args ρ).bind fun rs ρ1 q => match lend rs ρ1 with
  | none => .no
  | some (as, ls, ρu) => match f as with
    | .ok r as' => .ok r (back ls as' ρu) (q && ls.all Option.isNone)
    | .ex x as' => .ex x (back ls as' ρu)
    | .no => .no
theorem Stt.framed {g : Wd} {F H F' H' : Hp} {σ : L2.St} {ρ : Ro} {fp : Nat → List Addr} {S S' : Addr → Prop} (st : Stt g F H σ ρ fp) (s : Step F H S F' H' S') (sub : Ext F' H') (d : ∀ a, Own fp a → ¬ S a) : Stt g F' H' σ ρ fp :=
  ⟨sub, st.len, st.un, fun i x h => (st.shr i x h).imp fun v h => ⟨h.1, h.2.mono s.ext⟩, fun i b o h => (st.mu i b o h).imp fun v h => ⟨h.1, h.2.mono s.ext fun a ha u e => s.keep a u (d a ⟨i, ha⟩) e⟩, st.nd, st.dis, fun i a ha => by
    cases q : F' a with
    | none => rfl
    | some u =>
      rcases s.new a u q with z | z | z
      · rw [st.fre i a ha] at z; cases z
      · exact absurd z (d a ⟨i, ha⟩)
      · exact absurd z (st.there ⟨i, ha⟩).1⟩
theorem tM_call {g : Wd} {W : WX} {n : Nat} {f : Fn} {args : List Ar} {σ : L2.St} {H : Hp} {Q : VK} (hn : args.length = n) (h : tM g W (mCall f args) σ H Q) : tB g W args σ H fun vs H1 => spF g n f vs H1 Q (WE W σ) := by
  have alen : ∀ (as : List Ar) (ρ : Ro) {rs : List Av} {ρ1 : Ro} {q : Bool}, mArgB as ρ = .ok rs ρ1 q → rs.length = as.length := by
    intro as
    induction as with
    | nil => intro ρ rs ρ1 q e; cases e; rfl
    | cons a as ih =>
      intro ρ rs ρ1 q e
      cases a with
      | v m =>
        unfold mArgB at e
        cases e1 : m ρ with
        | no => rw [e1] at e; cases e
        | ex x ρ' => rw [e1] at e; cases e
        | ok r ρ' q' =>
          rw [e1] at e
          simp only [Res.bind_ok] at e
          cases e2 : mArgB as ρ' with
          | no => rw [e2] at e; cases e
          | ex x ρ'' => rw [e2] at e; cases e
          | ok rs' ρ'' q'' =>
            rw [e2] at e
            simp only [Res.bind_ok] at e
            split at e
            · cases e
            · cases e; simp [ih _ e2]
      | b i =>
        unfold mArgB at e
        split at e
        · cases e2 : mArgB as ρ with
          | no => rw [e2] at e; cases e
          | ex x ρ'' => rw [e2] at e; cases e
          | ok rs' ρ'' q'' => rw [e2] at e; cases e; simp [ih _ e2]
        · cases e
  have vlen : ∀ {F H : Hp} {S : Addr → Prop} {vs : List V} {rs : List Av} {fr : List Addr}, RepAs g σ F H S vs rs fr → vs.length = rs.length := by
    intro F H S vs rs fr h
    induction h with
    | nil => rfl
    | r h hp t ih => simp [ih]
    | b h t ih => simp [ih]
  refine tR.bind h fun F ρ fp st rs ρ1 q1 e1 vs F1 H1 fp1 fr1 s1 st1 r1 n1 z1 ob => ?_
  refine ⟨(vlen r1).trans ((alen _ _ e1).trans hn), ?_⟩
  cases el : lend rs ρ1 with
  | none => rw [el] at ob; exact absurd rfl ob.1
  | some p =>
    obtain ⟨as, ls, ρu⟩ := p
    rw [el] at ob
    dsimp only at ob
    have st2 := st1.frzd fun a ha => (r1.out a ha).2.1
    obtain ⟨fpc, fpu, c1, c2, c3, c4, c5, c6, c7, c8, c9, c10⟩ := lend_ok st2 (r1.frz (frz_ext st1.sub) fun a ha => frz_mem ha) el
    have after : ∀ {as' : List Slo} {F' H' : Hp} {fp' : Nat → List Addr} {fr : List Addr}, Step (frz F1 H1 fr1) H1 (Own fpc) F' H' (Plus (Own fp') fr) → Stt g F' H' (vs.map some) as' fp' → Kb as as' →
        ∃ fp2, Stt g F' H' σ (back ls as' ρu) fp2 ∧ (∀ a, Own fp2 a → Own fpu a ∨ Own fp' a) ∧ Kb ρ1 (back ls as' ρu) ∧ Step F1 H1 (Plus (Own fp1) fr1) F' H' (Plus (Own fp2) fr) := by
      intro as' F' H' fp' fr s' sc' kb
      have su := c2.framed s' sc'.sub c5
      obtain ⟨⟨fp2, a1, a2⟩, a3, a4⟩ := back_ok c6 su sc' (fun a ha hb => by
        rcases s'.fre a (.inl hb) with z | z
        · exact c5 a ha z
        · exact (c2.there ha).1 z) kb c9
      refine ⟨fp2, a1, a2, fun j o h => ?_, ?_⟩
      · have hj : j < ρu.length := by rw [← c2.len, st1.len]; exact (List.getElem?_eq_some_iff.mp h).1
        by_cases hm : j ∈ lix ls
        · obtain ⟨b, hb⟩ := mem_lix.mp hm
          obtain ⟨o', ho'⟩ := c10 j b hb
          rw [h] at ho'; cases ho'
          exact a4 j hj hb
        · rcases c8 j o h with z | z
          · exact ⟨o, (a3 j hm).trans z⟩
          · exact a4 j hj z
      · refine (Step.frz st1.sub).trans ⟨s'.ext, fun a u hs hh => s'.keep a u (fun z => hs (c4 a z)) hh, fun a u hh => (s'.new a u hh).imp id fun z => z.imp (c4 a) id, fun a hh => ?_⟩
        rcases hh with hh | hh
        · rcases a2 a hh with z | z
          · exact .inl (c3 a z)
          · exact (s'.fre a (.inl z)).imp (c4 a) id
        · exact (s'.fre a (.inr hh)).imp (c4 a) id
    refine ⟨frz F1 H1 fr1, as, fpc, c1, fun e => ob.1 (by rw [e]), fun r as' e v F' H' fp' fr s' sc' r' n' hp kb => ?_, fun x as' e cls d F' H' fp' s' sc' r' kb => ?_⟩
    · rw [e] at ob
      obtain ⟨fp2, b1, b2, b3, b4⟩ := after s' sc' kb
      refine ob.2.1 r _ _ rfl v F' H' fp2 fr b4 b1 ?_ n' ⟨z1.1.trans b3, fun hq => ?_⟩
      · cases r with
        | d x => exact r'
        | own o =>
          refine ⟨r'.1, fun a ha => ⟨(r'.2 a ha).1, fun z => ?_⟩⟩
          rcases b2 a z with w | w
          · rcases s'.fre a (.inr ha) with y | y
            · exact c5 a w y
            · exact (c2.there w).1 y
          · exact (r'.2 a ha).2 w
        | pk o => exact r'
      · have hq := Bool.and_eq_true_iff.mp hq
        obtain ⟨h1, h2⟩ := c7 hq.2
        refine ⟨(z1.2 hq.1).1.trans fun a u hh => s'.keep a u (h2 a) hh, ?_⟩
        have hb : ∀ (ls : List Loan) (as' : List Slo) (ρ : Ro), ls.all Option.isNone = true → back ls as' ρ = ρ := by
          intro ls
          induction ls with
          | nil => intro as' ρ _; cases as' <;> rfl
          | cons l ls ih =>
            intro as' ρ hl
            cases l with
            | some p => simp at hl
            | none =>
              cases as' with
              | nil => rfl
              | cons s as' => rw [show back (none :: ls) (s :: as') ρ = back ls as' ρ by cases s <;> rfl]; exact ih as' ρ (by simpa using hl)
        rw [hb ls as' ρu hq.2, h1]
        exact (z1.2 hq.1).2
    · rw [e] at ob
      obtain ⟨fp2, b1, b2, b3, b4⟩ := after (fr := []) (by rw [plus_nil]; exact s') sc' kb
      rw [plus_nil] at b4
      exact ob.2.2 x _ rfl cls d F' H' fp2 b4 b1 r' ⟨z1.1.trans b3, fun z => nomatch z⟩

section
variable {X : Cx} {W : WX} {pos : Pos} {a b c : Expr} {es : List Expr} {ma mb mc : M} {as : List Ar} {x : Str} {p : Pos}
abbrev SB (X : Cx) (W : WX) (es : List Expr) (as : List Ar) : Prop := PA X es (tB (gOf X) W as)
theorem b_nil : SB X W [] [] := PA.wk pa_nil fun σ H Q h => tB_nil h
theorem b_v (ha : SE X W a ma) (hr : SB X W es as) (hs : starEach (a :: es) X.env = (false, eval a X.env) :: starEach es X.env := by rfl) : SB X W (a :: es) (.v ma :: as) := PA.wk (pa_cons ha hr hs) fun σ H Q h => tB_v h
theorem b_b {i : Nat} (hN : X.N[i]? = some x) (hv : Vis X.env.scope x) (hr : SB X W es as) (hs : starEach (.Name x p :: es) X.env = (false, eval (.Name x p) X.env) :: starEach es X.env := by rfl) (hd : (x == ("__debug__" : Str)) = false := by decide) (hcd : (x == ("__classdict__" : Str)) = false := by decide) :
    SB X W (.Name x p :: es) (.b i :: as) := PA.wk (pa_cons (pe_var hN hv hd hcd) hr hs) fun σ H Q h => tB_b h
/-- a def that stands at a name of the module and keeps a meaning's promise -/
structure Kp (P : Program) (w : World) (K : PySem.W.Frag) (mg : Str → Option Value) (base : Heap) (k : Nat) (x : Str) (n : Nat) (f : Fn) : Prop where
  ex : ∃ fa fd ps, FnOk P w K mg base (L2.CX P w) k fa fd ps (spF ⟨K, mg⟩ n f) ∧ Binds K fd ps [] ∧ mg x = some (.ref fa) ∧ PySem.W.keepIn K (.ref fa) = true
theorem Kp.mono {P : Program} {w : World} {K : PySem.W.Frag} {mg : Str → Option Value} {base : Heap} {j k : Nat} {x : Str} {n : Nat} {f : Fn} (h : Kp P w K mg base j x n f) (l : j ≤ k) : Kp P w K mg base k x n f := by
  obtain ⟨fa, fd, ps, h1, h2⟩ := h.ex
  exact ⟨fa, fd, ps, h1.mono l, h2⟩
theorem s_call {k n : Nat} {f : Fn} (G : Kp X.prog X.w X.K X.mg X.base k x n f) (hr : Room k X.A) (hg : Gl X x) (tk : Takes X W) (ha : SB X W (a :: es) as) (hn : as.length = n := by rfl)
    (hdb : (x == ("__debug__" : Str)) = false := by decide) (he : starEach (a :: es) X.env = (false, eval a X.env) :: starEach es X.env := by rfl) (hpl : (backTo pos (starEach es X.env)).any (·.1) = false := by rfl) :
    SE X W (.Call (.Name x p) (a :: es) [] pos) (mCall f as) := by
  obtain ⟨fa, fd, ps, h1, h2, h3, h4⟩ := G.ex
  exact PE.wk (pe_callSD (E := WE W) (dvs := []) (ds := []) h1 hr hg h3 h4 h2 .nil (fun σ => passAt tk σ) ha hdb he hpl) fun σ H Q h => (tM_call hn h).imp fun vs H1 q => by rw [List.append_nil]; exact q
end
end
end Mw

set_option Elab.async false
set_option linter.all false
set_option maxRecDepth 100000
set_option autoImplicit false
namespace Mw
open PySem PySem.Spec PyProof.Rows L2
noncomputable section
/-! ## comparisons as tests -/
def CmpB (X : Cx) (op : CmpOp) (f : R → R → Option R) : Prop := ∃ r, OpR X (compareOp op) r ∧ LOk2 (gOf X) f r
section
variable {X : Cx} {W : WX} {pos : Pos} {a b : Expr} {ma mb : M} {op : CmpOp} {f : R → R → Option R}
theorem st_cmp (h : CmpB X op f) (ha : SE X W a ma) (hb : SE X W b mb) (hm : behindInMarks op b = false) : ST X W (.Compare a [op] [b] pos) (mTest (m2 f ma mb)) := by
  obtain ⟨r, h1, h2⟩ := h
  exact PT.wk (pt_cmpR h1 ha hb hm) fun σ H Q h => tM_m2 h2 (tM_test h)
theorem cb_lt : CmpB X .Lt lLt := ⟨_, op_lt, l_I0 fun i j d e F => by cases e; exact .bl _⟩
theorem cb_le : CmpB X .LtE lLe := ⟨_, op_le, l_I0 fun i j d e F => by cases e; exact .bl _⟩
theorem cb_gt : CmpB X .Gt lGt := ⟨_, op_gt, l_I0 fun i j d e F => by cases e; exact .bl _⟩
theorem cb_ge : CmpB X .GtE lGe := ⟨_, op_ge, l_I0 fun i j d e F => by cases e; exact .bl _⟩
theorem cb_eq (hu : X.A.units + 64 < cLine) : CmpB X .Eq lEq := ⟨_, op_eq.or (op_eqD hu), l_eq⟩
theorem cb_ne (hu : X.A.units + 64 < cLine) : CmpB X .NotEq lNe := ⟨_, op_ne.or (op_neD hu), l_ne⟩
theorem cb_in (hu : X.A.units + 65 < cLine) : CmpB X .In lIn := ⟨_, op_in_sign.or (op_in_seq.or (op_inD hu)), l_inA false⟩
theorem cb_notin (hu : X.A.units + 65 < cLine) : CmpB X .NotIn lNotIn := ⟨_, op_notIn_sign.or (op_notIn_seq.or (op_notInD hu)), l_inA true⟩
theorem cb_isN : CmpB X .Is lIsN := ⟨_, op_isN, by
  intro F H S x y p q f1 f2 Q rx ry l
  obtain ⟨rr, e⟩ := l.has
  have e0 := e
  unfold lIsN at e
  split at e
  · next i e1 e2 =>
    cases e
    refine ⟨ry.non e2, ?_⟩
    rw [rep_non (rx.whole l.sub e1)]
    exact l.val e0 (.bl _)
  · cases e⟩
theorem cb_notN : CmpB X .IsNot lNotN := ⟨_, op_notN, by
  intro F H S x y p q f1 f2 Q rx ry l
  obtain ⟨rr, e⟩ := l.has
  have e0 := e
  unfold lNotN at e
  split at e
  · next i e1 e2 =>
    cases e
    refine ⟨ry.non e2, ?_⟩
    rw [rep_non (rx.whole l.sub e1)]
    exact l.val e0 (.bl _)
  · cases e⟩
end
/-! ## the ends -/
structure Cst (K : PySem.W.Frag) (mg : Str → Option Value) (x : Str) (d : D) : Prop where
  ex : ∃ v u, mg x = some u ∧ RelV v u ∧ ∀ F, Rep ⟨K, mg⟩ F v d
theorem Cst.int {K : PySem.W.Frag} {mg : Str → Option Value} {x : Str} {i : Int} {t : Tok} (h : mg x = some (.int i t)) : Cst K mg x (.int i) := ⟨⟨.int i, _, h, ⟨_, rfl⟩, fun F => .int i⟩⟩
theorem Cst.str {K : PySem.W.Frag} {mg : Str → Option Value} {x : Str} {z : Str} {t : Tok} {s : List Nat} (h : mg x = some (.str z t)) (e : z.cps.toList = s) (hl : s.length ≤ sizeLine) : Cst K mg x (.str s) :=
  ⟨⟨.str z, _, h, ⟨_, rfl⟩, fun F => rep_str e hl⟩⟩
section
variable {X : Cx} {W : WX} {pos : Pos} {x : Str} {d : D}
theorem s_cst (hg : Gl X x) (h : Cst X.K X.mg x d) (hd : (x == ("__debug__" : Str)) = false := by decide) : SE X W (.Name x pos) (mC d) := by
  obtain ⟨v, u, h1, h2, h3⟩ := h.ex
  exact s_glob hg h1 h2 h3 hd
theorem hu65 {A : Around} {k : Nat} (hr : Room k A) : A.units + 65 < cLine := by have := hr.un; omega
end
theorem fn_no {P : Program} {w : World} {K : PySem.W.Frag} {mg : Str → Option Value} {base : Heap} {k : Nat} {f : Addr} {fd : FuncData} {ps : List Str} : FnOk P w K mg base (L2.CX P w) k f fd ps (spF ⟨K, mg⟩ ps.length fun _ => .no) :=
  ⟨fun vs H Q E h => h.1, fun A outer s H args us vs Q E hr e0 hb r h => by
    obtain ⟨_, F, as, fp, st, hno, _⟩ := h
    exact absurd rfl hno⟩
/-- the law's own end -/
def spLaw (K : PySem.W.Frag) : Sp := fun vs H Q E => ∃ (a : Addr) (ns : List Int), vs = [.ref a] ∧ SqL K H a (ns.map V.int) ∧ ns.length ≤ 63 ∧ ∀ H', Q (.bl true) H'
theorem Reps.ints {g : Wd} {F : Hp} : ∀ ns : List Int, Reps g F (ns.map V.int) (ns.map D.int)
  | [] => .nil
  | n :: ns => .cons (.int n) (Reps.ints ns)
theorem fn_law {P : Program} {w : World} {K : PySem.W.Frag} {mg : Str → Option Value} {base : Heap} {k : Nat} {fa : Addr} {fd : FuncData} {p : Str} {f : Fn} (h : FnOk P w K mg base (L2.CX P w) k fa fd [p] (spF ⟨K, mg⟩ 1 f))
    (law : ∀ ns : List Int, ns.length ≤ 63 → ∃ as, f [.shr (.lst (ns.map D.int))] = .ok (.d (.bl true)) as) : FnOk P w K mg base (L2.CX P w) k fa fd [p] (spLaw K) :=
  h.imp (fun vs H Q E ⟨a, ns, e, hs, hl, q⟩ => by
    subst e
    obtain ⟨as', e⟩ := law ns hl
    refine ⟨rfl, fun b => if b = a then H a else none, [.shr (.lst (ns.map D.int))], fun _ => [], ⟨fun b o h => ?_, rfl, fun _ _ => rfl, fun i d h => ?_, fun i b o h => ?_, fun _ => List.nodup_nil, (fun _ _ _ h => nomatch h), (fun _ _ h => nomatch h)⟩, ?_, fun r as2 e2 v F' H' fp' fr s st' rr nd hp kb => ?_, fun x as2 e2 => ?_⟩
    · split at h
      · next z => subst z; exact h
      · cases h
    · cases i with
      | zero =>
        simp at h; subst h
        refine ⟨.ref a, rfl, .lst (vs := ns.map V.int) ?_ (by rw [List.length_map]; exact Nat.le_trans hl (by rw [sizeLine_eq]; decide)) (Reps.ints ns)⟩
        rcases hs with (hs | ⟨o, hs⟩) | hs
        · exact .inl (.inl ((if_pos rfl).trans hs))
        · exact .inl (.inr ⟨o, (if_pos rfl).trans hs⟩)
        · exact .inr hs
      | succ i => simp at h
    · cases i with
      | zero => simp at h
      | succ i => simp at h
    · rw [e]; simp
    · rw [e] at e2; cases e2
      obtain ⟨rr, _⟩ := rr
      cases rr
      exact q H'
    · rw [e] at e2; cases e2)
end
end Mw

set_option Elab.async false
set_option linter.all false
set_option maxRecDepth 100000
set_option autoImplicit false
namespace Mw
open PySem PySem.Spec PyProof.Rows L2
noncomputable section
/-! ### list comprehensions -/
def wipeR (ρ : Ro) : List Nat → Ro
  | [] => ρ
  | v :: vs => (wipeR ρ vs).set v .un
def keepS (ρ : Ro) (v : Nat) : Slo := match ρ[v]? with
  | some (.shr d) => .shr d
  | _ => .un
def unwipe (ρ0 ρ : Ro) : List Nat → Ro
  | [] => ρ
  | v :: vs => (unwipe ρ0 ρ vs).set v (keepS ρ0 v)
def noMu (ρ : Ro) : List Nat → Bool
  | [] => true
  | v :: vs => (match ρ[v]? with | some (.mu _ _) => false | _ => true) && noMu ρ vs
def lcR (t : Tg) (c : MB) (e : M) (vs : List Nat) : List D → Ro → Bool → List D → Option (List D × Ro × Bool)
  | [], ρ, q, ys => some (ys, ρ, q)
  | x :: xs, ρ, q, ys => match asg t x ρ with
    | none => none
    | some ρ1 => match c ρ1 with
      | .ok b ρ2 q1 => if b = true then (match e ρ2 with
          | .ok r ρ3 q2 => (match r.st with
            | some y => lcR t c e vs xs (wipeR ρ3 vs) (q && q1 && q2) (ys ++ [y])
            | none => none)
          | _ => none)
        else lcR t c e vs xs (wipeR ρ2 vs) (q && q1) ys
      | _ => none
def lcGo : Tg → MB → M → List Nat → List D → Ro → Bool → List D → Option (List D × Ro × Bool) := hide lcR
theorem lcGo_nil (t : Tg) (c : MB) (e : M) (vs : List Nat) (ρ : Ro) (q : Bool) (ys : List D) : lcGo t c e vs [] ρ q ys = some (ys, ρ, q) := by unfold lcGo; rw [hide_eq]; rfl
theorem lcGo_cons (t : Tg) (c : MB) (e : M) (vs : List Nat) (x : D) (xs : List D) (ρ : Ro) (q : Bool) (ys : List D) : lcGo t c e vs (x :: xs) ρ q ys = match asg t x ρ with
    | none => none
    | some ρ1 => (match c ρ1 with
      | .ok b ρ2 q1 => if b = true then (match e ρ2 with
          | .ok r ρ3 q2 => (match r.st with
            | some y => lcGo t c e vs xs (wipeR ρ3 vs) (q && q1 && q2) (ys ++ [y])
            | none => none)
          | _ => none)
        else lcGo t c e vs xs (wipeR ρ2 vs) (q && q1) ys
      | _ => none) := by unfold lcGo; rw [hide_eq]; rfl
def mLc (it : MI) (t : Tg) (c : MB) (e : M) (vs : List Nat) : M := fun ρ => (it ρ).bind fun xs ρ1 q1 => if (lenOk xs.length && noMu ρ1 vs) = true then (match lcGo t c e vs xs (wipeR ρ1 vs) true [] with
  | some (ys, ρ2, q) => .ok (.own (.lst (ys.map O.d))) (unwipe ρ1 ρ2 vs) (q1 && q)
  | none => .no) else .no
def mYes : MB := fun ρ => .ok true ρ true

theorem wipeR_len (ρ : Ro) : ∀ vs : List Nat, (wipeR ρ vs).length = ρ.length
  | [] => rfl
  | v :: vs => by unfold wipeR; rw [List.length_set, wipeR_len ρ vs]
theorem wipeR_get (ρ : Ro) (j : Nat) : ∀ vs : List Nat, (wipeR ρ vs)[j]? = if j ∈ vs then (if j < ρ.length then some .un else none) else ρ[j]?
  | [] => by simp [wipeR]
  | v :: vs => by
    unfold wipeR
    rw [List.getElem?_set, wipeR_get ρ j vs, wipeR_len]
    by_cases h : v = j
    · subst h; simp
    · rw [if_neg h]
      by_cases h2 : j ∈ vs
      · rw [if_pos h2, if_pos (List.mem_cons_of_mem _ h2)]
      · rw [if_neg h2, if_neg fun z => (List.mem_cons.mp z).elim (fun z => h z.symm) h2]
theorem unwipe_len (ρ0 ρ : Ro) : ∀ vs : List Nat, (unwipe ρ0 ρ vs).length = ρ.length
  | [] => rfl
  | v :: vs => by unfold unwipe; rw [List.length_set, unwipe_len ρ0 ρ vs]
theorem unwipe_get (ρ0 ρ : Ro) (j : Nat) : ∀ vs : List Nat, (unwipe ρ0 ρ vs)[j]? = if j ∈ vs then (if j < ρ.length then some (keepS ρ0 j) else none) else ρ[j]?
  | [] => by simp [unwipe]
  | v :: vs => by
    unfold unwipe
    rw [List.getElem?_set, unwipe_get ρ0 ρ j vs, unwipe_len]
    by_cases h : v = j
    · subst h; simp
    · rw [if_neg h]
      by_cases h2 : j ∈ vs
      · rw [if_pos h2, if_pos (List.mem_cons_of_mem _ h2)]
      · rw [if_neg h2, if_neg fun z => (List.mem_cons.mp z).elim (fun z => h z.symm) h2]
theorem wipe_get (σ : L2.St) (j : Nat) : ∀ vs : List Nat, (wipe σ vs)[j]? = if j ∈ vs then (if j < σ.length then some none else none) else σ[j]?
  | [] => by simp [wipe]
  | v :: vs => by
    unfold wipe
    rw [List.getElem?_set, wipe_get σ j vs, wipe_length]
    by_cases h : v = j
    · subst h; simp
    · rw [if_neg h]
      by_cases h2 : j ∈ vs
      · rw [if_pos h2, if_pos (List.mem_cons_of_mem _ h2)]
      · rw [if_neg h2, if_neg fun z => (List.mem_cons.mp z).elim (fun z => h z.symm) h2]
theorem noMu_get {ρ : Ro} {j : Nat} : ∀ {vs : List Nat}, noMu ρ vs = true → j ∈ vs → ∀ b o, ρ[j]? ≠ some (.mu b o)
  | v :: vs, h, hj => by
    unfold noMu at h
    have h := Bool.and_eq_true_iff.mp h
    rcases List.mem_cons.mp hj with rfl | hj
    · intro b o e
      rw [e] at h; cases h.1
    · exact noMu_get h.2 hj
mutual
theorem asg_get : ∀ {t : Tg} {x : D} {ρ ρ' : Ro}, asg t x ρ = some ρ' → ρ'.length = ρ.length ∧ ∀ j, j ∉ t.slots → ρ'[j]? = ρ[j]?
  | .nm i, x, ρ, ρ', h => by
    unfold asg at h
    split at h
    · cases h
    · cases h
      exact ⟨by simp, fun j hj => by rw [List.getElem?_set, if_neg fun z => hj (by simp [Tg.slots, z])]⟩
  | .tup ts, .tup xs, ρ, ρ', h => by
    have h : asgs ts xs ρ = some ρ' := by unfold asg at h; exact h
    exact asgs_get h
  | .tup ts, .non, ρ, ρ', h => by simp [asg] at h
  | .tup ts, .bl _, ρ, ρ', h => by simp [asg] at h
  | .tup ts, .int _, ρ, ρ', h => by simp [asg] at h
  | .tup ts, .str _, ρ, ρ', h => by simp [asg] at h
  | .tup ts, .lst _, ρ, ρ', h => by simp [asg] at h
  | .tup ts, .obj _ _ _, ρ, ρ', h => by simp [asg] at h
theorem asgs_get : ∀ {ts : List Tg} {xs : List D} {ρ ρ' : Ro}, asgs ts xs ρ = some ρ' → ρ'.length = ρ.length ∧ ∀ j, j ∉ slotsL ts → ρ'[j]? = ρ[j]?
  | [], [], ρ, ρ', h => by simp [asgs] at h; subst h; exact ⟨rfl, fun _ _ => rfl⟩
  | [], _ :: _, ρ, ρ', h => by simp [asgs] at h
  | _ :: _, [], ρ, ρ', h => by simp [asgs] at h
  | t :: ts, x :: xs, ρ, ρ', h => by
    unfold asgs at h
    split at h
    · next ρ1 e1 =>
      have a := asg_get e1
      have b := asgs_get h
      refine ⟨b.1.trans a.1, fun j hj => ?_⟩
      unfold slotsL at hj
      rw [List.mem_append, not_or] at hj
      exact (b.2 j hj.2).trans (a.2 j hj.1)
    · cases h
end
theorem wipeR_eq {ρ ρ' : Ro} {vs l : List Nat} (hl : ρ'.length = ρ.length) (h : ∀ j, j ∉ l → ρ'[j]? = ρ[j]?) (hs : ∀ j ∈ l, j ∈ vs) : wipeR ρ' vs = wipeR ρ vs := by
  apply List.ext_getElem?
  intro j
  rw [wipeR_get, wipeR_get, hl]
  split
  · rfl
  · next z => exact h j fun y => z (hs j y)
theorem wipeR_idem (ρ : Ro) (vs : List Nat) : wipeR (wipeR ρ vs) vs = wipeR ρ vs := by
  apply List.ext_getElem?
  intro j
  rw [wipeR_get, wipeR_get, wipeR_len]
  split
  · rfl
  · rfl
theorem unwipe_wipeR {ρ : Ro} {vs : List Nat} (h : noMu ρ vs = true) : unwipe ρ (wipeR ρ vs) vs = ρ := by
  apply List.ext_getElem?
  intro j
  rw [unwipe_get, wipeR_get, wipeR_len]
  split
  · next z =>
    split
    · next y =>
      unfold keepS
      cases e : ρ[j]? with
      | none => exact absurd y (by have := List.getElem?_eq_none_iff.mp e; omega)
      | some s =>
        cases s with
        | un => rfl
        | shr d => rfl
        | mu b o => exact absurd e (noMu_get h z b o)
    · next y => exact (List.getElem?_eq_none (by omega)).symm
  · rfl
theorem Stt.wiped {g : Wd} {F H : Hp} {σ : L2.St} {ρ : Ro} {fp : Nat → List Addr} (st : Stt g F H σ ρ fp) (vs : List Nat) : ∃ fp', Stt g F H (wipe σ vs) (wipeR ρ vs) fp' ∧ ∀ a, Own fp' a → Own fp a := by
  refine ⟨fun j => if j ∈ vs then [] else fp j, ⟨st.sub, by rw [wipe_length, wipeR_len, st.len], fun j hj => ?_, fun j d hd => ?_, fun j b o ho => ?_, fun j => ?_, fun j k a ha hb => ?_, fun j a ha => ?_⟩, fun a ⟨j, ha⟩ => ?_⟩
  · try dsimp only
    split
    · rfl
    · next z => exact st.un j fun b o e => hj b o (by rw [wipeR_get, if_neg z]; exact e)
  · rw [wipeR_get] at hd
    split at hd
    · split at hd <;> cases hd
    · next z => rw [wipe_get, if_neg z]; exact st.shr j d hd
  · rw [wipeR_get] at ho
    split at ho
    · split at ho <;> cases ho
    · next z => rw [wipe_get, if_neg z]; (try dsimp only); rw [if_neg z]; exact st.mu j b o ho
  · (try dsimp only); split
    · exact List.nodup_nil
    · exact st.nd j
  · try dsimp only at ha hb
    split at ha
    · cases ha
    · split at hb
      · cases hb
      · exact st.dis j k a ha hb
  · try dsimp only at ha
    split at ha
    · cases ha
    · exact st.fre j a ha
  · try dsimp only at ha
    split at ha
    · cases ha
    · exact ⟨j, ha⟩
theorem Stt.unwiped {g : Wd} {F H F1 H1 : Hp} {σ : L2.St} {ρ ρ1 : Ro} {fp fp1 : Nat → List Addr} {vs : List Nat} (st : Stt g F H (wipe σ vs) ρ fp) (hw : wipeR ρ vs = ρ) (st1 : Stt g F1 H1 σ ρ1 fp1) (ex : Ext F1 F) : Stt g F H σ (unwipe ρ1 ρ vs) fp := by
  have hv : ∀ {j : Nat}, j ∈ vs → ∀ b o, ρ[j]? ≠ some (.mu b o) := fun {j} hj b o e => by
    rw [← hw, wipeR_get, if_pos hj] at e
    split at e <;> cases e
  refine ⟨st.sub, by rw [unwipe_len, ← st.len, wipe_length], fun j hj => ?_, fun j d hd => ?_, fun j b o ho => ?_, st.nd, st.dis, st.fre⟩
  · refine st.un j fun b o e => ?_
    by_cases z : j ∈ vs
    · exact hv z b o e
    · exact hj b o (by rw [unwipe_get, if_neg z]; exact e)
  · rw [unwipe_get] at hd
    split at hd
    · split at hd
      · unfold keepS at hd
        split at hd
        · next d' e =>
          cases hd
          exact (st1.shr j _ e).imp fun v h => ⟨h.1, h.2.mono ex⟩
        · cases hd
      · cases hd
    · next z =>
      obtain ⟨v, e, r⟩ := st.shr j d hd
      rw [wipe_get, if_neg z] at e
      exact ⟨v, e, r⟩
  · rw [unwipe_get] at ho
    split at ho
    · split at ho
      · unfold keepS at ho
        split at ho <;> cases ho
      · cases ho
    · next z =>
      obtain ⟨v, e, r⟩ := st.mu j b o ho
      rw [wipe_get, if_neg z] at e
      exact ⟨v, e, r⟩
theorem Stt.moved {g : Wd} {F H F' H' : Hp} {σ : L2.St} {ρ : Ro} {fp : Nat → List Addr} (s : Stt g F H σ ρ fp) (e : Ext F F') (eh : ∀ a o, Own fp a → H a = some o → H' a = some o) (sub : Ext F' H') (n : ∀ a, Own fp a → F' a = none) : Stt g F' H' σ ρ fp :=
  ⟨sub, s.len, s.un, fun i d h => (s.shr i d h).imp fun v h => ⟨h.1, h.2.mono e⟩, fun i b o h => (s.mu i b o h).imp fun v h => ⟨h.1, h.2.mono e fun a m u => eh a u ⟨i, m⟩⟩, s.nd, s.dis, fun i a h => n a ⟨i, h⟩⟩
abbrev W0 : WX := fun _ _ _ _ => False
/-- where the block stands ahead of a turn -/
structure LcI (g : Wd) (σ : L2.St) (F1 H1 : Hp) (S1 : Addr → Prop) (ρ1 : Ro) (vs : List Nat) (L : Addr) (i : Nat) (q : Bool) (F H : Hp) (ρ : Ro) (fp : Nat → List Addr) (acc : List V) (ys : List D) : Prop where
  st : Stt g F H (wipe σ vs) ρ fp
  wd : wipeR ρ vs = ρ
  hd : H L = some (.lst acc)
  fd : F L = none
  od : ¬ Own fp L
  rp : Reps g F acc ys
  le : ys.length ≤ i
  sp : Step F1 H1 S1 F H (Plus (Own fp) [L])
  kb : Kb (wipeR ρ1 vs) ρ
  qt : q = true → Ext H1 H ∧ ρ = wipeR ρ1 vs
theorem kbs_kb {ρ ρ' : Ro} {σ σ' : L2.St} (h : Kbs ρ σ ρ' σ') : Kb ρ ρ' := fun k o e => (h k o e).1
theorem Kb.wiped {ρ0 ρ : Ro} {vs : List Nat} (h : Kb (wipeR ρ0 vs) ρ) : Kb (wipeR ρ0 vs) (wipeR ρ vs) := fun k o e => by
  obtain ⟨o', e'⟩ := h k o e
  rw [wipeR_get] at e
  split at e
  · split at e <;> cases e
  · next z => exact ⟨o', by rw [wipeR_get, if_neg z]; exact e'⟩
theorem tM_lc {g : Wd} {W : WX} {it : MI} {t : Tg} {c : MB} {e : M} {vs : List Nat} {σ : L2.St} {H : Hp} {Q : VK} (hs : ∀ j ∈ t.slots, j ∈ vs) (h : tM g W (mLc it t c e vs) σ H Q) :
    tLc (tI g W it) (tG g t) (tB' g W0 c) (tM g W0 e) vs σ H Q := by
  refine tR.bind h fun F0 ρ0 fp0 st0 xs ρ1 q1 e1 J F1 H1 fp1 fr1 s1 st1 r1 n1 z1 ob => ?_
  obtain ⟨yl, rfl⟩ := r1
  rw [plus_nil] at ob
  intro L hL
  by_cases hc : (lenOk xs.length && noMu ρ1 vs) = true
  · rw [if_pos hc] at ob
    have hc := Bool.and_eq_true_iff.mp hc
    have hlen := lenOk_le hc.1
    cases er : lcGo t c e vs xs (wipeR ρ1 vs) true [] with
    | none => rw [er] at ob; exact absurd rfl ob.1
    | some rr =>
      obtain ⟨zs, ρz, qz⟩ := rr
      rw [er] at ob
      dsimp only at ob
      have hF1 : F1 L = none := fnone st1.sub hL
      have oL : ∀ {a}, Own fp1 a → a ≠ L := fun {a} ha z => (st1.there ha).1 (z ▸ hL)
      refine ⟨fun i m H' => i ≤ xs.length ∧ m = xs.length - i ∧ ∃ q F ρ fp acc ys, LcI g σ F1 H1 (Own fp1) ρ1 vs L i q F H' ρ fp acc ys ∧ lcGo t c e vs (xs.drop i) ρ q ys = some (zs, ρz, qz), ⟨xs.length, Nat.zero_le _, rfl, ?_⟩, ?_⟩
      · obtain ⟨fp', st', k'⟩ := st1.wiped vs
        have eu : Ext H1 (upd H1 L (.lst [])) := ext_upd hL
        refine ⟨true, F1, wipeR ρ1 vs, fp', [], [], ⟨st'.grown (.refl _) eu (st1.sub.trans eu) fun a ha => (st'.there ha).2, wipeR_idem _ _, upd_same, hF1, fun z => (st'.there z).1 hL, .nil, Nat.zero_le _, ⟨.refl _, fun a o _ h => eu a o h, fun a o h => .inl h, fun a h => ?_⟩, .refl _, fun _ => ⟨eu, rfl⟩⟩, by rw [List.drop_zero]; exact er⟩
        rcases h with h | h
        · exact .inl (k' a h)
        · rw [List.mem_singleton] at h; subst h; exact .inr hL
      · intro i m H2 hW
        obtain ⟨hi, rfl, q, F, ρ, fp, acc, ys, I, eg⟩ := hW
        have Y := yl i F H2 I.sp.ext I.st.sub
        by_cases hl : i < xs.length
        · obtain ⟨d, hd⟩ : ∃ d, xs[i]? = some d := ⟨xs[i], List.getElem?_eq_getElem hl⟩
          have hdr : xs.drop i = d :: xs.drop (i + 1) := by
            rw [List.getElem?_eq_getElem hl] at hd
            cases hd
            exact (List.drop_eq_getElem_cons hl)
          rw [hdr, lcGo_cons] at eg
          obtain ⟨go, yy⟩ := Y.2 d hd
          refine .inr ⟨go, fun H' => i + 1 ≤ xs.length ∧ ∃ q F ρ fp acc ys, LcI g σ F1 H1 (Own fp1) ρ1 vs L (i + 1) q F H' ρ fp acc ys ∧ lcGo t c e vs (xs.drop (i + 1)) ρ q ys = some (zs, ρz, qz), fun H' hN => ⟨xs.length - (i + 1), by omega, hN.1, rfl, hN.2⟩, fun x H3 hy => ?_⟩
          obtain ⟨F3, s3, e3, eh3, n3, r3⟩ := yy x H3 hy
          have fL3 : F3 L = none := by
            cases z : F3 L with
            | none => rfl
            | some u =>
              rcases n3 L u z with z | z
              · rw [I.fd] at z; cases z
              · rw [I.hd] at z; cases z
          have own3 : ∀ a, Own fp a → F3 a = none := fun a ha => by
            cases z : F3 a with
            | none => rfl
            | some u =>
              rcases n3 a u z with z | z
              · rw [(I.st.there ha).2] at z; cases z
              · exact absurd z (I.st.there ha).1
          have st3 := I.st.grown e3 eh3 s3 own3
          have step3 : Step F H2 (Plus (Own fp) [L]) F3 H3 (Plus (Own fp) [L]) := ⟨e3, fun a o _ h => eh3 a o h, fun a o h => (n3 a o h).imp id .inr, fun a h => .inl h⟩
          have sp3 := I.sp.trans step3
          have hd3 := eh3 L _ I.hd
          cases e4 : asg t d ρ with
          | none => rw [e4] at eg; cases eg
          | some ρ4 =>
            rw [e4] at eg
            dsimp only at eg
            refine ⟨F3, ρ, fp, d, ρ4, st3, r3, e4, fun σ4 fp4 st4 o4 k4 n4 => ?_⟩
            have hw : wipe σ4 vs = wipe σ vs := by
              apply List.ext_getElem?
              intro j
              rw [wipe_get, wipe_get]
              have hl4 : σ4.length = σ.length := by rw [n4.1, wipe_length]
              rw [hl4]
              split
              · rfl
              · next z =>
                rw [n4.2 j fun y => z (hs j y), wipe_get, if_neg z]
            refine ⟨hw, F3, ρ4, fp4, st4, ?_⟩
            have ag := asg_get e4
            have k4' : Kb (wipeR ρ1 vs) ρ4 := I.kb.trans (kbs_kb k4)
            have sp4 : Step F1 H1 (Own fp1) F3 H3 (Plus (Own fp4) [L]) := sp3.weak fun a ha => ha.imp (o4 a) id
            have od4 : ¬ Own fp4 L := fun z => I.od (o4 L z)
            have L3 : ∀ {F' H' : Hp} {S' : Addr → Prop}, Step F3 H3 (Own fp4) F' H' S' → H' L = some (.lst acc) ∧ F' L = none ∧ ¬ S' L := fun {F' H' S'} s => by
              refine ⟨s.keep L _ od4 hd3, ?_, fun z => ?_⟩
              · cases z : F' L with
                | none => rfl
                | some u =>
                  rcases s.new L u z with z | z | z
                  · rw [fL3] at z; cases z
                  · exact absurd z od4
                  · rw [hd3] at z; cases z
              · rcases s.fre L z with z | z
                · exact od4 z
                · rw [hd3] at z; cases z
            -- the end of a turn
            have fin : ∀ {q' : Bool} {F' H' : Hp} {ρ' : Ro} {fp' : Nat → List Addr} {acc' : List V} {ys' : List D}, Stt g F' H' σ4 ρ' fp' → H' L = some (.lst acc') → F' L = none → ¬ Own fp' L → Reps g F' acc' ys' → ys'.length ≤ i + 1 →
                Step F1 H1 (Own fp1) F' H' (Plus (Own fp') [L]) → Kb (wipeR ρ1 vs) ρ' → (q' = true → Ext H1 H' ∧ ρ' = ρ4 ∧ q = true) →
                lcGo t c e vs (xs.drop (i + 1)) (wipeR ρ' vs) q' ys' = some (zs, ρz, qz) → i + 1 ≤ xs.length ∧ ∃ q F ρ fp acc ys, LcI g σ F1 H1 (Own fp1) ρ1 vs L (i + 1) q F H' ρ fp acc ys ∧ lcGo t c e vs (xs.drop (i + 1)) ρ q ys = some (zs, ρz, qz) :=
              fun {q' F' H' ρ' fp' acc' ys'} st' hd' fd' od' rp' le' sp' kb' qt' eg' => by
                obtain ⟨fp'', st'', k''⟩ := st'.wiped vs
                rw [hw] at st''
                refine ⟨hl, q', F', wipeR ρ' vs, fp'', acc', ys', ⟨st'', wipeR_idem _ _, hd', fd', fun z => od' (k'' L z), rp', le', sp'.weak fun a ha => ha.imp (k'' a) id, kb'.wiped, fun hq => ?_⟩, eg'⟩
                obtain ⟨a1, a2, a3⟩ := qt' hq
                refine ⟨a1, ?_⟩
                rw [a2, wipeR_eq ag.1 ag.2 hs, (I.qt a3).2, wipeR_idem]
            refine ⟨fun z => ?_, fun b ρ5 qb e5 vb F5 H5 fp5 fr5 s5 st5 r5 n5 z5 => ?_, fun x ρ' z => ?_⟩
            · rw [z] at eg; cases eg
            · obtain ⟨rfl, rfl⟩ := r5
              rw [plus_nil] at s5
              rw [e5] at eg
              dsimp only at eg
              obtain ⟨l5, f5, o5⟩ := L3 s5
              have sp5 : Step F1 H1 (Own fp1) F5 H5 (Plus (Own fp5) [L]) := sp4.trans (s5.frame [L])
              have rp5 : Reps g F5 acc ys := I.rp.mono (e3.trans s5.ext)
              cases vb with
              | false =>
                rw [if_neg (by decide)] at eg ⊢
                refine fin st5 l5 f5 o5 rp5 (by have := I.le; omega) sp5 (k4'.trans z5.1) (fun hq => ?_) eg
                have hq := Bool.and_eq_true_iff.mp hq
                exact ⟨((I.qt hq.1).1.trans eh3).trans (z5.2 hq.2).1, (z5.2 hq.2).2, hq.1⟩
              | true =>
                rw [if_pos rfl] at eg ⊢
                refine ⟨F5, ρ5, fp5, st5, ?_⟩
                refine ⟨fun z => ?_, fun r ρ6 q6 e6 v6 F6 H6 fp6 fr6 s6 st6 r6 n6 z6 => ?_, fun x ρ' z => ?_⟩
                · rw [z] at eg; cases eg
                · rw [e6] at eg
                  dsimp only at eg
                  cases ey : r.st with
                  | none => rw [ey] at eg; cases eg
                  | some y =>
                    rw [ey] at eg
                    dsimp only at eg
                    have l6 : H6 L = some (.lst acc) := s6.keep L _ o5 l5
                    have f6 : F6 L = none := by
                      cases z : F6 L with
                      | none => rfl
                      | some u =>
                        rcases s6.new L u z with z | z | z
                        · rw [f5] at z; cases z
                        · exact absurd z o5
                        · rw [l5] at z; cases z
                    have o6 : ¬ Plus (Own fp6) fr6 L := fun z => by
                      rcases s6.fre L z with z | z
                      · exact o5 z
                      · rw [l5] at z; cases z
                    have out6 := r6.out
                    have lf : L ∉ fr6 := fun z => o6 (.inr z)
                    have fz : frz F6 H6 fr6 L = none := by unfold frz; rw [if_neg lf]; exact f6
                    have rp6 : Reps g (frz F6 H6 fr6) (acc ++ [v6]) (ys ++ [y]) := (rp5.mono (s6.ext.trans (frz_ext st6.sub))).app (.cons (r6.st ey (frz_ext st6.sub) fun a ha => frz_mem ha) .nil)
                    have la : acc.length = ys.length := I.rp.length
                    refine ⟨acc, l6, by rw [la, sizeLine_eq]; have := I.le; omega, ?_⟩
                    have sub' : Ext (frz F6 H6 fr6) (upd H6 L (.lst (acc ++ [v6]))) := fun a o z => by
                      have z' := frz_sub st6.sub a o z
                      exact (upd_ne (show a ≠ L from fun y => by rw [y, fz] at z; cases z)).trans z'
                    have st7 : Stt g (frz F6 H6 fr6) (upd H6 L (.lst (acc ++ [v6]))) σ4 ρ6 fp6 := st6.moved (frz_ext st6.sub) (fun a o m z => (upd_ne (show a ≠ L from fun y => o6 (.inl (y ▸ m)))).trans z) sub' fun a ha => by
                      unfold frz
                      rw [if_neg fun z => (out6 a z).2.1 ha]
                      exact (st6.there ha).2
                    have sp6 : Step F1 H1 (Own fp1) (frz F6 H6 fr6) (upd H6 L (.lst (acc ++ [v6]))) (Plus (Own fp6) [L]) := by
                      have a1 := sp5.trans (s6.frame [L])
                      refine a1.trans ⟨frz_ext st6.sub, fun a o m z => ?_, fun a o z => ?_, fun a m => ?_⟩
                      · exact (upd_ne (show a ≠ L from fun y => m (.inr (by simp [y])))).trans z
                      · exact (frz_new z).imp id fun z => .inl (.inl (.inr z))
                      · rcases m with m | m
                        · exact .inl (.inl (.inl m))
                        · exact .inl (.inr m)
                    refine fin st7 upd_same fz (fun z => o6 (.inl z)) rp6 (by rw [List.length_append]; have := I.le; simp; omega) sp6 ((k4'.trans z5.1).trans z6.1) (fun hq => ?_) eg
                    have hq := Bool.and_eq_true_iff.mp hq
                    have hq1 := Bool.and_eq_true_iff.mp hq.1
                    have ee : Ext H1 H6 := (((I.qt hq1.1).1.trans eh3).trans (z5.2 hq1.2).1).trans (z6.2 hq.2).1
                    exact ⟨fun a o z => (upd_ne (show a ≠ L from fun y => by rw [y, hL] at z; cases z)).trans (ee a o z), (z6.2 hq.2).2.trans (z5.2 hq1.2).2, hq1.1⟩
                · rw [z] at eg; cases eg
            · rw [z] at eg; cases eg
        · have ei : i = xs.length := by omega
          subst ei
          refine .inl ⟨Y.1 rfl, ?_⟩
          rw [List.drop_length, lcGo_nil] at eg
          cases eg
          have la := I.rp.length
          refine ob.2.1 _ _ _ rfl (.ref L) F H2 fp [L] I.sp (I.st.unwiped I.wd st1 I.sp.ext) ⟨.lst I.hd (by rw [la, sizeLine_eq]; have := I.le; omega) (.ofReps I.rp), fun a ha => ?_⟩ (by simp) ⟨fun k o z => ?_, fun hq => ?_⟩
          · rw [List.mem_singleton] at ha; subst ha
            exact ⟨I.fd, I.od⟩
          · obtain ⟨o1, k1⟩ := z1.1 k o z
            have nv : k ∉ vs := fun y => noMu_get hc.2 y _ _ k1
            obtain ⟨o2, k2⟩ := I.kb k o1 (by rw [wipeR_get, if_neg nv]; exact k1)
            exact ⟨o2, by rw [unwipe_get, if_neg nv]; exact k2⟩
          · have hq := Bool.and_eq_true_iff.mp hq
            refine ⟨(z1.2 hq.1).1.trans (I.qt hq.2).1, ?_⟩
            rw [(I.qt hq.2).2, unwipe_wipeR hc.2]
            exact (z1.2 hq.1).2
  · rw [if_neg hc] at ob; exact absurd rfl ob.1
theorem tYes_of {g : Wd} {W : WX} {σ : L2.St} {H : Hp} {Q : Bool → Hp → Prop} (h : tB' g W mYes σ H Q) : tYes σ H Q := by
  obtain ⟨F, ρ, fp, st, ob⟩ := h
  exact ob.2.1 true ρ true rfl true F H fp [] (by rw [plus_nil]; exact .refl _ _ _) st ⟨rfl, rfl⟩ List.nodup_nil ⟨.refl ρ, fun _ => ⟨.refl H, rfl⟩⟩
abbrev SFs (X : Cx) (es : List Expr) (m : MB) : Prop := PTs X es (tB' (gOf X) W0 m)
theorem sf_nil {X : Cx} : SFs X [] mYes := ⟨fun pins s σ H Q I h => pts_nil.run pins s σ H Q I (tYes_of h)⟩
theorem sf_one {X : Cx} {a : Expr} {m : MB} (h : ST X W0 a m) : SFs X [a] m := pts_one h
section
variable {X : Cx} {W : WX} {elt tg iter : Expr} {ifs : List Expr} {scope : Scope} {own : List (Str × Nat)} {pos : Pos} {mi : MI} {t : Tg} {mc : MB} {me : M}
theorem s_lc (hc : X.calm = true) (hN : X.N.Nodup) (ok : BlkOk X.N X.env.scope scope own) (hi : SI X W tg iter mi)
    (hg : ∀ (s : Shared) (H : Hp) (C : Addr) (cl : List (Str × Addr)) (fp : List Addr), SG (X.blk s H scope (compEnvC scope cl C X.env) fp) tg t) (ht : ∀ (s : Shared) (H : Hp) (C : Addr) (cl : List (Str × Addr)) (fp : List Addr), SFs (X.blk s H scope (compEnvC scope cl C X.env) fp) ifs mc)
    (he : ∀ (s : Shared) (H : Hp) (C : Addr) (cl : List (Str × Addr)) (fp : List Addr), SE (X.blk s H scope (compEnvC scope cl C X.env) fp) W0 elt me) (hs : ∀ j ∈ t.slots, j ∈ own.map (·.2) := by decide) (hf : ∀ x, foldedSetIterable iter X.env x = pure x := by intro _; rfl) :
    SE X W (.ListComp elt [⟨tg, iter, ifs, 0⟩] scope pos) (mLc mi t mc me (own.map (·.2))) :=
  PE.wk (pe_lc hc hN hi ok hg ht he hf) fun σ H Q h => tM_lc hs h
theorem ss_setlc {i : Nat} {y : Str} {py spos : Pos} (hc : X.calm = true) (hN : X.N.Nodup) (hy : X.N[i]? = some y) (hyl : X.env.scope.names.lookup y = some .local)
    (hsw : swapsWith (.ListComp elt [⟨tg, iter, ifs, 0⟩] scope pos) (some (.Name y py)) spos.line X.env = pure true) (ok : BlkOk X.N X.env.scope scope own) (hi : SI X W tg iter mi)
    (hg : ∀ (s : Shared) (H : Hp) (C : Addr) (cl : List (Str × Addr)) (fp : List Addr), SG (X.blk s H scope (compEnvC scope cl C X.env) fp) tg t) (ht : ∀ (s : Shared) (H : Hp) (C : Addr) (cl : List (Str × Addr)) (fp : List Addr), SFs (X.blk s H scope (compEnvC scope cl C X.env) fp) ifs mc)
    (he : ∀ (s : Shared) (H : Hp) (C : Addr) (cl : List (Str × Addr)) (fp : List Addr), SE (X.blk s H scope (compEnvC scope cl C X.env) fp) W0 elt me) (hs : ∀ j ∈ t.slots, j ∈ own.map (·.2) := by decide) (hf : ∀ x, foldedSetIterable iter X.env x = pure x := by intro _; rfl) :
    SS X W (.Assign [.Name y py] (.ListComp elt [⟨tg, iter, ifs, 0⟩] scope pos) spos) (mSet i (mLc mi t mc me (own.map (·.2)))) :=
  PS.wk (ps_setLc hc hN hy hyl hsw hi ok hg ht he hf) fun D σ H h => tM_lc hs (tS_set h)
end
end
end Mw

set_option Elab.async false
set_option linter.all false
set_option maxRecDepth 100000
set_option autoImplicit false
namespace Mw
open PySem PySem.Spec PyProof.Rows L2
noncomputable section
/-! ### lists of ints, of bools -/
def dInts : List D → Option (List Int)
  | [] => some []
  | .int i :: ds => (dInts ds).map (i :: ·)
  | _ => none
def dBls : List D → Option (List Bool)
  | [] => some []
  | .bl i :: ds => (dBls ds).map (i :: ·)
  | _ => none
@[simp] theorem dInts_map (ns : List Int) : dInts (ns.map D.int) = some ns := by
  induction ns with
  | nil => rfl
  | cons n ns ih => show (dInts (ns.map D.int)).map (n :: ·) = _; rw [ih]; rfl
@[simp] theorem dBls_map (ns : List Bool) : dBls (ns.map D.bl) = some ns := by
  induction ns with
  | nil => rfl
  | cons n ns ih => show (dBls (ns.map D.bl)).map (n :: ·) = _; rw [ih]; rfl
theorem dInts_eq : ∀ {ds : List D} {ns : List Int}, dInts ds = some ns → ds = ns.map D.int
  | [], ns, h => by cases h; rfl
  | d :: ds, ns, h => by
    cases d with
    | int i =>
      have h : (dInts ds).map (i :: ·) = some ns := h
      cases e : dInts ds with
      | none => rw [e] at h; cases h
      | some ms => rw [e] at h; cases h; rw [dInts_eq e]; rfl
    | _ => cases h
theorem dBls_eq : ∀ {ds : List D} {ns : List Bool}, dBls ds = some ns → ds = ns.map D.bl
  | [], ns, h => by cases h; rfl
  | d :: ds, ns, h => by
    cases d with
    | bl i =>
      have h : (dBls ds).map (i :: ·) = some ns := h
      cases e : dBls ds with
      | none => rw [e] at h; cases h
      | some ms => rw [e] at h; cases h; rw [dBls_eq e]; rfl
    | _ => cases h
theorem Reps.intsV {g : Wd} {F : Hp} : ∀ {ns : List Int} {vs : List V}, Reps g F vs (ns.map D.int) → vs = ns.map V.int
  | [], _, .nil => rfl
  | n :: ns, _, .cons h t => by cases h; rw [Reps.intsV t]; rfl
theorem Reps.blsV {g : Wd} {F : Hp} : ∀ {ns : List Bool} {vs : List V}, Reps g F vs (ns.map D.bl) → vs = ns.map V.bl
  | [], _, .nil => rfl
  | n :: ns, _, .cons h t => by cases h; rw [Reps.blsV t]; rfl
def maxL : List Int → Int
  | [] => 0
  | n :: ns => ns.foldl max n
def minL : List Int → Int
  | [] => 0
  | n :: ns => ns.foldl min n
theorem foldl_max_spec : ∀ (ns : List Int) (n : Int), (ns.foldl max n = n ∨ ns.foldl max n ∈ ns) ∧ n ≤ ns.foldl max n ∧ ∀ y ∈ ns, y ≤ ns.foldl max n
  | [], n => ⟨.inl rfl, Int.le_refl _, fun y h => nomatch h⟩
  | m :: ns, n => by
    rw [List.foldl_cons]
    obtain ⟨h1, h2, h3⟩ := foldl_max_spec ns (max n m)
    refine ⟨?_, by omega, fun y hy => ?_⟩
    · rcases h1 with h | h
      · rw [h]
        by_cases hl : n ≤ m
        · right; rw [Int.max_eq_right hl]; exact List.mem_cons_self
        · left; omega
      · exact .inr (List.mem_cons_of_mem _ h)
    · rcases List.mem_cons.mp hy with rfl | hy
      · omega
      · exact h3 y hy
theorem foldl_min_spec : ∀ (ns : List Int) (n : Int), (ns.foldl min n = n ∨ ns.foldl min n ∈ ns) ∧ ns.foldl min n ≤ n ∧ ∀ y ∈ ns, ns.foldl min n ≤ y
  | [], n => ⟨.inl rfl, Int.le_refl _, fun y h => nomatch h⟩
  | m :: ns, n => by
    rw [List.foldl_cons]
    obtain ⟨h1, h2, h3⟩ := foldl_min_spec ns (min n m)
    refine ⟨?_, by omega, fun y hy => ?_⟩
    · rcases h1 with h | h
      · rw [h]
        by_cases hl : n ≤ m
        · left; omega
        · right; rw [Int.min_eq_right (by omega)]; exact List.mem_cons_self
      · exact .inr (List.mem_cons_of_mem _ h)
    · rcases List.mem_cons.mp hy with rfl | hy
      · omega
      · exact h3 y hy
theorem maxL_mem {ns : List Int} (h : 0 < ns.length) : maxL ns ∈ ns := by
  cases ns with
  | nil => cases h
  | cons n ns =>
    rcases (foldl_max_spec ns n).1 with e | e
    · show ns.foldl max n ∈ _; rw [e]; exact List.mem_cons_self
    · exact List.mem_cons_of_mem _ e
theorem le_maxL {ns : List Int} {y : Int} (h : y ∈ ns) : y ≤ maxL ns := by
  cases ns with
  | nil => cases h
  | cons n ns =>
    obtain ⟨_, h2, h3⟩ := foldl_max_spec ns n
    rcases List.mem_cons.mp h with rfl | h
    · exact h2
    · exact h3 y h
theorem minL_mem {ns : List Int} (h : 0 < ns.length) : minL ns ∈ ns := by
  cases ns with
  | nil => cases h
  | cons n ns =>
    rcases (foldl_min_spec ns n).1 with e | e
    · show ns.foldl min n ∈ _; rw [e]; exact List.mem_cons_self
    · exact List.mem_cons_of_mem _ e
theorem minL_le {ns : List Int} {y : Int} (h : y ∈ ns) : minL ns ≤ y := by
  cases ns with
  | nil => cases h
  | cons n ns =>
    obtain ⟨_, h2, h3⟩ := foldl_min_spec ns n
    rcases List.mem_cons.mp h with rfl | h
    · exact h2
    · exact h3 y h
/-- sorted, of ints -/
def insI (x : Int) : List Int → List Int
  | [] => [x]
  | y :: ys => if x ≤ y then x :: y :: ys else y :: insI x ys
def srtI : List Int → List Int
  | [] => []
  | x :: xs => insI x (srtI xs)
theorem insI_perm (x : Int) : ∀ ys : List Int, (insI x ys).Perm (x :: ys)
  | [] => .refl _
  | y :: ys => by
    unfold insI
    split
    · exact .refl _
    · exact ((insI_perm x ys).cons y).trans (.swap x y ys)
theorem srtI_perm : ∀ xs : List Int, (srtI xs).Perm xs
  | [] => .refl _
  | x :: xs => (insI_perm x _).trans ((srtI_perm xs).cons x)
theorem insI_pw (x : Int) : ∀ {ys : List Int}, ys.Pairwise (· ≤ ·) → (insI x ys).Pairwise (· ≤ ·)
  | [], _ => List.pairwise_singleton _ _
  | y :: ys, h => by
    unfold insI
    split
    · next hxy =>
      refine List.pairwise_cons.mpr ⟨fun z hz => ?_, h⟩
      rcases List.mem_cons.mp hz with rfl | hz
      · exact hxy
      · exact Int.le_trans hxy ((List.pairwise_cons.mp h).1 z hz)
    · next hxy =>
      refine List.pairwise_cons.mpr ⟨fun z hz => ?_, insI_pw x (List.pairwise_cons.mp h).2⟩
      rcases List.mem_cons.mp ((insI_perm x ys).mem_iff.mp hz) with rfl | hz
      · omega
      · exact (List.pairwise_cons.mp h).1 z hz
theorem srtI_pw : ∀ xs : List Int, (srtI xs).Pairwise (· ≤ ·)
  | [] => .nil
  | x :: xs => insI_pw x (srtI_pw xs)
theorem srtI_eq {xs ys : List Int} (h : ys.Perm xs) (s : ys.Pairwise (· ≤ ·)) : ys = srtI xs :=
  (h.trans (srtI_perm xs).symm).eq_of_pairwise (fun a b _ _ h1 h2 => Int.le_antisymm h1 h2) s (srtI_pw xs)

section
variable {X : Cx} {W : WX} {pos : Pos} {a b c : Expr} {es : List Expr} {ma mb mc : M} {ms : List M} {x : Str} {p : Pos}
theorem RepR.intsL {g : Wd} {F H : Hp} {S : Addr → Prop} {v : V} {r : R} {fr : List Addr} (h : RepR g F H S v r fr) (sub : Ext F H) {ds : List D} (e : r.pl = some (.lst ds)) {ns : List Int} (e2 : dInts ds = some ns) : ∃ a, v = .ref a ∧ SqL g.K H a (ns.map V.int) ∧ ns.length ≤ sizeLine := by
  obtain ⟨a, vs, rfl, k, n, r⟩ := h.lst sub e
  rw [dInts_eq e2] at r
  have := r.intsV
  subst this
  exact ⟨a, rfl, k, by simpa using n⟩
theorem RepR.blsL {g : Wd} {F H : Hp} {S : Addr → Prop} {v : V} {r : R} {fr : List Addr} (h : RepR g F H S v r fr) (sub : Ext F H) {ds : List D} (e : r.pl = some (.lst ds)) {ns : List Bool} (e2 : dBls ds = some ns) : ∃ a, v = .ref a ∧ SqL g.K H a (ns.map V.bl) := by
  obtain ⟨a, vs, rfl, k, n, r⟩ := h.lst sub e
  rw [dBls_eq e2] at r
  have := r.blsV
  subst this
  exact ⟨a, rfl, k⟩
/-- a value of a list of ints -/
def lInts (f : List Int → Option R) (p : R) : Option R := match p.pl with
  | some (.lst ds) => match dInts ds with
    | some ns => f ns
    | none => none
  | _ => none
theorem lInts_some {f : List Int → Option R} {p r : R} (h : lInts f p = some r) : ∃ ds ns, p.pl = some (.lst ds) ∧ dInts ds = some ns ∧ f ns = some r := by
  unfold lInts at h
  split at h
  · next ds e =>
    split at h
    · next ns e2 => exact ⟨ds, ns, e, e2, h⟩
    · cases h
  · cases h
def lBls (f : List Bool → Option R) (p : R) : Option R := match p.pl with
  | some (.lst ds) => match dBls ds with
    | some ns => f ns
    | none => none
  | _ => none
theorem lBls_some {f : List Bool → Option R} {p r : R} (h : lBls f p = some r) : ∃ ds ns, p.pl = some (.lst ds) ∧ dBls ds = some ns ∧ f ns = some r := by
  unfold lBls at h
  split at h
  · next ds e =>
    split at h
    · next ns e2 => exact ⟨ds, ns, e, e2, h⟩
    · cases h
  · cases h
abbrev lSum := lInts fun ns => some (.d (.int ns.sum))
abbrev lMax := lInts fun ns => if 0 < ns.length then some (.d (.int (maxL ns))) else none
abbrev lMin := lInts fun ns => if 0 < ns.length then some (.d (.int (minL ns))) else none
abbrev lSrtI := lInts fun ns => some (.own (.lst (((srtI ns).map D.int).map O.d)))
abbrev lAll := lBls fun ns => some (.d (.bl (ns.all id)))
abbrev lAny := lBls fun ns => some (.d (.bl (ns.any id)))
theorem s_sum (hc : X.calm = true) (hg : Gl X "sum") (hm : X.mg "sum" = none) (ha : SE X W a ma) (he : starEach [a] X.env = (false, eval a X.env) :: starEach [] X.env := by rfl) : SE X W (.Call (.Name "sum" p) [a] [] pos) (m1 lSum ma) :=
  s_blt1 (cr_sum hc) (by
    intro F H S x p fr Q rx l
    obtain ⟨rr, e⟩ := l.has
    obtain ⟨ds, ns, h1, h2, h3⟩ := lInts_some e
    cases h3
    obtain ⟨a, rfl, k, _⟩ := rx.intsL l.sub h1 h2
    exact ⟨a, ns, rfl, k, l.val e (.int _)⟩) hg hm (by decide +kernel) ha he
theorem s_max (hc : X.calm = true) (hg : Gl X "max") (hm : X.mg "max" = none) (ha : SE X W a ma) (he : starEach [a] X.env = (false, eval a X.env) :: starEach [] X.env := by rfl) : SE X W (.Call (.Name "max" p) [a] [] pos) (m1 lMax ma) :=
  s_blt1 (cr_max hc) (by
    intro F H S x p fr Q rx l
    obtain ⟨rr, e⟩ := l.has
    obtain ⟨ds, ns, h1, h2, h3⟩ := lInts_some e
    split at h3
    · next hl =>
      cases h3
      obtain ⟨a, rfl, k, _⟩ := rx.intsL l.sub h1 h2
      refine ⟨a, ns, rfl, k, hl, fun m hm hy => ?_⟩
      have : m = maxL ns := Int.le_antisymm (le_maxL hm) (hy _ (maxL_mem hl))
      subst this
      exact l.val e (.int _)
    · cases h3) hg hm (by decide +kernel) ha he
theorem s_min (hc : X.calm = true) (hg : Gl X "min") (hm : X.mg "min" = none) (ha : SE X W a ma) (he : starEach [a] X.env = (false, eval a X.env) :: starEach [] X.env := by rfl) : SE X W (.Call (.Name "min" p) [a] [] pos) (m1 lMin ma) :=
  s_blt1 (cr_min hc) (by
    intro F H S x p fr Q rx l
    obtain ⟨rr, e⟩ := l.has
    obtain ⟨ds, ns, h1, h2, h3⟩ := lInts_some e
    split at h3
    · next hl =>
      cases h3
      obtain ⟨a, rfl, k, _⟩ := rx.intsL l.sub h1 h2
      refine ⟨a, ns, rfl, k, hl, fun m hm hy => ?_⟩
      have : m = minL ns := Int.le_antisymm (hy _ (minL_mem hl)) (minL_le hm)
      subst this
      exact l.val e (.int _)
    · cases h3) hg hm (by decide +kernel) ha he
theorem s_all (hc : X.calm = true) (hg : Gl X "all") (hm : X.mg "all" = none) (ha : SE X W a ma) (he : starEach [a] X.env = (false, eval a X.env) :: starEach [] X.env := by rfl) : SE X W (.Call (.Name "all" p) [a] [] pos) (m1 lAll ma) :=
  s_blt1 (cr_all hc) (by
    intro F H S x p fr Q rx l
    obtain ⟨rr, e⟩ := l.has
    obtain ⟨ds, ns, h1, h2, h3⟩ := lBls_some e
    cases h3
    obtain ⟨a, rfl, k⟩ := rx.blsL l.sub h1 h2
    exact ⟨a, ns, rfl, k, l.val e (.bl _)⟩) hg hm (by decide +kernel) ha he
theorem s_any (hc : X.calm = true) (hg : Gl X "any") (hm : X.mg "any" = none) (ha : SE X W a ma) (he : starEach [a] X.env = (false, eval a X.env) :: starEach [] X.env := by rfl) : SE X W (.Call (.Name "any" p) [a] [] pos) (m1 lAny ma) :=
  s_blt1 (cr_any hc) (by
    intro F H S x p fr Q rx l
    obtain ⟨rr, e⟩ := l.has
    obtain ⟨ds, ns, h1, h2, h3⟩ := lBls_some e
    cases h3
    obtain ⟨a, rfl, k⟩ := rx.blsL l.sub h1 h2
    exact ⟨a, ns, rfl, k, l.val e (.bl _)⟩) hg hm (by decide +kernel) ha he
theorem s_sorted (hg : Gl X "sorted") (hm : X.mg "sorted" = none) (ha : SE X W a ma) (he : starEach [a] X.env = (false, eval a X.env) :: starEach [] X.env := by rfl) : SE X W (.Call (.Name "sorted" p) [a] [] pos) (m1 lSrtI ma) :=
  s_blt1 cr_sortedI (by
    intro F H S x p fr Q rx l
    obtain ⟨rr, e⟩ := l.has
    obtain ⟨ds, ns, h1, h2, h3⟩ := lInts_some e
    cases h3
    obtain ⟨a, rfl, k, hl⟩ := rx.intsL l.sub h1 h2
    refine ⟨a, ns, rfl, k, fun ns' q hp hs hq => ?_⟩
    cases srtI_eq hp hs
    exact l.lst e (Reps.ints _) (by rw [List.length_map, (srtI_perm ns).length_eq]; exact hl) hq) hg hm (by decide +kernel) ha he
def lList (p : R) : Option R := match p.pl with
  | some (.lst ds) => some (.own (.lst (ds.map O.d)))
  | some (.tup ds) => some (.own (.lst (ds.map O.d)))
  | _ => none
theorem s_list (hg : Gl X "list") (hm : X.mg "list" = none) (ha : SE X W a ma) (he : starEach [a] X.env = (false, eval a X.env) :: starEach [] X.env := by rfl) : SE X W (.Call (.Name "list" p) [a] [] pos) (m1 lList ma) :=
  s_ty1 call_list_of (by
    intro F H S x p fr Q rx l
    obtain ⟨rr, e⟩ := l.has
    have e0 := e
    unfold lList at e
    split at e
    · next ds h1 =>
      cases e
      obtain ⟨a, vs, rfl, k, n, r⟩ := rx.lst l.sub h1
      exact ⟨a, vs, rfl, .inl k, fun q hq => l.lst e0 r n hq⟩
    · next ds h1 =>
      cases e
      obtain ⟨a, vs, rfl, k, n, r⟩ := rx.tup h1
      exact ⟨a, vs, rfl, .inr (l.sub.sqT k), fun q hq => l.lst e0 r n hq⟩
    · cases e) hg hm (by decide +kernel) ha he
def lTuple (p : R) : Option R := match p.pl with
  | some (.lst ds) => some (.d (.tup ds))
  | some (.tup ds) => some (.d (.tup ds))
  | _ => none
theorem s_tuple (hg : Gl X "tuple") (hm : X.mg "tuple" = none) (ha : SE X W a ma) (he : starEach [a] X.env = (false, eval a X.env) :: starEach [] X.env := by rfl) : SE X W (.Call (.Name "tuple" p) [a] [] pos) (m1 lTuple ma) :=
  s_ty1 call_tuple_of (by
    intro F H S x p fr Q rx l
    obtain ⟨rr, e⟩ := l.has
    have e0 := e
    unfold lTuple at e
    split at e
    · next ds h1 =>
      cases e
      obtain ⟨a, vs, rfl, k, n, r⟩ := rx.lst l.sub h1
      exact ⟨a, vs, rfl, .inl ⟨k, fun q hq => l.tup e0 r n hq⟩⟩
    · next ds h1 =>
      cases e
      obtain ⟨a, vs, rfl, k, n, r⟩ := rx.tup h1
      exact ⟨a, vs, rfl, .inr ⟨l.sub.sqT k, l.val e0 (.tup k n r)⟩⟩
    · cases e) hg hm (by decide +kernel) ha he
def lRev (p : R) : Option R := match p.pl with
  | some (.lst ds) => some (.own (.lst (ds.reverse.map O.d)))
  | _ => none
theorem Reps.rev {g : Wd} {F : Hp} : ∀ {vs : List V} {ds : List D}, Reps g F vs ds → Reps g F vs.reverse ds.reverse
  | _, _, .nil => .nil
  | _, _, .cons h t => by rw [List.reverse_cons, List.reverse_cons]; exact (Reps.rev t).app (.cons h .nil)
theorem s_rev {k : Nat} {p1 p2 p3 : Pos} (ha : SE X W a ma) : SE X W (.Subscript a (.Slice none none (some (.UnaryOp .USub (.Constant (.int 1) k p1) p2)) p3) pos) (m1 lRev ma) :=
  PE.wk (pe_revL ha) fun σ H Q h => tM_m1 (r := fun x H Q => ∃ a xs, x = .ref a ∧ SqL X.K H a xs ∧ ∀ p, H p = none → Q (.ref p) (upd H p (.lst xs.reverse))) (by
    intro F H S x p fr Q rx l
    obtain ⟨rr, e⟩ := l.has
    have e0 := e
    unfold lRev at e
    split at e
    · next ds h1 =>
      cases e
      obtain ⟨a, vs, rfl, k, n, r⟩ := rx.lst l.sub h1
      exact ⟨a, vs, rfl, k, fun q hq => l.lst e0 r.rev (by rw [List.length_reverse]; exact n) hq⟩
    · cases e) h
end
theorem tk0 {X : Cx} : Takes X W0 := fun _ _ ⟨_, _, _, _, _, _, _, _, _, _, _, _, _, _, _, _, w⟩ => w.elim
end
end Mw

set_option Elab.async false
set_option linter.all false
set_option maxRecDepth 100000
set_option autoImplicit false
namespace Mw
open PySem PySem.Spec PyProof.Rows L2
noncomputable section

/-! ## running meanings: first what stands first -/
def Slo.bor : Slo → Bool
  | .mu true _ => true
  | _ => false
@[simp] theorem bor_un : Slo.bor .un = false := rfl
@[simp] theorem bor_shr (d : D) : Slo.bor (.shr d) = false := rfl
@[simp] theorem bor_mu (b : Bool) (o : O) : Slo.bor (.mu b o) = b := by cases b <;> rfl
@[simp] theorem isBor_nil (n : Nat) : isBor [] n = false := rfl
@[simp] theorem isBor_0 (s : Slo) (ρ : Ro) : isBor (s :: ρ) 0 = s.bor := by
  cases s with
  | mu b o => cases b <;> rfl
  | _ => rfl
@[simp] theorem isBor_s (s : Slo) (ρ : Ro) (n : Nat) : isBor (s :: ρ) (n + 1) = isBor ρ n := rfl
@[simp] theorem isLst_0 (b : Bool) (os : List O) (ρ : Ro) : isLst (.mu b (.lst os) :: ρ) 0 = true := rfl
@[simp] theorem isLst_s (s : Slo) (ρ : Ro) (n : Nat) : isLst (s :: ρ) (n + 1) = isLst ρ n := rfl
@[simp] theorem live_mu (b : Bool) (o : O) (ρ : Ro) : live (.mu b o :: ρ) 0 = true := rfl
@[simp] theorem live_shr (d : D) (ρ : Ro) : live (.shr d :: ρ) 0 = true := rfl
@[simp] theorem live_s (s : Slo) (ρ : Ro) (n : Nat) : live (s :: ρ) (n + 1) = live ρ n := rfl
theorem pushAt_0 (b : Bool) (os : List O) (ρ : Ro) (x : D) : pushAt (.mu b (.lst os) :: ρ) 0 x = if lenOk (os.length + 1) = true then some (.mu b (.lst (os ++ [.d x])) :: ρ) else none := rfl
theorem pushAt_s (s : Slo) (ρ : Ro) (n : Nat) (x : D) : pushAt (s :: ρ) (n + 1) x = (pushAt ρ n x).map (s :: ·) := by
  unfold pushAt
  simp only [List.getElem?_cons_succ, List.set_cons_succ]
  cases ρ[n]? with
  | none => rfl
  | some t =>
    cases t with
    | mu b o =>
      cases o with
      | lst os => dsimp only; split <;> rfl
      | _ => rfl
    | _ => rfl
theorem putAt_0 (b : Bool) (os : List O) (ρ : Ro) (k : Int) (x : D) : putAt (.mu b (.lst os) :: ρ) 0 k x = (L2.ixN os.length k).map fun j => .mu b (.lst (os.set j (.d x))) :: ρ := by
  unfold putAt
  simp only [List.getElem?_cons_zero]
  cases L2.ixN os.length k <;> rfl
theorem putAt_s (s : Slo) (ρ : Ro) (n : Nat) (k : Int) (x : D) : putAt (s :: ρ) (n + 1) k x = (putAt ρ n k x).map (s :: ·) := by
  unfold putAt
  simp only [List.getElem?_cons_succ, List.set_cons_succ]
  cases ρ[n]? with
  | none => rfl
  | some t =>
    cases t with
    | mu b o =>
      cases o with
      | lst os => dsimp only; split <;> rfl
      | _ => rfl
    | _ => rfl
/-! ## running meanings -/
section
variable (s₀ : Slo) (ρ₀ : Ro) (a b c : M) (ms : List M)
@[simp] theorem ev_C (d : D) : mC d (s₀ :: ρ₀) = .ok (.d d) (s₀ :: ρ₀) true := rfl
theorem ev_nm (i : Nat) : nm i (s₀ :: ρ₀) = match (s₀ :: ρ₀)[i]? with
  | some (.shr d) => .ok (.d d) (s₀ :: ρ₀) true
  | some (.mu _ o) => .ok (.pk o) (s₀ :: ρ₀) true
  | _ => .no := rfl
theorem ev_fz (i : Nat) : fz i (s₀ :: ρ₀) = match (s₀ :: ρ₀)[i]? with
  | some (.shr d) => .ok (.d d) (s₀ :: ρ₀) true
  | some (.mu false o) => if o.fz = true then .ok (.d o.toD) ((s₀ :: ρ₀).set i (.shr o.toD)) false else .no
  | _ => .no := rfl
theorem ev_mv (i : Nat) : mv i (s₀ :: ρ₀) = match (s₀ :: ρ₀)[i]? with
  | some (.shr d) => .ok (.d d) (s₀ :: ρ₀) true
  | some (.mu false o) => .ok (.own o) ((s₀ :: ρ₀).set i .un) false
  | _ => .no := rfl
def pkq (r : R) (q : Bool) : Bool := r.isPk && !q
@[simp] theorem pkq_d (d : D) (q : Bool) : pkq (.d d) q = false := rfl
@[simp] theorem pkq_own (o : O) (q : Bool) : pkq (.own o) q = false := rfl
@[simp] theorem pkq_t (r : R) : pkq r true = false := by simp [pkq]
@[simp] theorem pkq_pk (o : O) (q : Bool) : pkq (.pk o) q = !q := by simp [pkq]
theorem ev_m2 (f : R → R → Option R) : m2 f a b (s₀ :: ρ₀) = (a (s₀ :: ρ₀)).bind fun x ρ1 q1 => (b ρ1).bind fun y ρ2 q2 => if pkq x q2 = true then .no else match f x y with
    | some r => .ok r ρ2 (q1 && q2)
    | none => .no := by
  unfold m2 mOps mArgs mArgs mArgs pkq
  cases a (s₀ :: ρ₀) with
  | no => rfl
  | ex x ρ1 => rfl
  | ok x ρ1 q1 =>
    simp only [Res.bind_ok]
    cases b ρ1 with
    | no => rfl
    | ex x ρ1 => rfl
    | ok y ρ2 q2 =>
      simp only [Res.bind_ok, Bool.not_true, Bool.and_false, Bool.false_eq_true, if_false, Bool.and_true]
      split
      · rfl
      · rfl
theorem ev_m1 (f : R → Option R) : m1 f a (s₀ :: ρ₀) = (a (s₀ :: ρ₀)).bind fun x ρ1 q1 => match f x with
    | some r => .ok r ρ1 q1
    | none => .no := by
  unfold m1 mOps mArgs mArgs
  cases a (s₀ :: ρ₀) with
  | no => rfl
  | ex x ρ1 => rfl
  | ok x ρ1 q1 => (simp only [Res.bind_ok, Bool.not_true, Bool.and_false, Bool.false_eq_true, if_false, Bool.and_true]) <;> rfl
theorem ev_mInt : mInt a (s₀ :: ρ₀) = (a (s₀ :: ρ₀)).bind fun r ρ' q => match r with
  | .d (.int i) => .ok (.d (.int i)) ρ' q
  | _ => .no := rfl
theorem ev_mTest : mTest a (s₀ :: ρ₀) = (a (s₀ :: ρ₀)).bind fun r ρ' q => match r with
  | .d (.bl b) => .ok b ρ' q
  | _ => .no := rfl
theorem ev_mAnd (a b : MB) : mAnd a b (s₀ :: ρ₀) = (a (s₀ :: ρ₀)).bind fun x ρ1 q1 => if x = true then (b ρ1).bind fun y ρ2 q2 => .ok y ρ2 (q1 && q2) else .ok false ρ1 q1 := rfl
theorem ev_mOr (a b : MB) : mOr a b (s₀ :: ρ₀) = (a (s₀ :: ρ₀)).bind fun x ρ1 q1 => if x = true then .ok true ρ1 q1 else (b ρ1).bind fun y ρ2 q2 => .ok y ρ2 (q1 && q2) := rfl
theorem ev_mNot (a : MB) : mNot a (s₀ :: ρ₀) = (a (s₀ :: ρ₀)).bind fun x ρ1 q1 => .ok (!x) ρ1 q1 := rfl
theorem ev_mAndV : mAndV a b (s₀ :: ρ₀) = (a (s₀ :: ρ₀)).bind fun x ρ1 q1 => match x with
  | .d (.bl true) => (b ρ1).bind fun y ρ2 q2 => .ok y ρ2 (q1 && q2)
  | .d (.bl false) => .ok (.d (.bl false)) ρ1 q1
  | _ => .no := rfl
theorem ev_mOrV : mOrV a b (s₀ :: ρ₀) = (a (s₀ :: ρ₀)).bind fun x ρ1 q1 => match x with
  | .d (.bl false) => (b ρ1).bind fun y ρ2 q2 => .ok y ρ2 (q1 && q2)
  | .d (.bl true) => .ok (.d (.bl true)) ρ1 q1
  | _ => .no := rfl
theorem ev_args0 : mArgs [] (s₀ :: ρ₀) = .ok [] (s₀ :: ρ₀) true := rfl
theorem ev_args : mArgs (a :: ms) (s₀ :: ρ₀) = (a (s₀ :: ρ₀)).bind fun r ρ1 q1 => (mArgs ms ρ1).bind fun rs ρ2 q2 => if pkq r q2 = true then .no else .ok (r :: rs) ρ2 (q1 && q2) := rfl
theorem ev_mLst : mLst ms (s₀ :: ρ₀) = (mArgs ms (s₀ :: ρ₀)).bind fun rs ρ' q => match sts rs with
  | some ds => if lenOk ds.length = true then .ok (.own (.lst (ds.map O.d))) ρ' q else .no
  | none => .no := by
  unfold mLst mOps
  cases mArgs ms (s₀ :: ρ₀) with
  | no => rfl
  | ex x ρ1 => rfl
  | ok x ρ1 q1 =>
    simp only [Res.bind_ok]
    cases sts x with
    | none => rfl
    | some ds => dsimp only; split <;> simp_all
theorem ev_mTup : mTup ms (s₀ :: ρ₀) = (mArgs ms (s₀ :: ρ₀)).bind fun rs ρ' q => match sts rs with
  | some ds => if lenOk ds.length = true then .ok (.d (.tup ds)) ρ' q else .no
  | none => .no := by
  unfold mTup mOps
  cases mArgs ms (s₀ :: ρ₀) with
  | no => rfl
  | ex x ρ1 => rfl
  | ok x ρ1 q1 =>
    simp only [Res.bind_ok]
    cases sts x with
    | none => rfl
    | some ds => dsimp only; split <;> simp_all
@[simp] theorem sts_nil : sts [] = some [] := rfl
theorem sts_cons (r : R) (rs : List R) : sts (r :: rs) = match r.st, sts rs with
    | some x, some xs => some (x :: xs)
    | _, _ => none := rfl
theorem ev_sl00 : mSl a none none (s₀ :: ρ₀) = (mArgs [a] (s₀ :: ρ₀)).bind fun rs ρ' q => match (match rs with | [p] => lSl p none none | _ => none) with
    | some r => .ok r ρ' q
    | none => .no := rfl
theorem ev_sl10 : mSl a (some b) none (s₀ :: ρ₀) = (mArgs [a, mInt b] (s₀ :: ρ₀)).bind fun rs ρ' q => match (match rs with | [p, .d (.int i)] => lSl p (some i) none | _ => none) with
    | some r => .ok r ρ' q
    | none => .no := rfl
theorem ev_sl01 : mSl a none (some b) (s₀ :: ρ₀) = (mArgs [a, mInt b] (s₀ :: ρ₀)).bind fun rs ρ' q => match (match rs with | [p, .d (.int i)] => lSl p none (some i) | _ => none) with
    | some r => .ok r ρ' q
    | none => .no := rfl
theorem ev_sl11 : mSl a (some b) (some c) (s₀ :: ρ₀) = (mArgs [a, mInt b, mInt c] (s₀ :: ρ₀)).bind fun rs ρ' q => match (match rs with | [p, .d (.int i), .d (.int j)] => lSl p (some i) (some j) | _ => none) with
    | some r => .ok r ρ' q
    | none => .no := rfl
theorem ev_set (i : Nat) : mSet i a (s₀ :: ρ₀) = (a (s₀ :: ρ₀)).stm fun r ρ' => if isBor ρ' i = true then .no else match r.slo with
  | some s => .nx (ρ'.set i s)
  | none => .no := rfl
theorem ev_aug (i : Nat) : mAug i a (s₀ :: ρ₀) = mSet i (m2 lAddP (nm i) a) (s₀ :: ρ₀) := rfl
theorem ev_asg (t : Tg) : mAsg t a (s₀ :: ρ₀) = (a (s₀ :: ρ₀)).stm fun r ρ' => match r with
  | .d x => (match asg t x ρ' with
    | some ρ2 => .nx ρ2
    | none => .no)
  | _ => .no := rfl
theorem ev_seq (m n : MS) : mSeq m n (s₀ :: ρ₀) = (m (s₀ :: ρ₀)).thn n := rfl
@[simp] theorem ev_nx : mNx (s₀ :: ρ₀) = .nx (s₀ :: ρ₀) := rfl
@[simp] theorem ev_bk : mBk (s₀ :: ρ₀) = .bk (s₀ :: ρ₀) := rfl
@[simp] theorem ev_ct : mCt (s₀ :: ρ₀) = .ct (s₀ :: ρ₀) := rfl
theorem ev_rt : mRt a (s₀ :: ρ₀) = (a (s₀ :: ρ₀)).stm fun r ρ' => .rt r ρ' := rfl
@[simp] theorem ev_rtN : mRtN (s₀ :: ρ₀) = .rt (.d .non) (s₀ :: ρ₀) := rfl
theorem ev_if (c : MB) (m n : MS) : mIf c m n (s₀ :: ρ₀) = (c (s₀ :: ρ₀)).stm fun b ρ' => if b = true then m ρ' else n ρ' := rfl
theorem ev_drop : mDrop a (s₀ :: ρ₀) = (a (s₀ :: ρ₀)).stm fun _ ρ' => .nx ρ' := rfl
theorem ev_for (it : MI) (t : Tg) (m : MS) : mFor it t m (s₀ :: ρ₀) = (it (s₀ :: ρ₀)).stm fun xs ρ' => forGo t m xs ρ' := rfl
theorem ev_it : mIt a (s₀ :: ρ₀) = (a (s₀ :: ρ₀)).bind fun r ρ' q => match r.its with
  | some ds => .ok ds ρ' q
  | none => .no := rfl
theorem ev_rg1 : mRg1 a (s₀ :: ρ₀) = (a (s₀ :: ρ₀)).bind fun r ρ' q => match r with
  | .d (.int j) => if rgOk j = true then .ok ((List.range j.toNat).map fun (k : Nat) => D.int k) ρ' q else .no
  | _ => .no := rfl
theorem ev_rg2 : mRg2 a b (s₀ :: ρ₀) = (mArgs [a, b] (s₀ :: ρ₀)).bind fun rs ρ' q => match rs with
  | [.d (.int i), .d (.int j)] => if (rgOk i && rgOk j) = true then .ok ((List.range (j - i).toNat).map fun (k : Nat) => D.int (i + k)) ρ' q else .no
  | _ => .no := rfl
theorem ev_app (i : Nat) : mApp i a (s₀ :: ρ₀) = if isLst (s₀ :: ρ₀) i = true then (a (s₀ :: ρ₀)).bind fun r ρ' _ => match r.st with
    | some x => (match pushAt ρ' i x with
      | some ρ2 => .ok (.d .non) ρ2 false
      | none => .no)
    | none => .no
  else .no := rfl
theorem ev_put (i : Nat) : mPut i b a (s₀ :: ρ₀) = if isLst (s₀ :: ρ₀) i = true then (mArgs [a, mInt b] (s₀ :: ρ₀)).stm fun rs ρ' => match rs with
    | [r, .d (.int k)] => (match r.st with
      | some x => (match putAt ρ' i k x with
        | some ρ2 => .nx ρ2
        | none => .no)
      | none => .no)
    | _ => .no
  else .no := rfl
theorem ev_argb0 : mArgB [] (s₀ :: ρ₀) = .ok [] (s₀ :: ρ₀) true := rfl
theorem ev_argbv (as : List Ar) : mArgB (.v a :: as) (s₀ :: ρ₀) = (a (s₀ :: ρ₀)).bind fun r ρ1 q1 => (mArgB as ρ1).bind fun rs ρ2 q2 => if r.isPk = true then .no else .ok (.r r :: rs) ρ2 (q1 && q2) := rfl
theorem ev_argbb (i : Nat) (as : List Ar) : mArgB (.b i :: as) (s₀ :: ρ₀) = if live (s₀ :: ρ₀) i = true then (mArgB as (s₀ :: ρ₀)).bind fun rs ρ2 q2 => .ok (.b i :: rs) ρ2 q2 else .no := rfl
theorem ev_call (f : Fn) (as : List Ar) : mCall f as (s₀ :: ρ₀) = (mArgB as (s₀ :: ρ₀)).bind fun rs ρ1 q => match lend rs ρ1 with
  | none => .no
  | some (as, ls, ρu) => (match f as with
    | .ok r as' => .ok r (back ls as' ρu) (q && ls.all Option.isNone)
    | .ex x as' => .ex x (back ls as' ρu)
    | .no => .no) := rfl
end
theorem sq (m n : MS) (ρ : Ro) : mSeq m n ρ = (m ρ).thn n := rfl
def fin (as : List Slo) : SRes → FRes
  | .nx ρ => .ok (.d .non) (keep as ρ)
  | .rt r ρ => if r.isPk = true then .no else .ok r (keep as ρ)
  | .ex x ρ => .ex x (keep as ρ)
  | _ => .no
theorem ev_fn (n : Nat) (b : MS) (as : List Slo) : mkFn n b as = fin as (b (as ++ List.replicate (n - as.length) .un)) := by
  unfold mkFn fin
  cases b (as ++ List.replicate (n - as.length) .un) <;> rfl
@[simp] theorem fin_nx (as : List Slo) (ρ : Ro) : fin as (.nx ρ) = .ok (.d .non) (keep as ρ) := rfl
@[simp] theorem fin_rtd (as : List Slo) (x : D) (ρ : Ro) : fin as (.rt (.d x) ρ) = .ok (.d x) (keep as ρ) := rfl
@[simp] theorem fin_rto (as : List Slo) (x : O) (ρ : Ro) : fin as (.rt (.own x) ρ) = .ok (.own x) (keep as ρ) := rfl
@[simp] theorem fin_ex (as : List Slo) (x : Exc) (ρ : Ro) : fin as (.ex x ρ) = .ex x (keep as ρ) := rfl
/-! places -/
theorem atI_pos {α : Type} (xs : List α) (n : Nat) : L2.atI xs (n : Int) = xs[n]? := by
  unfold L2.atI L2.ixN
  rw [if_pos (by omega)]
  by_cases h : n < xs.length
  · rw [if_pos (by omega)]; simp
  · rw [if_neg (by omega)]; simp; omega
@[simp] theorem atI_0 {α : Type} (xs : List α) : L2.atI xs 0 = xs[0]? := atI_pos xs 0
@[simp] theorem atI_1 {α : Type} (xs : List α) : L2.atI xs 1 = xs[1]? := atI_pos xs 1
@[simp] theorem atI_2 {α : Type} (xs : List α) : L2.atI xs 2 = xs[2]? := atI_pos xs 2
@[simp] theorem atI_3 {α : Type} (xs : List α) : L2.atI xs 3 = xs[3]? := atI_pos xs 3
@[simp] theorem atI_4 {α : Type} (xs : List α) : L2.atI xs 4 = xs[4]? := atI_pos xs 4
@[simp] theorem atI_5 {α : Type} (xs : List α) : L2.atI xs 5 = xs[5]? := atI_pos xs 5
@[simp] theorem ixN_0 (n : Nat) : L2.ixN n 0 = if 0 < n then some 0 else none := by
  unfold L2.ixN
  rw [if_pos (by omega)]
  by_cases h : 0 < n
  · rw [if_pos (by omega), if_pos h]; rfl
  · rw [if_neg (by omega), if_neg h]
@[simp] theorem ixN_1 (n : Nat) : L2.ixN n 1 = if 1 < n then some 1 else none := by
  unfold L2.ixN
  rw [if_pos (by omega)]
  by_cases h : 1 < n
  · rw [if_pos (by omega), if_pos h]; rfl
  · rw [if_neg (by omega), if_neg h]
@[simp] theorem ixN_2 (n : Nat) : L2.ixN n 2 = if 2 < n then some 2 else none := by
  unfold L2.ixN
  rw [if_pos (by omega)]
  by_cases h : 2 < n
  · rw [if_pos (by omega), if_pos h]; rfl
  · rw [if_neg (by omega), if_neg h]
@[simp] theorem ixN_3 (n : Nat) : L2.ixN n 3 = if 3 < n then some 3 else none := by
  unfold L2.ixN
  rw [if_pos (by omega)]
  by_cases h : 3 < n
  · rw [if_pos (by omega), if_pos h]; rfl
  · rw [if_neg (by omega), if_neg h]
@[simp] theorem atI_neg1 {α : Type} (xs : List α) : L2.atI xs (-1) = xs.getLast? := by
  unfold L2.atI L2.ixN
  rw [if_neg (by omega), List.getLast?_eq_getElem?]
  by_cases h : 1 ≤ xs.length
  · rw [if_pos (by omega)]
    simp only [Option.bind_some]
    congr 1
    omega
  · rw [if_neg (by omega)]
    have : xs = [] := List.eq_nil_of_length_eq_zero (by omega)
    subst this; rfl
theorem ixN_pos (n : Nat) (i : Nat) (h : i < n) : L2.ixN n (i : Int) = some i := by
  unfold L2.ixN
  rw [if_pos (by omega), if_pos (by omega)]; simp
theorem lIx_d (ds : List D) (i : Int) : lIx (.d (.lst ds)) (.d (.int i)) = (L2.atI ds i).map R.d := rfl
theorem lIx_t (ds : List D) (i : Int) : lIx (.d (.tup ds)) (.d (.int i)) = (L2.atI ds i).map R.d := rfl
theorem lIx_s (s : List Nat) (i : Int) : lIx (.d (.str s)) (.d (.int i)) = (L2.atI s i).map fun c => .d (.str [c]) := rfl
theorem lIx_own (os : List O) (i : Int) : lIx (.own (.lst os)) (.d (.int i)) = (L2.atI os i).map O.r := rfl
theorem lIx_pk (os : List O) (i : Int) : lIx (.pk (.lst os)) (.d (.int i)) = (L2.atI os i).map O.r := rfl
/-! operators on known kinds -/
@[simp] theorem lAdd_i (i j : Int) : lAdd (.d (.int i)) (.d (.int j)) = some (.d (.int (i + j))) := rfl
theorem lAdd_s (s t : List Nat) : lAdd (.d (.str s)) (.d (.str t)) = if lenOk (s.length + t.length) = true then some (.d (.str (s ++ t))) else none := rfl
theorem lAdd_t (s t : List D) : lAdd (.d (.tup s)) (.d (.tup t)) = if lenOk (s.length + t.length) = true then some (.d (.tup (s ++ t))) else none := rfl
@[simp] theorem lI_i (f : Int → Int → Option D) (i j : Int) : lI f (.d (.int i)) (.d (.int j)) = (f i j).map R.d := rfl
@[simp] theorem lInt1_i (i : Int) : lInt1 (.d (.int i)) = some (.d (.int i)) := rfl
@[simp] theorem lInt1_b (k : Bool) : lInt1 (.d (.bl k)) = some (.d (.int (if k then 1 else 0))) := rfl
theorem lMul_i (i j : Int) : lMul (.d (.int i)) (.d (.int j)) = if mulOk i j = true then some (.d (.int (i * j))) else none := rfl
theorem lMul_s (s : List Nat) (n : Int) : lMul (.d (.str s)) (.d (.int n)) = if repOk n s.length = true then some (.d (.str (List.replicate n.toNat s).flatten)) else none := rfl
@[simp] theorem lLen_s (s : List Nat) : lLen (.d (.str s)) = some (.d (.int s.length)) := rfl
@[simp] theorem lLen_l (s : List D) : lLen (.d (.lst s)) = some (.d (.int s.length)) := rfl
@[simp] theorem lLen_t (s : List D) : lLen (.d (.tup s)) = some (.d (.int s.length)) := rfl
@[simp] theorem lLen_o (s : List O) : lLen (.own (.lst s)) = some (.d (.int s.length)) := rfl
@[simp] theorem lLen_p (s : List O) : lLen (.pk (.lst s)) = some (.d (.int s.length)) := rfl
@[simp] theorem lEq_i (i j : Int) : lEq (.d (.int i)) (.d (.int j)) = some (.d (.bl (decide (i = j)))) := rfl
@[simp] theorem lEq_s (i j : List Nat) : lEq (.d (.str i)) (.d (.str j)) = some (.d (.bl (decide (i = j)))) := rfl
@[simp] theorem lEq_b (i j : Bool) : lEq (.d (.bl i)) (.d (.bl j)) = some (.d (.bl (decide (i = j)))) := rfl
@[simp] theorem lNe_i (i j : Int) : lNe (.d (.int i)) (.d (.int j)) = some (.d (.bl (!decide (i = j)))) := rfl
@[simp] theorem lNe_s (i j : List Nat) : lNe (.d (.str i)) (.d (.str j)) = some (.d (.bl (!decide (i = j)))) := rfl
@[simp] theorem lNe_b (i j : Bool) : lNe (.d (.bl i)) (.d (.bl j)) = some (.d (.bl (!decide (i = j)))) := rfl
@[simp] theorem lIn_s (n : Nat) (s : List Nat) : lIn (.d (.str [n])) (.d (.str s)) = some (.d (.bl (decide (n ∈ s)))) := rfl
@[simp] theorem lIsi_d (T : String) (x : D) : lIsi T (.d x) = x.kind.map fun k => .d (.bl (isK T k)) := rfl
@[simp] theorem lIsN_d (x : D) : lIsN (.d x) (.d .non) = some (.d (.bl x.isNon)) := rfl
@[simp] theorem lNotN_d (x : D) : lNotN (.d x) (.d .non) = some (.d (.bl (!x.isNon))) := rfl
@[simp] theorem lNeg_i (i : Int) : lNeg (.d (.int i)) = some (.d (.int (-i))) := rfl
@[simp] theorem lNot_b (b : Bool) : lNot (.d (.bl b)) = some (.d (.bl (!b))) := rfl
@[simp] theorem lAddP_i (i j : Int) : lAddP (.d (.int i)) (.d (.int j)) = some (.d (.int (i + j))) := rfl
@[simp] theorem its_s (s : List Nat) : (R.d (.str s)).its = some (s.map fun c => .str [c]) := rfl
@[simp] theorem lSl_s (s : List Nat) (lo hi : Option Int) : lSl (.d (.str s)) lo hi = some (.d (.str (cutA s lo hi))) := rfl
@[simp] theorem lSl_t (s : List D) (lo hi : Option Int) : lSl (.d (.tup s)) lo hi = some (.d (.tup (cutA s lo hi))) := rfl
@[simp] theorem lSl_l (s : List D) (lo hi : Option Int) : lSl (.d (.lst s)) lo hi = some (.own (.lst ((cutA s lo hi).map O.d))) := rfl
@[simp] theorem lSl_o (s : List D) (lo hi : Option Int) : lSl (.own (.lst (s.map O.d))) lo hi = some (.own (.lst ((cutA s lo hi).map O.d))) := by simp [lSl]
@[simp] theorem lSl_p (s : List D) (lo hi : Option Int) : lSl (.pk (.lst (s.map O.d))) lo hi = some (.own (.lst ((cutA s lo hi).map O.d))) := by simp [lSl]
@[simp] theorem fz_l (ds : List D) : (O.lst (ds.map O.d)).fz = true := fzs_d ds
@[simp] theorem toD_l (ds : List D) : (O.lst (ds.map O.d)).toD = .lst ds := by show D.lst (toDs (ds.map O.d)) = _; rw [toDs_d]
theorem pkE : R.isPk (.d .non) = false := rfl
/-! loops -/
/-- a loop whose turns all go on -/
theorem forGo_inv {t : Tg} {b : MS} (P : Nat → Ro → Prop) : ∀ (xs : List D) (k : Nat) (ρ : Ro), P k ρ → (∀ i x ρ, xs[i]? = some x → P (k + i) ρ → ∃ ρ1, asg t x ρ = some ρ1 ∧ ∃ ρ2, (b ρ1 = .nx ρ2 ∨ b ρ1 = .ct ρ2) ∧ P (k + i + 1) ρ2) → ∃ ρ2, forGo t b xs ρ = .nx ρ2 ∧ P (k + xs.length) ρ2
  | [], k, ρ, h, _ => ⟨ρ, forGo_nil t b ρ, h⟩
  | x :: xs, k, ρ, h, hs => by
    obtain ⟨ρ1, h1, ρ2, h2, h3⟩ := hs 0 x ρ rfl h
    obtain ⟨ρ3, h4, h5⟩ := forGo_inv P xs (k + 1) ρ2 h3 fun i y ρ hy hp => by
      have := hs (i + 1) y ρ (by simpa using hy) (by rw [show k + (i + 1) = k + 1 + i by omega]; exact hp)
      rw [show k + (i + 1) + 1 = k + 1 + i + 1 by omega] at this
      exact this
    refine ⟨ρ3, ?_, by rw [List.length_cons, show k + (xs.length + 1) = k + 1 + xs.length by omega]; exact h5⟩
    rw [forGo_cons, h1]
    rcases h2 with h2 | h2
    · simp only [h2]; exact h4
    · simp only [h2]; exact h4
theorem forGo_run {t : Tg} {b : MS} (P : Nat → Ro → Prop) {xs : List D} {ρ : Ro} (h : P 0 ρ) (hs : ∀ i x ρ, xs[i]? = some x → P i ρ → ∃ ρ1, asg t x ρ = some ρ1 ∧ ∃ ρ2, (b ρ1 = .nx ρ2 ∨ b ρ1 = .ct ρ2) ∧ P (i + 1) ρ2) : ∃ ρ2, forGo t b xs ρ = .nx ρ2 ∧ P xs.length ρ2 := by
  have := forGo_inv P xs 0 ρ h fun i x ρ hx hp => by
    rw [Nat.zero_add] at hp ⊢
    exact hs i x ρ hx hp
  rwa [Nat.zero_add] at this
/-- a while whose turns lower a measure -/
theorem while_run {c : MB} {b : MS} (P : Ro → Prop) (μ : Ro → Nat) (Q : SRes → Prop)
    (hs : ∀ ρ, P ρ → ∃ x ρ1 q, c ρ = .ok x ρ1 q ∧ (x = false → Q (.nx ρ1)) ∧ (x = true → (∃ ρ2, (b ρ1 = .nx ρ2 ∨ b ρ1 = .ct ρ2) ∧ P ρ2 ∧ μ ρ2 < μ ρ) ∨ (∃ ρ2, b ρ1 = .bk ρ2 ∧ Q (.nx ρ2)) ∨ (∃ r ρ2, b ρ1 = .rt r ρ2 ∧ Q (.rt r ρ2)) ∨ (∃ e ρ2, b ρ1 = .ex e ρ2 ∧ Q (.ex e ρ2)))) (hq : ¬ Q .no) :
    ∀ ρ, P ρ → Q (mWhile c b ρ) := by
  have key : ∀ n ρ, P ρ → μ ρ < n → ∃ k, Q (whGo c b k ρ) := by
    intro n
    induction n with
    | zero => intro ρ _ h; omega
    | succ n ih =>
      intro ρ hp hl
      obtain ⟨x, ρ1, q, e, hf, ht⟩ := hs ρ hp
      cases x with
      | false => exact ⟨1, by simp only [whGo, e, Res.stm_ok]; exact hf rfl⟩
      | true =>
        rcases ht rfl with ⟨ρ2, h2, hp2, hl2⟩ | ⟨ρ2, h2, h3⟩ | ⟨r, ρ2, h2, h3⟩ | ⟨r, ρ2, h2, h3⟩
        · obtain ⟨k, hk⟩ := ih ρ2 hp2 (by omega)
          refine ⟨k + 1, ?_⟩
          rcases h2 with h2 | h2
          · simp only [whGo, e, Res.stm_ok, h2, if_true]; exact hk
          · simp only [whGo, e, Res.stm_ok, h2, if_true]; exact hk
        · exact ⟨1, by simp only [whGo, e, Res.stm_ok, h2, if_true]; exact h3⟩
        · exact ⟨1, by simp only [whGo, e, Res.stm_ok, h2, if_true]; exact h3⟩
        · exact ⟨1, by simp only [whGo, e, Res.stm_ok, h2, if_true]; exact h3⟩
  intro ρ hp
  obtain ⟨k, hk⟩ := key (μ ρ + 1) ρ hp (Nat.lt_succ_self _)
  rw [mWhile_eq (n := k) rfl fun z => hq (by rw [z] at hk; exact hk)]
  exact hk
end
end Mw

set_option Elab.async false
set_option linter.all false
set_option maxRecDepth 100000
set_option autoImplicit false
namespace Mw
open PySem PySem.Spec PyProof.Rows L2
noncomputable section
/-! ## more of running meanings: comprehensions, lists, comparisons -/
section
variable (s₀ : Slo) (ρ₀ : Ro) (a b c : M) (ms : List M)
theorem ev_lc (it : MI) (t : Tg) (c : MB) (e : M) (vs : List Nat) : mLc it t c e vs (s₀ :: ρ₀) = (it (s₀ :: ρ₀)).bind fun xs ρ1 q1 => if (lenOk xs.length && noMu ρ1 vs) = true then (match lcGo t c e vs xs (wipeR ρ1 vs) true [] with
  | some (ys, ρ2, q) => .ok (.own (.lst (ys.map O.d))) (unwipe ρ1 ρ2 vs) (q1 && q)
  | none => .no) else .no := rfl
@[simp] theorem ev_yes : mYes (s₀ :: ρ₀) = .ok true (s₀ :: ρ₀) true := rfl
end
theorem lcGo_map {t : Tg} {c : MB} {e : M} {vs : List Nat} {ρ : Ro} (f : D → D) : ∀ (xs : List D) (q : Bool) (ys : List D),
    (∀ x ∈ xs, ∃ ρ1 ρ3 r, asg t x ρ = some ρ1 ∧ c ρ1 = .ok true ρ1 true ∧ e ρ1 = .ok r ρ3 true ∧ r.st = some (f x) ∧ wipeR ρ3 vs = ρ) → lcGo t c e vs xs ρ q ys = some (ys ++ xs.map f, ρ, q)
  | [], q, ys, _ => by rw [lcGo_nil]; simp
  | x :: xs, q, ys, h => by
    obtain ⟨ρ1, ρ3, r, h1, h2, h3, h4, h5⟩ := h x List.mem_cons_self
    rw [lcGo_cons, h1]
    simp only [h2, h3, h4, if_true, h5]
    rw [lcGo_map f xs _ _ fun y hy => h y (List.mem_cons_of_mem _ hy)]
    simp
/-- with a test -/
theorem lcGo_filter {t : Tg} {c : MB} {e : M} {vs : List Nat} {ρ : Ro} (f : D → D) (p : D → Bool) : ∀ (xs : List D) (q : Bool) (ys : List D),
    (∀ x ∈ xs, ∃ ρ1, asg t x ρ = some ρ1 ∧ c ρ1 = .ok (p x) ρ1 true ∧ (p x = true → ∃ ρ3 r, e ρ1 = .ok r ρ3 true ∧ r.st = some (f x) ∧ wipeR ρ3 vs = ρ) ∧ (p x = false → wipeR ρ1 vs = ρ)) → lcGo t c e vs xs ρ q ys = some (ys ++ (xs.filter p).map f, ρ, q)
  | [], q, ys, _ => by rw [lcGo_nil]; simp
  | x :: xs, q, ys, h => by
    obtain ⟨ρ1, h1, h2, h3, h4⟩ := h x List.mem_cons_self
    rw [lcGo_cons, h1]
    have ih := fun q ys => lcGo_filter f p xs q ys fun y hy => h y (List.mem_cons_of_mem _ hy)
    cases hp : p x with
    | true =>
      obtain ⟨ρ3, r, g1, g2, g3⟩ := h3 hp
      simp only [h2, hp, if_true, g1, g2, g3]
      rw [ih]
      simp [hp]
    | false =>
      simp only [h2, hp, Bool.false_eq_true, if_false, h4 hp]
      rw [ih]
      simp [hp]
/-- the turns change what is around -/
theorem lcGo_run {t : Tg} {c : MB} {e : M} {vs : List Nat} (P : Nat → Ro → List D → Prop) : ∀ (xs : List D) (k : Nat) (ρ : Ro) (q : Bool) (ys : List D), P k ρ ys →
    (∀ i x ρ ys, xs[i]? = some x → P (k + i) ρ ys → ∃ ρ1 ρ2 q1, asg t x ρ = some ρ1 ∧ ((∃ ρ3 q2 r y, c ρ1 = .ok true ρ2 q1 ∧ e ρ2 = .ok r ρ3 q2 ∧ r.st = some y ∧ P (k + i + 1) (wipeR ρ3 vs) (ys ++ [y])) ∨ (c ρ1 = .ok false ρ2 q1 ∧ P (k + i + 1) (wipeR ρ2 vs) ys))) →
    ∃ zs ρz qz, lcGo t c e vs xs ρ q ys = some (zs, ρz, qz) ∧ P (k + xs.length) ρz zs
  | [], k, ρ, q, ys, h, _ => ⟨ys, ρ, q, by rw [lcGo_nil], h⟩
  | x :: xs, k, ρ, q, ys, h, hs => by
    obtain ⟨ρ1, ρ2, q1, h1, h2⟩ := hs 0 x ρ ys rfl h
    have ih := fun q ρ ys hp => lcGo_run P xs (k + 1) ρ q ys hp fun i y ρ ys hy hq => by
      have := hs (i + 1) y ρ ys (by simpa using hy) (by rw [show k + (i + 1) = k + 1 + i by omega]; exact hq)
      rw [show k + (i + 1) + 1 = k + 1 + i + 1 by omega] at this
      exact this
    rw [show k + (x :: xs).length = k + 1 + xs.length by rw [List.length_cons]; omega, lcGo_cons, h1]
    rcases h2 with ⟨ρ3, q2, r, y, g1, g2, g3, g4⟩ | ⟨g1, g2⟩
    · obtain ⟨zs, ρz, qz, e1, e2⟩ := ih (q && q1 && q2) (wipeR ρ3 vs) (ys ++ [y]) g4
      exact ⟨zs, ρz, qz, by simp only [g1, g2, g3, if_true]; exact e1, e2⟩
    · obtain ⟨zs, ρz, qz, e1, e2⟩ := ih (q && q1) (wipeR ρ2 vs) ys g2
      exact ⟨zs, ρz, qz, by simp only [g1, Bool.false_eq_true, if_false]; exact e1, e2⟩
@[simp] theorem noMu_nil (ρ : Ro) : noMu ρ [] = true := rfl
@[simp] theorem wipeR_nil (ρ : Ro) : wipeR ρ [] = ρ := rfl
theorem wipeR_cons (ρ : Ro) (v : Nat) (vs : List Nat) : wipeR ρ (v :: vs) = (wipeR ρ vs).set v .un := rfl
@[simp] theorem unwipe_nil (ρ ρ' : Ro) : unwipe ρ ρ' [] = ρ' := rfl
theorem unwipe_cons (ρ ρ' : Ro) (v : Nat) (vs : List Nat) : unwipe ρ ρ' (v :: vs) = (unwipe ρ ρ' vs).set v (keepS ρ v) := rfl
theorem noMu_cons (ρ : Ro) (v : Nat) (vs : List Nat) : noMu ρ (v :: vs) = ((match ρ[v]? with | some (.mu _ _) => false | _ => true) && noMu ρ vs) := rfl
@[simp] theorem keepS_0 (s : Slo) (ρ : Ro) : keepS (s :: ρ) 0 = match s with | .shr d => .shr d | _ => .un := by cases s <;> rfl
@[simp] theorem keepS_s (s : Slo) (ρ : Ro) (n : Nat) : keepS (s :: ρ) (n + 1) = keepS ρ n := rfl
/-! lists, however they are held -/
@[simp] theorem pl_d (x : D) : (R.d x).pl = some x := rfl
@[simp] theorem pl_own (ds : List D) : (R.own (.lst (ds.map O.d))).pl = some (.lst ds) := by simp [R.pl, O.plain]
@[simp] theorem pl_pk (ds : List D) : (R.pk (.lst (ds.map O.d))).pl = some (.lst ds) := by simp [R.pl, O.plain]
@[simp] theorem ol_own (ds : List D) : (R.own (.lst (ds.map O.d))).ol = some ds := by simp [R.ol]
@[simp] theorem ol_pk (ds : List D) : (R.pk (.lst (ds.map O.d))).ol = some ds := by simp [R.ol]
theorem eqv_ints : ∀ (s t : List Int), PyData.eqvAll (pys (s.map D.int)) (pys (t.map D.int)) = decide (s = t)
  | [], [] => rfl
  | [], _ :: _ => rfl
  | _ :: _, [] => rfl
  | a :: s, b :: t => by
    show (a == b && PyData.eqvAll (pys (s.map D.int)) (pys (t.map D.int))) = _
    rw [eqv_ints s t]
    by_cases h1 : a = b <;> by_cases h2 : s = t <;> simp [h1, h2]
theorem lay_ints : ∀ s : List Int, PyData.canLayAll0 (pys (s.map D.int)) = true
  | [] => rfl
  | a :: s => lay_ints s
theorem dep_ints : ∀ s : List Int, PyData.depthAll (pys (s.map D.int)) = 0
  | [] => rfl
  | a :: s => by show max 0 (PyData.depthAll (pys (s.map D.int))) = 0; rw [dep_ints s]; rfl
theorem nob_ints : ∀ s : List Int, nobs (s.map D.int) = true
  | [] => rfl
  | a :: s => nob_ints s
theorem shp_ints (s : List Int) : (D.lst (s.map D.int)).shp = true := by
  show (nobs (s.map D.int) && (PyData.canLayAll0 (pys (s.map D.int)) && decide (PyData.depthAll (pys (s.map D.int)) + 1 ≤ 64))) = true
  rw [nob_ints, lay_ints, dep_ints]; rfl
theorem shp_intt (s : List Int) : (D.tup (s.map D.int)).shp = true := by
  show (nobs (s.map D.int) && (PyData.canLayAll0 (pys (s.map D.int)) && decide (PyData.depthAll (pys (s.map D.int)) + 1 ≤ 64))) = true
  rw [nob_ints, lay_ints, dep_ints]; rfl
theorem lEq_pl {p q : R} {s t : List Int} (h : p.pl = some (.lst (s.map D.int))) (h2 : q.pl = some (.lst (t.map D.int))) : lEq p q = some (.d (.bl (decide (s = t)))) := by
  unfold lEq
  rw [h, h2]
  show (if (D.lst (s.map D.int)).shp = true ∧ (D.lst (t.map D.int)).shp = true then some (R.d (.bl (PyData.eqvAll (pys (s.map D.int)) (pys (t.map D.int))))) else none) = _
  rw [shp_ints, shp_ints, eqv_ints, if_pos ⟨rfl, rfl⟩]
theorem lNe_pl {p q : R} {s t : List Int} (h : p.pl = some (.lst (s.map D.int))) (h2 : q.pl = some (.lst (t.map D.int))) : lNe p q = some (.d (.bl (!decide (s = t)))) := by
  unfold lNe
  rw [h, h2]
  show (if (D.lst (s.map D.int)).shp = true ∧ (D.lst (t.map D.int)).shp = true then some (R.d (.bl (!PyData.eqvAll (pys (s.map D.int)) (pys (t.map D.int))))) else none) = _
  rw [shp_ints, shp_ints, eqv_ints, if_pos ⟨rfl, rfl⟩]
theorem lEq_tt (s t : List Int) : lEq (.d (.tup (s.map D.int))) (.d (.tup (t.map D.int))) = some (.d (.bl (decide (s = t)))) := by
  show (if (D.tup (s.map D.int)).shp = true ∧ (D.tup (t.map D.int)).shp = true then some (R.d (.bl (PyData.eqvAll (pys (s.map D.int)) (pys (t.map D.int))))) else none) = _
  rw [shp_intt, shp_intt, eqv_ints, if_pos ⟨rfl, rfl⟩]
theorem lNe_tt (s t : List Int) : lNe (.d (.tup (s.map D.int))) (.d (.tup (t.map D.int))) = some (.d (.bl (!decide (s = t)))) := by
  show (if (D.tup (s.map D.int)).shp = true ∧ (D.tup (t.map D.int)).shp = true then some (R.d (.bl (!PyData.eqvAll (pys (s.map D.int)) (pys (t.map D.int))))) else none) = _
  rw [shp_intt, shp_intt, eqv_ints, if_pos ⟨rfl, rfl⟩]
@[simp] theorem lEq_t2 (a b c d : Int) : lEq (.d (.tup [.int a, .int b])) (.d (.tup [.int c, .int d])) = some (.d (.bl (decide (a = c ∧ b = d)))) := by
  have := lEq_tt [a, b] [c, d]
  simpa using this
@[simp] theorem lNe_t2 (a b c d : Int) : lNe (.d (.tup [.int a, .int b])) (.d (.tup [.int c, .int d])) = some (.d (.bl (!decide (a = c ∧ b = d)))) := by
  have := lNe_tt [a, b] [c, d]
  simpa using this
@[simp] theorem lEq_dd (s t : List Int) : lEq (.d (.lst (s.map D.int))) (.d (.lst (t.map D.int))) = some (.d (.bl (decide (s = t)))) := lEq_pl (by simp only [pl_d, pl_own, pl_pk]) (by simp only [pl_d, pl_own, pl_pk])
@[simp] theorem lNe_dd (s t : List Int) : lNe (.d (.lst (s.map D.int))) (.d (.lst (t.map D.int))) = some (.d (.bl (!decide (s = t)))) := lNe_pl (by simp only [pl_d, pl_own, pl_pk]) (by simp only [pl_d, pl_own, pl_pk])
@[simp] theorem lEq_do (s t : List Int) : lEq (.d (.lst (s.map D.int))) (.own (.lst ((t.map D.int).map O.d))) = some (.d (.bl (decide (s = t)))) := lEq_pl (by simp only [pl_d, pl_own, pl_pk]) (by simp only [pl_d, pl_own, pl_pk])
@[simp] theorem lNe_do (s t : List Int) : lNe (.d (.lst (s.map D.int))) (.own (.lst ((t.map D.int).map O.d))) = some (.d (.bl (!decide (s = t)))) := lNe_pl (by simp only [pl_d, pl_own, pl_pk]) (by simp only [pl_d, pl_own, pl_pk])
@[simp] theorem lEq_dp (s t : List Int) : lEq (.d (.lst (s.map D.int))) (.pk (.lst ((t.map D.int).map O.d))) = some (.d (.bl (decide (s = t)))) := lEq_pl (by simp only [pl_d, pl_own, pl_pk]) (by simp only [pl_d, pl_own, pl_pk])
@[simp] theorem lNe_dp (s t : List Int) : lNe (.d (.lst (s.map D.int))) (.pk (.lst ((t.map D.int).map O.d))) = some (.d (.bl (!decide (s = t)))) := lNe_pl (by simp only [pl_d, pl_own, pl_pk]) (by simp only [pl_d, pl_own, pl_pk])
@[simp] theorem lEq_od (s t : List Int) : lEq (.own (.lst ((s.map D.int).map O.d))) (.d (.lst (t.map D.int))) = some (.d (.bl (decide (s = t)))) := lEq_pl (by simp only [pl_d, pl_own, pl_pk]) (by simp only [pl_d, pl_own, pl_pk])
@[simp] theorem lNe_od (s t : List Int) : lNe (.own (.lst ((s.map D.int).map O.d))) (.d (.lst (t.map D.int))) = some (.d (.bl (!decide (s = t)))) := lNe_pl (by simp only [pl_d, pl_own, pl_pk]) (by simp only [pl_d, pl_own, pl_pk])
@[simp] theorem lEq_oo (s t : List Int) : lEq (.own (.lst ((s.map D.int).map O.d))) (.own (.lst ((t.map D.int).map O.d))) = some (.d (.bl (decide (s = t)))) := lEq_pl (by simp only [pl_d, pl_own, pl_pk]) (by simp only [pl_d, pl_own, pl_pk])
@[simp] theorem lNe_oo (s t : List Int) : lNe (.own (.lst ((s.map D.int).map O.d))) (.own (.lst ((t.map D.int).map O.d))) = some (.d (.bl (!decide (s = t)))) := lNe_pl (by simp only [pl_d, pl_own, pl_pk]) (by simp only [pl_d, pl_own, pl_pk])
@[simp] theorem lEq_op (s t : List Int) : lEq (.own (.lst ((s.map D.int).map O.d))) (.pk (.lst ((t.map D.int).map O.d))) = some (.d (.bl (decide (s = t)))) := lEq_pl (by simp only [pl_d, pl_own, pl_pk]) (by simp only [pl_d, pl_own, pl_pk])
@[simp] theorem lNe_op (s t : List Int) : lNe (.own (.lst ((s.map D.int).map O.d))) (.pk (.lst ((t.map D.int).map O.d))) = some (.d (.bl (!decide (s = t)))) := lNe_pl (by simp only [pl_d, pl_own, pl_pk]) (by simp only [pl_d, pl_own, pl_pk])
@[simp] theorem lEq_pd (s t : List Int) : lEq (.pk (.lst ((s.map D.int).map O.d))) (.d (.lst (t.map D.int))) = some (.d (.bl (decide (s = t)))) := lEq_pl (by simp only [pl_d, pl_own, pl_pk]) (by simp only [pl_d, pl_own, pl_pk])
@[simp] theorem lNe_pd (s t : List Int) : lNe (.pk (.lst ((s.map D.int).map O.d))) (.d (.lst (t.map D.int))) = some (.d (.bl (!decide (s = t)))) := lNe_pl (by simp only [pl_d, pl_own, pl_pk]) (by simp only [pl_d, pl_own, pl_pk])
@[simp] theorem lEq_po (s t : List Int) : lEq (.pk (.lst ((s.map D.int).map O.d))) (.own (.lst ((t.map D.int).map O.d))) = some (.d (.bl (decide (s = t)))) := lEq_pl (by simp only [pl_d, pl_own, pl_pk]) (by simp only [pl_d, pl_own, pl_pk])
@[simp] theorem lNe_po (s t : List Int) : lNe (.pk (.lst ((s.map D.int).map O.d))) (.own (.lst ((t.map D.int).map O.d))) = some (.d (.bl (!decide (s = t)))) := lNe_pl (by simp only [pl_d, pl_own, pl_pk]) (by simp only [pl_d, pl_own, pl_pk])
@[simp] theorem lEq_pp (s t : List Int) : lEq (.pk (.lst ((s.map D.int).map O.d))) (.pk (.lst ((t.map D.int).map O.d))) = some (.d (.bl (decide (s = t)))) := lEq_pl (by simp only [pl_d, pl_own, pl_pk]) (by simp only [pl_d, pl_own, pl_pk])
@[simp] theorem lNe_pp (s t : List Int) : lNe (.pk (.lst ((s.map D.int).map O.d))) (.pk (.lst ((t.map D.int).map O.d))) = some (.d (.bl (!decide (s = t)))) := lNe_pl (by simp only [pl_d, pl_own, pl_pk]) (by simp only [pl_d, pl_own, pl_pk])
@[simp] theorem lList_d (s : List D) : lList (.d (.lst s)) = some (.own (.lst (s.map O.d))) := by unfold lList; simp only [pl_d, pl_own, pl_pk]
@[simp] theorem lTuple_d (s : List D) : lTuple (.d (.lst s)) = some (.d (.tup s)) := by unfold lTuple; simp only [pl_d, pl_own, pl_pk]
@[simp] theorem lRev_d (s : List D) : lRev (.d (.lst s)) = some (.own (.lst (s.reverse.map O.d))) := by unfold lRev; simp only [pl_d, pl_own, pl_pk]
@[simp] theorem lInts_d (f : List Int → Option R) (s : List Int) : lInts f (.d (.lst (s.map D.int))) = f s := by unfold lInts; simp only [pl_d, pl_own, pl_pk, dInts_map]
@[simp] theorem lBls_d (f : List Bool → Option R) (s : List Bool) : lBls f (.d (.lst (s.map D.bl))) = f s := by unfold lBls; simp only [pl_d, pl_own, pl_pk, dBls_map]
@[simp] theorem lList_o (s : List D) : lList (.own (.lst (s.map O.d))) = some (.own (.lst (s.map O.d))) := by unfold lList; simp only [pl_d, pl_own, pl_pk]
@[simp] theorem lTuple_o (s : List D) : lTuple (.own (.lst (s.map O.d))) = some (.d (.tup s)) := by unfold lTuple; simp only [pl_d, pl_own, pl_pk]
@[simp] theorem lRev_o (s : List D) : lRev (.own (.lst (s.map O.d))) = some (.own (.lst (s.reverse.map O.d))) := by unfold lRev; simp only [pl_d, pl_own, pl_pk]
@[simp] theorem lInts_o (f : List Int → Option R) (s : List Int) : lInts f (.own (.lst ((s.map D.int).map O.d))) = f s := by unfold lInts; simp only [pl_d, pl_own, pl_pk, dInts_map]
@[simp] theorem lBls_o (f : List Bool → Option R) (s : List Bool) : lBls f (.own (.lst ((s.map D.bl).map O.d))) = f s := by unfold lBls; simp only [pl_d, pl_own, pl_pk, dBls_map]
@[simp] theorem lList_p (s : List D) : lList (.pk (.lst (s.map O.d))) = some (.own (.lst (s.map O.d))) := by unfold lList; simp only [pl_d, pl_own, pl_pk]
@[simp] theorem lTuple_p (s : List D) : lTuple (.pk (.lst (s.map O.d))) = some (.d (.tup s)) := by unfold lTuple; simp only [pl_d, pl_own, pl_pk]
@[simp] theorem lRev_p (s : List D) : lRev (.pk (.lst (s.map O.d))) = some (.own (.lst (s.reverse.map O.d))) := by unfold lRev; simp only [pl_d, pl_own, pl_pk]
@[simp] theorem lInts_p (f : List Int → Option R) (s : List Int) : lInts f (.pk (.lst ((s.map D.int).map O.d))) = f s := by unfold lInts; simp only [pl_d, pl_own, pl_pk, dInts_map]
@[simp] theorem lBls_p (f : List Bool → Option R) (s : List Bool) : lBls f (.pk (.lst ((s.map D.bl).map O.d))) = f s := by unfold lBls; simp only [pl_d, pl_own, pl_pk, dBls_map]
@[simp] theorem lList_t (s : List D) : lList (.d (.tup s)) = some (.own (.lst (s.map O.d))) := rfl
@[simp] theorem lTuple_t (s : List D) : lTuple (.d (.tup s)) = some (.d (.tup s)) := rfl
@[simp] theorem lMul_l (s : List D) (n : Int) : lMul (.own (.lst (s.map O.d))) (.d (.int n)) = if repOk n s.length = true then some (.own (.lst ((List.replicate n.toNat s).flatten.map O.d))) else none := by unfold lMul; simp only [pl_d, pl_own, ol_own]
@[simp] theorem its_pk (ds : List D) : (R.pk (.lst (ds.map O.d))).its = none := rfl
def catO (s t : Option (List D)) : Option R := match s, t with
  | some s, some t => if lenOk (s.length + t.length) = true then some (.own (.lst ((s ++ t).map O.d))) else none
  | _, _ => none
@[simp] theorem catO_some (s t : List D) : catO (some s) (some t) = if lenOk (s.length + t.length) = true then some (.own (.lst ((s ++ t).map O.d))) else none := rfl
theorem lAdd_pls {p q : R} {a b : Option (List D)} (h : p.pl = a.map D.lst) (h2 : q.pl = b.map D.lst) : lAdd p q = catO a b := by
  unfold lAdd
  rw [h, h2]
  cases a <;> cases b <;> rfl
@[simp] theorem lAdd_dd (s : List D) (t : List D) : lAdd (.d (.lst s)) (.d (.lst t)) = catO (some s) (some t) := lAdd_pls rfl rfl
@[simp] theorem lAdd_do (s : List D) (t : List O) : lAdd (.d (.lst s)) (.own (.lst t)) = catO (some s) (undO t) := lAdd_pls rfl rfl
@[simp] theorem lAdd_dp (s : List D) (t : List O) : lAdd (.d (.lst s)) (.pk (.lst t)) = catO (some s) (undO t) := lAdd_pls rfl rfl
@[simp] theorem lAdd_od (s : List O) (t : List D) : lAdd (.own (.lst s)) (.d (.lst t)) = catO (undO s) (some t) := lAdd_pls rfl rfl
@[simp] theorem lAdd_oo (s : List O) (t : List O) : lAdd (.own (.lst s)) (.own (.lst t)) = catO (undO s) (undO t) := lAdd_pls rfl rfl
@[simp] theorem lAdd_op (s : List O) (t : List O) : lAdd (.own (.lst s)) (.pk (.lst t)) = catO (undO s) (undO t) := lAdd_pls rfl rfl
@[simp] theorem lAdd_pd (s : List O) (t : List D) : lAdd (.pk (.lst s)) (.d (.lst t)) = catO (undO s) (some t) := lAdd_pls rfl rfl
@[simp] theorem lAdd_po (s : List O) (t : List O) : lAdd (.pk (.lst s)) (.own (.lst t)) = catO (undO s) (undO t) := lAdd_pls rfl rfl
@[simp] theorem lAdd_pp (s : List O) (t : List O) : lAdd (.pk (.lst s)) (.pk (.lst t)) = catO (undO s) (undO t) := lAdd_pls rfl rfl
@[simp] theorem lSl_o2 (s : List O) (lo hi : Option Int) : lSl (.own (.lst s)) lo hi = (undO s).map fun ds => .own (.lst ((cutA ds lo hi).map O.d)) := by
  unfold lSl
  rw [show (R.own (.lst s)).pl = (undO s).map D.lst from rfl]
  cases undO s <;> rfl
@[simp] theorem lSl_p2 (s : List O) (lo hi : Option Int) : lSl (.pk (.lst s)) lo hi = (undO s).map fun ds => .own (.lst ((cutA ds lo hi).map O.d)) := by
  unfold lSl
  rw [show (R.pk (.lst s)).pl = (undO s).map D.lst from rfl]
  cases undO s <;> rfl
theorem fzs_app : ∀ (a b : List O), fzs (a ++ b) = (fzs a && fzs b)
  | [], b => by simp [fzs]
  | x :: a, b => by simp only [List.cons_append, fzs, fzs_app a b, Bool.and_assoc]
theorem toDs_app : ∀ (a b : List O), toDs (a ++ b) = toDs a ++ toDs b
  | [], b => by simp [toDs]
  | x :: a, b => by simp only [List.cons_append, toDs, toDs_app a b]
@[simp] theorem st_own2 (s : List O) : (R.own (.lst s)).st = if fzs s = true then some (.lst (toDs s)) else none := rfl
@[simp] theorem fzs_nil2 : fzs [] = true := rfl
@[simp] theorem toDs_nil2 : toDs [] = [] := rfl
@[simp] theorem fzs_cons2 (x : D) (r : List O) : fzs (.d x :: r) = fzs r := by simp [fzs, O.fz]
@[simp] theorem toDs_cons2 (x : D) (r : List O) : toDs (.d x :: r) = x :: toDs r := by simp [toDs, O.toD]
@[simp] theorem fzs_app2 (a : List D) (b : List O) : fzs (a.map O.d ++ b) = fzs b := by rw [fzs_app, fzs_d]; rfl
@[simp] theorem toDs_app2 (a : List D) (b : List O) : toDs (a.map O.d ++ b) = a ++ toDs b := by rw [toDs_app, toDs_d]
@[simp] theorem fzs_d2 (a : List D) : fzs (a.map O.d) = true := fzs_d a
@[simp] theorem toDs_d2 (a : List D) : toDs (a.map O.d) = a := toDs_d a
@[simp] theorem fz_l2 (s : List O) : (O.lst s).fz = fzs s := rfl
@[simp] theorem toD_l2 (s : List O) : (O.lst s).toD = .lst (toDs s) := rfl
end
end Mw

set_option Elab.async false
set_option linter.all false
set_option maxRecDepth 100000
set_option autoImplicit false
namespace Mw
open PySem PySem.Spec PyProof.Rows L2 Mw
noncomputable section
def b__law_cell : MS := (mSeq (mIf (mTest (m2 lLt (nm 1) (m1 lLen (nm 0)))) (mRt (m2 lIx (nm 0) (nm 1))) mNx)
    (mRt (mC (.int 0))))
def f__law_cell : Fn := hide (mkFn 2 b__law_cell)
theorem f__law_cell_eq : f__law_cell = mkFn 2 b__law_cell := hide_eq _

def lb__law_digits_1 : MS := (mIf (mTest (m2 lGt (nm 5) (mC (.int 0)))) (mSeq (mDrop (mApp 3 (m2 lMod (m1 lInt1 (nm 5)) (mC (.int 1000)))))
    (mSet 5 (m2 lDiv (nm 5) (mC (.int 1000))))) mNx)
def lb__law_digits_2 : MS := (mSeq (mSet 7 (m2 lMod (m1 lInt1 (m2 lAdd (m2 lAdd (m2 lMul (nm 7) (mC (.int 16807))) (m2 lMul (mC (.int 7)) (nm 6))) (mC (.int 1)))) (mC (.int 2147483647))))
    (mDrop (mApp 3 (m2 lMod (m1 lInt1 (m2 lDiv (nm 7) (mC (.int 997)))) (mC (.int 1000))))))
def lb__law_digits_3 : MS := (mSeq (mSet 5 (mCall f__law_cell [.v (fz 0), .v (fz 4)]))
    (mSeq (mIf (mTest (m2 lLt (nm 5) (mC (.int 0)))) (mSet 5 (m2 lSub (mC (.int 1)) (m2 lMul (mC (.int 2)) (nm 5)))) mNx)
    (mIf (mTest (m2 lGe (nm 5) (m2 lPow (mC (.int 10)) (mC (.int 18))))) (mFor (mRg1 (mC (.int 60))) (.nm 6) lb__law_digits_1) (mSeq (mSet 7 (m2 lMod (m1 lInt1 (m2 lAdd (m2 lAdd (m2 lMul (nm 5) (mC (.int 48271))) (m2 lMul (nm 4) (mC (.int 69621)))) (mC (.int 11)))) (mC (.int 2147483647))))
    (mFor (mRg1 (mC (.int 12))) (.nm 6) lb__law_digits_2)))))
def b__law_digits : MS := (mSeq (mSet 3 (mLst []))
    (mSeq (mFor (mRg2 (nm 1) (nm 2)) (.nm 4) lb__law_digits_3)
    (mRt (mv 3))))
def f__law_digits : Fn := hide (mkFn 8 b__law_digits)
theorem f__law_digits_eq : f__law_digits = mkFn 8 b__law_digits := hide_eq _

def b__law_draw : MS := (mSeq (mSet 2 (m2 lIx (nm 0) (mC (.int 1))))
    (mSeq (mPut 0 (mC (.int 1)) (m2 lAdd (nm 2) (mC (.int 1))))
    (mSeq (mIf (mTest (m2 lLt (nm 2) (m1 lLen (m2 lIx (nm 0) (mC (.int 0)))))) (mRt (m2 lMod (m1 lInt1 (m2 lIx (m2 lIx (nm 0) (mC (.int 0))) (nm 2))) (nm 1))) mNx)
    (mRt (mC (.int 0))))))
def f__law_draw : Fn := hide (mkFn 3 b__law_draw)
theorem f__law_draw_eq : f__law_draw = mkFn 3 b__law_draw := hide_eq _

def lb__law_same_1 (fr__law_same : Fn) : MS := (mIf (mNot (mTest (mCall fr__law_same [.v (m2 lIx (nm 0) (nm 2)), .v (m2 lIx (nm 1) (nm 2))]))) (mRt (mC (.bl false))) mNx)
def b__law_same (fr__law_same : Fn) : MS := (mSeq (mIf (mOr (mTest (m1 (lIsi "list") (nm 1))) (mTest (m1 (lIsi "tuple") (nm 1)))) (mSeq (mIf (mOr (mTest (m2 lNe (m1 (lIsi "list") (nm 1)) (m1 (lIsi "list") (nm 0)))) (mTest (m2 lNe (m1 (lIsi "tuple") (nm 1)) (m1 (lIsi "tuple") (nm 0))))) (mRt (mC (.bl false))) mNx)
    (mSeq (mIf (mTest (m2 lNe (m1 lLen (nm 0)) (m1 lLen (nm 1)))) (mRt (mC (.bl false))) mNx)
    (mSeq (mFor (mRg1 (m1 lLen (nm 1))) (.nm 2) (lb__law_same_1 fr__law_same))
    (mRt (mC (.bl true)))))) mNx)
    (mSeq (mIf (mTest (m2 lIsN (nm 1) (mC .non))) (mRt (m2 lIsN (nm 0) (mC .non))) mNx)
    (mSeq (mIf (mTest (m1 (lIsi "bool") (nm 1))) (mRt (mAndV (m1 (lIsi "bool") (nm 0)) (m2 lEq (nm 0) (nm 1)))) mNx)
    (mSeq (mIf (mTest (m1 (lIsi "str") (nm 1))) (mRt (mAndV (m1 (lIsi "str") (nm 0)) (m2 lEq (nm 0) (nm 1)))) mNx)
    (mRt (mAndV (m1 (lIsi "int") (nm 0)) (mAndV (m1 lNot (m1 (lIsi "bool") (nm 0))) (m2 lEq (nm 0) (nm 1)))))))))
def k__law_same : Nat → Fn
  | 0 => fun _ => .no
  | k + 1 => mkFn 3 (b__law_same (k__law_same k))
def f__law_same : Fn := hide (k__law_same 60)
theorem f__law_same_eq : f__law_same = k__law_same 60 := hide_eq _

def lb__law_run_1 : MS := (mSet 3 (m2 lAdd (nm 3) (m2 lIx (nm 2) (mCall f__law_draw [.b 0, .v (m1 lLen (nm 2))]))))
def b__law_run : MS := (mSeq (mSet 3 (mC (.str [])))
    (mSeq (mFor (mRg1 (nm 1)) (.nm 4) lb__law_run_1)
    (mRt (mv 3))))
def f__law_run : Fn := hide (mkFn 5 b__law_run)
theorem f__law_run_eq : f__law_run = mkFn 5 b__law_run := hide_eq _

def lc_number_bytes_1 : MB := (mTest (m2 lGe (nm 2) (mC (.int 128))))
def lb_number_bytes_2 : MS := (mSeq (mDrop (mApp 1 (m2 lAdd (mC (.int 128)) (m2 lMod (nm 2) (mC (.int 128))))))
    (mSet 2 (m2 lDiv (nm 2) (mC (.int 128)))))
def b_number_bytes : MS := (mSeq (mSet 1 (mLst []))
    (mSeq (mSet 2 (fz 0))
    (mSeq (mWhile lc_number_bytes_1 lb_number_bytes_2)
    (mSeq (mDrop (mApp 1 (fz 2)))
    (mRt (mv 1))))))
def f_number_bytes : Fn := hide (mkFn 3 b_number_bytes)
theorem f_number_bytes_eq : f_number_bytes = mkFn 3 b_number_bytes := hide_eq _

def lc_read_number_1 : MB := (mAnd (mTest (m2 lLt (nm 4) (m1 lLen (nm 0)))) (mTest (m2 lGe (m2 lIx (nm 0) (nm 4)) (mC (.int 128)))))
def lb_read_number_2 : MS := (mSeq (mSet 2 (m2 lAdd (nm 2) (m2 lMul (m2 lSub (m2 lIx (nm 0) (nm 4)) (mC (.int 128))) (nm 3))))
    (mSeq (mSet 3 (m2 lMul (nm 3) (mC (.int 128))))
    (mSet 4 (m2 lAdd (nm 4) (mC (.int 1))))))
def b_read_number : MS := (mSeq (mSet 2 (mC (.int 0)))
    (mSeq (mSet 3 (mC (.int 1)))
    (mSeq (mSet 4 (fz 1))
    (mSeq (mWhile lc_read_number_1 lb_read_number_2)
    (mSeq (mIf (mTest (m2 lGe (nm 4) (m1 lLen (nm 0)))) (mRt (mC .non)) mNx)
    (mSeq (mIf (mAnd (mTest (m2 lEq (m2 lIx (nm 0) (nm 4)) (mC (.int 0)))) (mTest (m2 lGt (nm 4) (nm 1)))) (mRt (mC .non)) mNx)
    (mRt (mTup [(m2 lAdd (nm 2) (m2 lMul (m2 lIx (nm 0) (nm 4)) (nm 3))), (m2 lAdd (nm 4) (mC (.int 1)))]))))))))
def f_read_number : Fn := hide (mkFn 5 b_read_number)
theorem f_read_number_eq : f_read_number = mkFn 5 b_read_number := hide_eq _

def lb_check_sum_1 : MS := (mSet 1 (m2 lMod (m2 lAdd (m2 lMul (mC (.int 131)) (nm 1)) (nm 2)) (mC (.int 65521))))
def b_check_sum : MS := (mSeq (mSet 1 (mC (.int 5)))
    (mSeq (mFor (mIt (fz 0)) (.nm 2) lb_check_sum_1)
    (mRt (mv 1))))
def f_check_sum : Fn := hide (mkFn 3 b_check_sum)
theorem f_check_sum_eq : f_check_sum = mkFn 3 b_check_sum := hide_eq _

def b_record_of : MS := (mRt (m2 lAdd (m2 lAdd (mCall f_number_bytes [.v (m1 lLen (nm 0))]) (m1 lList (nm 0))) (mCall f_number_bytes [.v (mCall f_check_sum [.v (fz 0)])])))
def f_record_of : Fn := hide (mkFn 1 b_record_of)
theorem f_record_of_eq : f_record_of = mkFn 1 b_record_of := hide_eq _

def b_read_record : MS := (mSeq (mSet 2 (mCall f_read_number [.v (fz 0), .v (fz 1)]))
    (mSeq (mIf (mOr (mTest (m2 lIsN (nm 2) (mC .non))) (mTest (m2 lGt (m2 lAdd (m2 lIx (nm 2) (mC (.int 1))) (m2 lIx (nm 2) (mC (.int 0)))) (m1 lLen (nm 0))))) (mRt (mC .non)) mNx)
    (mSeq (mSet 3 (m2 lAdd (m2 lIx (nm 2) (mC (.int 1))) (m2 lIx (nm 2) (mC (.int 0)))))
    (mSeq (mSet 4 (mSl (nm 0) (some (m2 lIx (nm 2) (mC (.int 1)))) (some (nm 3))))
    (mSeq (mSet 5 (mCall f_read_number [.v (fz 0), .v (fz 3)]))
    (mSeq (mIf (mOr (mTest (m2 lIsN (nm 5) (mC .non))) (mTest (m2 lNe (m2 lIx (nm 5) (mC (.int 0))) (mCall f_check_sum [.v (fz 4)])))) (mRt (mC .non)) mNx)
    (mRt (mTup [(fz 4), (m2 lIx (nm 5) (mC (.int 1)))]))))))))
def f_read_record : Fn := hide (mkFn 6 b_read_record)
theorem f_read_record_eq : f_read_record = mkFn 6 b_read_record := hide_eq _

def lb__law_digits_1dd1_1 : MS := (mIf (mAnd (mTest (m2 lGt (nm 0) (mC (.int 0)))) (mTest (m2 lLt (m1 lLen (nm 3)) (nm 2)))) (mSeq (mDrop (mApp 3 (m2 lMod (m1 lInt1 (nm 0)) (mC (.int 1000)))))
    (mSet 0 (m2 lDiv (nm 0) (mC (.int 1000))))) mNx)
def lb__law_digits_1dd1_2 : MS := (mSeq (mSet 5 (m2 lMod (m1 lInt1 (m2 lAdd (m2 lAdd (m2 lMul (nm 5) (mC (.int 16807))) (m2 lMul (mC (.int 7)) (nm 4))) (mC (.int 1)))) (mC (.int 2147483647))))
    (mDrop (mApp 3 (m2 lMod (m1 lInt1 (m2 lDiv (nm 5) (mC (.int 997)))) (mC (.int 1000))))))
def b__law_digits_1dd1 : MS := (mSeq (mSet 3 (mLst []))
    (mSeq (mIf (mTest (m2 lLt (nm 0) (mC (.int 0)))) (mSet 0 (m2 lSub (m1 lNeg (mC (.int 1))) (nm 0))) mNx)
    (mSeq (mIf (mTest (m2 lGe (nm 0) (m2 lPow (mC (.int 10)) (mC (.int 18))))) (mFor (mRg1 (mC (.int 60))) (.nm 4) lb__law_digits_1dd1_1) (mSeq (mSet 5 (m2 lMod (m1 lInt1 (m2 lAdd (m2 lAdd (m2 lMul (nm 0) (mC (.int 48271))) (m2 lMul (nm 1) (mC (.int 69621)))) (mC (.int 11)))) (mC (.int 2147483647))))
    (mFor (mRg1 (nm 2)) (.nm 4) lb__law_digits_1dd1_2)))
    (mRt (mv 3)))))
def f__law_digits_1dd1 : Fn := hide (mkFn 6 b__law_digits_1dd1)
theorem f__law_digits_1dd1_eq : f__law_digits_1dd1 = mkFn 6 b__law_digits_1dd1 := hide_eq _

def lb__law_padded_1 : MS := (mDrop (mApp 2 (fz 3)))
def b__law_padded : MS := (mSeq (mSet 2 (mCall f__law_digits_1dd1 [.v (fz 0), .v (fz 1), .v (mC (.int 20))]))
    (mSeq (mFor (mRg1 (mC (.int 20))) (.nm 3) lb__law_padded_1)
    (mRt (mv 2))))
def f__law_padded : Fn := hide (mkFn 4 b__law_padded)
theorem f__law_padded_eq : f__law_padded = mkFn 4 b__law_padded := hide_eq _

def lb__law_number_1 : MS := (mIf (mTest (m2 lGe (nm 0) (mC (.int 128)))) (mSeq (mDrop (mApp 1 (m2 lAdd (m2 lMod (m1 lInt1 (nm 0)) (mC (.int 128))) (mC (.int 128)))))
    (mSet 0 (m2 lDiv (nm 0) (mC (.int 128))))) mNx)
def b__law_number : MS := (mSeq (mSet 1 (mLst []))
    (mSeq (mFor (mRg1 (mC (.int 20))) (.nm 2) lb__law_number_1)
    (mSeq (mDrop (mApp 1 (fz 0)))
    (mRt (mv 1)))))
def f__law_number : Fn := hide (mkFn 3 b__law_number)
theorem f__law_number_eq : f__law_number = mkFn 3 b__law_number := hide_eq _

def lb__law_check_1 : MS := (mSet 1 (m2 lMod (m1 lInt1 (m2 lAdd (m2 lMul (mC (.int 131)) (nm 1)) (nm 2))) (mC (.int 65521))))
def b__law_check : MS := (mSeq (mSet 1 (mC (.int 5)))
    (mSeq (mFor (mIt (fz 0)) (.nm 2) lb__law_check_1)
    (mRt (mv 1))))
def f__law_check : Fn := hide (mkFn 3 b__law_check)
theorem f__law_check_eq : f__law_check = mkFn 3 b__law_check := hide_eq _

def b__law_record : MS := (mRt (m2 lAdd (m2 lAdd (mCall f__law_number [.v (m1 lLen (nm 0))]) (nm 0)) (mCall f__law_number [.v (mCall f__law_check [.v (fz 0)])])))
def f__law_record : Fn := hide (mkFn 1 b__law_record)
theorem f__law_record_eq : f__law_record = mkFn 1 b__law_record := hide_eq _

def lb__law_integer_1 : MS := (mSet 2 (m2 lAdd (m2 lMul (nm 2) (mC (.int 1000))) (m1 lInt1 (nm 3))))
def b__law_integer : MS := (mSeq (mSet 2 (mC (.int 0)))
    (mSeq (mFor (mIt (mCall f__law_digits_1dd1 [.v (mCall f__law_cell [.v (fz 0), .v (fz 1)]), .v (fz 1), .v (m2 lMod (m1 lInt1 (mCall f__law_cell [.v (fz 0), .v (fz 1)])) (mC (.int 9)))])) (.nm 3) lb__law_integer_1)
    (mRt (m2 lSub (m2 lAdd (nm 2) (m2 lIx (mLst [(mC (.int 0)), (mC (.int 128)), (mC (.int 16384)), (mC (.int 2097152)), (mC (.int 268435456))]) (m2 lMod (m1 lInt1 (m2 lDiv (mCall f__law_cell [.v (fz 0), .v (fz 1)]) (mC (.int 9)))) (mC (.int 5))))) (m1 lInt1 (m2 lGt (nm 2) (mC (.int 0))))))))
def f__law_integer : Fn := hide (mkFn 4 b__law_integer)
theorem f__law_integer_eq : f__law_integer = mkFn 4 b__law_integer := hide_eq _

def b__law_is_number : MS := (mSeq (mSet 1 (mCall f__law_number [.v (fz 0)]))
    (mSeq (mIf (mOr (mTest (m2 lNe (m1 lList (mCall f_number_bytes [.v (fz 0)])) (nm 1))) (mTest (m2 lNe (mCall f_read_number [.v (m2 lAdd (m2 lAdd (mLst [(mC (.int 9)), (mC (.int 9))]) (nm 1)) (mLst [(mC (.int 7))])), .v (mC (.int 2))]) (mTup [(fz 0), (m2 lAdd (mC (.int 2)) (m1 lLen (nm 1)))])))) (mRt (mC (.bl false))) mNx)
    (mRt (mAndV (m2 lIsN (mCall f_read_number [.v (mSl (nm 1) none (some (m1 lNeg (mC (.int 1))))), .v (mC (.int 0))]) (mC .non)) (m2 lIsN (mCall f_read_number [.v (m2 lAdd (mSl (nm 1) none (some (m1 lNeg (mC (.int 1))))) (mLst [(m2 lAdd (m2 lIx (nm 1) (m1 lNeg (mC (.int 1)))) (mC (.int 128))), (mC (.int 0))])), .v (mC (.int 0))]) (mC .non))))))
def f__law_is_number : Fn := hide (mkFn 2 b__law_is_number)
theorem f__law_is_number_eq : f__law_is_number = mkFn 2 b__law_is_number := hide_eq _

end
end Mw

set_option Elab.async false
set_option linter.all false
set_option maxRecDepth 100000
set_option autoImplicit false
namespace Mw
open PySem PySem.Spec PyProof.Rows L2 Mw
local macro_rules | `(tactic| walk_at "ev") => `(tactic| ((try simp -implicitDefEqProofs [-List.map_map, ev_fn, atI_pos, ev_seq, ev_set, ev_aug, ev_nm, ev_fz, ev_mv, ev_m1, ev_m2, ev_mInt, ev_mTest, ev_mAnd, ev_mOr, ev_mNot, ev_mAndV, ev_mOrV, ev_args, ev_args0, ev_mLst, ev_mTup, sts_cons, ev_sl00, ev_sl01, ev_sl10, ev_sl11, ev_asg, ev_rt, ev_if, ev_drop, ev_for, ev_it, ev_rg1, ev_rg2, ev_app, ev_put, ev_argb0, ev_argbv, ev_argbb, ev_call, pushAt_0, pushAt_s, putAt_0, putAt_s, lend, back, keep, asg, asgs, lIx_d, lIx_t, lIx_s, lIx_own, lIx_pk, lMul_i, lAdd_s, lAdd_t, lMul_s, D.kind, isK, D.isNon, ev_lc, wipeR_cons, unwipe_cons, noMu_cons]); (repeat (simp -implicitDefEqProofs (disch := omega) only [lenOk_of, mulOk_l, mulOk_r, repOk_of, rgOk_of, powOk_of, divOk_of, modOk_of]; try simp -implicitDefEqProofs [-List.map_map, ev_fn, atI_pos, ev_seq, ev_set, ev_aug, ev_nm, ev_fz, ev_mv, ev_m1, ev_m2, ev_mInt, ev_mTest, ev_mAnd, ev_mOr, ev_mNot, ev_mAndV, ev_mOrV, ev_args, ev_args0, ev_mLst, ev_mTup, sts_cons, ev_sl00, ev_sl01, ev_sl10, ev_sl11, ev_asg, ev_rt, ev_if, ev_drop, ev_for, ev_it, ev_rg1, ev_rg2, ev_app, ev_put, ev_argb0, ev_argbv, ev_argbb, ev_call, pushAt_0, pushAt_s, putAt_0, putAt_s, lend, back, keep, asg, asgs, lIx_d, lIx_t, lIx_s, lIx_own, lIx_pk, lMul_i, lAdd_s, lAdd_t, lMul_s, D.kind, isK, D.isNon, ev_lc, wipeR_cons, unwipe_cons, noMu_cons]))))
local macro_rules | `(tactic| walk_at "evh") => `(tactic| ((try simp -implicitDefEqProofs [*, -List.map_map, ev_fn, atI_pos, ev_seq, ev_set, ev_aug, ev_nm, ev_fz, ev_mv, ev_m1, ev_m2, ev_mInt, ev_mTest, ev_mAnd, ev_mOr, ev_mNot, ev_mAndV, ev_mOrV, ev_args, ev_args0, ev_mLst, ev_mTup, sts_cons, ev_sl00, ev_sl01, ev_sl10, ev_sl11, ev_asg, ev_rt, ev_if, ev_drop, ev_for, ev_it, ev_rg1, ev_rg2, ev_app, ev_put, ev_argb0, ev_argbv, ev_argbb, ev_call, pushAt_0, pushAt_s, putAt_0, putAt_s, lend, back, keep, asg, asgs, lIx_d, lIx_t, lIx_s, lIx_own, lIx_pk, lMul_i, lAdd_s, lAdd_t, lMul_s, D.kind, isK, D.isNon, ev_lc, wipeR_cons, unwipe_cons, noMu_cons]); (repeat (simp -implicitDefEqProofs (disch := omega) only [lenOk_of, mulOk_l, mulOk_r, repOk_of, rgOk_of, powOk_of, divOk_of, modOk_of]; try simp -implicitDefEqProofs [*, -List.map_map, ev_fn, atI_pos, ev_seq, ev_set, ev_aug, ev_nm, ev_fz, ev_mv, ev_m1, ev_m2, ev_mInt, ev_mTest, ev_mAnd, ev_mOr, ev_mNot, ev_mAndV, ev_mOrV, ev_args, ev_args0, ev_mLst, ev_mTup, sts_cons, ev_sl00, ev_sl01, ev_sl10, ev_sl11, ev_asg, ev_rt, ev_if, ev_drop, ev_for, ev_it, ev_rg1, ev_rg2, ev_app, ev_put, ev_argb0, ev_argbv, ev_argbb, ev_call, pushAt_0, pushAt_s, putAt_0, putAt_s, lend, back, keep, asg, asgs, lIx_d, lIx_t, lIx_s, lIx_own, lIx_pk, lMul_i, lAdd_s, lAdd_t, lMul_s, D.kind, isK, D.isNon, ev_lc, wipeR_cons, unwipe_cons, noMu_cons]))))
/-! ## the laws' own helpers -/
def bx (ds : List Int) (a : Nat) : O := .lst [.d (.lst (ds.map .int)), .d (.int a)]
def dr (ds : List Int) (a : Nat) (m : Int) : Int := match ds[a]? with
  | some x => x % m
  | none => 0
theorem dr_lo (ds : List Int) (a : Nat) (m : Int) (hm : 0 < m) : 0 ≤ dr ds a m := by
  unfold dr; split
  · exact Int.emod_nonneg _ (by omega)
  · exact Int.le_refl 0
theorem dr_lt (ds : List Int) (a : Nat) (m : Int) (hm : 0 < m) : dr ds a m < m := by
  unfold dr; split
  · exact Int.emod_lt_of_pos _ hm
  · exact hm
@[simp] theorem bx_plain (ds : List Int) (a : Nat) (b : Bool) : Slo.mu b (bx ds a) = Slo.mu b (bx ds a) := rfl
theorem cell (ns : List Int) (k : Nat) : f__law_cell [.shr (.lst (ns.map .int)), .shr (.int k)] = .ok (.d (.int (ns.getD k 0))) [.un, .un] := by
  rw [f__law_cell_eq]; unfold b__law_cell
  by_cases h : k < ns.length <;> walk_at "evh"
theorem draw (ds : List Int) (a : Nat) (m : Int) (hm : 0 < m) : f__law_draw [.mu true (bx ds a), .shr (.int m)] = .ok (.d (.int (dr ds a m))) [.mu true (bx ds (a + 1)), .un] := by
  rw [f__law_draw_eq]; unfold b__law_draw bx dr
  by_cases h : a < ds.length <;> walk_at "evh"
/-- a place that holds no borrowed thing -/
abbrev Jk (s : Slo) : Prop := s.bor = false
theorem Jk.un : Jk .un := rfl
theorem Jk.shr (d : D) : Jk (.shr d) := rfl
def dgE (L : D) (lo hi : Int) (ds : List Int) (s4 s5 s6 s7 : Slo) : Ro := [.shr L, .shr (.int lo), .shr (.int hi), .mu false (O.l (ds.map .int)), s4, s5, s6, s7]
theorem push_ints (ds : List Int) (x : Int) : List.map O.d (List.map D.int ds) ++ [O.d (D.int x)] = List.map O.d (List.map D.int (ds ++ [x])) := by simp
theorem digits_1 (L : D) (lo hi : Int) (ds : List Int) (s4 s7 : Slo) (c : Int) (k : D) (hl : ds.length ≤ 100000) :
    ∃ ds' c', lb__law_digits_1 (dgE L lo hi ds s4 (.shr (.int c)) (.shr k) s7) = .nx (dgE L lo hi ds' s4 (.shr (.int c')) (.shr k) s7) ∧ ds'.length ≤ ds.length + 1 := by
  unfold lb__law_digits_1 dgE
  by_cases h : 0 < c
  · refine ⟨ds ++ [c % 1000], c / 1000, ?_, by simp⟩
    walk_at "evh"
  · refine ⟨ds, c, ?_, by omega⟩
    walk_at "evh"
theorem digits_2 (L : D) (lo hi : Int) (ds : List Int) (s4 s5 : Slo) (c : Int) (k : Nat) (hk : k ≤ 1000) (hl : ds.length ≤ 100000) :
    ∃ ds' c', lb__law_digits_2 (dgE L lo hi ds s4 s5 (.shr (.int k)) (.shr (.int c))) = .nx (dgE L lo hi ds' s4 s5 (.shr (.int k)) (.shr (.int c'))) ∧ ds'.length ≤ ds.length + 1 := by
  unfold lb__law_digits_2 dgE
  refine ⟨ds ++ [((c * 16807 + 7 * k + 1) % 2147483647) / 997 % 1000], (c * 16807 + 7 * k + 1) % 2147483647, ?_, by simp⟩
  walk_at "evh"
theorem digits_3 (ns : List Int) (lo hi : Int) (ds : List Int) (s5 s6 s7 : Slo) (k : Nat) (hn : ns.length ≤ 63) (hk : k ≤ 1000) (hl : ds.length ≤ 70000) (h5 : Jk s5) (h6 : Jk s6) (h7 : Jk s7) :
    ∃ ds' t5 t6 t7, lb__law_digits_3 (dgE (.lst (ns.map .int)) lo hi ds (.shr (.int k)) s5 s6 s7) = .nx (dgE (.lst (ns.map .int)) lo hi ds' (.shr (.int k)) t5 t6 t7) ∧ ds'.length ≤ ds.length + 60 ∧ Jk t5 ∧ Jk t6 ∧ Jk t7 := by
  have l1 : ∀ (s6 : Slo) (c : Int), Jk s6 → ∃ ds' c' t6, forGo (.nm 6) lb__law_digits_1 ((List.range 60).map fun (k : Nat) => D.int k) (dgE (.lst (ns.map .int)) lo hi ds (.shr (.int k)) (.shr (.int c)) s6 s7) = .nx (dgE (.lst (ns.map .int)) lo hi ds' (.shr (.int k)) (.shr (.int c')) t6 s7) ∧ ds'.length ≤ ds.length + 60 ∧ Jk t6 := by
    intro s6 c h6
    obtain ⟨ρ2, e, ds', c', t6, h1, h2, h3⟩ := forGo_run (t := .nm 6) (b := lb__law_digits_1) (fun i ρ => ∃ ds' c' t6, ds'.length ≤ ds.length + i ∧ Jk t6 ∧ ρ = dgE (.lst (ns.map .int)) lo hi ds' (.shr (.int k)) (.shr (.int c')) t6 s7) (xs := (List.range 60).map fun (k : Nat) => D.int k) ⟨ds, c, s6, by omega, h6, rfl⟩ fun i x ρ hx hp => by
      obtain ⟨ds', c', t6, h1, h2, rfl⟩ := hp
      have hil : i < 60 := by simpa using (List.getElem?_eq_some_iff.mp hx).1
      obtain ⟨ds2, c2, e2, h4⟩ := digits_1 (.lst (ns.map .int)) lo hi ds' (.shr (.int k)) s7 c' x (by omega)
      refine ⟨dgE (.lst (ns.map .int)) lo hi ds' (.shr (.int k)) (.shr (.int c')) (.shr x) s7, ?_, _, .inl e2, ds2, c2, .shr x, by omega, .shr _, rfl⟩
      unfold dgE
      walk_at "evh"
    exact ⟨ds', c', t6, by rw [e, h3], by simpa using h1, h2⟩
  have l2 : ∀ (s5 s6 : Slo) (c : Int), Jk s6 → ∃ ds' c' t6, forGo (.nm 6) lb__law_digits_2 ((List.range 12).map fun (k : Nat) => D.int k) (dgE (.lst (ns.map .int)) lo hi ds (.shr (.int k)) s5 s6 (.shr (.int c))) = .nx (dgE (.lst (ns.map .int)) lo hi ds' (.shr (.int k)) s5 t6 (.shr (.int c'))) ∧ ds'.length ≤ ds.length + 60 ∧ Jk t6 := by
    intro s5 s6 c h6
    obtain ⟨ρ2, e, ds', c', t6, h1, h2, h3⟩ := forGo_run (t := .nm 6) (b := lb__law_digits_2) (fun i ρ => ∃ ds' c' t6, ds'.length ≤ ds.length + i ∧ Jk t6 ∧ ρ = dgE (.lst (ns.map .int)) lo hi ds' (.shr (.int k)) s5 t6 (.shr (.int c'))) (xs := (List.range 12).map fun (k : Nat) => D.int k) ⟨ds, c, s6, by omega, h6, rfl⟩ fun i x ρ hx hp => by
      obtain ⟨ds', c', t6, h1, h2, rfl⟩ := hp
      have hil : i < 12 := by simpa using (List.getElem?_eq_some_iff.mp hx).1
      have ex : x = .int (i : Nat) := by
        rw [List.getElem?_map, List.getElem?_range hil] at hx
        simpa using hx.symm
      subst ex
      obtain ⟨ds2, c2, e2, h4⟩ := digits_2 (.lst (ns.map .int)) lo hi ds' (.shr (.int k)) s5 c' i (by omega) (by omega)
      refine ⟨dgE (.lst (ns.map .int)) lo hi ds' (.shr (.int k)) s5 (.shr (.int i)) (.shr (.int c')), ?_, _, .inl e2, ds2, c2, .shr _, by omega, .shr _, rfl⟩
      unfold dgE
      walk_at "evh"
    refine ⟨ds', c', t6, by rw [e, h3], ?_, h2⟩
    have h1 : ds'.length ≤ ds.length + 12 := by simpa using h1
    omega
  unfold lb__law_digits_3
  have step : ∀ c : Int, ∃ ds' t5 t6 t7, ((mIf (mTest (m2 lGe (nm 5) (m2 lPow (mC (.int 10)) (mC (.int 18))))) (mFor (mRg1 (mC (.int 60))) (.nm 6) lb__law_digits_1) (mSeq (mSet 7 (m2 lMod (m1 lInt1 (m2 lAdd (m2 lAdd (m2 lMul (nm 5) (mC (.int 48271))) (m2 lMul (nm 4) (mC (.int 69621)))) (mC (.int 11)))) (mC (.int 2147483647))))
    (mFor (mRg1 (mC (.int 12))) (.nm 6) lb__law_digits_2)))) (dgE (.lst (ns.map .int)) lo hi ds (.shr (.int k)) (.shr (.int c)) s6 s7) = .nx (dgE (.lst (ns.map .int)) lo hi ds' (.shr (.int k)) t5 t6 t7) ∧ ds'.length ≤ ds.length + 60 ∧ Jk t5 ∧ Jk t6 ∧ Jk t7 := by
    intro c
    by_cases h : (1000000000000000000 : Int) ≤ c
    · obtain ⟨ds', c', t6, e, h1, h2⟩ := l1 s6 c h6
      refine ⟨ds', .shr (.int c'), t6, s7, ?_, h1, .shr _, h2, h7⟩
      rw [← e]
      unfold dgE
      walk_at "evh"
    · obtain ⟨ds', c', t6, e, h1, h2⟩ := l2 (.shr (.int c)) s6 ((c * 48271 + k * 69621 + 11) % 2147483647) h6
      refine ⟨ds', .shr (.int c), t6, .shr (.int c'), ?_, h1, .shr _, h2, .shr _⟩
      rw [← e]
      unfold dgE
      walk_at "evh"
  have c0 := cell ns k
  by_cases hc : ns.getD k 0 < 0
  · obtain ⟨ds', t5, t6, t7, e, h1⟩ := step (1 - 2 * ns.getD k 0)
    refine ⟨ds', t5, t6, t7, ?_, h1⟩
    rw [← e, sq]
    have a1 : mSet 5 (mCall f__law_cell [.v (fz 0), .v (fz 4)]) (dgE (.lst (ns.map .int)) lo hi ds (.shr (.int k)) s5 s6 s7) = .nx (dgE (.lst (ns.map .int)) lo hi ds (.shr (.int k)) (.shr (.int (ns.getD k 0))) s6 s7) := by
      unfold dgE
      simp only [List.getD_eq_getElem?_getD] at c0 ⊢; walk_at "evh"
    rw [a1, SRes.thn_nx, sq]
    generalize ns.getD k 0 = z at hc ⊢
    have a2 : mIf (mTest (m2 lLt (nm 5) (mC (.int 0)))) (mSet 5 (m2 lSub (mC (.int 1)) (m2 lMul (mC (.int 2)) (nm 5)))) mNx (dgE (.lst (ns.map .int)) lo hi ds (.shr (.int k)) (.shr (.int z)) s6 s7) = .nx (dgE (.lst (ns.map .int)) lo hi ds (.shr (.int k)) (.shr (.int (1 - 2 * z))) s6 s7) := by
      unfold dgE
      walk_at "evh"
    rw [a2, SRes.thn_nx]
  · obtain ⟨ds', t5, t6, t7, e, h1⟩ := step (ns.getD k 0)
    refine ⟨ds', t5, t6, t7, ?_, h1⟩
    rw [← e, sq]
    have a1 : mSet 5 (mCall f__law_cell [.v (fz 0), .v (fz 4)]) (dgE (.lst (ns.map .int)) lo hi ds (.shr (.int k)) s5 s6 s7) = .nx (dgE (.lst (ns.map .int)) lo hi ds (.shr (.int k)) (.shr (.int (ns.getD k 0))) s6 s7) := by
      unfold dgE
      simp only [List.getD_eq_getElem?_getD] at c0 ⊢; walk_at "evh"
    rw [a1, SRes.thn_nx, sq]
    generalize ns.getD k 0 = z at hc ⊢
    have a2 : mIf (mTest (m2 lLt (nm 5) (mC (.int 0)))) (mSet 5 (m2 lSub (mC (.int 1)) (m2 lMul (mC (.int 2)) (nm 5)))) mNx (dgE (.lst (ns.map .int)) lo hi ds (.shr (.int k)) (.shr (.int z)) s6 s7) = .nx (dgE (.lst (ns.map .int)) lo hi ds (.shr (.int k)) (.shr (.int z)) s6 s7) := by
      unfold dgE
      walk_at "evh"
    rw [a2, SRes.thn_nx]
theorem digits_own (ns : List Int) (lo hi : Nat) (hn : ns.length ≤ 63) (hlo : lo ≤ hi) (hh : hi ≤ 1000) : ∃ ds : List Int, f__law_digits [.shr (.lst (ns.map .int)), .shr (.int lo), .shr (.int hi)] = .ok (.own (O.l (ds.map .int))) [.un, .un, .un] := by
  obtain ⟨ρ2, e, ds', t4, t5, t6, t7, h1, h4, h5, h6, h7, h3⟩ := forGo_run (t := .nm 4) (b := lb__law_digits_3) (fun i ρ => ∃ ds' t4 t5 t6 t7, ds'.length ≤ 60 * i ∧ Jk t4 ∧ Jk t5 ∧ Jk t6 ∧ Jk t7 ∧ ρ = dgE (.lst (ns.map .int)) lo hi ds' t4 t5 t6 t7) (xs := (List.range (hi - lo)).map fun (k : Nat) => D.int (lo + k)) ⟨[], .un, .un, .un, .un, by simp, .un, .un, .un, .un, rfl⟩ fun i x ρ hx hp => by
    obtain ⟨ds', t4, t5, t6, t7, h1, h4, h5, h6, h7, rfl⟩ := hp
    have hil : i < hi - lo := by simpa using (List.getElem?_eq_some_iff.mp hx).1
    have ex : x = .int ((lo + i : Nat) : Int) := by
      rw [List.getElem?_map, List.getElem?_range hil] at hx
      simpa using hx.symm
    subst ex
    obtain ⟨ds2, u5, u6, u7, e2, g1, g2⟩ := digits_3 ns lo hi ds' t5 t6 t7 (lo + i) hn (by omega) (by omega) h5 h6 h7
    refine ⟨dgE (.lst (ns.map .int)) lo hi ds' (.shr (.int ((lo + i : Nat) : Int))) t5 t6 t7, ?_, _, .inl e2, ds2, _, u5, u6, u7, by omega, .shr _, g2.1, g2.2.1, g2.2.2, rfl⟩
    unfold dgE
    walk_at "evh"
  refine ⟨ds', ?_⟩
  rw [f__law_digits_eq]; unfold b__law_digits
  have ee : ((hi : Int) - lo).toNat = hi - lo := by omega
  subst h3
  unfold dgE at e
  simp only [O.l, List.map_nil] at e
  walk_at "evh"
end Mw

set_option Elab.async false
set_option linter.all false
set_option maxRecDepth 100000
set_option autoImplicit false
namespace Mw
open PySem PySem.Spec PyProof.Rows L2 Mw
local macro_rules | `(tactic| walk_at "ev") => `(tactic| ((try simp -implicitDefEqProofs [-List.map_map, ev_fn, atI_pos, ev_seq, ev_set, ev_aug, ev_nm, ev_fz, ev_mv, ev_m1, ev_m2, ev_mInt, ev_mTest, ev_mAnd, ev_mOr, ev_mNot, ev_mAndV, ev_mOrV, ev_args, ev_args0, ev_mLst, ev_mTup, sts_cons, ev_sl00, ev_sl01, ev_sl10, ev_sl11, ev_asg, ev_rt, ev_if, ev_drop, ev_for, ev_it, ev_rg1, ev_rg2, ev_app, ev_put, ev_argb0, ev_argbv, ev_argbb, ev_call, pushAt_0, pushAt_s, putAt_0, putAt_s, lend, back, keep, asg, asgs, lIx_d, lIx_t, lIx_s, lIx_own, lIx_pk, lMul_i, lAdd_s, lAdd_t, lMul_s, D.kind, isK, D.isNon, ev_lc, wipeR_cons, unwipe_cons, noMu_cons]); (repeat (simp -implicitDefEqProofs (disch := omega) only [lenOk_of, mulOk_l, mulOk_r, repOk_of, rgOk_of, powOk_of, divOk_of, modOk_of]; try simp -implicitDefEqProofs [-List.map_map, ev_fn, atI_pos, ev_seq, ev_set, ev_aug, ev_nm, ev_fz, ev_mv, ev_m1, ev_m2, ev_mInt, ev_mTest, ev_mAnd, ev_mOr, ev_mNot, ev_mAndV, ev_mOrV, ev_args, ev_args0, ev_mLst, ev_mTup, sts_cons, ev_sl00, ev_sl01, ev_sl10, ev_sl11, ev_asg, ev_rt, ev_if, ev_drop, ev_for, ev_it, ev_rg1, ev_rg2, ev_app, ev_put, ev_argb0, ev_argbv, ev_argbb, ev_call, pushAt_0, pushAt_s, putAt_0, putAt_s, lend, back, keep, asg, asgs, lIx_d, lIx_t, lIx_s, lIx_own, lIx_pk, lMul_i, lAdd_s, lAdd_t, lMul_s, D.kind, isK, D.isNon, ev_lc, wipeR_cons, unwipe_cons, noMu_cons]))))
local macro_rules | `(tactic| walk_at "evh") => `(tactic| ((try simp -implicitDefEqProofs [*, -List.map_map, ev_fn, atI_pos, ev_seq, ev_set, ev_aug, ev_nm, ev_fz, ev_mv, ev_m1, ev_m2, ev_mInt, ev_mTest, ev_mAnd, ev_mOr, ev_mNot, ev_mAndV, ev_mOrV, ev_args, ev_args0, ev_mLst, ev_mTup, sts_cons, ev_sl00, ev_sl01, ev_sl10, ev_sl11, ev_asg, ev_rt, ev_if, ev_drop, ev_for, ev_it, ev_rg1, ev_rg2, ev_app, ev_put, ev_argb0, ev_argbv, ev_argbb, ev_call, pushAt_0, pushAt_s, putAt_0, putAt_s, lend, back, keep, asg, asgs, lIx_d, lIx_t, lIx_s, lIx_own, lIx_pk, lMul_i, lAdd_s, lAdd_t, lMul_s, D.kind, isK, D.isNon, ev_lc, wipeR_cons, unwipe_cons, noMu_cons]); (repeat (simp -implicitDefEqProofs (disch := omega) only [lenOk_of, mulOk_l, mulOk_r, repOk_of, rgOk_of, powOk_of, divOk_of, modOk_of]; try simp -implicitDefEqProofs [*, -List.map_map, ev_fn, atI_pos, ev_seq, ev_set, ev_aug, ev_nm, ev_fz, ev_mv, ev_m1, ev_m2, ev_mInt, ev_mTest, ev_mAnd, ev_mOr, ev_mNot, ev_mAndV, ev_mOrV, ev_args, ev_args0, ev_mLst, ev_mTup, sts_cons, ev_sl00, ev_sl01, ev_sl10, ev_sl11, ev_asg, ev_rt, ev_if, ev_drop, ev_for, ev_it, ev_rg1, ev_rg2, ev_app, ev_put, ev_argb0, ev_argbv, ev_argbb, ev_call, pushAt_0, pushAt_s, putAt_0, putAt_s, lend, back, keep, asg, asgs, lIx_d, lIx_t, lIx_s, lIx_own, lIx_pk, lMul_i, lAdd_s, lAdd_t, lMul_s, D.kind, isK, D.isNon, ev_lc, wipeR_cons, unwipe_cons, noMu_cons]))))
theorem dr_nat (ds : List Int) (a : Nat) (m : Nat) (hm : 0 < m) : ∃ j : Nat, dr ds a m = j ∧ j < m := by
  have h1 := dr_lo ds a m (by omega)
  have h2 := dr_lt ds a m (by omega)
  exact ⟨(dr ds a m).toNat, by omega, by omega⟩
theorem draw_n (ds : List Int) (a m : Nat) (M : Int) (hM : M = m) (hm : 0 < m) : ∃ j : Nat, j < m ∧ f__law_draw [.mu true (bx ds a), .shr (.int M)] = .ok (.d (.int j)) [.mu true (bx ds (a + 1)), .un] := by
  subst hM
  obtain ⟨j, h1, h2⟩ := dr_nat ds a m hm
  exact ⟨j, h2, by rw [draw ds a m (by omega), h1]⟩
theorem law_run (ds : List Int) (a n : Nat) (chars : List Nat) (hn : n ≤ 1000) (hc : chars ≠ []) (hl : chars.length ≤ 1000) :
    ∃ w : List Nat, f__law_run [.mu true (bx ds a), .shr (.int n), .shr (.str chars)] = .ok (.d (.str w)) [.mu true (bx ds (a + n)), .un, .un] ∧ w.length = n ∧ ∀ c ∈ w, c ∈ chars := by
  have hp : 0 < chars.length := List.length_pos_iff.mpr hc
  obtain ⟨ρ2, e, w, s4, h1, h2, h4, h3⟩ := forGo_run (t := .nm 4) (b := lb__law_run_1) (fun i ρ => ∃ (w : List Nat) (s4 : Slo), w.length = i ∧ (∀ c ∈ w, c ∈ chars) ∧ Jk s4 ∧ ρ = [.mu true (bx ds (a + i)), .shr (.int n), .shr (.str chars), .shr (.str w), s4])
      (xs := (List.range n).map fun (k : Nat) => D.int k) (ρ := [.mu true (bx ds a), .shr (.int n), .shr (.str chars), .shr (.str []), .un]) ⟨[], .un, rfl, (by simp), .un, rfl⟩ fun i x ρ hx hp => by
    obtain ⟨w, s4, h1, h2, h4, rfl⟩ := hp
    have hil : i < n := by simpa using (List.getElem?_eq_some_iff.mp hx).1
    obtain ⟨j, hj, hjl⟩ := dr_nat ds (a + i) chars.length (by omega)
    have hd := draw ds (a + i) chars.length (by omega)
    rw [hj] at hd
    refine ⟨[.mu true (bx ds (a + i)), .shr (.int n), .shr (.str chars), .shr (.str w), .shr x], ?_, [.mu true (bx ds (a + i + 1)), .shr (.int n), .shr (.str chars), .shr (.str (w ++ [chars[j]])), .shr x], .inl ?_, w ++ [chars[j]], .shr x, by simp [h1], ?_, .shr _, rfl⟩
    · walk_at "evh"
    · unfold lb__law_run_1
      have hb : chars[j]? = some chars[j] := List.getElem?_eq_getElem hjl
      have hw : w.length + 1 ≤ 1000000 := by omega
      walk_at "evh"
    · intro c hcm
      rcases List.mem_append.mp hcm with z | z
      · exact h2 c z
      · rw [List.mem_singleton] at z; subst z; exact List.getElem_mem hjl
  refine ⟨w, ?_, by simpa using h1, h2⟩
  have h1 : w.length = n := by simpa using h1
  subst h3
  rw [f__law_run_eq]; unfold b__law_run
  simp only [List.length_map, List.length_range] at e
  walk_at "evh"
/-- data of a depth that the laws' comparison goes through -/
def D.ok : Nat → D → Prop
  | 0, _ => False
  | n + 1, .tup xs => xs.length ≤ 100000 ∧ ∀ y ∈ xs, D.ok n y
  | n + 1, .lst xs => xs.length ≤ 100000 ∧ ∀ y ∈ xs, D.ok n y
  | _ + 1, .obj _ _ _ => False
  | _ + 1, _ => True
theorem same_loop (n : Nat) (x : D) (xs : List D) (hx : x = .tup xs ∨ x = .lst xs) (hl : xs.length ≤ 100000) (ih : ∀ y ∈ xs, k__law_same n [.shr y, .shr y] = .ok (.d (.bl true)) [.un, .un]) :
    ∃ s2, forGo (.nm 2) (lb__law_same_1 (k__law_same n)) ((List.range xs.length).map fun (k : Nat) => D.int k) [.shr x, .shr x, .un] = .nx [.shr x, .shr x, s2] := by
  obtain ⟨ρ2, e, s2, h1, h2⟩ := forGo_run (t := .nm 2) (b := lb__law_same_1 (k__law_same n)) (fun i ρ => ∃ s2, Jk s2 ∧ ρ = [.shr x, .shr x, s2]) (xs := (List.range xs.length).map fun (k : Nat) => D.int k) (ρ := [.shr x, .shr x, .un]) ⟨.un, rfl, rfl⟩ fun i y ρ hy hp => by
    obtain ⟨s2, h1, rfl⟩ := hp
    have hil : i < xs.length := by simpa using (List.getElem?_eq_some_iff.mp hy).1
    have ey : y = .int (i : Nat) := by
      rw [List.getElem?_map, List.getElem?_range hil] at hy
      simpa using hy.symm
    subst ey
    have hi := ih xs[i] (List.getElem_mem hil)
    refine ⟨[.shr x, .shr x, .shr (.int i)], by walk_at "evh", _, .inl ?_, .shr (.int i), rfl, rfl⟩
    unfold lb__law_same_1
    have hg : xs[i]? = some xs[i] := List.getElem?_eq_getElem hil
    rcases hx with rfl | rfl <;> walk_at "evh"
  exact ⟨s2, by rw [e, h2]⟩
theorem same_refl : ∀ (n : Nat) (x : D), D.ok n x → k__law_same n [.shr x, .shr x] = .ok (.d (.bl true)) [.un, .un]
  | 0, x, h => h.elim
  | n + 1, .tup xs, h => by
    obtain ⟨s2, e⟩ := same_loop n (.tup xs) xs (.inl rfl) h.1 fun y hy => same_refl n y (h.2 y hy)
    have hl : xs.length ≤ 100000 := h.1
    unfold k__law_same b__law_same
    walk_at "evh"
  | n + 1, .lst xs, h => by
    obtain ⟨s2, e⟩ := same_loop n (.lst xs) xs (.inr rfl) h.1 fun y hy => same_refl n y (h.2 y hy)
    have hl : xs.length ≤ 100000 := h.1
    unfold k__law_same b__law_same
    walk_at "evh"
  | n + 1, .int i, h => by
    unfold k__law_same b__law_same
    walk_at "evh"
  | n + 1, .bl i, h => by
    unfold k__law_same b__law_same
    walk_at "evh"
  | n + 1, .str i, h => by
    unfold k__law_same b__law_same
    walk_at "evh"
  | n + 1, .non, h => by
    unfold k__law_same b__law_same
    walk_at "evh"
  | n + 1, .obj _ _ _, h => h.elim
end Mw

set_option Elab.async false
set_option linter.all false
set_option maxRecDepth 100000
set_option autoImplicit false
namespace Mw
open PySem PySem.Spec PyProof.Rows L2 Mw
noncomputable section
def lb_law_k46_1 : MS := (mIf (mNot (mTest (mCall f__law_is_number [.v (mCall f__law_integer [.v (fz 0), .v (fz 1)])]))) (mRt (mC (.bl false))) mNx)
def le_law_k46_2 : M := (m2 lMod (m1 lInt1 (nm 13)) (mC (.int 256)))
def lb_law_k46_3 : MS := (mSeq (mSet 4 (mCall f__law_cell [.v (fz 0), .v (fz 1)]))
    (mSeq (mSet 5 (m2 lMul (mLc (mIt (mCall f__law_digits_1dd1 [.v (fz 4), .v (fz 1), .v (m2 lMod (m1 lInt1 (nm 4)) (mC (.int 15)))])) (.nm 13) mYes le_law_k46_2 [13]) (m2 lIx (mLst [(mC (.int 1)), (mC (.int 1)), (mC (.int 12))]) (m2 lMod (m1 lInt1 (m2 lDiv (nm 4) (mC (.int 15)))) (mC (.int 3))))))
    (mSeq (mIf (mTest (m2 lNe (m1 lList (mCall f_record_of [.v (m1 lList (nm 5))])) (mCall f__law_record [.v (fz 5)]))) (mRt (mC (.bl false))) mNx)
    (mSeq (mDrop (mApp 2 (fz 5)))
    (mSet 3 (m2 lAdd (nm 3) (mCall f__law_record [.v (fz 5)])))))))
def lb_law_k46_4 : MS := (mSeq (mSet 7 (mCall f_read_record [.v (m1 lList (nm 3)), .v (fz 6)]))
    (mSeq (mIf (mOr (mTest (m2 lIsN (nm 7) (mC .non))) (mOr (mTest (m2 lNe (m1 lList (m2 lIx (nm 7) (mC (.int 0)))) (nm 5))) (mTest (m2 lNe (m2 lIx (nm 7) (mC (.int 1))) (m2 lAdd (nm 6) (m1 lLen (mCall f__law_record [.v (fz 5)]))))))) (mRt (mC (.bl false))) mNx)
    (mSet 6 (m2 lIx (nm 7) (mC (.int 1))))))
def b_law_k46 : MS := (mSeq (mFor (mRg1 (mC (.int 6))) (.nm 1) lb_law_k46_1)
    (mSeq (mSet 2 (mLst []))
    (mSeq (mSet 3 (mLst []))
    (mSeq (mFor (mRg2 (mC (.int 10)) (m2 lAdd (mC (.int 11)) (m2 lMod (m1 lInt1 (mCall f__law_cell [.v (fz 0), .v (mC (.int 9))])) (mC (.int 4))))) (.nm 1) lb_law_k46_3)
    (mSeq (mSet 6 (mC (.int 0)))
    (mSeq (mFor (mIt (fz 2)) (.nm 5) lb_law_k46_4)
    (mSeq (mSet 8 (mCall f__law_record [.v (m2 lIx (nm 2) (mC (.int 0)))]))
    (mSeq (mSet 9 (m2 lMod (m1 lInt1 (mCall f__law_cell [.v (fz 0), .v (mC (.int 15))])) (m1 lLen (nm 8))))
    (mSeq (mIf (mOr (mTest (m2 lNotN (mCall f_read_record [.v (m1 lList (nm 3)), .v (fz 6)]) (mC .non))) (mTest (m2 lNotN (mCall f_read_record [.v (mSl (nm 8) none (some (nm 9))), .v (mC (.int 0))]) (mC .non)))) (mRt (mC (.bl false))) mNx)
    (mSeq (mSet 10 (m1 lLen (m2 lIx (nm 2) (mC (.int 0)))))
    (mSeq (mIf (mAnd (mTest (m2 lLt (nm 10) (mC (.int 128)))) (mTest (m2 lNotN (mCall f_read_record [.v (m2 lAdd (mLst [(m2 lAdd (m2 lIx (nm 8) (mC (.int 0))) (mC (.int 128))), (mC (.int 0))]) (mSl (nm 8) (some (mC (.int 1))) none)), .v (mC (.int 0))]) (mC .non)))) (mRt (mC (.bl false))) mNx)
    (mSeq (mIf (mTest (m2 lNotN (mCall f_read_record [.v (m2 lAdd (mSl (nm 8) none (some (m1 lNeg (mC (.int 1))))) (mLst [(m2 lAdd (m2 lIx (nm 8) (m1 lNeg (mC (.int 1)))) (mC (.int 128))), (mC (.int 0))])), .v (mC (.int 0))]) (mC .non))) (mRt (mC (.bl false))) mNx)
    (mSeq (mIf (mTest (m2 lGt (nm 10) (mC (.int 0)))) (mSeq (mSet 11 (m1 lLen (mCall f__law_number [.v (fz 10)])))
    (mSeq (mSet 1 (m2 lAdd (nm 11) (m2 lMod (m1 lInt1 (mCall f__law_cell [.v (fz 0), .v (mC (.int 16))])) (nm 10))))
    (mSeq (mSet 12 (m1 lList (nm 8)))
    (mSeq (mPut 12 (nm 1) (m2 lMod (m1 lInt1 (m2 lAdd (m2 lAdd (m2 lIx (nm 12) (nm 1)) (mC (.int 1))) (m2 lMod (m1 lInt1 (mCall f__law_cell [.v (fz 0), .v (mC (.int 17))])) (mC (.int 255))))) (mC (.int 256))))
    (mIf (mTest (m2 lNe (mCall f__law_check [.v (mSl (nm 12) (some (nm 11)) (some (m2 lAdd (nm 11) (nm 10))))]) (mCall f__law_check [.v (m2 lIx (nm 2) (mC (.int 0)))]))) (mRt (m2 lIsN (mCall f_read_record [.v (fz 12), .v (mC (.int 0))]) (mC .non))) mNx))))) mNx)
    (mRt (mC (.bl true))))))))))))))))
def f_law_k46 : Fn := hide (mkFn 14 b_law_k46)
theorem f_law_k46_eq : f_law_k46 = mkFn 14 b_law_k46 := hide_eq _

end
end Mw

set_option Elab.async false
set_option linter.all false
set_option maxRecDepth 100000
set_option autoImplicit false
namespace Mw.K46
open PySem PySem.Spec PyProof.Rows L2 Mw
local macro_rules | `(tactic| walk_at "ev") => `(tactic| ((try simp -implicitDefEqProofs [-List.map_map, ev_fn, atI_pos, ev_seq, ev_set, ev_aug, ev_nm, ev_fz, ev_mv, ev_m1, ev_m2, ev_mInt, ev_mTest, ev_mAnd, ev_mOr, ev_mNot, ev_mAndV, ev_mOrV, ev_args, ev_args0, ev_mLst, ev_mTup, sts_cons, ev_sl00, ev_sl01, ev_sl10, ev_sl11, ev_asg, ev_rt, ev_if, ev_drop, ev_for, ev_it, ev_rg1, ev_rg2, ev_app, ev_put, ev_argb0, ev_argbv, ev_argbb, ev_call, pushAt_0, pushAt_s, putAt_0, putAt_s, lend, back, keep, asg, asgs, lIx_d, lIx_t, lIx_s, lIx_own, lIx_pk, lMul_i, lAdd_s, lAdd_t, lMul_s, D.kind, isK, D.isNon, ev_lc, wipeR_cons, unwipe_cons, noMu_cons]); (repeat (simp -implicitDefEqProofs (disch := omega) only [lenOk_of, mulOk_l, mulOk_r, repOk_of, rgOk_of, powOk_of, divOk_of, modOk_of]; try simp -implicitDefEqProofs [-List.map_map, ev_fn, atI_pos, ev_seq, ev_set, ev_aug, ev_nm, ev_fz, ev_mv, ev_m1, ev_m2, ev_mInt, ev_mTest, ev_mAnd, ev_mOr, ev_mNot, ev_mAndV, ev_mOrV, ev_args, ev_args0, ev_mLst, ev_mTup, sts_cons, ev_sl00, ev_sl01, ev_sl10, ev_sl11, ev_asg, ev_rt, ev_if, ev_drop, ev_for, ev_it, ev_rg1, ev_rg2, ev_app, ev_put, ev_argb0, ev_argbv, ev_argbb, ev_call, pushAt_0, pushAt_s, putAt_0, putAt_s, lend, back, keep, asg, asgs, lIx_d, lIx_t, lIx_s, lIx_own, lIx_pk, lMul_i, lAdd_s, lAdd_t, lMul_s, D.kind, isK, D.isNon, ev_lc, wipeR_cons, unwipe_cons, noMu_cons]))))
local macro_rules | `(tactic| walk_at "evm") => `(tactic| ((try simp -implicitDefEqProofs [*, -List.map_map, -List.map_append, -List.map_take, -List.map_drop, ev_fn, atI_pos, ev_seq, ev_set, ev_aug, ev_nm, ev_fz, ev_mv, ev_m1, ev_m2, ev_mInt, ev_mTest, ev_mAnd, ev_mOr, ev_mNot, ev_mAndV, ev_mOrV, ev_args, ev_args0, ev_mLst, ev_mTup, sts_cons, ev_sl00, ev_sl01, ev_sl10, ev_sl11, ev_asg, ev_rt, ev_if, ev_drop, ev_for, ev_it, ev_rg1, ev_rg2, ev_app, ev_put, ev_argb0, ev_argbv, ev_argbb, ev_call, pushAt_0, pushAt_s, putAt_0, putAt_s, lend, back, keep, asg, asgs, lIx_d, lIx_t, lIx_s, lIx_own, lIx_pk, lMul_i, lAdd_s, lAdd_t, lMul_s, D.kind, isK, D.isNon, ev_lc, wipeR_cons, unwipe_cons, noMu_cons]); (repeat (simp -implicitDefEqProofs (disch := omega) only [lenOk_of, mulOk_l, mulOk_r, repOk_of, rgOk_of, powOk_of, divOk_of, modOk_of]; try simp -implicitDefEqProofs [*, -List.map_map, -List.map_append, -List.map_take, -List.map_drop, ev_fn, atI_pos, ev_seq, ev_set, ev_aug, ev_nm, ev_fz, ev_mv, ev_m1, ev_m2, ev_mInt, ev_mTest, ev_mAnd, ev_mOr, ev_mNot, ev_mAndV, ev_mOrV, ev_args, ev_args0, ev_mLst, ev_mTup, sts_cons, ev_sl00, ev_sl01, ev_sl10, ev_sl11, ev_asg, ev_rt, ev_if, ev_drop, ev_for, ev_it, ev_rg1, ev_rg2, ev_app, ev_put, ev_argb0, ev_argbv, ev_argbb, ev_call, pushAt_0, pushAt_s, putAt_0, putAt_s, lend, back, keep, asg, asgs, lIx_d, lIx_t, lIx_s, lIx_own, lIx_pk, lMul_i, lAdd_s, lAdd_t, lMul_s, D.kind, isK, D.isNon, ev_lc, wipeR_cons, unwipe_cons, noMu_cons]))))
local macro_rules | `(tactic| walk_at "evh") => `(tactic| ((try simp -implicitDefEqProofs [*, -List.map_map, ev_fn, atI_pos, ev_seq, ev_set, ev_aug, ev_nm, ev_fz, ev_mv, ev_m1, ev_m2, ev_mInt, ev_mTest, ev_mAnd, ev_mOr, ev_mNot, ev_mAndV, ev_mOrV, ev_args, ev_args0, ev_mLst, ev_mTup, sts_cons, ev_sl00, ev_sl01, ev_sl10, ev_sl11, ev_asg, ev_rt, ev_if, ev_drop, ev_for, ev_it, ev_rg1, ev_rg2, ev_app, ev_put, ev_argb0, ev_argbv, ev_argbb, ev_call, pushAt_0, pushAt_s, putAt_0, putAt_s, lend, back, keep, asg, asgs, lIx_d, lIx_t, lIx_s, lIx_own, lIx_pk, lMul_i, lAdd_s, lAdd_t, lMul_s, D.kind, isK, D.isNon, ev_lc, wipeR_cons, unwipe_cons, noMu_cons]); (repeat (simp -implicitDefEqProofs (disch := omega) only [lenOk_of, mulOk_l, mulOk_r, repOk_of, rgOk_of, powOk_of, divOk_of, modOk_of]; try simp -implicitDefEqProofs [*, -List.map_map, ev_fn, atI_pos, ev_seq, ev_set, ev_aug, ev_nm, ev_fz, ev_mv, ev_m1, ev_m2, ev_mInt, ev_mTest, ev_mAnd, ev_mOr, ev_mNot, ev_mAndV, ev_mOrV, ev_args, ev_args0, ev_mLst, ev_mTup, sts_cons, ev_sl00, ev_sl01, ev_sl10, ev_sl11, ev_asg, ev_rt, ev_if, ev_drop, ev_for, ev_it, ev_rg1, ev_rg2, ev_app, ev_put, ev_argb0, ev_argbv, ev_argbb, ev_call, pushAt_0, pushAt_s, putAt_0, putAt_s, lend, back, keep, asg, asgs, lIx_d, lIx_t, lIx_s, lIx_own, lIx_pk, lMul_i, lAdd_s, lAdd_t, lMul_s, D.kind, isK, D.isNon, ev_lc, wipeR_cons, unwipe_cons, noMu_cons]))))
/-! ## digits -/
theorem dig_1 (c m : Int) (k s4 s5 : Slo) (ds : List Int) (hl : ds.length ≤ 1000) :
    ∃ (ds' : List Int) (c' : Int), lb__law_digits_1dd1_1 [.shr (.int c), k, .shr (.int m), .mu false (O.l (ds.map .int)), s4, s5] = .nx [.shr (.int c'), k, .shr (.int m), .mu false (O.l (ds'.map .int)), s4, s5] ∧
      (ds'.length ≤ ds.length ∨ ((ds'.length : Int) ≤ m ∧ ds'.length ≤ ds.length + 1)) ∧ ((∀ d ∈ ds, 0 ≤ d ∧ d < 1000) → ∀ d ∈ ds', 0 ≤ d ∧ d < 1000) := by
  unfold lb__law_digits_1dd1_1
  by_cases h : 0 < c
  · by_cases h2 : (ds.length : Int) < m
    · refine ⟨ds ++ [c % 1000], c / 1000, ?_, .inr ⟨by simp; omega, by simp⟩, fun hd d hm => ?_⟩
      · walk_at "evh"
      · rcases List.mem_append.mp hm with z | z
        · exact hd d z
        · rw [List.mem_singleton] at z; subst z; omega
    · refine ⟨ds, c, ?_, .inl (Nat.le_refl _), fun hd => hd⟩
      walk_at "evh"
  · refine ⟨ds, c, ?_, .inl (Nat.le_refl _), fun hd => hd⟩
    walk_at "evh"
theorem dig_2 (c m : Slo) (z : Int) (k : Slo) (j : Nat) (hj : j ≤ 1000) (ds : List Int) (hl : ds.length ≤ 1000) :
    ∃ (ds' : List Int) (z' : Int), lb__law_digits_1dd1_2 [c, k, m, .mu false (O.l (ds.map .int)), .shr (.int j), .shr (.int z)] = .nx [c, k, m, .mu false (O.l (ds'.map .int)), .shr (.int j), .shr (.int z')] ∧
      ds'.length = ds.length + 1 ∧ ((∀ d ∈ ds, 0 ≤ d ∧ d < 1000) → ∀ d ∈ ds', 0 ≤ d ∧ d < 1000) := by
  unfold lb__law_digits_1dd1_2
  refine ⟨ds ++ [((z * 16807 + 7 * j + 1) % 2147483647) / 997 % 1000], (z * 16807 + 7 * j + 1) % 2147483647, ?_, by simp, fun hd d hm => ?_⟩
  · walk_at "evh"
  · rcases List.mem_append.mp hm with z | z
    · exact hd d z
    · rw [List.mem_singleton] at z; subst z; omega
theorem dig_body (c : Int) (k m : Nat) (hk : k ≤ 1000) (hm : m ≤ 100) (s4 s5 : Slo) (h4 : Jk s4) (h5 : Jk s5) : ∃ (ds : List Int) (t0 t4 t5 : Slo),
    (mIf (mTest (m2 lGe (nm 0) (m2 lPow (mC (.int 10)) (mC (.int 18))))) (mFor (mRg1 (mC (.int 60))) (.nm 4) lb__law_digits_1dd1_1) (mSeq (mSet 5 (m2 lMod (m1 lInt1 (m2 lAdd (m2 lAdd (m2 lMul (nm 0) (mC (.int 48271))) (m2 lMul (nm 1) (mC (.int 69621)))) (mC (.int 11)))) (mC (.int 2147483647))))
    (mFor (mRg1 (nm 2)) (.nm 4) lb__law_digits_1dd1_2))) [.shr (.int c), .shr (.int k), .shr (.int m), .mu false (.lst []), s4, s5] = .nx [t0, .shr (.int k), .shr (.int m), .mu false (O.l (ds.map .int)), t4, t5] ∧ ds.length ≤ m ∧ ∀ d ∈ ds, 0 ≤ d ∧ d < 1000 := by
  by_cases h : (1000000000000000000 : Int) ≤ c
  · obtain ⟨ρ2, e, ds, c', t4, h1, h2, h3, h6⟩ := forGo_run (t := .nm 4) (b := lb__law_digits_1dd1_1) (fun i ρ => ∃ (ds : List Int) (c' : Int) (t4 : Slo), ds.length ≤ m ∧ (∀ d ∈ ds, 0 ≤ d ∧ d < 1000) ∧ Jk t4 ∧ ρ = [.shr (.int c'), .shr (.int k), .shr (.int m), .mu false (O.l (ds.map .int)), t4, s5])
      (xs := (List.range 60).map fun (k : Nat) => D.int k) ⟨[], c, s4, by simp, by simp, h4, rfl⟩ fun i x ρ hx hp => by
        obtain ⟨ds, c', t4, h1, h2, h3, rfl⟩ := hp
        obtain ⟨ds2, c2, e2, g1, g2⟩ := dig_1 c' m (.shr (.int k)) (.shr x) s5 ds (by omega)
        refine ⟨[.shr (.int c'), .shr (.int k), .shr (.int m), .mu false (O.l (ds.map .int)), .shr x, s5], ?_, _, .inl e2, ds2, c2, .shr x, ?_, g2 h2, .shr _, rfl⟩
        · walk_at "evh"
        · rcases g1 with g | g
          · omega
          · have := g.1; omega
    subst h6
    refine ⟨ds, .shr (.int c'), t4, s5, ?_, h1, h2⟩
    simp only [O.l, List.map_nil] at e
    walk_at "evh"
  · obtain ⟨ρ2, e, ds, z', t4, h1, h2, h3, h6⟩ := forGo_run (t := .nm 4) (b := lb__law_digits_1dd1_2) (fun i ρ => ∃ (ds : List Int) (z' : Int) (t4 : Slo), ds.length = i ∧ (∀ d ∈ ds, 0 ≤ d ∧ d < 1000) ∧ Jk t4 ∧ ρ = [.shr (.int c), .shr (.int k), .shr (.int m), .mu false (O.l (ds.map .int)), t4, .shr (.int z')])
      (xs := (List.range m).map fun (k : Nat) => D.int k) (ρ := [.shr (.int c), .shr (.int k), .shr (.int m), .mu false (.lst []), s4, .shr (.int ((c * 48271 + k * 69621 + 11) % 2147483647))]) ⟨[], _, s4, by simp, by simp, h4, rfl⟩ fun i x ρ hx hp => by
        obtain ⟨ds, z', t4, h1, h2, h3, rfl⟩ := hp
        have hil : i < m := by simpa using (List.getElem?_eq_some_iff.mp hx).1
        have ex : x = .int (i : Nat) := by
          rw [List.getElem?_map, List.getElem?_range hil] at hx
          simpa using hx.symm
        subst ex
        obtain ⟨ds2, z2, e2, g1, g2⟩ := dig_2 (.shr (.int c)) (.shr (.int m)) z' (.shr (.int k)) i (by omega) ds (by omega)
        refine ⟨[.shr (.int c), .shr (.int k), .shr (.int m), .mu false (O.l (ds.map .int)), .shr (.int i), .shr (.int z')], ?_, _, .inl e2, ds2, z2, .shr _, by omega, g2 h2, .shr _, rfl⟩
        walk_at "evh"
    subst h6
    refine ⟨ds, .shr (.int c), t4, .shr (.int z'), ?_, by simp at h1; omega, h2⟩
    walk_at "evh"
theorem dig (c : Int) (k m : Nat) (hk : k ≤ 1000) (hm : m ≤ 100) : ∃ ds : List Int, f__law_digits_1dd1 [.shr (.int c), .shr (.int k), .shr (.int m)] = .ok (.own (O.l (ds.map .int))) [.un, .un, .un] ∧ ds.length ≤ m ∧ ∀ d ∈ ds, 0 ≤ d ∧ d < 1000 := by
  have key := fun c : Int => dig_body c k m hk hm .un .un rfl rfl
  by_cases h : c < 0
  · obtain ⟨ds, t0, t4, t5, e, h1, h2⟩ := key (-1 - c)
    refine ⟨ds, ?_, h1, h2⟩
    rw [f__law_digits_1dd1_eq, ev_fn]; unfold b__law_digits_1dd1
    rw [sq]
    have a1 : mSet 3 (mLst []) ([Slo.shr (.int c), .shr (.int k), .shr (.int m)] ++ List.replicate (6 - [Slo.shr (.int c), .shr (.int k), .shr (.int m)].length) .un) = .nx [.shr (.int c), .shr (.int k), .shr (.int m), .mu false (.lst []), .un, .un] := by walk_at "evh"
    rw [a1, SRes.thn_nx, sq]
    have a2 : mIf (mTest (m2 lLt (nm 0) (mC (.int 0)))) (mSet 0 (m2 lSub (m1 lNeg (mC (.int 1))) (nm 0))) mNx [.shr (.int c), .shr (.int k), .shr (.int m), .mu false (.lst []), .un, .un] = .nx [.shr (.int (-1 - c)), .shr (.int k), .shr (.int m), .mu false (.lst []), .un, .un] := by walk_at "evh"
    rw [a2, SRes.thn_nx, sq, e]
    walk_at "evh"
  · obtain ⟨ds, t0, t4, t5, e, h1, h2⟩ := key c
    refine ⟨ds, ?_, h1, h2⟩
    rw [f__law_digits_1dd1_eq, ev_fn]; unfold b__law_digits_1dd1
    rw [sq]
    have a1 : mSet 3 (mLst []) ([Slo.shr (.int c), .shr (.int k), .shr (.int m)] ++ List.replicate (6 - [Slo.shr (.int c), .shr (.int k), .shr (.int m)].length) .un) = .nx [.shr (.int c), .shr (.int k), .shr (.int m), .mu false (.lst []), .un, .un] := by walk_at "evh"
    rw [a1, SRes.thn_nx, sq]
    have a2 : mIf (mTest (m2 lLt (nm 0) (mC (.int 0)))) (mSet 0 (m2 lSub (m1 lNeg (mC (.int 1))) (nm 0))) mNx [.shr (.int c), .shr (.int k), .shr (.int m), .mu false (.lst []), .un, .un] = .nx [.shr (.int c), .shr (.int k), .shr (.int m), .mu false (.lst []), .un, .un] := by walk_at "evh"
    rw [a2, SRes.thn_nx, sq, e]
    walk_at "evh"
/-! ## numbers -/
def nbk : Nat → Int → List Int
  | 0, n => [n]
  | k + 1, n => if 128 ≤ n then (128 + n % 128) :: nbk k (n / 128) else [n]
abbrev nb (n : Int) : List Int := nbk 20 n
theorem nbk_succ (k : Nat) (n : Int) : nbk (k + 1) n = if 128 ≤ n then (128 + n % 128) :: nbk k (n / 128) else [n] := rfl
theorem nbk_small {n : Int} (h : n < 128) : ∀ k, nbk k n = [n]
  | 0 => rfl
  | k + 1 => by unfold nbk; rw [if_neg (by omega)]
theorem nbk_len : ∀ (k : Nat) (n : Int), 1 ≤ (nbk k n).length ∧ (nbk k n).length ≤ k + 1
  | 0, n => by simp [nbk]
  | k + 1, n => by
    unfold nbk
    split
    · have := nbk_len k (n / 128); simp; omega
    · simp
theorem pow_div {n : Int} {k : Nat} (h : n < 128 ^ (k + 1)) : n / 128 < 128 ^ k := by
  rw [Int.pow_succ] at h
  exact Int.ediv_lt_of_lt_mul (by omega) h
theorem nbk_bd : ∀ (k : Nat) (n : Int), 0 ≤ n → n < 128 ^ (k + 1) → ∀ b ∈ nbk k n, 0 ≤ b ∧ b < 256
  | 0, n, h0, h, b, hb => by
    simp [nbk] at hb; subst hb
    simp at h; omega
  | k + 1, n, h0, h, b, hb => by
    unfold nbk at hb
    split at hb
    · rcases List.mem_cons.mp hb with rfl | hb
      · omega
      · exact nbk_bd k (n / 128) (by omega) (pow_div h) b hb
    · simp at hb; subst hb; omega
theorem number_bytes (n : Int) (h0 : 0 ≤ n) (h : n < 128 ^ 21) : f_number_bytes [.shr (.int n)] = .ok (.own (O.l ((nb n).map .int))) [.un] := by
  have key := while_run (c := lc_number_bytes_1) (b := lb_number_bytes_2) (fun ρ => ∃ (k : Nat) (ds : List Int) (n' : Int), 0 ≤ n' ∧ n' < 128 ^ (k + 1) ∧ ds ++ nbk k n' = nb n ∧ ds.length + k ≤ 20 ∧ ρ = [.shr (.int n), .mu false (O.l (ds.map .int)), .shr (.int n')])
    (fun ρ => match ρ with | [_, _, .shr (.int n')] => n'.toNat | _ => 0)
    (fun r => ∃ (ds : List Int) (n' : Int), ds ++ [n'] = nb n ∧ ds.length ≤ 20 ∧ r = .nx [.shr (.int n), .mu false (O.l (ds.map .int)), .shr (.int n')]) (fun ρ hp => by
      obtain ⟨k, ds, n', g0, g1, g2, g3, rfl⟩ := hp
      refine ⟨decide (128 ≤ n'), [.shr (.int n), .mu false (O.l (ds.map .int)), .shr (.int n')], true, ?_, fun hf => ?_, fun ht => .inl ⟨[.shr (.int n), .mu false (O.l ((ds ++ [128 + n' % 128]).map .int)), .shr (.int (n' / 128))], .inl ?_, ?_, ?_⟩⟩
      · unfold lc_number_bytes_1; walk_at "evh"
      · have hf := of_decide_eq_false hf
        exact ⟨ds, n', by rw [← g2, nbk_small (by omega)], by omega, rfl⟩
      · have hl : ds.length ≤ 20 := by omega
        unfold lb_number_bytes_2; walk_at "ev"
      · have ht := of_decide_eq_true ht
        cases k with
        | zero => simp at g1; omega
        | succ k =>
          refine ⟨k, ds ++ [128 + n' % 128], n' / 128, by omega, pow_div g1, ?_, by simp; omega, rfl⟩
          rw [← g2]
          conv => rhs; unfold nbk
          rw [if_pos ht]; simp
      · have ht := of_decide_eq_true ht
        show (n' / 128).toNat < n'.toNat
        omega) (by rintro ⟨ds, n', _, _, h⟩; cases h)
    [.shr (.int n), .mu false (.lst []), .shr (.int n)] ⟨20, [], n, h0, h, rfl, by simp, rfl⟩
  obtain ⟨ds, n', e1, e2, e3⟩ := key
  rw [f_number_bytes_eq, ev_fn]; unfold b_number_bytes
  rw [sq]
  have a1 : mSet 1 (mLst []) ([Slo.shr (.int n)] ++ List.replicate (3 - [Slo.shr (.int n)].length) .un) = .nx [.shr (.int n), .mu false (.lst []), .un] := by walk_at "ev"
  rw [a1, SRes.thn_nx, sq]
  have a2 : mSet 2 (fz 0) [.shr (.int n), .mu false (.lst []), .un] = .nx [.shr (.int n), .mu false (.lst []), .shr (.int n)] := by walk_at "ev"
  rw [a2, SRes.thn_nx, sq, e3, SRes.thn_nx]
  walk_at "ev"
  rw [← e1]; simp
theorem law_number (n : Int) : f__law_number [.shr (.int n)] = .ok (.own (O.l ((nb n).map .int))) [.un] := by
  obtain ⟨ρ2, e, ds, n', s2, h1, h2, h3, h4⟩ := forGo_run (t := .nm 2) (b := lb__law_number_1) (fun i ρ => ∃ (ds : List Int) (n' : Int) (s2 : Slo), ds ++ nbk (20 - i) n' = nb n ∧ ds.length ≤ i ∧ Jk s2 ∧ ρ = [.shr (.int n'), .mu false (O.l (ds.map .int)), s2])
      (xs := (List.range 20).map fun (k : Nat) => D.int k) (ρ := [.shr (.int n), .mu false (.lst []), .un]) ⟨[], n, .un, rfl, by simp, rfl, rfl⟩ fun i x ρ hx hp => by
    obtain ⟨ds, n', s2, h1, h2, h3, rfl⟩ := hp
    have hil : i < 20 := by simpa using (List.getElem?_eq_some_iff.mp hx).1
    by_cases h : 128 ≤ n'
    · refine ⟨[.shr (.int n'), .mu false (O.l (ds.map .int)), .shr x], ?_, [.shr (.int (n' / 128)), .mu false (O.l ((ds ++ [n' % 128 + 128]).map .int)), .shr x], .inl ?_, ds ++ [n' % 128 + 128], n' / 128, .shr x, ?_, by simp; omega, rfl, rfl⟩
      · walk_at "evh"
      · unfold lb__law_number_1; walk_at "evh"
      · rw [show 20 - i = (20 - (i + 1)) + 1 by omega] at h1
        rw [nbk_succ, if_pos h] at h1
        rw [← h1, Int.add_comm]; simp
    · refine ⟨[.shr (.int n'), .mu false (O.l (ds.map .int)), .shr x], ?_, [.shr (.int n'), .mu false (O.l (ds.map .int)), .shr x], .inl ?_, ds, n', .shr x, ?_, by omega, rfl, rfl⟩
      · walk_at "evh"
      · unfold lb__law_number_1; walk_at "evh"
      · rw [← h1, nbk_small (by omega), nbk_small (by omega)]
  subst h4
  rw [List.length_map, List.length_range] at h1 h2
  rw [Nat.sub_self] at h1
  have h1 : ds ++ [n'] = nb n := h1
  rw [f__law_number_eq]; unfold b__law_number
  walk_at "evh"
  rw [← h1]; simp
/-! ## reading numbers -/
def rdl : List Int → Int → Int → Nat → Nat → Option (Int × Nat)
  | [], _, _, _, _ => none
  | b :: r, t, sc, k, a => if 128 ≤ b then rdl r (t + (b - 128) * sc) (sc * 128) (k + 1) a else if b = 0 ∧ a < k then none else some (t + b * sc, k + 1)
def rdN (data : List Int) (a : Nat) : Option (Int × Nat) := rdl (data.drop a) 0 1 a a
def optD : Option (Int × Nat) → D
  | none => .non
  | some (t, k) => .tup [.int t, .int k]
theorem read_number (data : List Int) (hb : ∀ b ∈ data, 0 ≤ b ∧ b < 256) (a : Nat) : f_read_number [.shr (.lst (data.map .int)), .shr (.int a)] = .ok (.d (optD (rdN data a))) [.un, .un] := by
  have key := while_run (c := lc_read_number_1) (b := lb_read_number_2) (fun ρ => ∃ (t sc : Int) (k : Nat), rdl (data.drop k) t sc k a = rdN data a ∧ ρ = [.shr (.lst (data.map .int)), .shr (.int a), .shr (.int t), .shr (.int sc), .shr (.int k)])
    (fun ρ => match ρ with | [_, _, _, _, .shr (.int k)] => data.length - k.toNat | _ => 0)
    (fun r => ∃ (t sc : Int) (k : Nat), rdl (data.drop k) t sc k a = rdN data a ∧ (∀ h : k < data.length, data[k] < 128) ∧ r = .nx [.shr (.lst (data.map .int)), .shr (.int a), .shr (.int t), .shr (.int sc), .shr (.int k)]) (fun ρ hp => by
      obtain ⟨t, sc, k, g1, rfl⟩ := hp
      by_cases hl : k < data.length
      · have hg : data[k]? = some data[k] := List.getElem?_eq_getElem hl
        have hd : data.drop k = data[k] :: data.drop (k + 1) := List.drop_eq_getElem_cons hl
        have hbk := hb data[k] (List.getElem_mem hl)
        rw [hd] at g1
        unfold rdl at g1
        obtain ⟨b, eb⟩ : ∃ b, data[k] = b := ⟨_, rfl⟩
        rw [eb] at hg hd hbk g1
        refine ⟨decide (128 ≤ b), [.shr (.lst (data.map .int)), .shr (.int a), .shr (.int t), .shr (.int sc), .shr (.int k)], true, ?_, fun hf => ?_, fun ht => .inl ⟨[.shr (.lst (data.map .int)), .shr (.int a), .shr (.int (t + (b - 128) * sc)), .shr (.int (sc * 128)), .shr (.int ((k : Int) + 1))], .inl ?_, ?_, ?_⟩⟩
        · unfold lc_read_number_1; walk_at "evh"
        · have hf := of_decide_eq_false hf
          refine ⟨t, sc, k, ?_, fun h => ?_, rfl⟩
          · rw [hd]; unfold rdl; exact g1
          · have : data[k]? = some data[k] := List.getElem?_eq_getElem h
            omega
        · unfold lb_read_number_2; walk_at "evh"
        · have ht := of_decide_eq_true ht
          rw [if_pos ht] at g1
          exact ⟨_, _, k + 1, g1, rfl⟩
        · show data.length - ((k : Int) + 1).toNat < data.length - (k : Int).toNat
          omega
      · refine ⟨false, [.shr (.lst (data.map .int)), .shr (.int a), .shr (.int t), .shr (.int sc), .shr (.int k)], true, ?_, fun _ => ⟨t, sc, k, g1, fun h => absurd h hl, rfl⟩, fun z => nomatch z⟩
        unfold lc_read_number_1; walk_at "evh") (by rintro ⟨_, _, _, _, _, h⟩; cases h)
    [.shr (.lst (data.map .int)), .shr (.int a), .shr (.int 0), .shr (.int 1), .shr (.int a)] ⟨0, 1, a, rfl, rfl⟩
  obtain ⟨t, sc, k, e1, e2, e3⟩ := key
  rw [f_read_number_eq, ev_fn]; unfold b_read_number
  rw [sq]
  have a1 : mSet 2 (mC (.int 0)) ([Slo.shr (.lst (data.map .int)), .shr (.int a)] ++ List.replicate (5 - [Slo.shr (.lst (data.map .int)), .shr (.int a)].length) .un) = .nx [.shr (.lst (data.map .int)), .shr (.int a), .shr (.int 0), .un, .un] := by walk_at "ev"
  rw [a1, SRes.thn_nx, sq]
  have a2 : mSet 3 (mC (.int 1)) [.shr (.lst (data.map .int)), .shr (.int a), .shr (.int 0), .un, .un] = .nx [.shr (.lst (data.map .int)), .shr (.int a), .shr (.int 0), .shr (.int 1), .un] := by walk_at "ev"
  rw [a2, SRes.thn_nx, sq]
  have a3 : mSet 4 (fz 1) [.shr (.lst (data.map .int)), .shr (.int a), .shr (.int 0), .shr (.int 1), .un] = .nx [.shr (.lst (data.map .int)), .shr (.int a), .shr (.int 0), .shr (.int 1), .shr (.int a)] := by walk_at "ev"
  rw [a3, SRes.thn_nx, sq, e3, SRes.thn_nx, ← e1]
  by_cases hl : k < data.length
  · have hg : data[k]? = some data[k] := List.getElem?_eq_getElem hl
    have hd : data.drop k = data[k] :: data.drop (k + 1) := List.drop_eq_getElem_cons hl
    have hbk := hb data[k] (List.getElem_mem hl)
    have h2 := e2 hl
    rw [hd]
    unfold rdl
    obtain ⟨b, eb⟩ : ∃ b, data[k] = b := ⟨_, rfl⟩
    rw [eb] at hg hbk h2 ⊢
    have hl' : ¬ data.length ≤ k := by omega
    rw [if_neg (by omega)]
    by_cases hz : b = 0
    · by_cases ha : a < k
      · rw [if_pos ⟨hz, ha⟩]; subst hz
        show _ = FRes.ok (.d .non) _
        walk_at "evh"
      · rw [if_neg fun z => ha z.2]
        show _ = FRes.ok (.d (.tup [.int (t + b * sc), .int ((k + 1 : Nat) : Int)])) _
        walk_at "evh"
    · rw [if_neg fun z => hz z.1]
      show _ = FRes.ok (.d (.tup [.int (t + b * sc), .int ((k + 1 : Nat) : Int)])) _
      walk_at "evh"
  · rw [List.drop_eq_nil_of_le (by omega)]
    have hl' : data.length ≤ k := by omega
    show _ = FRes.ok (.d .non) _
    walk_at "evh"
/-! ## sums -/
def chk (l : List Int) : Int := l.foldl (fun t b => (131 * t + b) % 65521) 5
theorem chk_take (l : List Int) (i : Nat) (h : i < l.length) : chk (l.take (i + 1)) = (131 * chk (l.take i) + l[i]) % 65521 := by
  unfold chk
  rw [List.take_succ_eq_append_getElem h, List.foldl_append]; rfl
theorem check_sum (data : List Int) : f_check_sum [.shr (.lst (data.map .int))] = .ok (.d (.int (chk data))) [.un] := by
  obtain ⟨ρ2, e, s2, h1, h2⟩ := forGo_run (t := .nm 2) (b := lb_check_sum_1) (fun i ρ => ∃ s2 : Slo, Jk s2 ∧ ρ = [.shr (.lst (data.map .int)), .shr (.int (chk (data.take i))), s2])
      (xs := data.map .int) (ρ := [.shr (.lst (data.map .int)), .shr (.int 5), .un]) ⟨.un, rfl, rfl⟩ fun i x ρ hx hp => by
    obtain ⟨s2, h1, rfl⟩ := hp
    have hil : i < data.length := by simpa using (List.getElem?_eq_some_iff.mp hx).1
    have ex : x = .int data[i] := by
      rw [List.getElem?_map, List.getElem?_eq_getElem hil] at hx
      simpa using hx.symm
    subst ex
    refine ⟨[.shr (.lst (data.map .int)), .shr (.int (chk (data.take i))), .shr (.int data[i])], by walk_at "evh", _, .inl ?_, .shr (.int data[i]), rfl, by rw [chk_take data i hil]⟩
    unfold lb_check_sum_1; walk_at "ev"
  subst h2
  rw [List.length_map, List.take_length] at e
  rw [f_check_sum_eq]; unfold b_check_sum
  walk_at "evh"
theorem law_check (data : List Int) : f__law_check [.shr (.lst (data.map .int))] = .ok (.d (.int (chk data))) [.un] := by
  obtain ⟨ρ2, e, s2, h1, h2⟩ := forGo_run (t := .nm 2) (b := lb__law_check_1) (fun i ρ => ∃ s2 : Slo, Jk s2 ∧ ρ = [.shr (.lst (data.map .int)), .shr (.int (chk (data.take i))), s2])
      (xs := data.map .int) (ρ := [.shr (.lst (data.map .int)), .shr (.int 5), .un]) ⟨.un, rfl, rfl⟩ fun i x ρ hx hp => by
    obtain ⟨s2, h1, rfl⟩ := hp
    have hil : i < data.length := by simpa using (List.getElem?_eq_some_iff.mp hx).1
    have ex : x = .int data[i] := by
      rw [List.getElem?_map, List.getElem?_eq_getElem hil] at hx
      simpa using hx.symm
    subst ex
    refine ⟨[.shr (.lst (data.map .int)), .shr (.int (chk (data.take i))), .shr (.int data[i])], by walk_at "evh", _, .inl ?_, .shr (.int data[i]), rfl, by rw [chk_take data i hil]⟩
    unfold lb__law_check_1; walk_at "ev"
  subst h2
  rw [List.length_map, List.take_length] at e
  rw [f__law_check_eq]; unfold b__law_check
  walk_at "evh"
/-! ## records -/
def rec (body : List Int) : List Int := nb body.length ++ body ++ nb (chk body)
theorem chk_bd : ∀ (body : List Int), 0 ≤ chk body ∧ chk body < 65521 ∨ body = [] := fun body => by
  cases h : body.length with
  | zero => exact .inr (List.eq_nil_of_length_eq_zero h)
  | succ n =>
    have := chk_take body n (by omega)
    rw [← h, List.take_length] at this
    left; rw [this]; omega
theorem chk_lt (body : List Int) : 0 ≤ chk body ∧ chk body < 65521 := by
  rcases chk_bd body with h | h
  · exact h
  · subst h; decide
theorem lt21 {n : Int} (h : n < 100000000) : n < 128 ^ 21 := by
  have : (100000000 : Int) < 128 ^ 21 := by decide
  omega
theorem record_of (body : List Int) (hl : body.length ≤ 100000) : f_record_of [.shr (.lst (body.map .int))] = .ok (.own (O.l ((rec body).map .int))) [.un] := by
  have h1 := number_bytes (body.length : Int) (by omega) (lt21 (by omega))
  have h2 := check_sum body
  have h3 := number_bytes (chk body) (chk_lt body).1 (lt21 (by have := (chk_lt body).2; omega))
  have l1 : (nb (body.length : Int)).length ≤ 21 := (nbk_len 20 _).2
  have l2 : (nb (chk body)).length ≤ 21 := (nbk_len 20 _).2
  rw [f_record_of_eq]; unfold b_record_of rec
  walk_at "evm"
  simp
theorem law_record (body : List Int) (hl : body.length ≤ 100000) : f__law_record [.shr (.lst (body.map .int))] = .ok (.own (O.l ((rec body).map .int))) [.un] := by
  have h1 := law_number (body.length : Int)
  have h2 := law_check body
  have h3 := law_number (chk body)
  have l1 : (nb (body.length : Int)).length ≤ 21 := (nbk_len 20 _).2
  have l2 : (nb (chk body)).length ≤ 21 := (nbk_len 20 _).2
  rw [f__law_record_eq]; unfold b__law_record rec
  walk_at "evm"
  simp
theorem cut_ints (data : List Int) (a n : Nat) (h : a + n ≤ data.length) : cutA (data.map D.int) (some (a : Int)) (some ((a : Int) + (n : Int))) = ((data.drop a).take n).map D.int := by
  rw [show (a : Int) + (n : Int) = ((a + n : Nat) : Int) by omega]
  unfold cutA
  rw [show HT.sIx (data.map D.int).length 0 (some (a : Int)) = a by rw [HT.sIx_nat, List.length_map]; omega, show HT.sIx (data.map D.int).length (data.map D.int).length (some ((a + n : Nat) : Int)) = a + n by rw [HT.sIx_nat, List.length_map]; omega]
  rw [show a + n - a = n by omega, List.map_take, List.map_drop]
theorem rr_none1 (data : List Int) (hb : ∀ b ∈ data, 0 ≤ b ∧ b < 256) (a : Nat) (h : rdN data a = none) : f_read_record [.shr (.lst (data.map .int)), .shr (.int a)] = .ok (.d .non) [.un, .un] := by
  have h1 := read_number data hb a
  rw [h] at h1
  simp only [optD] at h1
  rw [f_read_record_eq]; unfold b_read_record
  walk_at "evm"
theorem rr_none2 (data : List Int) (hb : ∀ b ∈ data, 0 ≤ b ∧ b < 256) (a p n : Nat) (h : rdN data a = some ((n : Int), p)) (hp : data.length < p + n) : f_read_record [.shr (.lst (data.map .int)), .shr (.int a)] = .ok (.d .non) [.un, .un] := by
  have h1 := read_number data hb a
  rw [h] at h1
  simp only [optD] at h1
  have hp' : (data.length : Int) < (p : Int) + n := by omega
  rw [f_read_record_eq]; unfold b_read_record
  walk_at "evm"
theorem rr_none3 (data : List Int) (hb : ∀ b ∈ data, 0 ≤ b ∧ b < 256) (a p n : Nat) (h : rdN data a = some ((n : Int), p)) (hp : p + n ≤ data.length) (h2 : rdN data (p + n) = none) : f_read_record [.shr (.lst (data.map .int)), .shr (.int a)] = .ok (.d .non) [.un, .un] := by
  have h1 := read_number data hb a
  rw [h] at h1
  simp only [optD] at h1
  have g1 := read_number data hb (p + n)
  rw [Int.natCast_add] at g1
  rw [h2] at g1
  simp only [optD] at g1
  have hp' : ¬ (data.length : Int) < (p : Int) + n := by omega
  have hc := cut_ints data p n hp
  rw [f_read_record_eq]; unfold b_read_record
  walk_at "evm"
theorem rr_none4 (data : List Int) (hb : ∀ b ∈ data, 0 ≤ b ∧ b < 256) (a p n q : Nat) (c : Int) (h : rdN data a = some ((n : Int), p)) (hp : p + n ≤ data.length) (h2 : rdN data (p + n) = some (c, q)) (h3 : c ≠ chk ((data.drop p).take n)) : f_read_record [.shr (.lst (data.map .int)), .shr (.int a)] = .ok (.d .non) [.un, .un] := by
  have h1 := read_number data hb a
  rw [h] at h1
  simp only [optD] at h1
  have g1 := read_number data hb (p + n)
  rw [Int.natCast_add] at g1
  rw [h2] at g1
  simp only [optD] at g1
  have hp' : ¬ (data.length : Int) < (p : Int) + n := by omega
  have hc := cut_ints data p n hp
  have g2 := check_sum ((data.drop p).take n)
  rw [f_read_record_eq]; unfold b_read_record
  walk_at "evm"
theorem rr_some (data : List Int) (hb : ∀ b ∈ data, 0 ≤ b ∧ b < 256) (a p n q : Nat) (h : rdN data a = some ((n : Int), p)) (hp : p + n ≤ data.length) (h2 : rdN data (p + n) = some (chk ((data.drop p).take n), q)) :
    f_read_record [.shr (.lst (data.map .int)), .shr (.int a)] = .ok (.d (.tup [.lst (((data.drop p).take n).map .int), .int q])) [.un, .un] := by
  have h1 := read_number data hb a
  rw [h] at h1
  simp only [optD] at h1
  have g1 := read_number data hb (p + n)
  rw [Int.natCast_add] at g1
  rw [h2] at g1
  simp only [optD] at g1
  have hp' : ¬ (data.length : Int) < (p : Int) + n := by omega
  have hc := cut_ints data p n hp
  have g2 := check_sum ((data.drop p).take n)
  rw [f_read_record_eq]; unfold b_read_record
  walk_at "evm"
/-! ## reading what was written -/
theorem rdl_nbk : ∀ (k : Nat) (n : Int) (post : List Int) (t sc : Int) (K a : Nat), 0 ≤ n → n < 128 ^ (k + 1) → ¬ (n = 0 ∧ a < K) → rdl (nbk k n ++ post) t sc K a = some (t + n * sc, K + (nbk k n).length)
  | 0, n, post, t, sc, K, a, h0, h1, h2 => by
    have h1 : n < 128 := by simpa using h1
    show rdl (n :: post) t sc K a = _
    unfold rdl
    rw [if_neg (by omega), if_neg h2]; rfl
  | k + 1, n, post, t, sc, K, a, h0, h1, h2 => by
    rw [nbk_succ]
    split
    · next h =>
      rw [List.cons_append]
      unfold rdl
      rw [if_pos (by omega), rdl_nbk k (n / 128) post _ _ _ _ (by omega) (pow_div h1) (by omega)]
      have e : t + (128 + n % 128 - 128) * sc + n / 128 * (sc * 128) = t + n * sc := by
        have e1 : n * sc = (128 * (n / 128) + n % 128) * sc := by rw [Int.mul_ediv_add_emod]
        rw [e1, Int.add_mul, Int.mul_comm sc 128, ← Int.mul_assoc, Int.mul_comm (n / 128) 128]
        have : 128 + n % 128 - 128 = n % 128 := by omega
        rw [this]; omega
      rw [e, List.length_cons]
      congr 2; omega
    · next h =>
      show rdl (n :: post) t sc K a = _
      unfold rdl
      rw [if_neg h, if_neg h2]; rfl
theorem nbk_split : ∀ (k : Nat) (n : Int), 0 ≤ n → n < 128 ^ (k + 1) → ∃ (ini : List Int) (l : Int), nbk k n = ini ++ [l] ∧ (∀ b ∈ ini, 128 ≤ b ∧ b < 256) ∧ 0 ≤ l ∧ l < 128
  | 0, n, h0, h1 => ⟨[], n, rfl, (fun b hb => nomatch hb), h0, by simpa using h1⟩
  | k + 1, n, h0, h1 => by
    rw [nbk_succ]
    split
    · obtain ⟨ini, l, e, h2, h3⟩ := nbk_split k (n / 128) (by omega) (pow_div h1)
      refine ⟨(128 + n % 128) :: ini, l, by rw [e]; rfl, fun b hb => ?_, h3⟩
      rcases List.mem_cons.mp hb with rfl | hb
      · omega
      · exact h2 b hb
    · exact ⟨[], n, rfl, (fun b hb => nomatch hb), h0, by omega⟩
theorem rdl_all : ∀ (xs : List Int) (t sc : Int) (K a : Nat), (∀ b ∈ xs, 128 ≤ b) → rdl xs t sc K a = none
  | [], _, _, _, _, _ => rfl
  | b :: xs, t, sc, K, a, h => by
    unfold rdl
    rw [if_pos (h b List.mem_cons_self)]
    exact rdl_all xs _ _ _ _ fun c hc => h c (List.mem_cons_of_mem _ hc)
theorem rdl_all0 : ∀ (xs r : List Int) (t sc : Int) (K a : Nat), (∀ b ∈ xs, 128 ≤ b) → a ≤ K → (xs ≠ [] ∨ a < K) → rdl (xs ++ 0 :: r) t sc K a = none
  | [], r, t, sc, K, a, _, _, h => by
    have h : a < K := h.resolve_left fun z => z rfl
    show rdl (0 :: r) t sc K a = none
    unfold rdl
    rw [if_neg (by decide), if_pos ⟨rfl, h⟩]
  | b :: xs, r, t, sc, K, a, h, h1, h2 => by
    rw [List.cons_append]
    unfold rdl
    rw [if_pos (h b List.mem_cons_self)]
    exact rdl_all0 xs r _ _ _ _ (fun c hc => h c (List.mem_cons_of_mem _ hc)) (by omega) (.inr (by omega))
theorem rdN_at (pre rest : List Int) {a : Nat} (h : a = pre.length) : rdN (pre ++ rest) a = rdl rest 0 1 a a := by
  subst h; unfold rdN; rw [List.drop_left]
theorem rdN_nb (pre post : List Int) (n : Int) {a : Nat} (h : a = pre.length) (h0 : 0 ≤ n) (h1 : n < 128 ^ 21) : rdN (pre ++ (nb n ++ post)) a = some (n, a + (nb n).length) := by
  rw [rdN_at pre _ h, rdl_nbk 20 n post 0 1 a a h0 h1 (by omega)]
  congr 2; omega
/-! ## _law_is_number -/
theorem cut_m1 (ini : List D) (l : D) : cutA (ini ++ [l]) none (some (-1)) = ini := by
  unfold cutA
  have e1 : HT.sIx (ini ++ [l]).length 0 none = 0 := rfl
  have e2 : HT.sIx (ini ++ [l]).length (ini ++ [l]).length (some (-1)) = ini.length := by
    unfold HT.sIx; simp; omega
  rw [e1, e2]; simp
theorem is_number (n : Int) (h0 : 0 ≤ n) (h1 : n < 128 ^ 21) : f__law_is_number [.shr (.int n)] = .ok (.d (.bl true)) [.un] := by
  have a1 := law_number n
  have a2 := number_bytes n h0 h1
  obtain ⟨ini, l, e, hb, hl⟩ := nbk_split 20 n h0 h1
  have e : nb n = ini ++ [l] := e
  have hlen : (nb n).length ≤ 21 := (nbk_len 20 n).2
  have hil : ini.length ≤ 20 := by rw [e] at hlen; simpa using hlen
  have r1 := rdN_nb [9, 9] [7] n (a := 2) rfl h0 h1
  have r2 : rdN ini 0 = none := by rw [show ini = [] ++ ini from rfl, rdN_at [] ini (a := 0) rfl]; exact rdl_all ini _ _ _ _ fun b hm => (hb b hm).1
  have r3 : rdN (ini ++ [l + 128, 0]) 0 = none := by
    rw [show ini ++ [l + 128, 0] = [] ++ ((ini ++ [l + 128]) ++ 0 :: []) by simp, rdN_at [] _ (a := 0) rfl]
    refine rdl_all0 _ _ _ _ _ _ (fun b hm => ?_) (Nat.le_refl _) (.inl (by simp))
    rcases List.mem_append.mp hm with z | z
    · exact (hb b z).1
    · rw [List.mem_singleton] at z; omega
  have b1 := read_number ([9, 9] ++ (nb n ++ [7])) (fun b hm => by
    rcases List.mem_append.mp hm with z | z
    · simp at z; omega
    · rcases List.mem_append.mp z with z | z
      · exact nbk_bd 20 n h0 h1 b z
      · simp at z; omega) 2
  rw [r1] at b1
  have b2 := read_number ini (fun b hm => by have := hb b hm; omega) 0
  rw [r2] at b2
  have b3 := read_number (ini ++ [l + 128, 0]) (fun b hm => by
    rcases List.mem_append.mp hm with z | z
    · have := hb b z; omega
    · simp at z; omega) 0
  rw [r3] at b3
  simp only [optD] at b1 b2 b3
  rw [e] at a1 a2 b1
  have c1 : cutA ((ini ++ [l]).map D.int) none (some (-1)) = ini.map D.int := by rw [List.map_append]; exact cut_m1 _ _
  have b1' : f_read_number [.shr (.lst (.int 9 :: .int 9 :: ((ini ++ [l]).map D.int ++ [.int 7]))), .shr (.int 2)] = .ok (.d (.tup [.int n, .int (2 + ((ini.length : Int) + 1))])) [.un, .un] := by
    have e1 : (((2 + (ini ++ [l]).length : Nat) : Int)) = 2 + ((ini.length : Int) + 1) := by simp
    rw [e1] at b1
    simpa using b1
  have b2' : f_read_number [.shr (.lst (ini.map D.int)), .shr (.int 0)] = .ok (.d .non) [.un, .un] := b2
  have b3' : f_read_number [.shr (.lst (ini.map D.int ++ [.int (l + 128), .int 0])), .shr (.int 0)] = .ok (.d .non) [.un, .un] := by simpa using b3
  clear b1 b2 b3 r1 r2 r3 hlen e hb hl h1 h0
  rw [f__law_is_number_eq]; unfold b__law_is_number
  walk_at "evm"
theorem integer (ns : List Int) (k : Nat) (hk : k ≤ 1000) : ∃ n : Int, 0 ≤ n ∧ n < 128 ^ 21 ∧ f__law_integer [.shr (.lst (ns.map .int)), .shr (.int k)] = .ok (.d (.int n)) [.un, .un] := by
  have c0 := cell ns k
  generalize ns.getD k 0 = c at c0
  obtain ⟨ds, h1, h2, h3⟩ := dig c k (c % 9).toNat hk (by omega)
  rw [show (((c % 9).toNat : Nat) : Int) = c % 9 by omega] at h1
  obtain ⟨ρ2, e, n, s3, g1, g2, g3, g4⟩ := forGo_run (t := .nm 3) (b := lb__law_integer_1) (fun i ρ => ∃ (n : Int) (s3 : Slo), 0 ≤ n ∧ n < 1000 ^ i ∧ Jk s3 ∧ ρ = [.shr (.lst (ns.map .int)), .shr (.int k), .shr (.int n), s3])
      (xs := ds.map .int) (ρ := [.shr (.lst (ns.map .int)), .shr (.int k), .shr (.int 0), .un]) ⟨0, .un, by omega, by simp, rfl, rfl⟩ fun i x ρ hx hp => by
    obtain ⟨n, s3, g1, g2, g3, rfl⟩ := hp
    have hil : i < ds.length := by simpa using (List.getElem?_eq_some_iff.mp hx).1
    have ex : x = .int ds[i] := by
      rw [List.getElem?_map, List.getElem?_eq_getElem hil] at hx
      simpa using hx.symm
    subst ex
    have hd := h3 ds[i] (List.getElem_mem hil)
    refine ⟨[.shr (.lst (ns.map .int)), .shr (.int k), .shr (.int n), .shr (.int ds[i])], by have q : s3.bor = false := g3; clear c0 h1; walk_at "evh", [.shr (.lst (ns.map .int)), .shr (.int k), .shr (.int (n * 1000 + ds[i])), .shr (.int ds[i])], .inl ?_, n * 1000 + ds[i], .shr (.int ds[i]), by omega, ?_, rfl, rfl⟩
    · unfold lb__law_integer_1; walk_at "ev"
    · rw [Int.pow_succ]; omega
  subst g4
  rw [List.length_map] at g2
  have g2 : n < 1000000000000000000000000 := by
    have : ds.length = 0 ∨ ds.length = 1 ∨ ds.length = 2 ∨ ds.length = 3 ∨ ds.length = 4 ∨ ds.length = 5 ∨ ds.length = 6 ∨ ds.length = 7 ∨ ds.length = 8 := by omega
    rcases this with h | h | h | h | h | h | h | h | h <;> rw [h] at g2 <;> simp at g2 <;> omega
  have b21 : (1000000000000000000000000 + 1000000000 : Int) < 128 ^ 21 := by decide
  have key : ∀ o : Int, 0 ≤ o → o ≤ 268435456 → (m2 lIx (mLst [(mC (.int 0)), (mC (.int 128)), (mC (.int 16384)), (mC (.int 2097152)), (mC (.int 268435456))]) (m2 lMod (m1 lInt1 (m2 lDiv (mCall f__law_cell [.v (fz 0), .v (fz 1)]) (mC (.int 9)))) (mC (.int 5)))) [.shr (.lst (ns.map .int)), .shr (.int k), .shr (.int n), s3] = .ok (.d (.int o)) [.shr (.lst (ns.map .int)), .shr (.int k), .shr (.int n), s3] true →
      ∃ n : Int, 0 ≤ n ∧ n < 128 ^ 21 ∧ f__law_integer [.shr (.lst (ns.map .int)), .shr (.int k)] = .ok (.d (.int n)) [.un, .un] := by
    intro o ho1 ho2 he
    refine ⟨n + o - (if 0 < n then 1 else 0), by split <;> omega, by split <;> omega, ?_⟩
    rw [f__law_integer_eq, ev_fn]; unfold b__law_integer
    rw [sq]
    have a1 : mSet 2 (mC (.int 0)) ([Slo.shr (.lst (ns.map .int)), .shr (.int k)] ++ List.replicate (4 - [Slo.shr (.lst (ns.map .int)), .shr (.int k)].length) .un) = .nx [.shr (.lst (ns.map .int)), .shr (.int k), .shr (.int 0), .un] := by walk_at "ev"
    rw [a1, SRes.thn_nx, sq]
    have a2 : mFor (mIt (mCall f__law_digits_1dd1 [.v (mCall f__law_cell [.v (fz 0), .v (fz 1)]), .v (fz 1), .v (m2 lMod (m1 lInt1 (mCall f__law_cell [.v (fz 0), .v (fz 1)])) (mC (.int 9)))])) (.nm 3) lb__law_integer_1 [.shr (.lst (ns.map .int)), .shr (.int k), .shr (.int 0), .un] = .nx [.shr (.lst (ns.map .int)), .shr (.int k), .shr (.int n), s3] := by
      clear he
      walk_at "evh"
    rw [a2, SRes.thn_nx, ev_rt, ev_m2, ev_m2]
    have a3 : nm 2 [.shr (.lst (ns.map .int)), .shr (.int k), .shr (.int n), s3] = .ok (.d (.int n)) [.shr (.lst (ns.map .int)), .shr (.int k), .shr (.int n), s3] true := rfl
    rw [a3]
    simp only [Res.bind_ok]
    rw [he]
    clear he a2 a1 e h1 c0
    by_cases hn : 0 < n <;> walk_at "evh"
  have : c / 9 % 5 = 0 ∨ c / 9 % 5 = 1 ∨ c / 9 % 5 = 2 ∨ c / 9 % 5 = 3 ∨ c / 9 % 5 = 4 := by omega
  clear h1 e
  rcases this with h | h | h | h | h
  · exact key 0 (by omega) (by omega) (by clear key; walk_at "evh")
  · exact key 128 (by omega) (by omega) (by clear key; walk_at "evh")
  · exact key 16384 (by omega) (by omega) (by clear key; walk_at "evh")
  · exact key 2097152 (by omega) (by omega) (by clear key; walk_at "evh")
  · exact key 268435456 (by omega) (by omega) (by clear key; walk_at "evh")
/-! ## records in data -/
structure Okb (b : List Int) : Prop where
  len : b.length ≤ 168
  bd : ∀ x ∈ b, 0 ≤ x ∧ x < 256
theorem Okb.n0 {b : List Int} (h : Okb b) : (0 : Int) ≤ b.length ∧ (b.length : Int) < 128 ^ 21 := ⟨by omega, lt21 (by have := h.len; omega)⟩
theorem chk21 (b : List Int) : 0 ≤ chk b ∧ chk b < 128 ^ 21 := ⟨(chk_lt b).1, lt21 (by have := (chk_lt b).2; omega)⟩
theorem nbl (n : Int) : 1 ≤ (nb n).length ∧ (nb n).length ≤ 21 := nbk_len 20 n
theorem rec_len {b : List Int} (h : Okb b) : 1 ≤ (rec b).length ∧ (rec b).length ≤ 210 := by
  unfold rec
  have := nbl (b.length : Int)
  have := nbl (chk b)
  have := h.len
  simp only [List.length_append]; omega
theorem nb_bd {n : Int} (h0 : 0 ≤ n) (h1 : n < 128 ^ 21) : ∀ x ∈ nb n, 0 ≤ x ∧ x < 256 := nbk_bd 20 n h0 h1
theorem rec_bd {b : List Int} (h : Okb b) : ∀ x ∈ rec b, 0 ≤ x ∧ x < 256 := by
  intro x hx
  unfold rec at hx
  rcases List.mem_append.mp hx with hx | hx
  · rcases List.mem_append.mp hx with hx | hx
    · exact nb_bd h.n0.1 h.n0.2 x hx
    · exact h.bd x hx
  · exact nb_bd (chk21 b).1 (chk21 b).2 x hx
theorem cut_mid (pre b post : List Int) {p : Nat} (h : p = pre.length) : ((pre ++ (b ++ post)).drop p).take b.length = b := by
  subst h; rw [List.drop_left, List.take_left]
theorem rr_at (pre post b : List Int) (hb : Okb b) (h1 : ∀ x ∈ pre, 0 ≤ x ∧ x < 256) (h2 : ∀ x ∈ post, 0 ≤ x ∧ x < 256) :
    f_read_record [.shr (.lst ((pre ++ (rec b ++ post)).map .int)), .shr (.int (pre.length : Nat))] = .ok (.d (.tup [.lst (b.map .int), .int ((pre.length : Int) + ((rec b).length : Int))])) [.un, .un] := by
  have e1 : pre ++ (rec b ++ post) = pre ++ (nb b.length ++ (b ++ (nb (chk b) ++ post))) := by unfold rec; simp
  have e2 : pre ++ (rec b ++ post) = (pre ++ nb b.length) ++ (b ++ (nb (chk b) ++ post)) := by unfold rec; simp
  have e3 : pre ++ (rec b ++ post) = (pre ++ nb b.length ++ b) ++ (nb (chk b) ++ post) := by unfold rec; simp
  have r1 := rdN_nb pre (b ++ (nb (chk b) ++ post)) b.length rfl hb.n0.1 hb.n0.2
  rw [← e1] at r1
  have r2 := rdN_nb (pre ++ nb b.length ++ b) post (chk b) (a := pre.length + (nb b.length).length + b.length) (by simp; omega) (chk21 b).1 (chk21 b).2
  rw [← e3] at r2
  have r3 := cut_mid (pre ++ nb b.length) b (nb (chk b) ++ post) (p := pre.length + (nb b.length).length) (by simp)
  rw [← e2] at r3
  have := rr_some (pre ++ (rec b ++ post)) (fun x hx => by
    rcases List.mem_append.mp hx with z | z
    · exact h1 x z
    · rcases List.mem_append.mp z with z | z
      · exact rec_bd hb x z
      · exact h2 x z) pre.length (pre.length + (nb b.length).length) b.length (pre.length + (nb b.length).length + b.length + (nb (chk b)).length) r1 (by rw [e3]; simp; omega) (by rw [r3]; exact r2)
  rw [this, r3]
  have : ((pre.length + (nb b.length).length + b.length + (nb (chk b)).length : Nat) : Int) = (pre.length : Int) + ((rec b).length : Int) := by unfold rec; simp only [List.length_append]; omega
  rw [this]
theorem take_all {xs : List Int} {P : Int → Prop} (h : ∀ x ∈ xs, P x) (n : Nat) : ∀ x ∈ xs.take n, P x := fun x hx => h x (List.mem_of_mem_take hx)
theorem rr_cut (b : List Int) (hb : Okb b) (k : Nat) (hk : k < (rec b).length) : f_read_record [.shr (.lst (((rec b).take k).map .int)), .shr (.int (0 : Nat))] = .ok (.d .non) [.un, .un] := by
  have bd := take_all (rec_bd hb) k
  obtain ⟨i1, l1, s1, a1, _⟩ := nbk_split 20 (b.length : Int) hb.n0.1 hb.n0.2
  have s1 : nb (b.length : Int) = i1 ++ [l1] := s1
  obtain ⟨i2, l2, s2, a2, _⟩ := nbk_split 20 (chk b) (chk21 b).1 (chk21 b).2
  have s2 : nb (chk b) = i2 ++ [l2] := s2
  by_cases h1 : k < (nb (b.length : Int)).length
  · have e : (rec b).take k = i1.take k := by
      unfold rec
      rw [List.append_assoc, List.take_append_of_le_length (by omega), s1, List.take_append_of_le_length (by rw [s1] at h1; simp at h1; omega)]
    refine rr_none1 _ bd 0 ?_
    rw [e, show i1.take k = [] ++ i1.take k from rfl, rdN_at [] _ (a := 0) rfl]
    exact rdl_all _ _ _ _ _ (take_all (fun x hx => (a1 x hx).1) k)
  · have hl : (rec b).length = (nb (b.length : Int)).length + b.length + (nb (chk b)).length := by unfold rec; simp only [List.length_append]
    have e : (rec b).take k = [] ++ (nb b.length ++ (b ++ nb (chk b)).take (k - (nb (b.length : Int)).length)) := by
      unfold rec
      rw [List.append_assoc, List.take_append, List.take_of_length_le (by omega)]; rfl
    have r1 := rdN_nb [] ((b ++ nb (chk b)).take (k - (nb (b.length : Int)).length)) b.length (a := 0) rfl hb.n0.1 hb.n0.2
    rw [← e, Nat.zero_add] at r1
    have hlen : ((rec b).take k).length = k := by rw [List.length_take]; omega
    by_cases h2 : k < (nb (b.length : Int)).length + b.length
    · exact rr_none2 _ bd 0 _ b.length r1 (by rw [hlen]; exact h2)
    · refine rr_none3 _ bd 0 _ b.length r1 (by rw [hlen]; omega) ?_
      have e2 : (rec b).take k = (nb b.length ++ b) ++ i2.take (k - (nb (b.length : Int)).length - b.length) := by
        rw [e, List.take_append, List.take_of_length_le (l := b) (by omega), s2, List.take_append_of_le_length (by rw [s2] at hl; simp at hl; omega)]
        simp
      rw [e2, rdN_at _ _ (by simp)]
      exact rdl_all _ _ _ _ _ (take_all (fun x hx => (a2 x hx).1) _)
theorem rr_long (z : Int) (rest : List Int) (h0 : 0 ≤ z) (h1 : z < 128) (h2 : ∀ x ∈ rest, 0 ≤ x ∧ x < 256) : f_read_record [.shr (.lst (((z + 128) :: 0 :: rest).map .int)), .shr (.int (0 : Nat))] = .ok (.d .non) [.un, .un] := by
  refine rr_none1 _ (fun x hx => ?_) 0 ?_
  · rcases List.mem_cons.mp hx with rfl | hx
    · omega
    · rcases List.mem_cons.mp hx with rfl | hx
      · omega
      · exact h2 x hx
  · rw [show (z + 128) :: 0 :: rest = [] ++ ([z + 128] ++ 0 :: rest) from rfl, rdN_at [] _ (a := 0) rfl]
    exact rdl_all0 _ _ _ _ _ _ (fun x hx => by rw [List.mem_singleton] at hx; omega) (Nat.le_refl _) (.inl (by simp))
theorem rec_split (b : List Int) (hb : Okb b) : ∃ (ini : List Int) (l : Int), rec b = ini ++ [l] ∧ 0 ≤ l ∧ l < 128 ∧ f_read_record [.shr (.lst ((ini ++ [l + 128, 0]).map .int)), .shr (.int (0 : Nat))] = .ok (.d .non) [.un, .un] := by
  obtain ⟨i2, l2, s2, a2, b2⟩ := nbk_split 20 (chk b) (chk21 b).1 (chk21 b).2
  have s2 : nb (chk b) = i2 ++ [l2] := s2
  refine ⟨nb b.length ++ b ++ i2, l2, by unfold rec; rw [s2]; simp, b2.1, b2.2, ?_⟩
  have e1 : nb b.length ++ b ++ i2 ++ [l2 + 128, 0] = [] ++ (nb b.length ++ (b ++ i2 ++ [l2 + 128, 0])) := by simp
  have e2 : nb b.length ++ b ++ i2 ++ [l2 + 128, 0] = (nb b.length ++ b) ++ ((i2 ++ [l2 + 128]) ++ 0 :: []) := by simp
  have r1 := rdN_nb [] (b ++ i2 ++ [l2 + 128, 0]) b.length (a := 0) rfl hb.n0.1 hb.n0.2
  rw [← e1, Nat.zero_add] at r1
  refine rr_none3 _ (fun x hx => ?_) 0 _ b.length r1 (by simp <;> omega) ?_
  · rcases List.mem_append.mp hx with hx | hx
    · rcases List.mem_append.mp hx with hx | hx
      · rcases List.mem_append.mp hx with hx | hx
        · exact nb_bd hb.n0.1 hb.n0.2 x hx
        · exact hb.bd x hx
      · have := a2 x hx; omega
    · simp at hx; omega
  · rw [e2, rdN_at _ _ (by simp)]
    refine rdl_all0 _ _ _ _ _ _ (fun x hx => ?_) (Nat.le_refl _) (.inl (by simp))
    rcases List.mem_append.mp hx with z | z
    · exact (a2 x z).1
    · rw [List.mem_singleton] at z; omega
theorem rr_chg (b b' : List Int) (hb : Okb b) (hb' : Okb b') (hl : b'.length = b.length) (hc : chk b' ≠ chk b) : f_read_record [.shr (.lst ((nb b.length ++ (b' ++ nb (chk b))).map .int)), .shr (.int (0 : Nat))] = .ok (.d .non) [.un, .un] := by
  have r1 := rdN_nb [] (b' ++ nb (chk b)) b.length (a := 0) rfl hb.n0.1 hb.n0.2
  rw [Nat.zero_add] at r1
  have r2 := rdN_nb (nb b.length ++ b') [] (chk b) (a := (nb b.length).length + b.length) (by simp [hl]) (chk21 b).1 (chk21 b).2
  rw [List.append_nil, List.append_assoc] at r2
  have r3 := cut_mid (nb b.length) b' (nb (chk b)) (p := (nb b.length).length) rfl
  rw [hl] at r3
  refine rr_none4 _ (fun x hx => ?_) 0 _ b.length _ (chk b) r1 (by simp [hl]) r2 (by rw [r3]; exact fun z => hc z.symm)
  rcases List.mem_append.mp hx with z | z
  · exact nb_bd hb.n0.1 hb.n0.2 x z
  · rcases List.mem_append.mp z with z | z
    · exact hb'.bd x z
    · exact nb_bd (chk21 b).1 (chk21 b).2 x z
theorem rr_end (pre : List Int) (h1 : ∀ x ∈ pre, 0 ≤ x ∧ x < 256) : f_read_record [.shr (.lst (pre.map .int)), .shr (.int (pre.length : Nat))] = .ok (.d .non) [.un, .un] := by
  refine rr_none1 _ h1 _ ?_
  unfold rdN; rw [List.drop_length]; rfl
/-! ## the law -/
def encB (b : List Int) : D := .lst (b.map .int)
def fl (Bs : List (List Int)) : List Int := (Bs.map rec).flatten
theorem fl_app (Bs : List (List Int)) (b : List Int) : fl (Bs ++ [b]) = fl Bs ++ rec b := by unfold fl; simp
theorem flat_map (m : Nat) (l : List Int) : (List.replicate m (l.map D.int)).flatten = ((List.replicate m l).flatten).map D.int := by
  rw [List.map_flatten, List.map_replicate]
abbrev E3 (ns : List Int) (k : Slo) (Bs : List (List Int)) (s4 s5 : Slo) : Ro := [.shr (.lst (ns.map .int)), k, .mu false (O.l (Bs.map encB)), .mu false (O.l ((fl Bs).map .int)), s4, s5, .un, .un, .un, .un, .un, .un, .un, .un]
theorem body5 (ns : List Int) (k : Nat) (hk : k ≤ 1000) (Bs : List (List Int)) (c : Int) (s5 : Slo) (h5 : Jk s5) : ∃ b : List Int, Okb b ∧
    mSet 5 (m2 lMul (mLc (mIt (mCall f__law_digits_1dd1 [.v (fz 4), .v (fz 1), .v (m2 lMod (m1 lInt1 (nm 4)) (mC (.int 15)))])) (.nm 13) mYes le_law_k46_2 [13]) (m2 lIx (mLst [(mC (.int 1)), (mC (.int 1)), (mC (.int 12))]) (m2 lMod (m1 lInt1 (m2 lDiv (nm 4) (mC (.int 15)))) (mC (.int 3))))) (E3 ns (.shr (.int k)) Bs (.shr (.int c)) s5) =
      .nx (E3 ns (.shr (.int k)) Bs (.shr (.int c)) (.mu false (O.l (b.map .int)))) := by
  obtain ⟨ds, h1, h2, h3⟩ := dig c k (c % 15).toNat hk (by omega)
  rw [show (((c % 15).toNat : Nat) : Int) = c % 15 by omega] at h1
  have h5' : s5.bor = false := h5
  have hlen : (ds.map D.int).length ≤ 1000000 := by rw [List.length_map]; omega
  have lc : lcGo (.nm 13) mYes le_law_k46_2 [13] (ds.map .int) (E3 ns (.shr (.int k)) Bs (.shr (.int c)) s5) true [] = some ((ds.map fun d => d % 256).map D.int, E3 ns (.shr (.int k)) Bs (.shr (.int c)) s5, true) := by
    rw [lcGo_map (fun x => match x with | .int d => .int (d % 256) | x => x)]
    · simp
    · intro x hx
      obtain ⟨d, hd, rfl⟩ := List.mem_map.mp hx
      refine ⟨[.shr (.lst (ns.map .int)), .shr (.int k), .mu false (O.l (Bs.map encB)), .mu false (O.l ((fl Bs).map .int)), .shr (.int c), s5, .un, .un, .un, .un, .un, .un, .un, .shr (.int d)], [.shr (.lst (ns.map .int)), .shr (.int k), .mu false (O.l (Bs.map encB)), .mu false (O.l ((fl Bs).map .int)), .shr (.int c), s5, .un, .un, .un, .un, .un, .un, .un, .shr (.int d)], .d (.int (d % 256)), by clear h1; unfold E3; walk_at "evh", rfl, ?_, rfl, rfl⟩
      unfold le_law_k46_2
      clear h1
      walk_at "ev"
  have e1 : mLc (mIt (mCall f__law_digits_1dd1 [.v (fz 4), .v (fz 1), .v (m2 lMod (m1 lInt1 (nm 4)) (mC (.int 15)))])) (.nm 13) mYes le_law_k46_2 [13] (E3 ns (.shr (.int k)) Bs (.shr (.int c)) s5) = .ok (.own (O.l ((ds.map fun d => d % 256).map D.int))) (E3 ns (.shr (.int k)) Bs (.shr (.int c)) s5) true := by
    have lc' := lc
    unfold E3
    unfold E3 at lc'
    rw [ev_lc]
    have it : mIt (mCall f__law_digits_1dd1 [.v (fz 4), .v (fz 1), .v (m2 lMod (m1 lInt1 (nm 4)) (mC (.int 15)))]) [.shr (.lst (ns.map .int)), .shr (.int k), .mu false (O.l (Bs.map encB)), .mu false (O.l ((fl Bs).map .int)), .shr (.int c), s5, .un, .un, .un, .un, .un, .un, .un, .un] = .ok (ds.map .int) [.shr (.lst (ns.map .int)), .shr (.int k), .mu false (O.l (Bs.map encB)), .mu false (O.l ((fl Bs).map .int)), .shr (.int c), s5, .un, .un, .un, .un, .un, .un, .un, .un] true := by
      clear lc lc'
      walk_at "evh"
    rw [it]
    simp only [Res.bind_ok]
    rw [if_pos (by rw [lenOk_of hlen]; rfl)]
    have w : wipeR [Slo.shr (.lst (ns.map .int)), .shr (.int k), .mu false (O.l (Bs.map encB)), .mu false (O.l ((fl Bs).map .int)), .shr (.int c), s5, .un, .un, .un, .un, .un, .un, .un, .un] [13] = [Slo.shr (.lst (ns.map .int)), .shr (.int k), .mu false (O.l (Bs.map encB)), .mu false (O.l ((fl Bs).map .int)), .shr (.int c), s5, .un, .un, .un, .un, .un, .un, .un, .un] := rfl
    rw [w, lc']
    rfl
  have fin : ∀ m : Nat, m ≤ 12 → (m2 lIx (mLst [(mC (.int 1)), (mC (.int 1)), (mC (.int 12))]) (m2 lMod (m1 lInt1 (m2 lDiv (nm 4) (mC (.int 15)))) (mC (.int 3)))) (E3 ns (.shr (.int k)) Bs (.shr (.int c)) s5) = .ok (.d (.int m)) (E3 ns (.shr (.int k)) Bs (.shr (.int c)) s5) true → _ := fun m hm e2 => (by
    refine ⟨(List.replicate m (ds.map fun d => d % 256)).flatten, ⟨?_, fun x hx => ?_⟩, ?_⟩
    · rw [flat_len, List.length_map]
      have := Nat.mul_le_mul hm (show ds.length ≤ 14 by omega)
      omega
    · obtain ⟨l, hl, hx⟩ := List.mem_flatten.mp hx
      rw [(List.mem_replicate.mp hl).2] at hx
      obtain ⟨d, _, rfl⟩ := List.mem_map.mp hx
      omega
    · unfold E3 at e1 e2 ⊢
      rw [ev_set, ev_m2, e1]
      simp only [Res.bind_ok]
      rw [e2]
      simp only [Res.bind_ok, lMul_l, pkq_own, Bool.false_eq_true, if_false]
      rw [if_pos (repOk_of (by omega) (by omega) (by simp; omega))]
      simp only [Res.stm_ok, Int.toNat_natCast, flat_map]
      simp [h5'] : ∃ b : List Int, Okb b ∧ mSet 5 (m2 lMul (mLc (mIt (mCall f__law_digits_1dd1 [.v (fz 4), .v (fz 1), .v (m2 lMod (m1 lInt1 (nm 4)) (mC (.int 15)))])) (.nm 13) mYes le_law_k46_2 [13]) (m2 lIx (mLst [(mC (.int 1)), (mC (.int 1)), (mC (.int 12))]) (m2 lMod (m1 lInt1 (m2 lDiv (nm 4) (mC (.int 15)))) (mC (.int 3))))) (E3 ns (.shr (.int k)) Bs (.shr (.int c)) s5) =
      .nx (E3 ns (.shr (.int k)) Bs (.shr (.int c)) (.mu false (O.l (b.map .int)))))
  have : c / 15 % 3 = 0 ∨ c / 15 % 3 = 1 ∨ c / 15 % 3 = 2 := by omega
  clear h1 lc e1
  rcases this with h | h | h
  · exact fin 1 (by omega) (by clear fin; unfold E3; walk_at "evh")
  · exact fin 1 (by omega) (by clear fin; unfold E3; walk_at "evh")
  · exact fin 12 (by omega) (by clear fin; unfold E3; walk_at "evh")
theorem turn3 (ns : List Int) (k : Nat) (hk : k ≤ 1000) (Bs : List (List Int)) (hB : Bs.length ≤ 10) (hf : (fl Bs).length ≤ 10000) (s4 s5 : Slo) (h4 : Jk s4) (h5 : Jk s5) : ∃ (b : List Int) (t4 : D), Okb b ∧
    lb_law_k46_3 (E3 ns (.shr (.int k)) Bs s4 s5) = .nx (E3 ns (.shr (.int k)) (Bs ++ [b]) (.shr t4) (.shr (encB b))) := by
  have c0 := cell ns k
  generalize ns.getD k 0 = c at c0
  obtain ⟨b, hb, e5⟩ := body5 ns k hk Bs c s5 h5
  have h4' : s4.bor = false := h4
  refine ⟨b, .int c, hb, ?_⟩
  have r1 := record_of b (by have := hb.len; omega)
  have r2 := law_record b (by have := hb.len; omega)
  have rl := (rec_len hb).2
  unfold lb_law_k46_3
  rw [sq]
  have a1 : mSet 4 (mCall f__law_cell [.v (fz 0), .v (fz 1)]) (E3 ns (.shr (.int k)) Bs s4 s5) = .nx (E3 ns (.shr (.int k)) Bs (.shr (.int c)) s5) := by
    clear e5 r1 r2
    unfold E3
    walk_at "evh"
  rw [a1, SRes.thn_nx, sq, e5, SRes.thn_nx]
  clear a1 e5 c0
  unfold E3 encB
  rw [fl_app]
  walk_at "evm"
  simp
abbrev E4 (ns : List Int) (k : Slo) (Bs : List (List Int)) (s4 s5 : Slo) (a : Int) (s7 : Slo) : Ro := [.shr (.lst (ns.map .int)), k, .shr (.lst (Bs.map encB)), .mu false (O.l ((fl Bs).map .int)), s4, s5, .shr (.int a), s7, .un, .un, .un, .un, .un, .un]
theorem fl_split (Bs : List (List Int)) (i : Nat) (h : i < Bs.length) : fl Bs = fl (Bs.take i) ++ (rec Bs[i] ++ fl (Bs.drop (i + 1))) := by
  have e : Bs = Bs.take i ++ (Bs[i] :: Bs.drop (i + 1)) := by rw [← List.drop_eq_getElem_cons h, List.take_append_drop]
  have : fl Bs = fl (Bs.take i ++ (Bs[i] :: Bs.drop (i + 1))) := by rw [← e]
  rw [this]
  simp only [fl, List.map_append, List.map_cons, List.flatten_append, List.flatten_cons]
theorem fl_bd {Bs : List (List Int)} (h : ∀ b ∈ Bs, Okb b) : ∀ x ∈ fl Bs, 0 ≤ x ∧ x < 256 := fun x hx => by
  unfold fl at hx
  obtain ⟨l, hl, hx⟩ := List.mem_flatten.mp hx
  obtain ⟨b, hb, rfl⟩ := List.mem_map.mp hl
  exact rec_bd (h b hb) x hx
theorem turn4 (ns : List Int) (k : Slo) (Bs : List (List Int)) (hB : ∀ b ∈ Bs, Okb b) (s4 : Slo) (s7 : Slo) (h7 : Jk s7) (i : Nat) (hi : i < Bs.length) : ∃ t7 : D,
    lb_law_k46_4 (E4 ns k Bs s4 (.shr (encB Bs[i])) ((fl (Bs.take i)).length : Nat) s7) = .nx (E4 ns k Bs s4 (.shr (encB Bs[i])) ((fl (Bs.take (i + 1))).length : Nat) (.shr t7)) := by
  have hb := hB Bs[i] (List.getElem_mem hi)
  have r1 := rr_at (fl (Bs.take i)) (fl (Bs.drop (i + 1))) Bs[i] hb (fl_bd fun b m => hB b (List.mem_of_mem_take m)) (fl_bd fun b m => hB b (List.mem_of_mem_drop m))
  rw [← fl_split Bs i hi] at r1
  have e : ((fl (Bs.take (i + 1))).length : Int) = (fl (Bs.take i)).length + (rec Bs[i]).length := by
    rw [List.take_succ_eq_append_getElem hi, fl_app, List.length_append]; omega
  rw [e]
  have r2 := law_record Bs[i] (by have := hb.len; omega)
  have h7' : s7.bor = false := h7
  generalize Bs[i] = b at r1 r2 ⊢
  generalize (fl (Bs.take i)).length = a at r1 ⊢
  refine ⟨.tup [.lst (b.map .int), .int ((a : Int) + ((rec b).length : Int))], ?_⟩
  clear e hb hi
  unfold lb_law_k46_4 E4 encB
  walk_at "evm"
abbrev E6 (ns : List Int) (k B D4 s4 s5 : Slo) (a : Int) (s7 : Slo) (one : List Int) (s9 s10 s11 s12 : Slo) : Ro := [.shr (.lst (ns.map .int)), k, B, D4, s4, s5, .shr (.int a), s7, .mu false (O.l (one.map .int)), s9, s10, s11, s12, .un]
theorem mIf_t {c : MB} {m n : MS} {ρ ρ' : Ro} {q : Bool} (h : c ρ = .ok true ρ' q) : mIf c m n ρ = m ρ' := by unfold mIf; rw [h]; rfl
theorem tail (ns : List Int) (k : Slo) (Bs : List (List Int)) (hB : ∀ b ∈ Bs, Okb b) (hlen : 1 ≤ Bs.length) (hfl : (fl Bs).length ≤ 10000) (s4 s5 s7 : Slo) (hk : Jk k) (h4 : Jk s4) (h5 : Jk s5) (h7 : Jk s7) : ∃ ρ,
    (mSeq (mSet 8 (mCall f__law_record [.v (m2 lIx (nm 2) (mC (.int 0)))]))
    (mSeq (mSet 9 (m2 lMod (m1 lInt1 (mCall f__law_cell [.v (fz 0), .v (mC (.int 15))])) (m1 lLen (nm 8))))
    (mSeq (mIf (mOr (mTest (m2 lNotN (mCall f_read_record [.v (m1 lList (nm 3)), .v (fz 6)]) (mC .non))) (mTest (m2 lNotN (mCall f_read_record [.v (mSl (nm 8) none (some (nm 9))), .v (mC (.int 0))]) (mC .non)))) (mRt (mC (.bl false))) mNx)
    (mSeq (mSet 10 (m1 lLen (m2 lIx (nm 2) (mC (.int 0)))))
    (mSeq (mIf (mAnd (mTest (m2 lLt (nm 10) (mC (.int 128)))) (mTest (m2 lNotN (mCall f_read_record [.v (m2 lAdd (mLst [(m2 lAdd (m2 lIx (nm 8) (mC (.int 0))) (mC (.int 128))), (mC (.int 0))]) (mSl (nm 8) (some (mC (.int 1))) none)), .v (mC (.int 0))]) (mC .non)))) (mRt (mC (.bl false))) mNx)
    (mSeq (mIf (mTest (m2 lNotN (mCall f_read_record [.v (m2 lAdd (mSl (nm 8) none (some (m1 lNeg (mC (.int 1))))) (mLst [(m2 lAdd (m2 lIx (nm 8) (m1 lNeg (mC (.int 1)))) (mC (.int 128))), (mC (.int 0))])), .v (mC (.int 0))]) (mC .non))) (mRt (mC (.bl false))) mNx)
    (mSeq (mIf (mTest (m2 lGt (nm 10) (mC (.int 0)))) (mSeq (mSet 11 (m1 lLen (mCall f__law_number [.v (fz 10)])))
    (mSeq (mSet 1 (m2 lAdd (nm 11) (m2 lMod (m1 lInt1 (mCall f__law_cell [.v (fz 0), .v (mC (.int 16))])) (nm 10))))
    (mSeq (mSet 12 (m1 lList (nm 8)))
    (mSeq (mPut 12 (nm 1) (m2 lMod (m1 lInt1 (m2 lAdd (m2 lAdd (m2 lIx (nm 12) (nm 1)) (mC (.int 1))) (m2 lMod (m1 lInt1 (mCall f__law_cell [.v (fz 0), .v (mC (.int 17))])) (mC (.int 255))))) (mC (.int 256))))
    (mIf (mTest (m2 lNe (mCall f__law_check [.v (mSl (nm 12) (some (nm 11)) (some (m2 lAdd (nm 11) (nm 10))))]) (mCall f__law_check [.v (m2 lIx (nm 2) (mC (.int 0)))]))) (mRt (m2 lIsN (mCall f_read_record [.v (fz 12), .v (mC (.int 0))]) (mC .non))) mNx))))) mNx)
    (mRt (mC (.bl true))))))))))
      (E4 ns k Bs s4 s5 ((fl Bs).length : Nat) s7) = .rt (.d (.bl true)) ρ := by
  obtain ⟨b, Bt, rfl⟩ : ∃ b Bt, Bs = b :: Bt := by
    cases Bs with
    | nil => simp at hlen
    | cons b Bt => exact ⟨b, Bt, rfl⟩
  have hb := hB b List.mem_cons_self
  have hk' : k.bor = false := hk
  have h4' : s4.bor = false := h4
  have h5' : s5.bor = false := h5
  have h7' : s7.bor = false := h7
  have rl := rec_len hb
  have bl := hb.len
  have r0 := law_record b (by omega)
  rw [sq]
  have a1 : mSet 8 (mCall f__law_record [.v (m2 lIx (nm 2) (mC (.int 0)))]) (E4 ns k (b :: Bt) s4 s5 ((fl (b :: Bt)).length : Nat) s7) = .nx (E6 ns k (.shr (.lst ((b :: Bt).map encB))) (.mu false (O.l ((fl (b :: Bt)).map .int))) s4 s5 ((fl (b :: Bt)).length : Nat) s7 (rec b) .un .un .un .un) := by
    unfold E4 E6 encB
    walk_at "evm"
  rw [a1, SRes.thn_nx, sq]
  clear a1 r0
  have c15 : f__law_cell [.shr (.lst (ns.map .int)), .shr (.int 15)] = .ok (.d (.int (ns.getD 15 0))) [.un, .un] := cell ns 15
  generalize ns.getD 15 0 = v15 at c15
  have a2 : mSet 9 (m2 lMod (m1 lInt1 (mCall f__law_cell [.v (fz 0), .v (mC (.int 15))])) (m1 lLen (nm 8))) (E6 ns k (.shr (.lst ((b :: Bt).map encB))) (.mu false (O.l ((fl (b :: Bt)).map .int))) s4 s5 ((fl (b :: Bt)).length : Nat) s7 (rec b) .un .un .un .un) = .nx (E6 ns k (.shr (.lst ((b :: Bt).map encB))) (.mu false (O.l ((fl (b :: Bt)).map .int))) s4 s5 ((fl (b :: Bt)).length : Nat) s7 (rec b) (.shr (.int (v15 % (rec b).length))) .un .un .un) := by
    unfold E6
    walk_at "evm"
  rw [a2, SRes.thn_nx, sq]
  clear a2 c15
  have hcut : ∃ cut : Nat, v15 % ((rec b).length : Int) = cut ∧ cut < (rec b).length := ⟨(v15 % ((rec b).length : Int)).toNat, by have := Int.emod_nonneg v15 (show ((rec b).length : Int) ≠ 0 by omega); omega, by have := Int.emod_nonneg v15 (show ((rec b).length : Int) ≠ 0 by omega); have := Int.emod_lt_of_pos v15 (show (0 : Int) < (rec b).length by omega); omega⟩
  obtain ⟨cut, ec, hcut⟩ := hcut
  rw [ec]
  have q1 := rr_end (fl (b :: Bt)) (fl_bd hB)
  have q2 : f_read_record [.shr (.lst (((rec b).take cut).map .int)), .shr (.int 0)] = .ok (.d .non) [.un, .un] := rr_cut b hb cut hcut
  have q3 : cutA ((rec b).map D.int) none (some (cut : Int)) = ((rec b).take cut).map D.int := by
    unfold cutA
    rw [show HT.sIx ((rec b).map D.int).length 0 none = 0 from rfl, HT.sIx_nat, List.length_map, List.drop_zero, Nat.sub_zero, List.map_take]
    congr 1; omega
  have a3 : mIf (mOr (mTest (m2 lNotN (mCall f_read_record [.v (m1 lList (nm 3)), .v (fz 6)]) (mC .non))) (mTest (m2 lNotN (mCall f_read_record [.v (mSl (nm 8) none (some (nm 9))), .v (mC (.int 0))]) (mC .non)))) (mRt (mC (.bl false))) mNx (E6 ns k (.shr (.lst ((b :: Bt).map encB))) (.mu false (O.l ((fl (b :: Bt)).map .int))) s4 s5 ((fl (b :: Bt)).length : Nat) s7 (rec b) (.shr (.int cut)) .un .un .un) =
      .nx (E6 ns k (.shr (.lst ((b :: Bt).map encB))) (.mu false (O.l ((fl (b :: Bt)).map .int))) s4 s5 ((fl (b :: Bt)).length : Nat) s7 (rec b) (.shr (.int cut)) .un .un .un) := by
    unfold E6
    generalize fl (b :: Bt) = F at q1 ⊢
    walk_at "evm"
  rw [a3, SRes.thn_nx, sq]
  clear a3 q1 q2 q3
  have a4 : mSet 10 (m1 lLen (m2 lIx (nm 2) (mC (.int 0)))) (E6 ns k (.shr (.lst ((b :: Bt).map encB))) (.mu false (O.l ((fl (b :: Bt)).map .int))) s4 s5 ((fl (b :: Bt)).length : Nat) s7 (rec b) (.shr (.int cut)) .un .un .un) = .nx (E6 ns k (.shr (.lst ((b :: Bt).map encB))) (.mu false (O.l ((fl (b :: Bt)).map .int))) s4 s5 ((fl (b :: Bt)).length : Nat) s7 (rec b) (.shr (.int cut)) (.shr (.int (b.length : Nat))) .un .un) := by
    unfold E6 encB
    walk_at "evm"
  rw [a4, SRes.thn_nx, sq]
  clear a4
  have a5 : mIf (mAnd (mTest (m2 lLt (nm 10) (mC (.int 128)))) (mTest (m2 lNotN (mCall f_read_record [.v (m2 lAdd (mLst [(m2 lAdd (m2 lIx (nm 8) (mC (.int 0))) (mC (.int 128))), (mC (.int 0))]) (mSl (nm 8) (some (mC (.int 1))) none)), .v (mC (.int 0))]) (mC .non)))) (mRt (mC (.bl false))) mNx (E6 ns k (.shr (.lst ((b :: Bt).map encB))) (.mu false (O.l ((fl (b :: Bt)).map .int))) s4 s5 ((fl (b :: Bt)).length : Nat) s7 (rec b) (.shr (.int cut)) (.shr (.int (b.length : Nat))) .un .un) = .nx (E6 ns k (.shr (.lst ((b :: Bt).map encB))) (.mu false (O.l ((fl (b :: Bt)).map .int))) s4 s5 ((fl (b :: Bt)).length : Nat) s7 (rec b) (.shr (.int cut)) (.shr (.int (b.length : Nat))) .un .un) := by
    by_cases hs : (b.length : Int) < 128
    · have er : rec b = (b.length : Int) :: (b ++ nb (chk b)) := by
        unfold rec
        rw [show nb (b.length : Int) = [(b.length : Int)] from nbk_small hs 20]; rfl
      have q := rr_long (b.length : Int) (b ++ nb (chk b)) (by omega) hs fun x hx => by
        rcases List.mem_append.mp hx with z | z
        · exact hb.bd x z
        · exact nb_bd (chk21 b).1 (chk21 b).2 x z
      have ll := nbl (chk b)
      rw [er]
      have hrl : (b ++ nb (chk b)).length ≤ 200 := by rw [List.length_append]; omega
      clear er
      generalize b ++ nb (chk b) = rest at q hrl ⊢
      have q' : f_read_record [.shr (.lst (.int ((b.length : Int) + 128) :: .int 0 :: rest.map .int)), .shr (.int 0)] = .ok (.d .non) [.un, .un] := q
      have c1 : cutA (D.int (b.length : Int) :: rest.map D.int) (some 1) none = rest.map D.int := by
        unfold cutA
        rw [show HT.sIx (D.int (b.length : Int) :: rest.map D.int).length 0 (some 1) = 1 by rw [show (1 : Int) = ((1 : Nat) : Int) from rfl, HT.sIx_nat]; simp]
        rw [show HT.sIx (D.int (b.length : Int) :: rest.map D.int).length (D.int (b.length : Int) :: rest.map D.int).length none = (D.int (b.length : Int) :: rest.map D.int).length from rfl]
        rw [List.take_of_length_le (by simp)]; rfl
      clear q rl ll hb bl
      unfold E6
      walk_at "evm"
    · have hs' : (128 : Int) ≤ b.length := by omega
      unfold E6
      walk_at "evm"
  rw [a5, SRes.thn_nx, sq]
  clear a5
  have a6 : mIf (mTest (m2 lNotN (mCall f_read_record [.v (m2 lAdd (mSl (nm 8) none (some (m1 lNeg (mC (.int 1))))) (mLst [(m2 lAdd (m2 lIx (nm 8) (m1 lNeg (mC (.int 1)))) (mC (.int 128))), (mC (.int 0))])), .v (mC (.int 0))]) (mC .non))) (mRt (mC (.bl false))) mNx (E6 ns k (.shr (.lst ((b :: Bt).map encB))) (.mu false (O.l ((fl (b :: Bt)).map .int))) s4 s5 ((fl (b :: Bt)).length : Nat) s7 (rec b) (.shr (.int cut)) (.shr (.int (b.length : Nat))) .un .un) = .nx (E6 ns k (.shr (.lst ((b :: Bt).map encB))) (.mu false (O.l ((fl (b :: Bt)).map .int))) s4 s5 ((fl (b :: Bt)).length : Nat) s7 (rec b) (.shr (.int cut)) (.shr (.int (b.length : Nat))) .un .un) := by
    obtain ⟨ini, z, er, z0, z1, q⟩ := rec_split b hb
    rw [er] at rl ⊢
    simp only [List.length_append, List.length_cons, List.length_nil] at rl
    have q' : f_read_record [.shr (.lst (ini.map .int ++ [.int (z + 128), .int 0])), .shr (.int 0)] = .ok (.d .non) [.un, .un] := by simpa using q
    have c1 : cutA ((ini ++ [z]).map D.int) none (some (-1)) = ini.map D.int := by rw [List.map_append]; exact cut_m1 _ _
    clear q er
    unfold E6
    walk_at "evm"
  rw [a6, SRes.thn_nx, sq]
  clear a6
  by_cases hs : 0 < b.length
  · have hs' : (0 : Int) < b.length := by omega
    have r5 := law_number (b.length : Int)
    have c16 : f__law_cell [.shr (.lst (ns.map .int)), .shr (.int 16)] = .ok (.d (.int (ns.getD 16 0))) [.un, .un] := cell ns 16
    have c17 : f__law_cell [.shr (.lst (ns.map .int)), .shr (.int 17)] = .ok (.d (.int (ns.getD 17 0))) [.un, .un] := cell ns 17
    generalize ns.getD 16 0 = v16 at c16
    generalize ns.getD 17 0 = v17 at c17
    obtain ⟨r, er, hr⟩ : ∃ r : Nat, v16 % (b.length : Int) = r ∧ r < b.length := ⟨(v16 % (b.length : Int)).toNat, by have := Int.emod_nonneg v16 (show (b.length : Int) ≠ 0 by omega); omega, by have := Int.emod_nonneg v16 (show (b.length : Int) ≠ 0 by omega); have := Int.emod_lt_of_pos v16 hs'; omega⟩
    have b1 : mSet 11 (m1 lLen (mCall f__law_number [.v (fz 10)])) (E6 ns k (.shr (.lst ((b :: Bt).map encB))) (.mu false (O.l ((fl (b :: Bt)).map .int))) s4 s5 ((fl (b :: Bt)).length : Nat) s7 (rec b) (.shr (.int cut)) (.shr (.int (b.length : Nat))) .un .un) = .nx (E6 ns k (.shr (.lst ((b :: Bt).map encB))) (.mu false (O.l ((fl (b :: Bt)).map .int))) s4 s5 ((fl (b :: Bt)).length : Nat) s7 (rec b) (.shr (.int cut)) (.shr (.int (b.length : Nat))) (.shr (.int ((nb (b.length : Int)).length : Nat))) .un) := by
      clear c16 c17
      unfold E6
      walk_at "evm"
    have b2 : mSet 1 (m2 lAdd (nm 11) (m2 lMod (m1 lInt1 (mCall f__law_cell [.v (fz 0), .v (mC (.int 16))])) (nm 10))) (E6 ns k (.shr (.lst ((b :: Bt).map encB))) (.mu false (O.l ((fl (b :: Bt)).map .int))) s4 s5 ((fl (b :: Bt)).length : Nat) s7 (rec b) (.shr (.int cut)) (.shr (.int (b.length : Nat))) (.shr (.int ((nb (b.length : Int)).length : Nat))) .un) = .nx (E6 ns (.shr (.int (((nb (b.length : Int)).length : Int) + (r : Int)))) (.shr (.lst ((b :: Bt).map encB))) (.mu false (O.l ((fl (b :: Bt)).map .int))) s4 s5 ((fl (b :: Bt)).length : Nat) s7 (rec b) (.shr (.int cut)) (.shr (.int (b.length : Nat))) (.shr (.int ((nb (b.length : Int)).length : Nat))) .un) := by
      clear c17 r5 b1
      unfold E6
      walk_at "evm"
    have b3 : mSet 12 (m1 lList (nm 8)) (E6 ns (.shr (.int (((nb (b.length : Int)).length : Int) + (r : Int)))) (.shr (.lst ((b :: Bt).map encB))) (.mu false (O.l ((fl (b :: Bt)).map .int))) s4 s5 ((fl (b :: Bt)).length : Nat) s7 (rec b) (.shr (.int cut)) (.shr (.int (b.length : Nat))) (.shr (.int ((nb (b.length : Int)).length : Nat))) .un) = .nx (E6 ns (.shr (.int (((nb (b.length : Int)).length : Int) + (r : Int)))) (.shr (.lst ((b :: Bt).map encB))) (.mu false (O.l ((fl (b :: Bt)).map .int))) s4 s5 ((fl (b :: Bt)).length : Nat) s7 (rec b) (.shr (.int cut)) (.shr (.int (b.length : Nat))) (.shr (.int ((nb (b.length : Int)).length : Nat))) (.mu false (O.l ((rec b).map .int)))) := by
      clear c17 r5 b1 c16 b2
      unfold E6
      walk_at "evm"
    obtain ⟨v, hv, b4⟩ : ∃ v : Int, (0 ≤ v ∧ v < 256) ∧ mPut 12 (nm 1) (m2 lMod (m1 lInt1 (m2 lAdd (m2 lAdd (m2 lIx (nm 12) (nm 1)) (mC (.int 1))) (m2 lMod (m1 lInt1 (mCall f__law_cell [.v (fz 0), .v (mC (.int 17))])) (mC (.int 255))))) (mC (.int 256))) (E6 ns (.shr (.int (((nb (b.length : Int)).length : Int) + (r : Int)))) (.shr (.lst ((b :: Bt).map encB))) (.mu false (O.l ((fl (b :: Bt)).map .int))) s4 s5 ((fl (b :: Bt)).length : Nat) s7 (rec b) (.shr (.int cut)) (.shr (.int (b.length : Nat))) (.shr (.int ((nb (b.length : Int)).length : Nat))) (.mu false (O.l ((rec b).map .int)))) = .nx (E6 ns (.shr (.int (((nb (b.length : Int)).length : Int) + (r : Int)))) (.shr (.lst ((b :: Bt).map encB))) (.mu false (O.l ((fl (b :: Bt)).map .int))) s4 s5 ((fl (b :: Bt)).length : Nat) s7 (rec b) (.shr (.int cut)) (.shr (.int (b.length : Nat))) (.shr (.int ((nb (b.length : Int)).length : Nat))) (.mu false (O.l ((nb (b.length : Int) ++ (b.set r v ++ nb (chk b))).map .int)))) := by
      have hix : (nb (b.length : Int)).length + r < (rec b).length := by unfold rec; simp only [List.length_append]; omega
      have eix : (((nb (b.length : Int)).length : Int) + (r : Int)) = (((nb (b.length : Int)).length + r : Nat) : Int) := by omega
      have hg : (rec b)[(nb (b.length : Int)).length + r]? = some ((rec b)[(nb (b.length : Int)).length + r]) := List.getElem?_eq_getElem hix
      refine ⟨((rec b)[(nb (b.length : Int)).length + r] + 1 + v17 % 255) % 256, by omega, ?_⟩
      have es : nb (b.length : Int) ++ (b.set r (((rec b)[(nb (b.length : Int)).length + r] + 1 + v17 % 255) % 256) ++ nb (chk b)) = (rec b).set ((nb (b.length : Int)).length + r) (((rec b)[(nb (b.length : Int)).length + r] + 1 + v17 % 255) % 256) := by
        generalize (((rec b)[(nb (b.length : Int)).length + r] + 1 + v17 % 255) % 256) = w
        unfold rec
        rw [List.append_assoc, List.set_append_right _ _ (by omega), List.set_append_left _ _ (by omega)]
        congr 3; omega
      rw [es]
      obtain ⟨o, eo⟩ : ∃ o, (rec b)[(nb (b.length : Int)).length + r] = o := ⟨_, rfl⟩
      rw [eo] at hg ⊢
      clear es b1 b2 b3 c16 r5
      rw [eix]
      generalize (nb (b.length : Int)).length + r = j at hix hg eix eo ⊢
      generalize rec b = one at hix hg eix eo ⊢
      have hq := ixN_pos one.length j hix
      clear eix
      unfold E6
      walk_at "evm"
    have t : mTest (m2 lGt (nm 10) (mC (.int 0))) (E6 ns k (.shr (.lst ((b :: Bt).map encB))) (.mu false (O.l ((fl (b :: Bt)).map .int))) s4 s5 ((fl (b :: Bt)).length : Nat) s7 (rec b) (.shr (.int cut)) (.shr (.int (b.length : Nat))) .un .un) = .ok true (E6 ns k (.shr (.lst ((b :: Bt).map encB))) (.mu false (O.l ((fl (b :: Bt)).map .int))) s4 s5 ((fl (b :: Bt)).length : Nat) s7 (rec b) (.shr (.int cut)) (.shr (.int (b.length : Nat))) .un .un) true := by
      clear b1 b2 b3 b4 c16 c17 r5
      unfold E6
      walk_at "evm"
    rw [mIf_t t, sq, b1, SRes.thn_nx, sq, b2, SRes.thn_nx, sq, b3, SRes.thn_nx, sq, b4, SRes.thn_nx]
    clear t b1 b2 b3 b4 c16 c17 r5
    have hl' : (b.set r v).length = b.length := List.length_set
    have hb' : Okb (b.set r v) := ⟨by omega, fun x hx => by
      rcases List.mem_or_eq_of_mem_set hx with z | z
      · exact hb.bd x z
      · omega⟩
    have k1 := law_check (b.set r v)
    have k2 := law_check b
    have cm := cut_mid (nb (b.length : Int)) (b.set r v) (nb (chk b)) (p := (nb (b.length : Int)).length) rfl
    rw [hl'] at cm
    have k3 := cut_ints (nb (b.length : Int) ++ (b.set r v ++ nb (chk b))) (nb (b.length : Int)).length b.length (by simp only [List.length_append]; omega)
    rw [cm] at k3
    have hch := rr_chg b (b.set r v) hb hb' hl'
    generalize b.set r v = b' at k1 k3 hch hl' ⊢
    generalize nb (b.length : Int) ++ (b' ++ nb (chk b)) = data at k3 hch ⊢
    generalize (nb (b.length : Int)).length = start at k3 ⊢
    generalize fl (b :: Bt) = F
    by_cases hc : chk b' = chk b
    · clear hch
      refine ⟨E6 ns (.shr (.int ((start : Int) + (r : Int)))) (.shr (.lst ((b :: Bt).map encB))) (.mu false (O.l (F.map .int))) s4 s5 (F.length : Nat) s7 (rec b) (.shr (.int cut)) (.shr (.int (b.length : Nat))) (.shr (.int (start : Nat))) (.mu false (O.l (data.map .int))), ?_⟩
      unfold E6 encB
      walk_at "evm"
    · have hch := hch hc
      have hch : f_read_record [.shr (.lst (data.map .int)), .shr (.int 0)] = .ok (.d .non) [.un, .un] := hch
      refine ⟨E6 ns (.shr (.int ((start : Int) + (r : Int)))) (.shr (.lst ((b :: Bt).map encB))) (.mu false (O.l (F.map .int))) s4 s5 (F.length : Nat) s7 (rec b) (.shr (.int cut)) (.shr (.int (b.length : Nat))) (.shr (.int (start : Nat))) (.shr (.lst (data.map .int))), ?_⟩
      unfold E6 encB
      walk_at "evm"
  · have hs' : ¬ (0 : Int) < b.length := by omega
    have hz : b.length = 0 := by omega
    refine ⟨(E6 ns k (.shr (.lst ((b :: Bt).map encB))) (.mu false (O.l ((fl (b :: Bt)).map .int))) s4 s5 ((fl (b :: Bt)).length : Nat) s7 (rec b) (.shr (.int cut)) (.shr (.int (b.length : Nat))) .un .un), ?_⟩
    unfold E6
    walk_at "evm"
theorem law_true (ns : List Int) (hn : ns.length ≤ 63) : ∃ as, f_law_k46 [.shr (.lst (ns.map D.int))] = .ok (.d (.bl true)) as := by
  -- the numbers
  obtain ⟨ρ1, e1, s1, hs1, q1⟩ := forGo_run (t := .nm 1) (b := lb_law_k46_1) (fun i ρ => ∃ s1 : Slo, Jk s1 ∧ ρ = [.shr (.lst (ns.map .int)), s1, .un, .un, .un, .un, .un, .un, .un, .un, .un, .un, .un, .un])
      (xs := (List.range 6).map fun (k : Nat) => D.int k) (ρ := [.shr (.lst (ns.map .int)), .un, .un, .un, .un, .un, .un, .un, .un, .un, .un, .un, .un, .un]) ⟨.un, rfl, rfl⟩ fun i x ρ hx hp => by
    obtain ⟨s1, hs1, rfl⟩ := hp
    have hil : i < 6 := by simpa using (List.getElem?_eq_some_iff.mp hx).1
    have ex : x = .int (i : Nat) := by
      rw [List.getElem?_map, List.getElem?_range hil] at hx
      simpa using hx.symm
    subst ex
    have q : s1.bor = false := hs1
    obtain ⟨n, g0, g1, g2⟩ := integer ns i (by omega)
    have g3 := is_number n g0 g1
    refine ⟨[.shr (.lst (ns.map .int)), .shr (.int i), .un, .un, .un, .un, .un, .un, .un, .un, .un, .un, .un, .un], by clear g2 g3; walk_at "evh", _, .inl ?_, .shr (.int i), rfl, rfl⟩
    unfold lb_law_k46_1
    walk_at "evh"
  subst q1
  -- the bodies
  have c9 : f__law_cell [.shr (.lst (ns.map .int)), .shr (.int 9)] = .ok (.d (.int (ns.getD 9 0))) [.un, .un] := cell ns 9
  generalize ns.getD 9 0 = c at c9
  obtain ⟨ρ2, e2, Bs, k2, s4, s5, hB1, hB2, hB3, hk2, h4, h5, q2⟩ := forGo_run (t := .nm 1) (b := lb_law_k46_3) (fun i ρ => ∃ (Bs : List (List Int)) (k s4 s5 : Slo), Bs.length = i ∧ (∀ b ∈ Bs, Okb b) ∧ (fl Bs).length ≤ 210 * i ∧ Jk k ∧ Jk s4 ∧ Jk s5 ∧ ρ = E3 ns k Bs s4 s5)
      (xs := (List.range ((11 + c % 4) - 10).toNat).map fun (k : Nat) => D.int (10 + k)) (ρ := E3 ns s1 [] .un .un) ⟨[], s1, .un, .un, rfl, (fun b hb => nomatch hb), by simp [fl], hs1, rfl, rfl, rfl⟩ fun i x ρ hx hp => by
    obtain ⟨Bs, k, s4, s5, g1, g2, g3, g4, g5, g6, rfl⟩ := hp
    have hil : i < ((11 + c % 4) - 10).toNat := by simpa using (List.getElem?_eq_some_iff.mp hx).1
    have ex : x = .int ((10 + i : Nat) : Int) := by
      rw [List.getElem?_map, List.getElem?_range hil] at hx
      simpa using hx.symm
    subst ex
    have q : k.bor = false := g4
    obtain ⟨b, t4, hb, e⟩ := turn3 ns (10 + i) (by omega) Bs (by omega) (by omega) s4 s5 g5 g6
    refine ⟨E3 ns (.shr (.int ((10 + i : Nat) : Int))) Bs s4 s5, by clear e; unfold E3; walk_at "evh", _, .inl e, Bs ++ [b], .shr (.int ((10 + i : Nat) : Int)), .shr t4, .shr (encB b), by simp [g1], fun b' hb' => ?_, ?_, rfl, rfl, rfl, rfl⟩
    · rcases List.mem_append.mp hb' with z | z
      · exact g2 b' z
      · rw [List.mem_singleton] at z; subst z; exact hb
    · rw [fl_app, List.length_append]
      have := (rec_len hb).2
      omega
  subst q2
  rw [List.length_map, List.length_range] at hB1 hB3
  -- reading them
  obtain ⟨ρ3, e3, t5, t7, g5, g7, q3⟩ := forGo_run (t := .nm 5) (b := lb_law_k46_4) (fun i ρ => ∃ (s5 s7 : Slo), Jk s5 ∧ Jk s7 ∧ ρ = E4 ns k2 Bs s4 s5 ((fl (Bs.take i)).length : Nat) s7)
      (xs := Bs.map encB) (ρ := E4 ns k2 Bs s4 s5 0 .un) ⟨s5, .un, h5, rfl, by simp [fl]⟩ fun i x ρ hx hp => by
    obtain ⟨s5, s7, g5, g7, rfl⟩ := hp
    have hil : i < Bs.length := by simpa using (List.getElem?_eq_some_iff.mp hx).1
    have ex : x = encB Bs[i] := by
      rw [List.getElem?_map, List.getElem?_eq_getElem hil] at hx
      simpa using hx.symm
    subst ex
    have q : s5.bor = false := g5
    obtain ⟨t7, e⟩ := turn4 ns k2 Bs hB2 s4 s7 g7 i hil
    exact ⟨E4 ns k2 Bs s4 (.shr (encB Bs[i])) ((fl (Bs.take i)).length : Nat) s7, by clear e; unfold E4; walk_at "evh", _, .inl e, .shr (encB Bs[i]), .shr t7, rfl, rfl, rfl⟩
  subst q3
  rw [List.length_map, List.take_length] at e3
  obtain ⟨ρ4, e4⟩ := tail ns k2 Bs hB2 (by omega) (by omega) s4 t5 t7 hk2 h4 g5 g7
  refine ⟨keep [Slo.shr (.lst (ns.map .int))] ρ4, ?_⟩
  have f1 : s1.bor = false := hs1
  have f2 : k2.bor = false := hk2
  have f4 : s4.bor = false := h4
  have f5 : s5.bor = false := h5
  rw [f_law_k46_eq, ev_fn]; unfold b_law_k46
  rw [sq]
  have a1 : mFor (mRg1 (mC (.int 6))) (.nm 1) lb_law_k46_1 ([Slo.shr (.lst (ns.map .int))] ++ List.replicate (14 - [Slo.shr (.lst (ns.map .int))].length) .un) = .nx [.shr (.lst (ns.map .int)), s1, .un, .un, .un, .un, .un, .un, .un, .un, .un, .un, .un, .un] := by
    clear e2 e3 e4
    walk_at "evh"
  rw [a1, SRes.thn_nx, sq]
  clear a1 e1
  have a2 : mSet 2 (mLst []) [.shr (.lst (ns.map .int)), s1, .un, .un, .un, .un, .un, .un, .un, .un, .un, .un, .un, .un] = .nx [.shr (.lst (ns.map .int)), s1, .mu false (.lst []), .un, .un, .un, .un, .un, .un, .un, .un, .un, .un, .un] := by
    clear e2 e3 e4
    walk_at "ev"
  rw [a2, SRes.thn_nx, sq]
  clear a2
  have a3 : mSet 3 (mLst []) [.shr (.lst (ns.map .int)), s1, .mu false (.lst []), .un, .un, .un, .un, .un, .un, .un, .un, .un, .un, .un] = .nx (E3 ns s1 [] .un .un) := by
    clear e2 e3 e4
    unfold E3 fl
    walk_at "ev"
  rw [a3, SRes.thn_nx, sq]
  clear a3
  have a4 : mFor (mRg2 (mC (.int 10)) (m2 lAdd (mC (.int 11)) (m2 lMod (m1 lInt1 (mCall f__law_cell [.v (fz 0), .v (mC (.int 9))])) (mC (.int 4))))) (.nm 1) lb_law_k46_3 (E3 ns s1 [] .un .un) = .nx (E3 ns k2 Bs s4 s5) := by
    clear e3 e4
    have it : mRg2 (mC (.int 10)) (m2 lAdd (mC (.int 11)) (m2 lMod (m1 lInt1 (mCall f__law_cell [.v (fz 0), .v (mC (.int 9))])) (mC (.int 4)))) (E3 ns s1 [] .un .un) = .ok ((List.range ((11 + c % 4) - 10).toNat).map fun (k : Nat) => D.int (10 + k)) (E3 ns s1 [] .un .un) true := by
      clear e2
      unfold E3
      walk_at "evh"
    show (mRg2 _ _ _).stm _ = _
    rw [it]
    exact e2
  rw [a4, SRes.thn_nx, sq]
  clear a4 e2
  have a5 : mSet 6 (mC (.int 0)) (E3 ns k2 Bs s4 s5) = .nx [.shr (.lst (ns.map .int)), k2, .mu false (O.l (Bs.map encB)), .mu false (O.l ((fl Bs).map .int)), s4, s5, .shr (.int 0), .un, .un, .un, .un, .un, .un, .un] := by
    clear e3 e4
    unfold E3
    walk_at "ev"
  rw [a5, SRes.thn_nx, sq]
  clear a5
  have a6 : mFor (mIt (fz 2)) (.nm 5) lb_law_k46_4 [.shr (.lst (ns.map .int)), k2, .mu false (O.l (Bs.map encB)), .mu false (O.l ((fl Bs).map .int)), s4, s5, .shr (.int 0), .un, .un, .un, .un, .un, .un, .un] = .nx (E4 ns k2 Bs s4 t5 ((fl Bs).length : Nat) t7) := by
    have it : mIt (fz 2) [.shr (.lst (ns.map .int)), k2, .mu false (O.l (Bs.map encB)), .mu false (O.l ((fl Bs).map .int)), s4, s5, .shr (.int 0), .un, .un, .un, .un, .un, .un, .un] = .ok (Bs.map encB) (E4 ns k2 Bs s4 s5 0 .un) false := by
      clear e3 e4
      unfold E4
      walk_at "ev"
    show (mIt _ _).stm _ = _
    rw [it]
    exact e3
  rw [a6, SRes.thn_nx, e4]
  rfl
end Mw.K46

set_option Elab.async false
set_option linter.all false
set_option maxRecDepth 100000
set_option autoImplicit false
namespace Mw.K46
open PySem PySem.Spec PyProof.Rows L2 Mw
def topS (i : Nat) : Stmt := PySem.Challenge.pw_latestart_k46_integers_and_records.main.body.getD i (.Pass ⟨0, 0, 0, 0⟩)
structure Tp (K : PySem.W.Frag) (mg : Str → Option Value) : Prop where
  n_int : mg "int" = none
  n_len : mg "len" = none
  n_list : mg "list" = none
  n_range : mg "range" = none
abbrev s_number_bytes : Stmt := topS 1
theorem sc_number_bytes : FnScope ["n", "found", "rest"] ["n"] (defScope s_number_bytes) := ⟨rfl, rfl, rfl, by decide +kernel, rfl, by decide +kernel, by decide +kernel⟩
abbrev s_read_number : Stmt := topS 2
theorem sc_read_number : FnScope ["data", "at", "total", "scale", "k"] ["data", "at"] (defScope s_read_number) := ⟨rfl, rfl, rfl, by decide +kernel, rfl, by decide +kernel, by decide +kernel⟩
abbrev s_check_sum : Stmt := topS 3
theorem sc_check_sum : FnScope ["data", "total", "byte"] ["data"] (defScope s_check_sum) := ⟨rfl, rfl, rfl, by decide +kernel, rfl, by decide +kernel, by decide +kernel⟩
abbrev s_record_of : Stmt := topS 4
theorem sc_record_of : FnScope ["body"] ["body"] (defScope s_record_of) := ⟨rfl, rfl, rfl, by decide +kernel, rfl, by decide +kernel, by decide +kernel⟩
abbrev s_read_record : Stmt := topS 5
theorem sc_read_record : FnScope ["data", "at", "size", "end", "body", "told"] ["data", "at"] (defScope s_read_record) := ⟨rfl, rfl, rfl, by decide +kernel, rfl, by decide +kernel, by decide +kernel⟩
abbrev s__law_cell : Stmt := topS 7
theorem sc__law_cell : FnScope ["_law_script", "_law_k"] ["_law_script", "_law_k"] (defScope s__law_cell) := ⟨rfl, rfl, rfl, by decide +kernel, rfl, by decide +kernel, by decide +kernel⟩
abbrev s__law_digits : Stmt := topS 8
theorem sc__law_digits : FnScope ["_law_cell_here", "_law_k", "_law_most", "_law_digits_here", "_law_turn", "_law_seed"] ["_law_cell_here", "_law_k", "_law_most"] (defScope s__law_digits) := ⟨rfl, rfl, rfl, by decide +kernel, rfl, by decide +kernel, by decide +kernel⟩
abbrev s__law_padded : Stmt := topS 9
theorem sc__law_padded : FnScope ["_law_cell_here", "_law_k", "_law_d", "_law_turn"] ["_law_cell_here", "_law_k"] (defScope s__law_padded) := ⟨rfl, rfl, rfl, by decide +kernel, rfl, by decide +kernel, by decide +kernel⟩
abbrev s__law_number : Stmt := topS 10
theorem sc__law_number : FnScope ["_law_n", "_law_data", "_law_turn"] ["_law_n"] (defScope s__law_number) := ⟨rfl, rfl, rfl, by decide +kernel, rfl, by decide +kernel, by decide +kernel⟩
abbrev s__law_check : Stmt := topS 11
theorem sc__law_check : FnScope ["_law_data", "_law_total", "_law_byte"] ["_law_data"] (defScope s__law_check) := ⟨rfl, rfl, rfl, by decide +kernel, rfl, by decide +kernel, by decide +kernel⟩
abbrev s__law_record : Stmt := topS 12
theorem sc__law_record : FnScope ["_law_body"] ["_law_body"] (defScope s__law_record) := ⟨rfl, rfl, rfl, by decide +kernel, rfl, by decide +kernel, by decide +kernel⟩
abbrev s__law_integer : Stmt := topS 13
theorem sc__law_integer : FnScope ["_law_script", "_law_k", "_law_n", "_law_digit"] ["_law_script", "_law_k"] (defScope s__law_integer) := ⟨rfl, rfl, rfl, by decide +kernel, rfl, by decide +kernel, by decide +kernel⟩
abbrev s__law_is_number : Stmt := topS 14
theorem sc__law_is_number : FnScope ["_law_n", "_law_data"] ["_law_n"] (defScope s__law_is_number) := ⟨rfl, rfl, rfl, by decide +kernel, rfl, by decide +kernel, by decide +kernel⟩
abbrev s_law : Stmt := topS 15
theorem sc_law : FnScope ["_law_script", "_law_k", "_law_bodies", "_law_data", "_law_cell_here", "_law_body", "_law_at", "_law_told", "_law_one", "_law_cut", "_law_size", "_law_start", "_law_changed", "_law_digit"] ["_law_script"] (defScope s_law) := ⟨rfl, rfl, rfl, by decide +kernel, rfl, by decide +kernel, by decide +kernel⟩
section
variable {P : Program} {w : World} {K : PySem.W.Frag} {mg : Str → Option Value} {base : Heap}
theorem ok_number_bytes (T : Tp K mg) {fa : Addr} {fd : FuncData} (F : L2.Fun K "number_bytes" "number_bytes" s_number_bytes fa fd) : FnOk P w K mg base (L2.CX P w) (0 + 1) fa fd ["n"] (spF ⟨K, mg⟩ 1 f_number_bytes) := by
  rw [f_number_bytes_eq]; exact fn_ok F sc_number_bytes fun cdv A outer s H E hr =>
    (ss_cons (ss_set (i := 1) sc_number_bytes.nd rfl (.inl rfl) (s_lst a_nil))
    (ss_cons (ss_set (i := 2) sc_number_bytes.nd rfl (.inl rfl) (s_fz (i := 0) rfl (.inl rfl)))
    (ss_cons (ss_while (passes_of rfl) (st_cmp cb_ge (s_nm (i := 2) rfl (.inl rfl)) s_int (nomark _)) (ss_cons (ss_expr (s_append (i := 1) rfl (.inl rfl) (s_add s_int (s_mod (s_nm (i := 2) rfl (.inl rfl)) s_int))))
    (ss_one (ss_set (i := 2) sc_number_bytes.nd rfl (.inl rfl) (s_div (s_nm (i := 2) rfl (.inl rfl)) s_int)))))
    (ss_cons (ss_expr (s_append (i := 1) rfl (.inl rfl) (s_fz (i := 2) rfl (.inl rfl))))
    (ss_one (ss_ret (s_mv (i := 1) rfl (.inl rfl))))))))
theorem ok_read_number (T : Tp K mg) {fa : Addr} {fd : FuncData} (F : L2.Fun K "read_number" "read_number" s_read_number fa fd) : FnOk P w K mg base (L2.CX P w) (0 + 1) fa fd ["data", "at"] (spF ⟨K, mg⟩ 2 f_read_number) := by
  rw [f_read_number_eq]; exact fn_ok F sc_read_number fun cdv A outer s H E hr =>
    (ss_cons (ss_set (i := 2) sc_read_number.nd rfl (.inl rfl) s_int)
    (ss_cons (ss_set (i := 3) sc_read_number.nd rfl (.inl rfl) s_int)
    (ss_cons (ss_set (i := 4) sc_read_number.nd rfl (.inl rfl) (s_fz (i := 1) rfl (.inl rfl)))
    (ss_cons (ss_while (passes_of rfl) (st_pw (sw_and (st_cmp cb_lt (s_nm (i := 4) rfl (.inl rfl)) (s_len rfl T.n_len (s_nm (i := 0) rfl (.inl rfl))) (nomark _)) (sw_and1 (st_cmp cb_ge (s_at (s_nm (i := 0) rfl (.inl rfl)) (s_nm (i := 4) rfl (.inl rfl))) s_int (nomark _))))) (ss_cons (ss_set (i := 2) sc_read_number.nd rfl (.inl rfl) (s_add (s_nm (i := 2) rfl (.inl rfl)) (s_mul (s_sub (s_at (s_nm (i := 0) rfl (.inl rfl)) (s_nm (i := 4) rfl (.inl rfl))) s_int) (s_nm (i := 3) rfl (.inl rfl)))))
    (ss_cons (ss_set (i := 3) sc_read_number.nd rfl (.inl rfl) (s_mul (s_nm (i := 3) rfl (.inl rfl)) s_int))
    (ss_one (ss_set (i := 4) sc_read_number.nd rfl (.inl rfl) (s_add (s_nm (i := 4) rfl (.inl rfl)) s_int))))))
    (ss_cons (ss_if (st_cmp cb_ge (s_nm (i := 4) rfl (.inl rfl)) (s_len rfl T.n_len (s_nm (i := 0) rfl (.inl rfl))) (nomark _)) (ss_one (ss_ret s_non)) ss_nil)
    (ss_cons (ss_if (st_pw (sw_and (st_cmp (cb_eq hr.units) (s_at (s_nm (i := 0) rfl (.inl rfl)) (s_nm (i := 4) rfl (.inl rfl))) s_int (nomark _)) (sw_and1 (st_cmp cb_gt (s_nm (i := 4) rfl (.inl rfl)) (s_nm (i := 1) rfl (.inl rfl)) (nomark _))))) (ss_one (ss_ret s_non)) ss_nil)
    (ss_one (ss_ret (s_tup (a_cons (s_add (s_nm (i := 2) rfl (.inl rfl)) (s_mul (s_at (s_nm (i := 0) rfl (.inl rfl)) (s_nm (i := 4) rfl (.inl rfl))) (s_nm (i := 3) rfl (.inl rfl)))) (a_cons (s_add (s_nm (i := 4) rfl (.inl rfl)) s_int) a_nil)))))))))))
theorem ok_check_sum (T : Tp K mg) {fa : Addr} {fd : FuncData} (F : L2.Fun K "check_sum" "check_sum" s_check_sum fa fd) : FnOk P w K mg base (L2.CX P w) (0 + 1) fa fd ["data"] (spF ⟨K, mg⟩ 1 f_check_sum) := by
  rw [f_check_sum_eq]; exact fn_ok F sc_check_sum fun cdv A outer s H E hr =>
    (ss_cons (ss_set (i := 1) sc_check_sum.nd rfl (.inl rfl) s_int)
    (ss_cons (ss_for (passes_of rfl) rfl (si_seq (s_fz (i := 0) rfl (.inl rfl))) (sg_nm (i := 2) sc_check_sum.nd rfl (.inl rfl)) (ss_one (ss_set (i := 1) sc_check_sum.nd rfl (.inl rfl) (s_mod (s_add (s_mul s_int (s_nm (i := 1) rfl (.inl rfl))) (s_nm (i := 2) rfl (.inl rfl))) s_int))))
    (ss_one (ss_ret (s_mv (i := 1) rfl (.inl rfl))))))
theorem ok_record_of (T : Tp K mg) (H_check_sum : Kp P w K mg base 1 "check_sum" 1 f_check_sum) (H_number_bytes : Kp P w K mg base 1 "number_bytes" 1 f_number_bytes) {fa : Addr} {fd : FuncData} (F : L2.Fun K "record_of" "record_of" s_record_of fa fd) : FnOk P w K mg base (L2.CX P w) (1 + 1) fa fd ["body"] (spF ⟨K, mg⟩ 1 f_record_of) := by
  rw [f_record_of_eq]; exact fn_ok F sc_record_of fun cdv A outer s H E hr =>
    (ss_one (ss_ret (s_add (s_add (s_call (H_number_bytes.mono (by decide)) hr rfl (takes_of rfl rfl rfl rfl) (b_v (s_len rfl T.n_len (s_nm (i := 0) rfl (.inl rfl))) b_nil)) (s_list rfl T.n_list (s_nm (i := 0) rfl (.inl rfl)))) (s_call (H_number_bytes.mono (by decide)) hr rfl (takes_of rfl rfl rfl rfl) (b_v (s_call (H_check_sum.mono (by decide)) hr rfl (takes_of rfl rfl rfl rfl) (b_v (s_fz (i := 0) rfl (.inl rfl)) b_nil)) b_nil)))))
theorem ok_read_record (T : Tp K mg) (H_check_sum : Kp P w K mg base 1 "check_sum" 1 f_check_sum) (H_read_number : Kp P w K mg base 1 "read_number" 2 f_read_number) {fa : Addr} {fd : FuncData} (F : L2.Fun K "read_record" "read_record" s_read_record fa fd) : FnOk P w K mg base (L2.CX P w) (1 + 1) fa fd ["data", "at"] (spF ⟨K, mg⟩ 2 f_read_record) := by
  rw [f_read_record_eq]; exact fn_ok F sc_read_record fun cdv A outer s H E hr =>
    (ss_cons (ss_set (i := 2) sc_read_record.nd rfl (.inl rfl) (s_call (H_read_number.mono (by decide)) hr rfl (takes_of rfl rfl rfl rfl) (b_v (s_fz (i := 0) rfl (.inl rfl)) (b_v (s_fz (i := 1) rfl (.inl rfl)) b_nil))))
    (ss_cons (ss_if (st_pw (sw_or (st_cmp cb_isN (s_nm (i := 2) rfl (.inl rfl)) s_non (nomark _)) (sw_or1 (st_cmp cb_gt (s_add (s_at (s_nm (i := 2) rfl (.inl rfl)) s_int) (s_at (s_nm (i := 2) rfl (.inl rfl)) s_int)) (s_len rfl T.n_len (s_nm (i := 0) rfl (.inl rfl))) (nomark _))))) (ss_one (ss_ret s_non)) ss_nil)
    (ss_cons (ss_set (i := 3) sc_read_record.nd rfl (.inl rfl) (s_add (s_at (s_nm (i := 2) rfl (.inl rfl)) s_int) (s_at (s_nm (i := 2) rfl (.inl rfl)) s_int)))
    (ss_cons (ss_set (i := 4) sc_read_record.nd rfl (.inl rfl) (s_sl11 (s_nm (i := 0) rfl (.inl rfl)) (s_at (s_nm (i := 2) rfl (.inl rfl)) s_int) (s_nm (i := 3) rfl (.inl rfl))))
    (ss_cons (ss_set (i := 5) sc_read_record.nd rfl (.inl rfl) (s_call (H_read_number.mono (by decide)) hr rfl (takes_of rfl rfl rfl rfl) (b_v (s_fz (i := 0) rfl (.inl rfl)) (b_v (s_fz (i := 3) rfl (.inl rfl)) b_nil))))
    (ss_cons (ss_if (st_pw (sw_or (st_cmp cb_isN (s_nm (i := 5) rfl (.inl rfl)) s_non (nomark _)) (sw_or1 (st_cmp (cb_ne hr.units) (s_at (s_nm (i := 5) rfl (.inl rfl)) s_int) (s_call (H_check_sum.mono (by decide)) hr rfl (takes_of rfl rfl rfl rfl) (b_v (s_fz (i := 4) rfl (.inl rfl)) b_nil)) (nomark _))))) (ss_one (ss_ret s_non)) ss_nil)
    (ss_one (ss_ret (s_tup (a_cons (s_fz (i := 4) rfl (.inl rfl)) (a_cons (s_at (s_nm (i := 5) rfl (.inl rfl)) s_int) a_nil)))))))))))
theorem ok__law_cell (T : Tp K mg) {fa : Addr} {fd : FuncData} (F : L2.Fun K "_law_cell" "_law_cell" s__law_cell fa fd) : FnOk P w K mg base (L2.CX P w) (0 + 1) fa fd ["_law_script", "_law_k"] (spF ⟨K, mg⟩ 2 f__law_cell) := by
  rw [f__law_cell_eq]; exact fn_ok F sc__law_cell fun cdv A outer s H E hr =>
    (ss_cons (ss_if (st_cmp cb_lt (s_nm (i := 1) rfl (.inl rfl)) (s_len rfl T.n_len (s_nm (i := 0) rfl (.inl rfl))) (nomark _)) (ss_one (ss_ret (s_at (s_nm (i := 0) rfl (.inl rfl)) (s_nm (i := 1) rfl (.inl rfl))))) ss_nil)
    (ss_one (ss_ret s_int)))
theorem ok__law_digits (T : Tp K mg) {fa : Addr} {fd : FuncData} (F : L2.Fun K "_law_digits" "_law_digits" s__law_digits fa fd) : FnOk P w K mg base (L2.CX P w) (0 + 1) fa fd ["_law_cell_here", "_law_k", "_law_most"] (spF ⟨K, mg⟩ 3 f__law_digits_1dd1) := by
  rw [f__law_digits_1dd1_eq]; exact fn_ok F sc__law_digits fun cdv A outer s H E hr =>
    (ss_cons (ss_set (i := 3) sc__law_digits.nd rfl (.inl rfl) (s_lst a_nil))
    (ss_cons (ss_if (st_cmp cb_lt (s_nm (i := 0) rfl (.inl rfl)) s_int (nomark _)) (ss_one (ss_set (i := 0) sc__law_digits.nd rfl (.inl rfl) (s_sub (s_neg s_int) (s_nm (i := 0) rfl (.inl rfl))))) ss_nil)
    (ss_cons (ss_if (st_cmp cb_ge (s_nm (i := 0) rfl (.inl rfl)) (s_pow s_int s_int) (nomark _)) (ss_one (ss_for (passes_of rfl) rfl (si_rg1 rfl T.n_range s_int) (sg_nm (i := 4) sc__law_digits.nd rfl (.inl rfl)) (ss_one (ss_if (st_pw (sw_and (st_cmp cb_gt (s_nm (i := 0) rfl (.inl rfl)) s_int (nomark _)) (sw_and1 (st_cmp cb_lt (s_len rfl T.n_len (s_nm (i := 3) rfl (.inl rfl))) (s_nm (i := 2) rfl (.inl rfl)) (nomark _))))) (ss_cons (ss_expr (s_append (i := 3) rfl (.inl rfl) (s_mod (s_int1 rfl T.n_int (s_nm (i := 0) rfl (.inl rfl))) s_int)))
    (ss_one (ss_set (i := 0) sc__law_digits.nd rfl (.inl rfl) (s_div (s_nm (i := 0) rfl (.inl rfl)) s_int)))) ss_nil)))) (ss_cons (ss_set (i := 5) sc__law_digits.nd rfl (.inl rfl) (s_mod (s_int1 rfl T.n_int (s_add (s_add (s_mul (s_nm (i := 0) rfl (.inl rfl)) s_int) (s_mul (s_nm (i := 1) rfl (.inl rfl)) s_int)) s_int)) s_int))
    (ss_one (ss_for (passes_of rfl) rfl (si_rg1 rfl T.n_range (s_nm (i := 2) rfl (.inl rfl))) (sg_nm (i := 4) sc__law_digits.nd rfl (.inl rfl)) (ss_cons (ss_set (i := 5) sc__law_digits.nd rfl (.inl rfl) (s_mod (s_int1 rfl T.n_int (s_add (s_add (s_mul (s_nm (i := 5) rfl (.inl rfl)) s_int) (s_mul s_int (s_nm (i := 4) rfl (.inl rfl)))) s_int)) s_int))
    (ss_one (ss_expr (s_append (i := 3) rfl (.inl rfl) (s_mod (s_int1 rfl T.n_int (s_div (s_nm (i := 5) rfl (.inl rfl)) s_int)) s_int)))))))))
    (ss_one (ss_ret (s_mv (i := 3) rfl (.inl rfl)))))))
theorem ok__law_padded (T : Tp K mg) (H__law_digits : Kp P w K mg base 1 "_law_digits" 3 f__law_digits_1dd1) {fa : Addr} {fd : FuncData} (F : L2.Fun K "_law_padded" "_law_padded" s__law_padded fa fd) : FnOk P w K mg base (L2.CX P w) (1 + 1) fa fd ["_law_cell_here", "_law_k"] (spF ⟨K, mg⟩ 2 f__law_padded) := by
  rw [f__law_padded_eq]; exact fn_ok F sc__law_padded fun cdv A outer s H E hr =>
    (ss_cons (ss_set (i := 2) sc__law_padded.nd rfl (.inl rfl) (s_call (H__law_digits.mono (by decide)) hr rfl (takes_of rfl rfl rfl rfl) (b_v (s_fz (i := 0) rfl (.inl rfl)) (b_v (s_fz (i := 1) rfl (.inl rfl)) (b_v s_int b_nil)))))
    (ss_cons (ss_for (passes_of rfl) rfl (si_rg1 rfl T.n_range s_int) (sg_nm (i := 3) sc__law_padded.nd rfl (.inl rfl)) (ss_one (ss_expr (s_append (i := 2) rfl (.inl rfl) (s_fz (i := 3) rfl (.inl rfl))))))
    (ss_one (ss_ret (s_mv (i := 2) rfl (.inl rfl))))))
theorem ok__law_number (T : Tp K mg) {fa : Addr} {fd : FuncData} (F : L2.Fun K "_law_number" "_law_number" s__law_number fa fd) : FnOk P w K mg base (L2.CX P w) (0 + 1) fa fd ["_law_n"] (spF ⟨K, mg⟩ 1 f__law_number) := by
  rw [f__law_number_eq]; exact fn_ok F sc__law_number fun cdv A outer s H E hr =>
    (ss_cons (ss_set (i := 1) sc__law_number.nd rfl (.inl rfl) (s_lst a_nil))
    (ss_cons (ss_for (passes_of rfl) rfl (si_rg1 rfl T.n_range s_int) (sg_nm (i := 2) sc__law_number.nd rfl (.inl rfl)) (ss_one (ss_if (st_cmp cb_ge (s_nm (i := 0) rfl (.inl rfl)) s_int (nomark _)) (ss_cons (ss_expr (s_append (i := 1) rfl (.inl rfl) (s_add (s_mod (s_int1 rfl T.n_int (s_nm (i := 0) rfl (.inl rfl))) s_int) s_int)))
    (ss_one (ss_set (i := 0) sc__law_number.nd rfl (.inl rfl) (s_div (s_nm (i := 0) rfl (.inl rfl)) s_int)))) ss_nil)))
    (ss_cons (ss_expr (s_append (i := 1) rfl (.inl rfl) (s_fz (i := 0) rfl (.inl rfl))))
    (ss_one (ss_ret (s_mv (i := 1) rfl (.inl rfl)))))))
theorem ok__law_check (T : Tp K mg) {fa : Addr} {fd : FuncData} (F : L2.Fun K "_law_check" "_law_check" s__law_check fa fd) : FnOk P w K mg base (L2.CX P w) (0 + 1) fa fd ["_law_data"] (spF ⟨K, mg⟩ 1 f__law_check) := by
  rw [f__law_check_eq]; exact fn_ok F sc__law_check fun cdv A outer s H E hr =>
    (ss_cons (ss_set (i := 1) sc__law_check.nd rfl (.inl rfl) s_int)
    (ss_cons (ss_for (passes_of rfl) rfl (si_seq (s_fz (i := 0) rfl (.inl rfl))) (sg_nm (i := 2) sc__law_check.nd rfl (.inl rfl)) (ss_one (ss_set (i := 1) sc__law_check.nd rfl (.inl rfl) (s_mod (s_int1 rfl T.n_int (s_add (s_mul s_int (s_nm (i := 1) rfl (.inl rfl))) (s_nm (i := 2) rfl (.inl rfl)))) s_int))))
    (ss_one (ss_ret (s_mv (i := 1) rfl (.inl rfl))))))
theorem ok__law_record (T : Tp K mg) (H__law_check : Kp P w K mg base 1 "_law_check" 1 f__law_check) (H__law_number : Kp P w K mg base 1 "_law_number" 1 f__law_number) {fa : Addr} {fd : FuncData} (F : L2.Fun K "_law_record" "_law_record" s__law_record fa fd) : FnOk P w K mg base (L2.CX P w) (1 + 1) fa fd ["_law_body"] (spF ⟨K, mg⟩ 1 f__law_record) := by
  rw [f__law_record_eq]; exact fn_ok F sc__law_record fun cdv A outer s H E hr =>
    (ss_one (ss_ret (s_add (s_add (s_call (H__law_number.mono (by decide)) hr rfl (takes_of rfl rfl rfl rfl) (b_v (s_len rfl T.n_len (s_nm (i := 0) rfl (.inl rfl))) b_nil)) (s_nm (i := 0) rfl (.inl rfl))) (s_call (H__law_number.mono (by decide)) hr rfl (takes_of rfl rfl rfl rfl) (b_v (s_call (H__law_check.mono (by decide)) hr rfl (takes_of rfl rfl rfl rfl) (b_v (s_fz (i := 0) rfl (.inl rfl)) b_nil)) b_nil)))))
theorem ok__law_integer (T : Tp K mg) (H__law_cell : Kp P w K mg base 1 "_law_cell" 2 f__law_cell) (H__law_digits : Kp P w K mg base 1 "_law_digits" 3 f__law_digits_1dd1) {fa : Addr} {fd : FuncData} (F : L2.Fun K "_law_integer" "_law_integer" s__law_integer fa fd) : FnOk P w K mg base (L2.CX P w) (1 + 1) fa fd ["_law_script", "_law_k"] (spF ⟨K, mg⟩ 2 f__law_integer) := by
  rw [f__law_integer_eq]; exact fn_ok F sc__law_integer fun cdv A outer s H E hr =>
    (ss_cons (ss_set (i := 2) sc__law_integer.nd rfl (.inl rfl) s_int)
    (ss_cons (ss_for (passes_of rfl) rfl (si_seq (s_call (H__law_digits.mono (by decide)) hr rfl (takes_of rfl rfl rfl rfl) (b_v (s_call (H__law_cell.mono (by decide)) hr rfl (takes_of rfl rfl rfl rfl) (b_v (s_fz (i := 0) rfl (.inl rfl)) (b_v (s_fz (i := 1) rfl (.inl rfl)) b_nil))) (b_v (s_fz (i := 1) rfl (.inl rfl)) (b_v (s_mod (s_int1 rfl T.n_int (s_call (H__law_cell.mono (by decide)) hr rfl (takes_of rfl rfl rfl rfl) (b_v (s_fz (i := 0) rfl (.inl rfl)) (b_v (s_fz (i := 1) rfl (.inl rfl)) b_nil)))) s_int) b_nil))))) (sg_nm (i := 3) sc__law_integer.nd rfl (.inl rfl)) (ss_one (ss_set (i := 2) sc__law_integer.nd rfl (.inl rfl) (s_add (s_mul (s_nm (i := 2) rfl (.inl rfl)) s_int) (s_int1 rfl T.n_int (s_nm (i := 3) rfl (.inl rfl)))))))
    (ss_one (ss_ret (s_sub (s_add (s_nm (i := 2) rfl (.inl rfl)) (s_at (s_lst (a_cons s_int (a_cons s_int (a_cons s_int (a_cons s_int (a_cons s_int a_nil)))))) (s_mod (s_int1 rfl T.n_int (s_div (s_call (H__law_cell.mono (by decide)) hr rfl (takes_of rfl rfl rfl rfl) (b_v (s_fz (i := 0) rfl (.inl rfl)) (b_v (s_fz (i := 1) rfl (.inl rfl)) b_nil))) s_int)) s_int))) (s_int1 rfl T.n_int (s_gt (s_nm (i := 2) rfl (.inl rfl)) s_int)))))))
theorem ok__law_is_number (T : Tp K mg) (H__law_number : Kp P w K mg base 1 "_law_number" 1 f__law_number) (H_number_bytes : Kp P w K mg base 1 "number_bytes" 1 f_number_bytes) (H_read_number : Kp P w K mg base 1 "read_number" 2 f_read_number) {fa : Addr} {fd : FuncData} (F : L2.Fun K "_law_is_number" "_law_is_number" s__law_is_number fa fd) : FnOk P w K mg base (L2.CX P w) (1 + 1) fa fd ["_law_n"] (spF ⟨K, mg⟩ 1 f__law_is_number) := by
  rw [f__law_is_number_eq]; exact fn_ok F sc__law_is_number fun cdv A outer s H E hr =>
    (ss_cons (ss_set (i := 1) sc__law_is_number.nd rfl (.inl rfl) (s_call (H__law_number.mono (by decide)) hr rfl (takes_of rfl rfl rfl rfl) (b_v (s_fz (i := 0) rfl (.inl rfl)) b_nil)))
    (ss_cons (ss_if (st_pw (sw_or (st_cmp (cb_ne hr.units) (s_list rfl T.n_list (s_call (H_number_bytes.mono (by decide)) hr rfl (takes_of rfl rfl rfl rfl) (b_v (s_fz (i := 0) rfl (.inl rfl)) b_nil))) (s_nm (i := 1) rfl (.inl rfl)) (nomark _)) (sw_or1 (st_cmp (cb_ne hr.units) (s_call (H_read_number.mono (by decide)) hr rfl (takes_of rfl rfl rfl rfl) (b_v (s_add (s_add (s_lst (a_cons s_int (a_cons s_int a_nil))) (s_nm (i := 1) rfl (.inl rfl))) (s_lst (a_cons s_int a_nil))) (b_v s_int b_nil))) (s_tup (a_cons (s_fz (i := 0) rfl (.inl rfl)) (a_cons (s_add s_int (s_len rfl T.n_len (s_nm (i := 1) rfl (.inl rfl)))) a_nil))) (nomark _))))) (ss_one (ss_ret s_bl)) ss_nil)
    (ss_one (ss_ret (s_and (s_isN (s_call (H_read_number.mono (by decide)) hr rfl (takes_of rfl rfl rfl rfl) (b_v (s_sl01 (s_nm (i := 1) rfl (.inl rfl)) (s_neg s_int)) (b_v s_int b_nil))) s_non) (s_and1 (s_isN (s_call (H_read_number.mono (by decide)) hr rfl (takes_of rfl rfl rfl rfl) (b_v (s_add (s_sl01 (s_nm (i := 1) rfl (.inl rfl)) (s_neg s_int)) (s_lst (a_cons (s_add (s_at (s_nm (i := 1) rfl (.inl rfl)) (s_neg s_int)) s_int) (a_cons s_int a_nil)))) (b_v s_int b_nil))) s_non)))))))
theorem ok_law (T : Tp K mg) (H__law_cell : Kp P w K mg base 1 "_law_cell" 2 f__law_cell) (H__law_check : Kp P w K mg base 1 "_law_check" 1 f__law_check) (H__law_digits : Kp P w K mg base 1 "_law_digits" 3 f__law_digits_1dd1) (H__law_integer : Kp P w K mg base 2 "_law_integer" 2 f__law_integer) (H__law_is_number : Kp P w K mg base 2 "_law_is_number" 1 f__law_is_number) (H__law_number : Kp P w K mg base 1 "_law_number" 1 f__law_number) (H__law_record : Kp P w K mg base 2 "_law_record" 1 f__law_record) (H_read_record : Kp P w K mg base 2 "read_record" 2 f_read_record) (H_record_of : Kp P w K mg base 2 "record_of" 1 f_record_of) {fa : Addr} {fd : FuncData} (F : L2.Fun K "law" "law" s_law fa fd) : FnOk P w K mg base (L2.CX P w) (2 + 1) fa fd ["_law_script"] (spF ⟨K, mg⟩ 1 f_law_k46) := by
  rw [f_law_k46_eq]; exact fn_ok F sc_law fun cdv A outer s H E hr =>
    (ss_cons (ss_for (passes_of rfl) rfl (si_rg1 rfl T.n_range s_int) (sg_nm (i := 1) sc_law.nd rfl (.inl rfl)) (ss_one (ss_if (st_not (st_val (s_call (H__law_is_number.mono (by decide)) hr rfl (takes_of rfl rfl rfl rfl) (b_v (s_call (H__law_integer.mono (by decide)) hr rfl (takes_of rfl rfl rfl rfl) (b_v (s_fz (i := 0) rfl (.inl rfl)) (b_v (s_fz (i := 1) rfl (.inl rfl)) b_nil))) b_nil)))) (ss_one (ss_ret s_bl)) ss_nil)))
    (ss_cons (ss_set (i := 2) sc_law.nd rfl (.inl rfl) (s_lst a_nil))
    (ss_cons (ss_set (i := 3) sc_law.nd rfl (.inl rfl) (s_lst a_nil))
    (ss_cons (ss_for (passes_of rfl) rfl (si_rg2 rfl T.n_range s_int (s_add s_int (s_mod (s_int1 rfl T.n_int (s_call (H__law_cell.mono (by decide)) hr rfl (takes_of rfl rfl rfl rfl) (b_v (s_fz (i := 0) rfl (.inl rfl)) (b_v s_int b_nil)))) s_int))) (sg_nm (i := 1) sc_law.nd rfl (.inl rfl)) (ss_cons (ss_set (i := 4) sc_law.nd rfl (.inl rfl) (s_call (H__law_cell.mono (by decide)) hr rfl (takes_of rfl rfl rfl rfl) (b_v (s_fz (i := 0) rfl (.inl rfl)) (b_v (s_fz (i := 1) rfl (.inl rfl)) b_nil))))
    (ss_cons (ss_set (i := 5) sc_law.nd rfl (.inl rfl) (s_mul (s_lc (own := [("_law_digit", 13)]) rfl sc_law.nd (blkOk_by (N := ["_law_script", "_law_k", "_law_bodies", "_law_data", "_law_cell_here", "_law_body", "_law_at", "_law_told", "_law_one", "_law_cut", "_law_size", "_law_start", "_law_changed", "_law_digit"]) (sc := (defScope s_law)) (own := [("_law_digit", 13)]) (by decide +kernel)) (si_seq (s_call (H__law_digits.mono (by decide)) hr rfl (takes_of rfl rfl rfl rfl) (b_v (s_fz (i := 4) rfl (.inl rfl)) (b_v (s_fz (i := 1) rfl (.inl rfl)) (b_v (s_mod (s_int1 rfl T.n_int (s_nm (i := 4) rfl (.inl rfl))) s_int) b_nil))))) (fun _ _ _ _ _ => (sg_nm (i := 13) sc_law.nd rfl (.inl rfl))) (fun _ _ _ _ _ => sf_nil) (fun _ _ _ _ _ => (s_mod (s_int1 rfl T.n_int (s_nm (i := 13) rfl (.inl rfl))) s_int))) (s_at (s_lst (a_cons s_int (a_cons s_int (a_cons s_int a_nil)))) (s_mod (s_int1 rfl T.n_int (s_div (s_nm (i := 4) rfl (.inl rfl)) s_int)) s_int))))
    (ss_cons (ss_if (st_cmp (cb_ne hr.units) (s_list rfl T.n_list (s_call (H_record_of.mono (by decide)) hr rfl (takes_of rfl rfl rfl rfl) (b_v (s_list rfl T.n_list (s_nm (i := 5) rfl (.inl rfl))) b_nil))) (s_call (H__law_record.mono (by decide)) hr rfl (takes_of rfl rfl rfl rfl) (b_v (s_fz (i := 5) rfl (.inl rfl)) b_nil)) (nomark _)) (ss_one (ss_ret s_bl)) ss_nil)
    (ss_cons (ss_expr (s_append (i := 2) rfl (.inl rfl) (s_fz (i := 5) rfl (.inl rfl))))
    (ss_one (ss_set (i := 3) sc_law.nd rfl (.inl rfl) (s_add (s_nm (i := 3) rfl (.inl rfl)) (s_call (H__law_record.mono (by decide)) hr rfl (takes_of rfl rfl rfl rfl) (b_v (s_fz (i := 5) rfl (.inl rfl)) b_nil))))))))))
    (ss_cons (ss_set (i := 6) sc_law.nd rfl (.inl rfl) s_int)
    (ss_cons (ss_for (passes_of rfl) rfl (si_seq (s_fz (i := 2) rfl (.inl rfl))) (sg_nm (i := 5) sc_law.nd rfl (.inl rfl)) (ss_cons (ss_set (i := 7) sc_law.nd rfl (.inl rfl) (s_call (H_read_record.mono (by decide)) hr rfl (takes_of rfl rfl rfl rfl) (b_v (s_list rfl T.n_list (s_nm (i := 3) rfl (.inl rfl))) (b_v (s_fz (i := 6) rfl (.inl rfl)) b_nil))))
    (ss_cons (ss_if (st_pw (sw_or (st_cmp cb_isN (s_nm (i := 7) rfl (.inl rfl)) s_non (nomark _)) (sw_or (st_cmp (cb_ne hr.units) (s_list rfl T.n_list (s_at (s_nm (i := 7) rfl (.inl rfl)) s_int)) (s_nm (i := 5) rfl (.inl rfl)) (nomark _)) (sw_or1 (st_cmp (cb_ne hr.units) (s_at (s_nm (i := 7) rfl (.inl rfl)) s_int) (s_add (s_nm (i := 6) rfl (.inl rfl)) (s_len rfl T.n_len (s_call (H__law_record.mono (by decide)) hr rfl (takes_of rfl rfl rfl rfl) (b_v (s_fz (i := 5) rfl (.inl rfl)) b_nil)))) (nomark _)))))) (ss_one (ss_ret s_bl)) ss_nil)
    (ss_one (ss_set (i := 6) sc_law.nd rfl (.inl rfl) (s_at (s_nm (i := 7) rfl (.inl rfl)) s_int))))))
    (ss_cons (ss_set (i := 8) sc_law.nd rfl (.inl rfl) (s_call (H__law_record.mono (by decide)) hr rfl (takes_of rfl rfl rfl rfl) (b_v (s_at (s_nm (i := 2) rfl (.inl rfl)) s_int) b_nil)))
    (ss_cons (ss_set (i := 9) sc_law.nd rfl (.inl rfl) (s_mod (s_int1 rfl T.n_int (s_call (H__law_cell.mono (by decide)) hr rfl (takes_of rfl rfl rfl rfl) (b_v (s_fz (i := 0) rfl (.inl rfl)) (b_v s_int b_nil)))) (s_len rfl T.n_len (s_nm (i := 8) rfl (.inl rfl)))))
    (ss_cons (ss_if (st_pw (sw_or (st_cmp cb_notN (s_call (H_read_record.mono (by decide)) hr rfl (takes_of rfl rfl rfl rfl) (b_v (s_list rfl T.n_list (s_nm (i := 3) rfl (.inl rfl))) (b_v (s_fz (i := 6) rfl (.inl rfl)) b_nil))) s_non (nomark _)) (sw_or1 (st_cmp cb_notN (s_call (H_read_record.mono (by decide)) hr rfl (takes_of rfl rfl rfl rfl) (b_v (s_sl01 (s_nm (i := 8) rfl (.inl rfl)) (s_nm (i := 9) rfl (.inl rfl))) (b_v s_int b_nil))) s_non (nomark _))))) (ss_one (ss_ret s_bl)) ss_nil)
    (ss_cons (ss_set (i := 10) sc_law.nd rfl (.inl rfl) (s_len rfl T.n_len (s_at (s_nm (i := 2) rfl (.inl rfl)) s_int)))
    (ss_cons (ss_if (st_pw (sw_and (st_cmp cb_lt (s_nm (i := 10) rfl (.inl rfl)) s_int (nomark _)) (sw_and1 (st_cmp cb_notN (s_call (H_read_record.mono (by decide)) hr rfl (takes_of rfl rfl rfl rfl) (b_v (s_add (s_lst (a_cons (s_add (s_at (s_nm (i := 8) rfl (.inl rfl)) s_int) s_int) (a_cons s_int a_nil))) (s_sl10 (s_nm (i := 8) rfl (.inl rfl)) s_int)) (b_v s_int b_nil))) s_non (nomark _))))) (ss_one (ss_ret s_bl)) ss_nil)
    (ss_cons (ss_if (st_cmp cb_notN (s_call (H_read_record.mono (by decide)) hr rfl (takes_of rfl rfl rfl rfl) (b_v (s_add (s_sl01 (s_nm (i := 8) rfl (.inl rfl)) (s_neg s_int)) (s_lst (a_cons (s_add (s_at (s_nm (i := 8) rfl (.inl rfl)) (s_neg s_int)) s_int) (a_cons s_int a_nil)))) (b_v s_int b_nil))) s_non (nomark _)) (ss_one (ss_ret s_bl)) ss_nil)
    (ss_cons (ss_if (st_cmp cb_gt (s_nm (i := 10) rfl (.inl rfl)) s_int (nomark _)) (ss_cons (ss_set (i := 11) sc_law.nd rfl (.inl rfl) (s_len rfl T.n_len (s_call (H__law_number.mono (by decide)) hr rfl (takes_of rfl rfl rfl rfl) (b_v (s_fz (i := 10) rfl (.inl rfl)) b_nil))))
    (ss_cons (ss_set (i := 1) sc_law.nd rfl (.inl rfl) (s_add (s_nm (i := 11) rfl (.inl rfl)) (s_mod (s_int1 rfl T.n_int (s_call (H__law_cell.mono (by decide)) hr rfl (takes_of rfl rfl rfl rfl) (b_v (s_fz (i := 0) rfl (.inl rfl)) (b_v s_int b_nil)))) (s_nm (i := 10) rfl (.inl rfl)))))
    (ss_cons (ss_set (i := 12) sc_law.nd rfl (.inl rfl) (s_list rfl T.n_list (s_nm (i := 8) rfl (.inl rfl))))
    (ss_cons (ss_put (i := 12) rfl (.inl rfl) (s_mod (s_int1 rfl T.n_int (s_add (s_add (s_at (s_nm (i := 12) rfl (.inl rfl)) (s_nm (i := 1) rfl (.inl rfl))) s_int) (s_mod (s_int1 rfl T.n_int (s_call (H__law_cell.mono (by decide)) hr rfl (takes_of rfl rfl rfl rfl) (b_v (s_fz (i := 0) rfl (.inl rfl)) (b_v s_int b_nil)))) s_int))) s_int) (s_nm (i := 1) rfl (.inl rfl)))
    (ss_one (ss_if (st_cmp (cb_ne hr.units) (s_call (H__law_check.mono (by decide)) hr rfl (takes_of rfl rfl rfl rfl) (b_v (s_sl11 (s_nm (i := 12) rfl (.inl rfl)) (s_nm (i := 11) rfl (.inl rfl)) (s_add (s_nm (i := 11) rfl (.inl rfl)) (s_nm (i := 10) rfl (.inl rfl)))) b_nil)) (s_call (H__law_check.mono (by decide)) hr rfl (takes_of rfl rfl rfl rfl) (b_v (s_at (s_nm (i := 2) rfl (.inl rfl)) s_int) b_nil)) (nomark _)) (ss_one (ss_ret (s_isN (s_call (H_read_record.mono (by decide)) hr rfl (takes_of rfl rfl rfl rfl) (b_v (s_fz (i := 12) rfl (.inl rfl)) (b_v s_int b_nil))) s_non))) ss_nil)))))) ss_nil)
    (ss_one (ss_ret s_bl)))))))))))))))
end
theorem all_mk {l : PySem.W.OpenLaw} {w : World} {K : PySem.W.Frag} {h : Heap} {mg : Str → Option Value} {fa : Addr} (X : K.In h) (G : h.Ns mainGlobals mg) (hfa : mg "law" = some (.ref fa))
    {f0 : Addr} {od0 an0 : Option Addr} {sl0 : Array (Option Value)} {oc0 kV0 dc0 pm0 cd0 ct0 : Value} (a0 : PySem.W.nsIn K mainGlobals "number_bytes" = some (some (.ref f0))) (l0 : K.lookup f0 = some ⟨oc0, od0, .func (PySem.W.fnOf "number_bytes" "number_bytes" (defArgs s_number_bytes) (defBody s_number_bytes) (defScope s_number_bytes) .none kV0 dc0 pm0 an0 cd0 ct0), sl0⟩) (c0 : PySem.W.codeIn K cd0 "number_bytes" = true) (k0 : PySem.W.keepIn K (.ref f0) = true)
    {f1 : Addr} {od1 an1 : Option Addr} {sl1 : Array (Option Value)} {oc1 kV1 dc1 pm1 cd1 ct1 : Value} (a1 : PySem.W.nsIn K mainGlobals "read_number" = some (some (.ref f1))) (l1 : K.lookup f1 = some ⟨oc1, od1, .func (PySem.W.fnOf "read_number" "read_number" (defArgs s_read_number) (defBody s_read_number) (defScope s_read_number) .none kV1 dc1 pm1 an1 cd1 ct1), sl1⟩) (c1 : PySem.W.codeIn K cd1 "read_number" = true) (k1 : PySem.W.keepIn K (.ref f1) = true)
    {f2 : Addr} {od2 an2 : Option Addr} {sl2 : Array (Option Value)} {oc2 kV2 dc2 pm2 cd2 ct2 : Value} (a2 : PySem.W.nsIn K mainGlobals "check_sum" = some (some (.ref f2))) (l2 : K.lookup f2 = some ⟨oc2, od2, .func (PySem.W.fnOf "check_sum" "check_sum" (defArgs s_check_sum) (defBody s_check_sum) (defScope s_check_sum) .none kV2 dc2 pm2 an2 cd2 ct2), sl2⟩) (c2 : PySem.W.codeIn K cd2 "check_sum" = true) (k2 : PySem.W.keepIn K (.ref f2) = true)
    {f3 : Addr} {od3 an3 : Option Addr} {sl3 : Array (Option Value)} {oc3 kV3 dc3 pm3 cd3 ct3 : Value} (a3 : PySem.W.nsIn K mainGlobals "record_of" = some (some (.ref f3))) (l3 : K.lookup f3 = some ⟨oc3, od3, .func (PySem.W.fnOf "record_of" "record_of" (defArgs s_record_of) (defBody s_record_of) (defScope s_record_of) .none kV3 dc3 pm3 an3 cd3 ct3), sl3⟩) (c3 : PySem.W.codeIn K cd3 "record_of" = true) (k3 : PySem.W.keepIn K (.ref f3) = true)
    {f4 : Addr} {od4 an4 : Option Addr} {sl4 : Array (Option Value)} {oc4 kV4 dc4 pm4 cd4 ct4 : Value} (a4 : PySem.W.nsIn K mainGlobals "read_record" = some (some (.ref f4))) (l4 : K.lookup f4 = some ⟨oc4, od4, .func (PySem.W.fnOf "read_record" "read_record" (defArgs s_read_record) (defBody s_read_record) (defScope s_read_record) .none kV4 dc4 pm4 an4 cd4 ct4), sl4⟩) (c4 : PySem.W.codeIn K cd4 "read_record" = true) (k4 : PySem.W.keepIn K (.ref f4) = true)
    {f5 : Addr} {od5 an5 : Option Addr} {sl5 : Array (Option Value)} {oc5 kV5 dc5 pm5 cd5 ct5 : Value} (a5 : PySem.W.nsIn K mainGlobals "_law_cell" = some (some (.ref f5))) (l5 : K.lookup f5 = some ⟨oc5, od5, .func (PySem.W.fnOf "_law_cell" "_law_cell" (defArgs s__law_cell) (defBody s__law_cell) (defScope s__law_cell) .none kV5 dc5 pm5 an5 cd5 ct5), sl5⟩) (c5 : PySem.W.codeIn K cd5 "_law_cell" = true) (k5 : PySem.W.keepIn K (.ref f5) = true)
    {f6 : Addr} {od6 an6 : Option Addr} {sl6 : Array (Option Value)} {oc6 kV6 dc6 pm6 cd6 ct6 : Value} (a6 : PySem.W.nsIn K mainGlobals "_law_digits" = some (some (.ref f6))) (l6 : K.lookup f6 = some ⟨oc6, od6, .func (PySem.W.fnOf "_law_digits" "_law_digits" (defArgs s__law_digits) (defBody s__law_digits) (defScope s__law_digits) .none kV6 dc6 pm6 an6 cd6 ct6), sl6⟩) (c6 : PySem.W.codeIn K cd6 "_law_digits" = true) (k6 : PySem.W.keepIn K (.ref f6) = true)
    {f7 : Addr} {od7 an7 : Option Addr} {sl7 : Array (Option Value)} {oc7 kV7 dc7 pm7 cd7 ct7 : Value} (a7 : PySem.W.nsIn K mainGlobals "_law_padded" = some (some (.ref f7))) (l7 : K.lookup f7 = some ⟨oc7, od7, .func (PySem.W.fnOf "_law_padded" "_law_padded" (defArgs s__law_padded) (defBody s__law_padded) (defScope s__law_padded) .none kV7 dc7 pm7 an7 cd7 ct7), sl7⟩) (c7 : PySem.W.codeIn K cd7 "_law_padded" = true) (k7 : PySem.W.keepIn K (.ref f7) = true)
    {f8 : Addr} {od8 an8 : Option Addr} {sl8 : Array (Option Value)} {oc8 kV8 dc8 pm8 cd8 ct8 : Value} (a8 : PySem.W.nsIn K mainGlobals "_law_number" = some (some (.ref f8))) (l8 : K.lookup f8 = some ⟨oc8, od8, .func (PySem.W.fnOf "_law_number" "_law_number" (defArgs s__law_number) (defBody s__law_number) (defScope s__law_number) .none kV8 dc8 pm8 an8 cd8 ct8), sl8⟩) (c8 : PySem.W.codeIn K cd8 "_law_number" = true) (k8 : PySem.W.keepIn K (.ref f8) = true)
    {f9 : Addr} {od9 an9 : Option Addr} {sl9 : Array (Option Value)} {oc9 kV9 dc9 pm9 cd9 ct9 : Value} (a9 : PySem.W.nsIn K mainGlobals "_law_check" = some (some (.ref f9))) (l9 : K.lookup f9 = some ⟨oc9, od9, .func (PySem.W.fnOf "_law_check" "_law_check" (defArgs s__law_check) (defBody s__law_check) (defScope s__law_check) .none kV9 dc9 pm9 an9 cd9 ct9), sl9⟩) (c9 : PySem.W.codeIn K cd9 "_law_check" = true) (k9 : PySem.W.keepIn K (.ref f9) = true)
    {f10 : Addr} {od10 an10 : Option Addr} {sl10 : Array (Option Value)} {oc10 kV10 dc10 pm10 cd10 ct10 : Value} (a10 : PySem.W.nsIn K mainGlobals "_law_record" = some (some (.ref f10))) (l10 : K.lookup f10 = some ⟨oc10, od10, .func (PySem.W.fnOf "_law_record" "_law_record" (defArgs s__law_record) (defBody s__law_record) (defScope s__law_record) .none kV10 dc10 pm10 an10 cd10 ct10), sl10⟩) (c10 : PySem.W.codeIn K cd10 "_law_record" = true) (k10 : PySem.W.keepIn K (.ref f10) = true)
    {f11 : Addr} {od11 an11 : Option Addr} {sl11 : Array (Option Value)} {oc11 kV11 dc11 pm11 cd11 ct11 : Value} (a11 : PySem.W.nsIn K mainGlobals "_law_integer" = some (some (.ref f11))) (l11 : K.lookup f11 = some ⟨oc11, od11, .func (PySem.W.fnOf "_law_integer" "_law_integer" (defArgs s__law_integer) (defBody s__law_integer) (defScope s__law_integer) .none kV11 dc11 pm11 an11 cd11 ct11), sl11⟩) (c11 : PySem.W.codeIn K cd11 "_law_integer" = true) (k11 : PySem.W.keepIn K (.ref f11) = true)
    {f12 : Addr} {od12 an12 : Option Addr} {sl12 : Array (Option Value)} {oc12 kV12 dc12 pm12 cd12 ct12 : Value} (a12 : PySem.W.nsIn K mainGlobals "_law_is_number" = some (some (.ref f12))) (l12 : K.lookup f12 = some ⟨oc12, od12, .func (PySem.W.fnOf "_law_is_number" "_law_is_number" (defArgs s__law_is_number) (defBody s__law_is_number) (defScope s__law_is_number) .none kV12 dc12 pm12 an12 cd12 ct12), sl12⟩) (c12 : PySem.W.codeIn K cd12 "_law_is_number" = true) (k12 : PySem.W.keepIn K (.ref f12) = true)
    {f13 : Addr} {od13 an13 : Option Addr} {sl13 : Array (Option Value)} {oc13 kV13 dc13 pm13 cd13 ct13 : Value} (a13 : PySem.W.nsIn K mainGlobals "law" = some (some (.ref f13))) (l13 : K.lookup f13 = some ⟨oc13, od13, .func (PySem.W.fnOf "law" "law" (defArgs s_law) (defBody s_law) (defScope s_law) .none kV13 dc13 pm13 an13 cd13 ct13), sl13⟩) (c13 : PySem.W.codeIn K cd13 "law" = true) (k13 : PySem.W.keepIn K (.ref f13) = true)
    (z_int : PySem.W.nsIn K mainGlobals "int" = some none)
    (z_len : PySem.W.nsIn K mainGlobals "len" = some none)
    (z_list : PySem.W.nsIn K mainGlobals "list" = some none)
    (z_range : PySem.W.nsIn K mainGlobals "range" = some none)
    (law : ∀ ns : List Int, ns.length ≤ 63 → ∃ as, f_law_k46 [.shr (.lst (ns.map D.int))] = .ok (.d (.bl true)) as) :
    ∃ fd : FuncData, (∀ (s : Shared) (v : Value), BindsTo s fd ⟨[v], []⟩ [("_law_script", v)]) ∧ ∀ base : Heap, K.In base → base.Ns mainGlobals mg → FnOk l.prog w K mg base (L2.CX l.prog w) 3 fa fd ["_law_script"] (spLaw K) := by
  have e := hfa.symm.trans (PySem.W.mg_of X G a13)
  cases e
  have T : Tp K mg := ⟨PySem.W.mg_none_of X G z_int, PySem.W.mg_none_of X G z_len, PySem.W.mg_none_of X G z_list, PySem.W.mg_none_of X G z_range⟩
  have F0 := fun_mk (st := s_number_bytes) l0 c0 k0
  have b0 := F0.binds (ps := ["n"]) fun _ _ _ _ _ _ us hl => match us, hl with | [_], _ => rfl
  have F1 := fun_mk (st := s_read_number) l1 c1 k1
  have b1 := F1.binds (ps := ["data", "at"]) fun _ _ _ _ _ _ us hl => match us, hl with | [_, _], _ => rfl
  have F2 := fun_mk (st := s_check_sum) l2 c2 k2
  have b2 := F2.binds (ps := ["data"]) fun _ _ _ _ _ _ us hl => match us, hl with | [_], _ => rfl
  have F3 := fun_mk (st := s_record_of) l3 c3 k3
  have b3 := F3.binds (ps := ["body"]) fun _ _ _ _ _ _ us hl => match us, hl with | [_], _ => rfl
  have F4 := fun_mk (st := s_read_record) l4 c4 k4
  have b4 := F4.binds (ps := ["data", "at"]) fun _ _ _ _ _ _ us hl => match us, hl with | [_, _], _ => rfl
  have F5 := fun_mk (st := s__law_cell) l5 c5 k5
  have b5 := F5.binds (ps := ["_law_script", "_law_k"]) fun _ _ _ _ _ _ us hl => match us, hl with | [_, _], _ => rfl
  have F6 := fun_mk (st := s__law_digits) l6 c6 k6
  have b6 := F6.binds (ps := ["_law_cell_here", "_law_k", "_law_most"]) fun _ _ _ _ _ _ us hl => match us, hl with | [_, _, _], _ => rfl
  have F7 := fun_mk (st := s__law_padded) l7 c7 k7
  have b7 := F7.binds (ps := ["_law_cell_here", "_law_k"]) fun _ _ _ _ _ _ us hl => match us, hl with | [_, _], _ => rfl
  have F8 := fun_mk (st := s__law_number) l8 c8 k8
  have b8 := F8.binds (ps := ["_law_n"]) fun _ _ _ _ _ _ us hl => match us, hl with | [_], _ => rfl
  have F9 := fun_mk (st := s__law_check) l9 c9 k9
  have b9 := F9.binds (ps := ["_law_data"]) fun _ _ _ _ _ _ us hl => match us, hl with | [_], _ => rfl
  have F10 := fun_mk (st := s__law_record) l10 c10 k10
  have b10 := F10.binds (ps := ["_law_body"]) fun _ _ _ _ _ _ us hl => match us, hl with | [_], _ => rfl
  have F11 := fun_mk (st := s__law_integer) l11 c11 k11
  have b11 := F11.binds (ps := ["_law_script", "_law_k"]) fun _ _ _ _ _ _ us hl => match us, hl with | [_, _], _ => rfl
  have F12 := fun_mk (st := s__law_is_number) l12 c12 k12
  have b12 := F12.binds (ps := ["_law_n"]) fun _ _ _ _ _ _ us hl => match us, hl with | [_], _ => rfl
  have F13 := fun_mk (st := s_law) l13 c13 k13
  have b13 := F13.binds (ps := ["_law_script"]) fun _ _ _ _ _ _ us hl => match us, hl with | [_], _ => rfl
  refine ⟨PySem.W.fnOf "law" "law" (defArgs s_law) (defBody s_law) (defScope s_law) .none kV13 dc13 pm13 an13 cd13 ct13, fun s v => .of_eq rfl, fun base _ _ => ?_⟩
  have H_number_bytes : Kp l.prog w K mg base 1 "number_bytes" 1 f_number_bytes := ⟨_, _, _, (ok_number_bytes T  F0), b0, PySem.W.mg_of X G a0, k0⟩
  have H_read_number : Kp l.prog w K mg base 1 "read_number" 2 f_read_number := ⟨_, _, _, (ok_read_number T  F1), b1, PySem.W.mg_of X G a1, k1⟩
  have H_check_sum : Kp l.prog w K mg base 1 "check_sum" 1 f_check_sum := ⟨_, _, _, (ok_check_sum T  F2), b2, PySem.W.mg_of X G a2, k2⟩
  have H_record_of : Kp l.prog w K mg base 2 "record_of" 1 f_record_of := ⟨_, _, _, (ok_record_of T H_check_sum H_number_bytes F3), b3, PySem.W.mg_of X G a3, k3⟩
  have H_read_record : Kp l.prog w K mg base 2 "read_record" 2 f_read_record := ⟨_, _, _, (ok_read_record T H_check_sum H_read_number F4), b4, PySem.W.mg_of X G a4, k4⟩
  have H__law_cell : Kp l.prog w K mg base 1 "_law_cell" 2 f__law_cell := ⟨_, _, _, (ok__law_cell T  F5), b5, PySem.W.mg_of X G a5, k5⟩
  have H__law_digits : Kp l.prog w K mg base 1 "_law_digits" 3 f__law_digits_1dd1 := ⟨_, _, _, (ok__law_digits T  F6), b6, PySem.W.mg_of X G a6, k6⟩
  have H__law_padded : Kp l.prog w K mg base 2 "_law_padded" 2 f__law_padded := ⟨_, _, _, (ok__law_padded T H__law_digits F7), b7, PySem.W.mg_of X G a7, k7⟩
  have H__law_number : Kp l.prog w K mg base 1 "_law_number" 1 f__law_number := ⟨_, _, _, (ok__law_number T  F8), b8, PySem.W.mg_of X G a8, k8⟩
  have H__law_check : Kp l.prog w K mg base 1 "_law_check" 1 f__law_check := ⟨_, _, _, (ok__law_check T  F9), b9, PySem.W.mg_of X G a9, k9⟩
  have H__law_record : Kp l.prog w K mg base 2 "_law_record" 1 f__law_record := ⟨_, _, _, (ok__law_record T H__law_check H__law_number F10), b10, PySem.W.mg_of X G a10, k10⟩
  have H__law_integer : Kp l.prog w K mg base 2 "_law_integer" 2 f__law_integer := ⟨_, _, _, (ok__law_integer T H__law_cell H__law_digits F11), b11, PySem.W.mg_of X G a11, k11⟩
  have H__law_is_number : Kp l.prog w K mg base 2 "_law_is_number" 1 f__law_is_number := ⟨_, _, _, (ok__law_is_number T H__law_number H_number_bytes H_read_number F12), b12, PySem.W.mg_of X G a12, k12⟩
  exact fn_law (ok_law T H__law_cell H__law_check H__law_digits H__law_integer H__law_is_number H__law_number H__law_record H_read_record H_record_of F13) law
end Mw.K46
open PySem PySem.W PyProof.Rows
set_option maxHeartbeats 0 in
theorem PySem.Challenge.cw_latestart_k46_integers_and_records_holds : PySem.Challenge.rw_latestart_k46_integers_and_records.Holds := by
  w_on; o_law; k_head; (case hw => w_witness2)
  k_fill
  refine L2.walk_of (l := PySem.Challenge.rw_latestart_k46_integers_and_records) (n := 63) (k := 3) (x := "_law_script") (CX := fun w => L2.CX PySem.Challenge.rw_latestart_k46_integers_and_records.prog w) (sp := fun w => Mw.spLaw _) rfl (by decide) rfl ⟨rfl, by decide, by decide⟩ (fun w h Y => PySem.W.kIn_of Y) ?F (fun _ _ a ns hl _ hS => ⟨a, ns, rfl, hS, hl, fun _ => rfl⟩) (fun _ _ _ _ _ h => by obtain ⟨_, _, _, _, _, _, _, _, _, _, _, _, z⟩ := h; exact z)
  case F =>
    intro w mg fa h KX G hmg
    refine' Mw.K46.all_mk KX G hmg ?a0 ?l0 ?c0 ?k0 ?a1 ?l1 ?c1 ?k1 ?a2 ?l2 ?c2 ?k2 ?a3 ?l3 ?c3 ?k3 ?a4 ?l4 ?c4 ?k4 ?a5 ?l5 ?c5 ?k5 ?a6 ?l6 ?c6 ?k6 ?a7 ?l7 ?c7 ?k7 ?a8 ?l8 ?c8 ?k8 ?a9 ?l9 ?c9 ?k9 ?a10 ?l10 ?c10 ?k10 ?a11 ?l11 ?c11 ?k11 ?a12 ?l12 ?c12 ?k12 ?a13 ?l13 ?c13 ?k13 ?z_int ?z_len ?z_list ?z_range Mw.K46.law_true
    (case a0 => k_is)
    (case l0 => k_is)
    (case c0 => k_is)
    (case k0 => k_is)
    (case a1 => k_is)
    (case l1 => k_is)
    (case c1 => k_is)
    (case k1 => k_is)
    (case a2 => k_is)
    (case l2 => k_is)
    (case c2 => k_is)
    (case k2 => k_is)
    (case a3 => k_is)
    (case l3 => k_is)
    (case c3 => k_is)
    (case k3 => k_is)
    (case a4 => k_is)
    (case l4 => k_is)
    (case c4 => k_is)
    (case k4 => k_is)
    (case a5 => k_is)
    (case l5 => k_is)
    (case c5 => k_is)
    (case k5 => k_is)
    (case a6 => k_is)
    (case l6 => k_is)
    (case c6 => k_is)
    (case k6 => k_is)
    (case a7 => k_is)
    (case l7 => k_is)
    (case c7 => k_is)
    (case k7 => k_is)
    (case a8 => k_is)
    (case l8 => k_is)
    (case c8 => k_is)
    (case k8 => k_is)
    (case a9 => k_is)
    (case l9 => k_is)
    (case c9 => k_is)
    (case k9 => k_is)
    (case a10 => k_is)
    (case l10 => k_is)
    (case c10 => k_is)
    (case k10 => k_is)
    (case a11 => k_is)
    (case l11 => k_is)
    (case c11 => k_is)
    (case k11 => k_is)
    (case a12 => k_is)
    (case l12 => k_is)
    (case c12 => k_is)
    (case k12 => k_is)
    (case a13 => k_is)
    (case l13 => k_is)
    (case c13 => k_is)
    (case k13 => k_is)
    (case z_int => k_is)
    (case z_len => k_is)
    (case z_list => k_is)
    (case z_range => k_is)
