import PyProof.Rows.All
import Wide.All
import OpenK.AllK
import Wide.FinOn
import HandS.ForMost
import HandS.ForExc
import HandS.IsInst
import HandS.TupAny
import HandS.CallSlots
import HandS.Deep
import HandS.Walk
import PySem.Challenge.RW_latestart_k01_tokens_of_lines
set_option Elab.async false
set_option linter.all false
set_option maxRecDepth 100000
namespace Mw
open PySem PySem.Spec PyProof.Rows L2

/-! ## data -/
structure Wd where
  K : PySem.W.Frag
  mg : Str → Option Value

inductive D where
  | non | bl (b : Bool) | int (i : Int) | str (s : List Nat)
  | tup (xs : List D) | lst (xs : List D)
  | obj (c : Str) (ns : List Str) (xs : List D)

inductive O where
  | d (x : D) | lst (xs : List O) | dct (ks : List D) (xs : List O) | obj (c : Str) (ns : List Str) (xs : List O)

mutual
def O.toD : O → D
  | .d x => x
  | .lst xs => .lst (toDs xs)
  | .dct _ _ => .non
  | .obj c ns xs => .obj c ns (toDs xs)
def toDs : List O → List D
  | [] => []
  | x :: xs => x.toD :: toDs xs
end
mutual
def O.fz : O → Bool
  | .d _ => true
  | .lst xs => fzs xs
  | .dct _ _ => false
  | .obj _ _ xs => fzs xs
def fzs : List O → Bool
  | [] => true
  | x :: xs => x.fz && fzs xs
end
/-- a list whose items are plain -/
abbrev O.l (ds : List D) : O := .lst (ds.map O.d)
theorem toDs_d : ∀ ds : List D, toDs (ds.map O.d) = ds
  | [] => rfl
  | d :: ds => by show d :: toDs (ds.map O.d) = _; rw [toDs_d ds]
theorem fzs_d : ∀ ds : List D, fzs (ds.map O.d) = true
  | [] => rfl
  | d :: ds => by show (true && fzs (ds.map O.d)) = true; rw [fzs_d ds]; rfl

def keyD : Key → D
  | .inl i => .int i
  | .inr s => .str s.cps.toList

mutual
inductive Rep (g : Wd) (F : Hp) : V → D → Prop
  | non : Rep g F .non .non
  | bl (b : Bool) : Rep g F (.bl b) (.bl b)
  | int (i : Int) : Rep g F (.int i) (.int i)
  | str {s : List Nat} (h : s.length ≤ sizeLine) : Rep g F (.str ⟨s.toArray⟩) (.str s)
  | tup {a : Addr} {vs : List V} {ds : List D} (h : SqT g.K F a vs) (hl : vs.length ≤ sizeLine) (r : Reps g F vs ds) : Rep g F (.ref a) (.tup ds)
  | lst {a : Addr} {vs : List V} {ds : List D} (h : SqL g.K F a vs) (hl : vs.length ≤ sizeLine) (r : Reps g F vs ds) : Rep g F (.ref a) (.lst ds)
  | obj {a C dx : Addr} {fs : List (Str × V)} {c : Str} {ns : List Str} {ds : List D} (hc : g.mg c = some (.ref C)) (h : F a = some (.ins C dx fs)) (hd : F dx = some (.own a))
      (hn : fs.map (·.1) = ns) (r : Reps g F (fs.map (·.2)) ds) : Rep g F (.ref a) (.obj c ns ds)
inductive Reps (g : Wd) (F : Hp) : List V → List D → Prop
  | nil : Reps g F [] []
  | cons {v : V} {vs : List V} {d : D} {ds : List D} (h : Rep g F v d) (t : Reps g F vs ds) : Reps g F (v :: vs) (d :: ds)
end
mutual
inductive RepO (g : Wd) (F H : Hp) : V → O → List Addr → Prop
  | d {v : V} {x : D} (r : Rep g F v x) : RepO g F H v (.d x) []
  | lst {a : Addr} {vs : List V} {os : List O} {fp : List Addr} (h : H a = some (.lst vs)) (hl : vs.length ≤ sizeLine) (r : RepOs g F H vs os fp) : RepO g F H (.ref a) (.lst os) (a :: fp)
  | obj {a C dx : Addr} {fs : List (Str × V)} {c : Str} {ns : List Str} {os : List O} {fp : List Addr} (hc : g.mg c = some (.ref C)) (h : H a = some (.ins C dx fs)) (hd : H dx = some (.own a))
      (hn : fs.map (·.1) = ns) (r : RepOs g F H (fs.map (·.2)) os fp) : RepO g F H (.ref a) (.obj c ns os) (a :: dx :: fp)
  | dk {a : Addr} {kvs : List (Key × V)} {ks : List D} {os : List O} {fp : List Addr} (h : H a = some (.dK kvs)) (hk : kvs.map (fun p => keyD p.1) = ks) (r : RepOs g F H (kvs.map (·.2)) os fp) : RepO g F H (.ref a) (.dct ks os) (a :: fp)
  | dt {a : Addr} {kvs : List (List Key × V)} {ks : List D} {os : List O} {fp : List Addr} (h : H a = some (.dT kvs)) (hk : kvs.map (fun p => D.tup (p.1.map keyD)) = ks) (r : RepOs g F H (kvs.map (·.2)) os fp) : RepO g F H (.ref a) (.dct ks os) (a :: fp)
inductive RepOs (g : Wd) (F H : Hp) : List V → List O → List Addr → Prop
  | nil : RepOs g F H [] [] []
  | cons {v : V} {vs : List V} {o : O} {os : List O} {f fp : List Addr} (h : RepO g F H v o f) (t : RepOs g F H vs os fp) : RepOs g F H (v :: vs) (o :: os) (f ++ fp)
end

def Ext (F F' : Hp) : Prop := ∀ a o, F a = some o → F' a = some o
theorem Ext.refl (F : Hp) : Ext F F := fun _ _ h => h
theorem Ext.trans {A B C : Hp} (x : Ext A B) (y : Ext B C) : Ext A C := fun a o h => y a o (x a o h)
theorem Ext.rd {F F' : Hp} {a : Addr} {u : HO} (e : Ext F F') (h : Rd F a u) : Rd F' a u := by
  rcases h with h | ⟨o, h⟩
  · exact .inl (e _ _ h)
  · exact .inr ⟨o, e _ _ h⟩
theorem Ext.sqT {K : PySem.W.Frag} {F F' : Hp} {a : Addr} {vs : List V} (e : Ext F F') (h : SqT K F a vs) : SqT K F' a vs := h.imp e.rd id
theorem Ext.sqL {K : PySem.W.Frag} {F F' : Hp} {a : Addr} {vs : List V} (e : Ext F F') (h : SqL K F a vs) : SqL K F' a vs := h.imp e.rd id
mutual
theorem Rep.mono {g : Wd} {F F' : Hp} (e : Ext F F') : ∀ {v : V} {d : D}, Rep g F v d → Rep g F' v d
  | _, _, .non => .non
  | _, _, .bl b => .bl b
  | _, _, .int i => .int i
  | _, _, .str h => .str h
  | _, _, .tup h hl r => .tup (e.sqT h) hl (Reps.mono e r)
  | _, _, .lst h hl r => .lst (e.sqL h) hl (Reps.mono e r)
  | _, _, .obj hc h hd hn r => .obj hc (e _ _ h) (e _ _ hd) hn (Reps.mono e r)
theorem Reps.mono {g : Wd} {F F' : Hp} (e : Ext F F') : ∀ {vs : List V} {ds : List D}, Reps g F vs ds → Reps g F' vs ds
  | _, _, .nil => .nil
  | _, _, .cons h t => .cons (Rep.mono e h) (Reps.mono e t)
end
mutual
theorem RepO.mono {g : Wd} {F F' H H' : Hp} (e : Ext F F') : ∀ {v : V} {o : O} {fp : List Addr}, RepO g F H v o fp → (∀ a ∈ fp, ∀ u, H a = some u → H' a = some u) → RepO g F' H' v o fp
  | _, _, _, .d r, _ => .d (r.mono e)
  | _, _, _, .lst h hl r, k => .lst (k _ (by simp) _ h) hl (RepOs.mono e r fun a ha => k a (by simp [ha]))
  | _, _, _, .obj hc h hd hn r, k => .obj hc (k _ (by simp) _ h) (k _ (by simp) _ hd) hn (RepOs.mono e r fun a ha => k a (by simp [ha]))
  | _, _, _, .dk h hk r, k => .dk (k _ (by simp) _ h) hk (RepOs.mono e r fun a ha => k a (by simp [ha]))
  | _, _, _, .dt h hk r, k => .dt (k _ (by simp) _ h) hk (RepOs.mono e r fun a ha => k a (by simp [ha]))
theorem RepOs.mono {g : Wd} {F F' H H' : Hp} (e : Ext F F') : ∀ {vs : List V} {os : List O} {fp : List Addr}, RepOs g F H vs os fp → (∀ a ∈ fp, ∀ u, H a = some u → H' a = some u) → RepOs g F' H' vs os fp
  | _, _, _, .nil, _ => .nil
  | _, _, _, .cons h t, k => .cons (RepO.mono e h fun a ha => k a (by simp [ha])) (RepOs.mono e t fun a ha => k a (by simp [ha]))
end
mutual
theorem RepO.there {g : Wd} {F H : Hp} : ∀ {v : V} {o : O} {fp : List Addr}, RepO g F H v o fp → ∀ a ∈ fp, H a ≠ none
  | _, _, _, .d r, _, h => by cases h
  | _, _, _, .lst h hl r, a, ha => by
    rcases List.mem_cons.mp ha with rfl | ha
    · rw [h]; simp
    · exact RepOs.there r a ha
  | _, _, _, .obj hc h hd hn r, a, ha => by
    rcases List.mem_cons.mp ha with rfl | ha
    · rw [h]; simp
    · rcases List.mem_cons.mp ha with rfl | ha
      · rw [hd]; simp
      · exact RepOs.there r a ha
  | _, _, _, .dk h hk r, a, ha => by
    rcases List.mem_cons.mp ha with rfl | ha
    · rw [h]; simp
    · exact RepOs.there r a ha
  | _, _, _, .dt h hk r, a, ha => by
    rcases List.mem_cons.mp ha with rfl | ha
    · rw [h]; simp
    · exact RepOs.there r a ha
theorem RepOs.there {g : Wd} {F H : Hp} : ∀ {vs : List V} {os : List O} {fp : List Addr}, RepOs g F H vs os fp → ∀ a ∈ fp, H a ≠ none
  | _, _, _, .nil, _, h => by cases h
  | _, _, _, .cons h t, a, ha => by
    rcases List.mem_append.mp ha with ha | ha
    · exact RepO.there h a ha
    · exact RepOs.there t a ha
end
mutual
/-- what is owned is frozen: F' knows all of its footprint -/
theorem RepO.freeze {g : Wd} {F F' H : Hp} (e : Ext F F') : ∀ {v : V} {o : O} {fp : List Addr}, RepO g F H v o fp → o.fz = true → (∀ a ∈ fp, ∀ u, H a = some u → F' a = some u) → Rep g F' v o.toD
  | _, _, _, .d r, _, _ => r.mono e
  | _, _, _, .lst h hl r, z, k => .lst (.inl (.inl (k _ (by simp) _ h))) hl (RepOs.freeze e r z fun a ha => k a (by simp [ha]))
  | _, _, _, .obj hc h hd hn r, z, k => .obj hc (k _ (by simp) _ h) (k _ (by simp) _ hd) hn (RepOs.freeze e r z fun a ha => k a (by simp [ha]))
  | _, _, _, .dk h hk r, z, _ => nomatch z
  | _, _, _, .dt h hk r, z, _ => nomatch z
theorem RepOs.freeze {g : Wd} {F F' H : Hp} (e : Ext F F') : ∀ {vs : List V} {os : List O} {fp : List Addr}, RepOs g F H vs os fp → fzs os = true → (∀ a ∈ fp, ∀ u, H a = some u → F' a = some u) → Reps g F' vs (toDs os)
  | _, _, _, .nil, _, _ => .nil
  | _, _, _, .cons h t, z, k => by
    have z := Bool.and_eq_true_iff.mp (show (_ && _) = true from z)
    exact .cons (RepO.freeze e h z.1 fun a ha => k a (by simp [ha])) (RepOs.freeze e t z.2 fun a ha => k a (by simp [ha]))
end
theorem Reps.length {g : Wd} {F : Hp} : ∀ {vs : List V} {ds : List D}, Reps g F vs ds → vs.length = ds.length
  | _, _, .nil => rfl
  | _, _, .cons h t => by simp [Reps.length t]
theorem RepOs.length {g : Wd} {F H : Hp} : ∀ {vs : List V} {os : List O} {fp}, RepOs g F H vs os fp → vs.length = os.length
  | _, _, _, .nil => rfl
  | _, _, _, .cons h t => by simp [RepOs.length t]
theorem Reps.get {g : Wd} {F : Hp} : ∀ {vs : List V} {ds : List D} {i : Nat} {d : D}, Reps g F vs ds → ds[i]? = some d → ∃ v, vs[i]? = some v ∧ Rep g F v d
  | _, _, _, _, .nil, h => by simp at h
  | _, _, 0, _, .cons h t, e => by simp at e; subst e; exact ⟨_, rfl, h⟩
  | _, _, i + 1, _, .cons h t, e => by simpa using Reps.get (i := i) t (by simpa using e)
theorem Reps.getV {g : Wd} {F : Hp} : ∀ {vs : List V} {ds : List D} {i : Nat} {v : V}, Reps g F vs ds → vs[i]? = some v → ∃ d, ds[i]? = some d ∧ Rep g F v d
  | _, _, _, _, .nil, h => by simp at h
  | _, _, 0, _, .cons h t, e => by simp at e; subst e; exact ⟨_, rfl, h⟩
  | _, _, i + 1, _, .cons h t, e => by simpa using Reps.getV (i := i) t (by simpa using e)
theorem Reps.app {g : Wd} {F : Hp} : ∀ {vs ws : List V} {ds es : List D}, Reps g F vs ds → Reps g F ws es → Reps g F (vs ++ ws) (ds ++ es)
  | _, _, _, _, .nil, s => s
  | _, _, _, _, .cons h t, s => .cons h (Reps.app t s)
theorem Reps.take {g : Wd} {F : Hp} : ∀ {vs : List V} {ds : List D} (n : Nat), Reps g F vs ds → Reps g F (vs.take n) (ds.take n)
  | _, _, 0, _ => .nil
  | _, _, _ + 1, .nil => .nil
  | _, _, n + 1, .cons r t => .cons r (Reps.take n t)
theorem Reps.drop {g : Wd} {F : Hp} : ∀ {vs : List V} {ds : List D} (n : Nat), Reps g F vs ds → Reps g F (vs.drop n) (ds.drop n)
  | _, _, 0, r => r
  | _, _, _ + 1, .nil => .nil
  | _, _, n + 1, .cons _ t => Reps.drop n t
/-- plain items of an owned list -/
theorem RepOs.ofReps {g : Wd} {F H : Hp} : ∀ {vs : List V} {ds : List D}, Reps g F vs ds → RepOs g F H vs (ds.map O.d) []
  | _, _, .nil => .nil
  | _, _, .cons h t => .cons (f := []) (fp := []) (.d h) (RepOs.ofReps t)
theorem RepOs.toReps {g : Wd} {F H : Hp} : ∀ {vs : List V} {ds : List D} {fp}, RepOs g F H vs (ds.map O.d) fp → Reps g F vs ds ∧ fp = []
  | _, [], _, .nil => ⟨.nil, rfl⟩
  | _, _ :: ds, _, .cons (.d h) t => by
    obtain ⟨r, rfl⟩ := RepOs.toReps (ds := ds) t
    exact ⟨.cons h r, rfl⟩
end Mw

set_option Elab.async false
set_option linter.all false
set_option maxRecDepth 100000
set_option autoImplicit false
namespace Mw
open PySem PySem.Spec PyProof.Rows L2

/-! ## environments, results -/
inductive Slo where
  | un | shr (d : D) | mu (b : Bool) (o : O)
abbrev Ro := List Slo
inductive R where
  | d (x : D) | own (o : O) | pk (o : O)
structure Exc where
  c : Str
  ns : List Str
  ds : List D
inductive Res (α : Type) where
  | ok (a : α) (ρ : Ro) (q : Bool) | ex (x : Exc) (ρ : Ro) | no
def Res.bind {α β : Type} : Res α → (α → Ro → Bool → Res β) → Res β
  | .ok a ρ q, k => k a ρ q
  | .ex x ρ, _ => .ex x ρ
  | .no, _ => .no
@[simp] theorem Res.bind_ok {α β : Type} (a : α) (ρ : Ro) (q : Bool) (k : α → Ro → Bool → Res β) : (Res.ok a ρ q).bind k = k a ρ q := rfl
@[simp] theorem Res.bind_ex {α β : Type} (x : Exc) (ρ : Ro) (k : α → Ro → Bool → Res β) : (Res.ex x ρ : Res α).bind k = .ex x ρ := rfl
@[simp] theorem Res.bind_no {α β : Type} (k : α → Ro → Bool → Res β) : (Res.no : Res α).bind k = .no := rfl
theorem Res.bind_assoc {α β γ : Type} (r : Res α) (k : α → Ro → Bool → Res β) (l : β → Ro → Bool → Res γ) : (r.bind k).bind l = r.bind fun a ρ q => (k a ρ q).bind l := by cases r <;> rfl
abbrev M := Ro → Res R
abbrev MB := Ro → Res Bool
def R.isPk : R → Bool
  | .pk _ => true
  | _ => false

/-! ## the state -/
structure Stt (g : Wd) (F H : Hp) (σ : L2.St) (ρ : Ro) (fp : Nat → List Addr) : Prop where
  sub : Ext F H
  len : σ.length = ρ.length
  un : ∀ (i : Nat), (∀ (b : Bool) (o : O), ρ[i]? ≠ some (.mu b o)) → fp i = []
  shr : ∀ (i : Nat) (d : D), ρ[i]? = some (.shr d) → ∃ v, σ[i]? = some (some v) ∧ Rep g F v d
  mu : ∀ (i : Nat) (b : Bool) (o : O), ρ[i]? = some (.mu b o) → ∃ v, σ[i]? = some (some v) ∧ RepO g F H v o (fp i)
  nd : ∀ i, (fp i).Nodup
  dis : ∀ i j a, a ∈ fp i → a ∈ fp j → i = j
  fre : ∀ i a, a ∈ fp i → F a = none
def Own (fp : Nat → List Addr) : Addr → Prop := fun a => ∃ i, a ∈ fp i
def Plus (S : Addr → Prop) (fr : List Addr) : Addr → Prop := fun a => S a ∨ a ∈ fr
structure Step (F H : Hp) (S : Addr → Prop) (F' H' : Hp) (S' : Addr → Prop) : Prop where
  ext : Ext F F'
  keep : ∀ a o, ¬ S a → H a = some o → H' a = some o
  new : ∀ a o, F' a = some o → F a = some o ∨ S a ∨ H a = none
  fre : ∀ a, S' a → S a ∨ H a = none
theorem Step.refl (F H : Hp) (S : Addr → Prop) : Step F H S F H S := ⟨.refl F, fun _ _ _ h => h, fun _ _ h => .inl h, fun _ h => .inl h⟩
theorem Step.trans {F H F1 H1 F2 H2 : Hp} {S S1 S2 : Addr → Prop} (a : Step F H S F1 H1 S1) (b : Step F1 H1 S1 F2 H2 S2) : Step F H S F2 H2 S2 := by
  have back : ∀ x, H1 x = none → S x ∨ H x = none := fun x h => by
    by_cases hs : S x
    · exact .inl hs
    · cases q : H x with
      | none => exact .inr rfl
      | some o => rw [a.keep x o hs q] at h; cases h
  refine ⟨a.ext.trans b.ext, fun x o hs h => b.keep x o (fun z => ?_) (a.keep x o hs h), fun x o h => ?_, fun x h => ?_⟩
  · rcases a.fre x z with z | z
    · exact hs z
    · rw [h] at z; cases z
  · rcases b.new x o h with h | h | h
    · exact a.new x o h
    · exact .inr (a.fre x h)
    · exact .inr (back x h)
  · rcases b.fre x h with h | h
    · exact a.fre x h
    · exact back x h
theorem Step.frame {F H F' H' : Hp} {S S' : Addr → Prop} (a : Step F H S F' H' S') (fr : List Addr) : Step F H (Plus S fr) F' H' (Plus S' fr) :=
  ⟨a.ext, fun x o hs h => a.keep x o (fun z => hs (.inl z)) h, fun x o h => (a.new x o h).imp id (fun z => z.imp .inl id), fun x h => by
    rcases h with h | h
    · exact (a.fre x h).imp .inl id
    · exact .inl (.inr h)⟩
theorem Step.weak {F H F' H' : Hp} {S S' S'' : Addr → Prop} (a : Step F H S F' H' S') (h : ∀ x, S'' x → S' x) : Step F H S F' H' S'' := ⟨a.ext, a.keep, a.new, fun x z => a.fre x (h x z)⟩

def RepR (g : Wd) (F H : Hp) (S : Addr → Prop) (v : V) (r : R) (fr : List Addr) : Prop := match r with
  | .d x => Rep g F v x ∧ fr = []
  | .own o => RepO g F H v o fr ∧ ∀ a ∈ fr, F a = none ∧ ¬ S a
  | .pk o => fr = [] ∧ ∃ fp, RepO g F H v o fp
inductive RepRs (g : Wd) (F H : Hp) (S : Addr → Prop) : List V → List R → List Addr → Prop
  | nil : RepRs g F H S [] [] []
  | cons {v : V} {vs : List V} {r : R} {rs : List R} {f fr : List Addr} (h : RepR g F H S v r f) (t : RepRs g F H S vs rs fr) : RepRs g F H S (v :: vs) (r :: rs) (f ++ fr)
def RepX (g : Wd) (F : Hp) (cls : Value) (d : Option Addr) (x : Exc) : Prop :=
  ∃ C, cls = .ref C ∧ g.mg x.c = some (.ref C) ∧ ((d = none ∧ x.ns = [] ∧ x.ds = []) ∨ ∃ dx fs, d = some dx ∧ F dx = some (.xd fs) ∧ fs.map (·.1) = x.ns ∧ Reps g F (fs.map (·.2)) x.ds)

theorem RepR.out {g : Wd} {F H : Hp} {S : Addr → Prop} {v : V} {r : R} {fr : List Addr} (h : RepR g F H S v r fr) : ∀ a ∈ fr, F a = none ∧ ¬ S a ∧ H a ≠ none := by
  cases r with
  | d x => obtain ⟨_, rfl⟩ := h; intro a ha; cases ha
  | own o => exact fun a ha => ⟨(h.2 a ha).1, (h.2 a ha).2, h.1.there a ha⟩
  | pk o => obtain ⟨rfl, _⟩ := h; intro a ha; cases ha
theorem RepRs.out {g : Wd} {F H : Hp} {S : Addr → Prop} {vs : List V} {rs : List R} {fr : List Addr} (h : RepRs g F H S vs rs fr) : ∀ a ∈ fr, F a = none ∧ ¬ S a ∧ H a ≠ none := by
  induction h with
  | nil => intro a ha; cases ha
  | cons h t ih =>
    intro a ha
    rcases List.mem_append.mp ha with ha | ha
    · exact h.out a ha
    · exact ih a ha
/-- a result that waits while other parts run -/
theorem RepR.keep {g : Wd} {F H F' H' : Hp} {S S' : Addr → Prop} {v : V} {r : R} {fr : List Addr} (h : RepR g F H S v r fr) (s : Step F H S F' H' S') (q : r.isPk = true → Ext H H') : RepR g F' H' S' v r fr := by
  cases r with
  | d x => exact ⟨h.1.mono s.ext, h.2⟩
  | own o =>
    have o' := RepR.out (r := .own o) h
    refine ⟨h.1.mono s.ext fun a ha u e => s.keep a u (o' a ha).2.1 e, fun a ha => ⟨?_, fun z => ?_⟩⟩
    · cases e : F' a with
      | none => rfl
      | some u =>
        rcases s.new a u e with e | e | e
        · rw [(o' a ha).1] at e; cases e
        · exact absurd e (o' a ha).2.1
        · exact absurd e (o' a ha).2.2
    · rcases s.fre a z with z | z
      · exact (o' a ha).2.1 z
      · exact (o' a ha).2.2 z
  | pk o => exact ⟨h.1, h.2.imp fun fp r => r.mono s.ext fun a _ u e => q rfl a u e⟩

/-! ## obligations -/
abbrev VRel (α β : Type) := Hp → Hp → (Addr → Prop) → β → α → List Addr → Prop
def Ob {α β : Type} (g : Wd) (W : WX) (σ : L2.St) (F H : Hp) (S : Addr → Prop) (Z : Bool → Hp → Ro → Prop) (RR : VRel α β) (res : Res α) (Q : β → Hp → Prop) : Prop :=
  res ≠ .no ∧
  (∀ r ρ' q, res = .ok r ρ' q → ∀ v F' H' fp' fr, Step F H S F' H' (Plus (Own fp') fr) → Stt g F' H' σ ρ' fp' → RR F' H' (Own fp') v r fr → fr.Nodup → Z q H' ρ' → Q v H') ∧
  (∀ x ρ', res = .ex x ρ' → ∀ cls d F' H' fp', Step F H S F' H' (Own fp') → Stt g F' H' σ ρ' fp' → RepX g F' cls d x → Z false H' ρ' → W cls d σ H')
/-- a borrowed place stays borrowed -/
def Kb (ρ ρ' : Ro) : Prop := ∀ (k : Nat) (o : O), ρ[k]? = some (.mu true o) → ∃ o', ρ'[k]? = some (.mu true o')
theorem Kb.refl (ρ : Ro) : Kb ρ ρ := fun _ o h => ⟨o, h⟩
theorem Kb.trans {a b c : Ro} (x : Kb a b) (y : Kb b c) : Kb a c := fun k o h => by
  obtain ⟨o', h⟩ := x k o h
  exact y k o' h
def Zq (H : Hp) (ρ : Ro) : Bool → Hp → Ro → Prop := fun q H' ρ' => Kb ρ ρ' ∧ (q = true → Ext H H' ∧ ρ' = ρ)
def tR {α β : Type} (g : Wd) (W : WX) (RR : VRel α β) (m : Ro → Res α) : L2.St → Hp → (β → Hp → Prop) → Prop := fun σ H Q =>
  ∃ F ρ fp, Stt g F H σ ρ fp ∧ Ob g W σ F H (Own fp) (Zq H ρ) RR (m ρ) Q
abbrev tM (g : Wd) (W : WX) (m : M) : TE := tR g W (RepR g) m
def mArgs : List M → Ro → Res (List R)
  | [], ρ => .ok [] ρ true
  | m :: ms, ρ => (m ρ).bind fun r ρ1 q1 => (mArgs ms ρ1).bind fun rs ρ2 q2 => if (r.isPk && !q2) = true then .no else .ok (r :: rs) ρ2 (q1 && q2)
abbrev tA (g : Wd) (W : WX) (ms : List M) : TA := tR g W (RepRs g) (mArgs ms)

theorem Ob.imp {α β : Type} {g : Wd} {W : WX} {σ : L2.St} {F H : Hp} {S : Addr → Prop} {Z : Bool → Hp → Ro → Prop} {RR : VRel α β} {res : Res α} {Q Q' : β → Hp → Prop} (h : Ob g W σ F H S Z RR res Q) (i : ∀ v H, Q v H → Q' v H) : Ob g W σ F H S Z RR res Q' :=
  ⟨h.1, fun r ρ' q e v F' H' fp' fr a b c d z => i _ _ (h.2.1 r ρ' q e v F' H' fp' fr a b c d z), h.2.2⟩
theorem tR.imp {α β : Type} {g : Wd} {W : WX} {RR : VRel α β} {m : Ro → Res α} {σ : L2.St} {H : Hp} {Q Q' : β → Hp → Prop} (h : tR g W RR m σ H Q) (i : ∀ v H, Q v H → Q' v H) : tR g W RR m σ H Q' := by
  obtain ⟨F, ρ, fp, st, ob⟩ := h
  exact ⟨F, ρ, fp, st, ob.imp i⟩
/-- after a first part -/
theorem Ob.after {α β : Type} {g : Wd} {W : WX} {σ : L2.St} {F H F1 H1 : Hp} {S S1 : Addr → Prop} {Z : Bool → Hp → Ro → Prop} {RR : VRel α β} {res : Res α} {Q : β → Hp → Prop} (h : Ob g W σ F H S Z RR res Q) (s : Step F H S F1 H1 S1) : Ob g W σ F1 H1 S1 Z RR res Q :=
  ⟨h.1, fun r ρ' q e v F' H' fp' fr a b c d z => h.2.1 r ρ' q e v F' H' fp' fr (s.trans a) b c d z, fun x ρ' e cls d F' H' fp' a b c z => h.2.2 x ρ' e cls d F' H' fp' (s.trans a) b c z⟩
/-- one part, then the rest: what the first one is to reach -/
theorem Ob.bind {α β γ δ : Type} {g : Wd} {W : WX} {σ : L2.St} {F H : Hp} {S : Addr → Prop} {Z Z1 : Bool → Hp → Ro → Prop} {RR : VRel α β} {RR1 : VRel γ δ} {res : Res γ} {k : γ → Ro → Bool → Res α} {Q : β → Hp → Prop} {Q1 : δ → Hp → Prop}
    (h : Ob g W σ F H S Z RR (res.bind k) Q)
    (i : ∀ r ρ1 q1, res = .ok r ρ1 q1 → ∀ v F1 H1 fp1 fr1, Step F H S F1 H1 (Plus (Own fp1) fr1) → Stt g F1 H1 σ ρ1 fp1 → RR1 F1 H1 (Own fp1) v r fr1 → fr1.Nodup → Z1 q1 H1 ρ1 → Ob g W σ F1 H1 (Plus (Own fp1) fr1) Z RR (k r ρ1 q1) Q → Q1 v H1)
    (hz : ∀ H' ρ', Z1 false H' ρ' → Z false H' ρ') : Ob g W σ F H S Z1 RR1 res Q1 := by
  refine ⟨fun e => ?_, fun r ρ1 q1 e v F1 H1 fp1 fr1 a b c d z => ?_, fun x ρ' e => ?_⟩
  · subst e; exact h.1 rfl
  · subst e; exact i r ρ1 q1 rfl v F1 H1 fp1 fr1 a b c d z (Ob.after h a)
  · subst e; exact fun cls d F' H' fp' a b c z => h.2.2 x ρ' rfl cls d F' H' fp' a b c (hz _ _ z)
theorem tR.bind {α β γ δ : Type} {g : Wd} {W : WX} {RR : VRel α β} {RR1 : VRel γ δ} {m : Ro → Res γ} {k : γ → Ro → Bool → Res α} {σ : L2.St} {H : Hp} {Q : β → Hp → Prop} {Q1 : δ → Hp → Prop}
    (h : tR g W RR (fun ρ => (m ρ).bind k) σ H Q)
    (i : ∀ F ρ fp, Stt g F H σ ρ fp → ∀ r ρ1 q1, m ρ = .ok r ρ1 q1 → ∀ v F1 H1 fp1 fr1, Step F H (Own fp) F1 H1 (Plus (Own fp1) fr1) → Stt g F1 H1 σ ρ1 fp1 → RR1 F1 H1 (Own fp1) v r fr1 → fr1.Nodup → Zq H ρ q1 H1 ρ1 → Ob g W σ F1 H1 (Plus (Own fp1) fr1) (Zq H ρ) RR (k r ρ1 q1) Q → Q1 v H1) :
    tR g W RR1 m σ H Q1 := by
  obtain ⟨F, ρ, fp, st, ob⟩ := h
  exact ⟨F, ρ, fp, st, ob.bind (i F ρ fp st) fun _ _ z => z⟩
theorem tA_nil {g : Wd} {W : WX} {σ : L2.St} {H : Hp} {Q : List V → Hp → Prop} (h : tA g W [] σ H Q) : Q [] H := by
  obtain ⟨F, ρ, fp, st, ob⟩ := h
  exact ob.2.1 [] ρ true rfl [] F H fp [] ⟨.refl F, fun _ _ _ h => h, fun _ _ h => .inl h, fun a h => .inl (h.elim id fun z => nomatch z)⟩ st .nil List.nodup_nil ⟨.refl ρ, fun _ => ⟨.refl H, rfl⟩⟩
theorem tA_cons {g : Wd} {W : WX} {m : M} {ms : List M} {σ : L2.St} {H : Hp} {Q : List V → Hp → Prop} (h : tA g W (m :: ms) σ H Q) : tM g W m σ H fun x H1 => tA g W ms σ H1 fun xs H2 => Q (x :: xs) H2 := by
  refine tR.bind h fun F ρ fp st r ρ1 q1 e1 v F1 H1 fp1 fr1 s1 st1 r1 n1 z1 ob => ⟨F1, ρ1, fp1, st1, ?_⟩
  refine ⟨fun e => ob.1 (by rw [e]; rfl), fun rs ρ2 q2 e vs F2 H2 fp2 fr2 s2 st2 r2 n2 z2 => ?_, fun x ρ' e cls d F' H' fp' a b c z => ?_⟩
  · rw [e] at ob
    by_cases hp : (r.isPk && !q2) = true
    · exact absurd (if_pos hp) ob.1
    · have hq : r.isPk = true → Ext H1 H2 := fun hk => (z2.2 (by cases q2 <;> simp_all)).1
      have o1 := r1.out
      have r1' := r1.keep s2 hq
      have o1' := r1'.out
      refine ob.2.1 (r :: rs) ρ2 (q1 && q2) (if_neg hp) (v :: vs) F2 H2 fp2 (fr1 ++ fr2) ((s2.frame fr1).weak fun x hx => ?_) st2 (.cons (r1.keep (s2.weak fun x hx => .inl hx) hq) r2) ?_ ⟨z1.1.trans z2.1, fun hz => ?_⟩
      · rcases hx with hx | hx
        · exact .inl (.inl hx)
        · rcases List.mem_append.mp hx with hx | hx
          · exact .inr hx
          · exact .inl (.inr hx)
      · exact List.nodup_append.mpr ⟨n1, n2, fun a ha b hb e => (o1' a ha).2.1 (.inr (e ▸ hb))⟩
      · have hz := Bool.and_eq_true_iff.mp hz
        exact ⟨(z1.2 hz.1).1.trans (z2.2 hz.2).1, (z2.2 hz.2).2.trans (z1.2 hz.1).2⟩
  · rw [e] at ob
    exact ob.2.2 x ρ' rfl cls d F' H' fp' ((a.frame fr1).weak fun x hx => .inl hx) b c ⟨z1.1.trans z.1, fun z => nomatch z⟩

/-! ## operations on results -/
structure LStep (F H : Hp) (fr : List Addr) (F' H' : Hp) (fr' : List Addr) : Prop where
  ext : Ext F F'
  exh : Ext H H'
  sub : Ext F' H'
  new : ∀ a o, F' a = some o → F a = some o ∨ a ∈ fr ∨ H a = none
  fre : ∀ a ∈ fr', a ∈ fr ∨ H a = none
def LeafG (g : Wd) (leaf : List R → Option R) (vs : List V) (H : Hp) (Q : VK) : Prop :=
  ∃ F S rs fr rr, Ext F H ∧ (∀ a, S a → H a ≠ none ∧ F a = none) ∧ RepRs g F H S vs rs fr ∧ fr.Nodup ∧ leaf rs = some rr ∧
    ∀ v F' H' fr', LStep F H fr F' H' fr' → RepR g F' H' S v rr fr' → fr'.Nodup → Q v H'
def mOps (ms : List M) (leaf : List R → Option R) : M := fun ρ => (mArgs ms ρ).bind fun rs ρ' q => match leaf rs with
  | some r => .ok r ρ' q
  | none => .no
theorem Stt.grown {g : Wd} {F H F' H' : Hp} {σ : L2.St} {ρ : Ro} {fp : Nat → List Addr} (s : Stt g F H σ ρ fp) (e : Ext F F') (eh : Ext H H') (sub : Ext F' H') (n : ∀ a, Own fp a → F' a = none) : Stt g F' H' σ ρ fp :=
  ⟨sub, s.len, s.un, fun i d h => (s.shr i d h).imp fun v h => ⟨h.1, h.2.mono e⟩, fun i b o h => (s.mu i b o h).imp fun v h => ⟨h.1, h.2.mono e fun a _ u => eh a u⟩, s.nd, s.dis, fun i a h => n a ⟨i, h⟩⟩
theorem Stt.there {g : Wd} {F H : Hp} {σ : L2.St} {ρ : Ro} {fp : Nat → List Addr} (s : Stt g F H σ ρ fp) {a : Addr} (h : Own fp a) : H a ≠ none ∧ F a = none := by
  obtain ⟨i, h⟩ := h
  refine ⟨?_, s.fre i a h⟩
  cases e : ρ[i]? with
  | none => rw [s.un i fun b o z => by rw [e] at z; cases z] at h; cases h
  | some x =>
    cases x with
    | un => rw [s.un i fun b o z => by rw [e] at z; cases z] at h; cases h
    | shr d => rw [s.un i fun b o z => by rw [e] at z; cases z] at h; cases h
    | mu b o =>
      obtain ⟨v, _, r⟩ := s.mu i b o e
      exact r.there a h
theorem tM_ops {g : Wd} {W : WX} {ms : List M} {leaf : List R → Option R} {σ : L2.St} {H : Hp} {Q : VK} (h : tM g W (mOps ms leaf) σ H Q) : tA g W ms σ H fun vs H1 => LeafG g leaf vs H1 Q := by
  refine tR.bind h fun F ρ fp st rs ρ1 q1 e1 vs F1 H1 fp1 fr1 s1 st1 r1 n1 z1 ob => ?_
  cases e : leaf rs with
  | none => rw [e] at ob; exact absurd rfl ob.1
  | some rr =>
    rw [e] at ob
    have o1 := r1.out
    refine ⟨F1, Own fp1, rs, fr1, rr, st1.sub, fun a ha => st1.there ha, r1, n1, e, fun v F' H' fr' l r' n' => ?_⟩
    refine ob.2.1 rr ρ1 q1 rfl v F' H' fp1 fr' ⟨l.ext, fun a o _ h => l.exh a o h, fun a o h => ?_, fun a h => ?_⟩ (st1.grown l.ext l.exh l.sub fun a ha => ?_) r' n' ⟨z1.1, fun z => ⟨(z1.2 z).1.trans l.exh, (z1.2 z).2⟩⟩
    · rcases l.new a o h with h | h | h
      · exact .inl h
      · exact .inr (.inl (.inr h))
      · exact .inr (.inr h)
    · rcases h with h | h
      · exact .inl (.inl h)
      · exact (l.fre a h).imp .inr id
    · cases q : F' a with
      | none => rfl
      | some u =>
        rcases l.new a u q with q | q | q
        · rw [(st1.there ha).2] at q; cases q
        · exact absurd ha (o1 a q).2.1
        · exact absurd q (st1.there ha).1
end Mw

set_option Elab.async false
set_option linter.all false
set_option maxRecDepth 100000
set_option autoImplicit false
namespace Mw
open PySem PySem.Spec PyProof.Rows L2
noncomputable section

/-! ## bounds; what the kernel is not to run -/
def hide {α : Type} (a : α) : α := Classical.choose (⟨a, rfl⟩ : ∃ x, x = a)
theorem hide_eq {α : Type} (a : α) : hide a = a := Classical.choose_spec (⟨a, rfl⟩ : ∃ x, x = a)
theorem hide_dec {p : Prop} [Decidable p] (h : hide (decide p) = true) : p := by rw [hide_eq] at h; exact of_decide_eq_true h
theorem dec_hide {p : Prop} [Decidable p] (h : p) : hide (decide p) = true := by rw [hide_eq]; exact decide_eq_true h
def lenOk (n : Nat) : Bool := hide (decide (n ≤ 16777216))
theorem lenOk_le {n : Nat} (h : lenOk n = true) : n ≤ 16777216 := hide_dec h
theorem lenOk_of {n : Nat} (h : n ≤ 1000000) : lenOk n = true := dec_hide (by omega)
def mulOk (i j : Int) : Bool := hide (decide ((-18446744073709551616 < i ∧ i < 18446744073709551616) ∨ (-18446744073709551616 < j ∧ j < 18446744073709551616)))
theorem mulOk_iff {i j : Int} (h : mulOk i j = true) : (-18446744073709551616 < i ∧ i < 18446744073709551616) ∨ (-18446744073709551616 < j ∧ j < 18446744073709551616) := hide_dec h
theorem mulOk_l {i j : Int} (h0 : -1000000000 ≤ i) (h : i ≤ 1000000000) : mulOk i j = true := dec_hide (by omega)
theorem mulOk_r {i j : Int} (h0 : -1000000000 ≤ j) (h : j ≤ 1000000000) : mulOk i j = true := dec_hide (by omega)
def repOk (n : Int) (l : Nat) : Bool := hide (decide (0 ≤ n ∧ n ≤ 1000 ∧ l ≤ 1000))
theorem repOk_iff {n : Int} {l : Nat} (h : repOk n l = true) : 0 ≤ n ∧ n ≤ 1000 ∧ l ≤ 1000 := hide_dec h
theorem repOk_of {n : Int} {l : Nat} (h0 : 0 ≤ n) (h : n ≤ 1000) (hl : l ≤ 1000) : repOk n l = true := dec_hide ⟨h0, h, hl⟩
def rgOk (j : Int) : Bool := hide (decide (-4611686018427387904 ≤ j ∧ j < 4611686018427387904))
theorem rgOk_iff {j : Int} (h : rgOk j = true) : -4611686018427387904 ≤ j ∧ j < 4611686018427387904 := hide_dec h
theorem rgOk_of {j : Int} (h0 : -1000000 ≤ j) (h : j ≤ 1000000) : rgOk j = true := dec_hide (by omega)
def powOk (i j : Int) : Bool := hide (decide (0 ≤ j ∧ j ≤ 1000 ∧ i.natAbs < 1000000))
theorem powOk_iff {i j : Int} (h : powOk i j = true) : 0 ≤ j ∧ j ≤ 1000 ∧ i.natAbs < 1000000 := hide_dec h
theorem powOk_of {i j : Int} (h0 : 0 ≤ j) (h : j ≤ 1000) (h1 : 0 ≤ i) (h2 : i < 1000000) : powOk i j = true := dec_hide ⟨h0, h, by omega⟩
def divOk (j : Int) : Bool := hide (decide (0 < j ∧ j < 1073741824))
theorem divOk_iff {j : Int} (h : divOk j = true) : 0 < j ∧ j < 1073741824 := hide_dec h
theorem divOk_of {j : Int} (h0 : 0 < j) (h : j < 1000000000) : divOk j = true := dec_hide (by omega)
def modOk (j : Int) : Bool := hide (decide (0 < j))
theorem modOk_iff {j : Int} (h : modOk j = true) : 0 < j := hide_dec h
theorem modOk_of {j : Int} (h0 : 0 < j) : modOk j = true := dec_hide h0
/-! ## plain readings of results -/
def undO : List O → Option (List D)
  | [] => some []
  | .d x :: r => (undO r).map (x :: ·)
  | _ :: _ => none
def O.plain : O → Option D
  | .d x => some x
  | .lst os => (undO os).map D.lst
  | _ => none
def R.pl : R → Option D
  | .d x => some x
  | .own o => o.plain
  | .pk o => o.plain
/-- the items of an owned plain list -/
def R.ol : R → Option (List D)
  | .own (.lst os) => undO os
  | .pk (.lst os) => undO os
  | _ => none
@[simp] theorem undO_map (ds : List D) : undO (ds.map O.d) = some ds := by
  induction ds with
  | nil => rfl
  | cons d ds ih => simp [undO, ih]
@[simp] theorem undO_nil : undO [] = some [] := rfl
@[simp] theorem undO_cons (x : D) (r : List O) : undO (.d x :: r) = (undO r).map (x :: ·) := rfl
@[simp] theorem undO_app (ds : List D) (r : List O) : undO (ds.map O.d ++ r) = (undO r).map (ds ++ ·) := by
  induction ds with
  | nil => simp [undO]
  | cons d ds ih => simp [undO, ih, Option.map_map, Function.comp_def]
theorem undO_eq {os : List O} {ds : List D} (h : undO os = some ds) : os = ds.map O.d := by
  induction os generalizing ds with
  | nil => cases h; rfl
  | cons o os ih =>
    cases o with
    | d x =>
      rw [undO_cons] at h
      cases e : undO os with
      | none => rw [e] at h; cases h
      | some es => rw [e] at h; cases h; rw [ih e]; rfl
    | lst xs => cases h
    | dct ks xs => cases h
    | obj c ns xs => cases h
@[simp] theorem R.pl_d (x : D) : (R.d x).pl = some x := rfl
@[simp] theorem R.pl_own (ds : List D) : (R.own (.lst (ds.map O.d))).pl = some (.lst ds) := by simp [R.pl, O.plain]
@[simp] theorem R.pl_pk (ds : List D) : (R.pk (.lst (ds.map O.d))).pl = some (.lst ds) := by simp [R.pl, O.plain]
@[simp] theorem R.ol_own (ds : List D) : (R.own (.lst (ds.map O.d))).ol = some ds := by simp [R.ol]
@[simp] theorem R.ol_pk (ds : List D) : (R.pk (.lst (ds.map O.d))).ol = some ds := by simp [R.ol]
@[simp] theorem R.isPk_d (x : D) : (R.d x).isPk = false := rfl
@[simp] theorem R.isPk_own (o : O) : (R.own o).isPk = false := rfl
@[simp] theorem R.isPk_pk (o : O) : (R.pk o).isPk = true := rfl

section
variable {g : Wd} {F H : Hp} {S : Addr → Prop} {v : V} {r : R} {fr : List Addr}
theorem RepR.ofOl (h : RepR g F H S v r fr) {ds : List D} (e : r.ol = some ds) : ∃ a vs, v = .ref a ∧ H a = some (.lst vs) ∧ vs.length ≤ sizeLine ∧ Reps g F vs ds := by
  have key : ∀ {o : O} {fp}, RepO g F H v o fp → ∀ os, o = .lst os → undO os = some ds → ∃ a vs, v = .ref a ∧ H a = some (.lst vs) ∧ vs.length ≤ sizeLine ∧ Reps g F vs ds := by
    intro o fp hr os e1 e2
    subst e1
    rw [undO_eq e2] at hr
    cases hr with
    | lst h1 hl r => exact ⟨_, _, rfl, h1, hl, r.toReps.1⟩
  cases r with
  | d x => cases e
  | own o =>
    cases o with
    | lst os => exact key h.1 os rfl e
    | d _ => cases e
    | dct _ _ => cases e
    | obj _ _ _ => cases e
  | pk o =>
    cases o with
    | lst os => obtain ⟨_, fp, hr⟩ := h; exact key hr os rfl e
    | d _ => cases e
    | dct _ _ => cases e
    | obj _ _ _ => cases e
theorem plain_lst {o : O} {x : D} (e : o.plain = some x) : o = .d x ∨ ∃ os ds, o = .lst os ∧ undO os = some ds ∧ x = .lst ds := by
  cases o with
  | d y => cases e; exact .inl rfl
  | lst os =>
    right
    have e : (undO os).map D.lst = some x := e
    cases q : undO os with
    | none => rw [q] at e; cases e
    | some ds => rw [q] at e; cases e; exact ⟨os, ds, rfl, q, rfl⟩
  | dct _ _ => cases e
  | obj _ _ _ => cases e
/-- data, or an owned plain list -/
theorem RepR.ofPl (h : RepR g F H S v r fr) {x : D} (e : r.pl = some x) : Rep g F v x ∨ ∃ a vs ds, x = .lst ds ∧ v = .ref a ∧ H a = some (.lst vs) ∧ vs.length ≤ sizeLine ∧ Reps g F vs ds := by
  cases r with
  | d y => cases e; exact .inl h.1
  | own o =>
    rcases plain_lst e with rfl | ⟨os, ds, rfl, q, rfl⟩
    · cases h.1; exact .inl (by assumption)
    · obtain ⟨a, vs, e1, e2, e3, e4⟩ := RepR.ofOl (r := .own (.lst os)) h q
      exact .inr ⟨a, vs, ds, rfl, e1, e2, e3, e4⟩
  | pk o =>
    rcases plain_lst e with rfl | ⟨os, ds, rfl, q, rfl⟩
    · obtain ⟨_, fp, hr⟩ := h; cases hr; exact .inl (by assumption)
    · obtain ⟨a, vs, e1, e2, e3, e4⟩ := RepR.ofOl (r := .pk (.lst os)) h q
      exact .inr ⟨a, vs, ds, rfl, e1, e2, e3, e4⟩
theorem RepR.int (h : RepR g F H S v r fr) {i : Int} (e : r.pl = some (.int i)) : v = .int i := by
  rcases h.ofPl e with h | ⟨_, _, _, z, _⟩
  · cases h; rfl
  · cases z
theorem RepR.bl (h : RepR g F H S v r fr) {i : Bool} (e : r.pl = some (.bl i)) : v = .bl i := by
  rcases h.ofPl e with h | ⟨_, _, _, z, _⟩
  · cases h; rfl
  · cases z
theorem RepR.non (h : RepR g F H S v r fr) (e : r.pl = some .non) : v = .non := by
  rcases h.ofPl e with h | ⟨_, _, _, z, _⟩
  · cases h; rfl
  · cases z
theorem RepR.str (h : RepR g F H S v r fr) {s : List Nat} (e : r.pl = some (.str s)) : v = .str ⟨s.toArray⟩ ∧ s.length ≤ sizeLine := by
  rcases h.ofPl e with h | ⟨_, _, _, z, _⟩
  · cases h with | str h1 => exact ⟨rfl, h1⟩
  · cases z
theorem RepR.tup (h : RepR g F H S v r fr) {ds : List D} (e : r.pl = some (.tup ds)) : ∃ a vs, v = .ref a ∧ SqT g.K F a vs ∧ vs.length ≤ sizeLine ∧ Reps g F vs ds := by
  rcases h.ofPl e with h | ⟨_, _, _, z, _⟩
  · cases h with | tup h1 hl r => exact ⟨_, _, rfl, h1, hl, r⟩
  · cases z
theorem RepR.lst (h : RepR g F H S v r fr) (sub : Ext F H) {ds : List D} (e : r.pl = some (.lst ds)) : ∃ a vs, v = .ref a ∧ SqL g.K H a vs ∧ vs.length ≤ sizeLine ∧ Reps g F vs ds := by
  rcases h.ofPl e with h | ⟨a, vs, _, z, e1, e2, e3, e4⟩
  · cases h with | lst h1 hl r => exact ⟨_, _, rfl, sub.sqL h1, hl, r⟩
  · cases z; exact ⟨a, vs, e1, .inl (.inl e2), e3, e4⟩
/-- read in the whole heap -/
theorem RepR.whole (h : RepR g F H S v r fr) (sub : Ext F H) {x : D} (e : r.pl = some x) : Rep g H v x := by
  rcases h.ofPl e with h | ⟨a, vs, ds, rfl, rfl, e2, e3, e4⟩
  · exact h.mono sub
  · exact .lst (.inl (.inl e2)) e3 (e4.mono sub)
end
theorem RepRs.one {g : Wd} {F H : Hp} {S : Addr → Prop} {vs : List V} {r : R} {fr : List Addr} (h : RepRs g F H S vs [r] fr) : ∃ v, vs = [v] ∧ RepR g F H S v r fr := by
  cases h with
  | cons h t => cases t; exact ⟨_, rfl, by simpa using h⟩
theorem RepRs.two {g : Wd} {F H : Hp} {S : Addr → Prop} {vs : List V} {r q : R} {fr : List Addr} (h : RepRs g F H S vs [r, q] fr) : ∃ v w f1 f2, vs = [v, w] ∧ fr = f1 ++ f2 ∧ RepR g F H S v r f1 ∧ RepR g F H S w q f2 := by
  cases h with
  | cons h t =>
    obtain ⟨w, rfl, h2⟩ := t.one
    exact ⟨_, _, _, _, rfl, rfl, h, h2⟩

/-! ## leaves: what an operation on values gives -/
theorem LStep.refl {F H : Hp} {fr : List Addr} (s : Ext F H) : LStep F H fr F H [] := ⟨.refl F, .refl H, s, fun _ _ h => .inl h, fun _ h => nomatch h⟩
/-- the value is plain data that stands already -/
theorem leaf_d {g : Wd} {F H : Hp} {S : Addr → Prop} {fr : List Addr} {d : D} {Q : VK} (s : Ext F H) (k : ∀ v F' H' fr', LStep F H fr F' H' fr' → RepR g F' H' S v (.d d) fr' → fr'.Nodup → Q v H') {v : V} (h : Rep g F v d) : Q v H :=
  k v F H [] (.refl s) ⟨h, rfl⟩ List.nodup_nil
theorem ext_upd {H : Hp} {p : Addr} {o : HO} (h : H p = none) : Ext H (upd H p o) := fun a u e => by
  rw [upd_ne (ne_of_none e h)]; exact e
theorem ext_upd2 {F H : Hp} {p : Addr} {o : HO} (s : Ext F H) : Ext F H → Ext (upd F p o) (upd H p o) := fun _ a u e => by
  unfold upd at e ⊢
  split at e
  · next z => rw [if_pos z]; exact e
  · next z => rw [if_neg z]; exact s a u e
theorem fnone {F H : Hp} {p : Addr} (s : Ext F H) (h : H p = none) : F p = none := by
  cases e : F p with
  | none => rfl
  | some o => rw [s p o e] at h; cases h
/-- a new tuple of data -/
theorem leaf_tup {g : Wd} {F H : Hp} {S : Addr → Prop} {fr : List Addr} {ds : List D} {Q : VK} (s : Ext F H) (k : ∀ v F' H' fr', LStep F H fr F' H' fr' → RepR g F' H' S v (.d (.tup ds)) fr' → fr'.Nodup → Q v H')
    {vs : List V} (h : Reps g F vs ds) (hl : vs.length ≤ sizeLine) {p : Addr} (hp : H p = none) : Q (.ref p) (upd H p (.tup vs)) := by
  have fp := fnone s hp
  refine k (.ref p) (upd F p (.tup vs)) (upd H p (.tup vs)) [] ⟨ext_upd fp, ext_upd hp, ext_upd2 s s, fun a o e => ?_, fun _ h => nomatch h⟩ ⟨.tup (.inl (.inl upd_same)) hl (h.mono (ext_upd fp)), rfl⟩ List.nodup_nil
  by_cases z : a = p
  · subst z; exact .inr (.inr hp)
  · rw [upd_ne z] at e; exact .inl e
/-- a new list of data -/
theorem leaf_lst {g : Wd} {F H : Hp} {S : Addr → Prop} {fr : List Addr} {ds : List D} {Q : VK} (s : Ext F H) (hS : ∀ a, S a → H a ≠ none ∧ F a = none) (k : ∀ v F' H' fr', LStep F H fr F' H' fr' → RepR g F' H' S v (.own (O.l ds)) fr' → fr'.Nodup → Q v H')
    {vs : List V} (h : Reps g F vs ds) (hl : vs.length ≤ sizeLine) {p : Addr} (hp : H p = none) : Q (.ref p) (upd H p (.lst vs)) := by
  have fp := fnone s hp
  refine k (.ref p) F (upd H p (.lst vs)) [p] ⟨.refl F, ext_upd hp, s.trans (ext_upd hp), fun a o e => .inl e, fun a h => ?_⟩ ⟨.lst upd_same hl (.ofReps h), fun a h => ?_⟩ (by simp)
  · rw [List.mem_singleton] at h; subst h; exact .inr hp
  · rw [List.mem_singleton] at h; subst h; exact ⟨fp, fun z => (hS a z).1 hp⟩
/-- what is handed over is frozen -/
theorem freezeF (F H : Hp) (fr : List Addr) : ∃ F', F' = (fun a => if a ∈ fr then H a else F a) := ⟨_, rfl⟩
def frz (F H : Hp) (fr : List Addr) : Hp := fun a => if a ∈ fr then H a else F a
theorem frz_ext {F H : Hp} {fr : List Addr} (s : Ext F H) : Ext F (frz F H fr) := fun a o e => by
  unfold frz; split
  · exact s a o e
  · exact e
theorem frz_sub {F H : Hp} {fr : List Addr} (s : Ext F H) : Ext (frz F H fr) H := fun a o e => by
  unfold frz at e; split at e
  · exact e
  · exact s a o e
theorem frz_mem {F H : Hp} {fr : List Addr} {a : Addr} (h : a ∈ fr) : frz F H fr a = H a := if_pos h
theorem frz_new {F H : Hp} {fr : List Addr} {a : Addr} {o : HO} (e : frz F H fr a = some o) : F a = some o ∨ a ∈ fr := by
  unfold frz at e; split at e
  · exact .inr (by assumption)
  · exact .inl e
/-- a result that is stored: data -/
def R.st : R → Option D
  | .d x => some x
  | .own o => if o.fz = true then some o.toD else none
  | .pk (.d x) => some x
  | .pk _ => none
@[simp] theorem R.st_d (x : D) : (R.d x).st = some x := rfl
@[simp] theorem R.st_own (ds : List D) : (R.own (.lst (ds.map O.d))).st = some (.lst ds) := by
  show (if (O.lst (ds.map O.d)).fz = true then some (O.lst (ds.map O.d)).toD else none) = _
  rw [show (O.lst (ds.map O.d)).fz = true from fzs_d ds, if_pos rfl, show (O.lst (ds.map O.d)).toD = .lst (toDs (ds.map O.d)) from rfl, toDs_d]
def sts : List R → Option (List D)
  | [] => some []
  | r :: rs => match r.st, sts rs with
    | some x, some xs => some (x :: xs)
    | _, _ => none
theorem RepR.st {g : Wd} {F H F' : Hp} {S : Addr → Prop} {v : V} {r : R} {fr : List Addr} (h : RepR g F H S v r fr) {x : D} (e : r.st = some x) (ex : Ext F F') (k : ∀ a ∈ fr, F' a = H a) : Rep g F' v x := by
  cases r with
  | d y => cases e; exact h.1.mono ex
  | own o =>
    unfold R.st at e
    dsimp only at e
    split at e
    · next z => cases e; exact h.1.freeze ex z fun a ha u q => (k a ha).trans q
    · cases e
  | pk o =>
    cases o with
    | d y =>
      cases e
      obtain ⟨_, fp, hr⟩ := h
      cases hr with
      | d r => exact r.mono ex
    | lst _ => cases e
    | dct _ _ => cases e
    | obj _ _ _ => cases e
theorem RepRs.sts {g : Wd} {F H F' : Hp} {S : Addr → Prop} {vs : List V} {rs : List R} {fr : List Addr} (h : RepRs g F H S vs rs fr) {xs : List D} (e : sts rs = some xs) (ex : Ext F F') (k : ∀ a ∈ fr, F' a = H a) : Reps g F' vs xs := by
  induction h generalizing xs with
  | nil => cases e; exact .nil
  | @cons v vs r rs f fr h t ih =>
    unfold Mw.sts at e
    split at e
    · next x' xs' e1 e2 =>
      cases e
      exact .cons (h.st e1 ex fun a ha => k a (by simp [ha])) (ih e2 fun a ha => k a (by simp [ha]))
    · cases e
theorem lstep_frz {F H : Hp} {fr : List Addr} (s : Ext F H) : LStep F H fr (frz F H fr) H [] :=
  ⟨frz_ext s, .refl H, frz_sub s, fun a o e => (frz_new e).imp id .inl, fun _ h => nomatch h⟩
theorem LStep.thn {F H F1 H1 F2 H2 : Hp} {fr f2 : List Addr} (a : LStep F H fr F1 H1 []) (b : LStep F1 H1 [] F2 H2 f2) : LStep F H fr F2 H2 f2 :=
  ⟨a.ext.trans b.ext, a.exh.trans b.exh, b.sub, fun x o e => by
    rcases b.new x o e with e | e | e
    · exact a.new x o e
    · cases e
    · cases q : H x with
      | none => exact .inr (.inr rfl)
      | some u => exact absurd (a.exh x u q) (by rw [e]; simp), fun x h => by
    rcases b.fre x h with h | h
    · cases h
    · cases q : H x with
      | none => exact .inr rfl
      | some u => exact absurd (a.exh x u q) (by rw [h]; simp)⟩

/-! ## judgements -/
abbrev gOf (X : Cx) : Wd := ⟨X.K, X.mg⟩
abbrev SE (X : Cx) (W : WX) (e : Expr) (m : M) : Prop := PE X e (tM (gOf X) W m)
abbrev SA (X : Cx) (W : WX) (es : List Expr) (ms : List M) : Prop := PA X es (tA (gOf X) W ms)
theorem PE.wk {X : Cx} {e : Expr} {t t' : TE} (h : PE X e t) (i : ∀ σ H Q, t' σ H Q → t σ H Q) : PE X e t' := ⟨fun pins s σ H Q I q => h.run pins s σ H Q I (i σ H Q q)⟩
theorem PA.wk {X : Cx} {e : List Expr} {t t' : TA} (h : PA X e t) (i : ∀ σ H Q, t' σ H Q → t σ H Q) : PA X e t' := ⟨fun po pins s σ H Q I q => h.run po pins s σ H Q I (i σ H Q q)⟩
theorem PT.wk {X : Cx} {e : Expr} {t t' : TT} (h : PT X e t) (i : ∀ σ H Q, t' σ H Q → t σ H Q) : PT X e t' := ⟨fun pins s σ H Q I q => h.run pins s σ H Q I (i σ H Q q)⟩
theorem PW.wk {X : Cx} {e : Expr} {t t' : TT} (h : PW X e t) (i : ∀ σ H Q, t' σ H Q → t σ H Q) : PW X e t' := ⟨fun wh pins s σ H Q I q => h.run wh pins s σ H Q I (i σ H Q q)⟩
theorem PS.wk {X : Cx} {e : Stmt} {t t' : TS} (h : PS X e t) (i : ∀ D σ H, t' D σ H → t D σ H) : PS X e t' := ⟨fun pins s σ H D I q => h.run pins s σ H D I (i D σ H q)⟩
theorem PSs.wk {X : Cx} {e : List Stmt} {t t' : TS} (h : PSs X e t) (i : ∀ D σ H, t' D σ H → t D σ H) : PSs X e t' := ⟨fun pins s σ H D I q => h.run pins s σ H D I (i D σ H q)⟩

section
variable {X : Cx} {W : WX} {pos : Pos} {a b c : Expr} {es : List Expr} {ma mb mc : M} {ms : List M}
theorem a_nil : SA X W [] [] := PA.wk pa_nil fun σ H Q h => tA_nil h
theorem a_cons (ha : SE X W a ma) (hr : SA X W es ms) (hs : starEach (a :: es) X.env = (false, eval a X.env) :: starEach es X.env := by rfl) : SA X W (a :: es) (ma :: ms) := PA.wk (pa_cons ha hr hs) fun σ H Q h => tA_cons h

/-! ### names, constants -/
def nm (i : Nat) : M := fun ρ => match ρ[i]? with
  | some (.shr d) => .ok (.d d) ρ true
  | some (.mu _ o) => .ok (.pk o) ρ true
  | _ => .no
theorem tR.ret {α β : Type} {g : Wd} {W : WX} {RR : VRel α β} {m : Ro → Res α} {σ : L2.St} {H : Hp} {Q : β → Hp → Prop} (h : tR g W RR m σ H Q)
    (i : ∀ F ρ fp, Stt g F H σ ρ fp → Ob g W σ F H (Own fp) (Zq H ρ) RR (m ρ) Q → ∃ v r, m ρ = .ok r ρ true ∧ RR F H (Own fp) v r []) : ∃ v, ∃ F ρ fp r, Stt g F H σ ρ fp ∧ m ρ = .ok r ρ true ∧ RR F H (Own fp) v r [] ∧ Q v H := by
  obtain ⟨F, ρ, fp, st, ob⟩ := h
  obtain ⟨v, r, e, rr⟩ := i F ρ fp st ob
  exact ⟨v, F, ρ, fp, r, st, e, rr, ob.2.1 r ρ true e v F H fp [] ⟨.refl F, fun _ _ _ h => h, fun _ _ h => .inl h, fun x h => .inl (h.elim id fun z => nomatch z)⟩ st rr List.nodup_nil ⟨.refl ρ, fun _ => ⟨.refl H, rfl⟩⟩⟩
theorem tM_nm {g : Wd} {i : Nat} {σ : L2.St} {H : Hp} {Q : VK} (h : tM g W (nm i) σ H Q) : tVar i σ H Q := by
  obtain ⟨F, ρ, fp, st, ob⟩ := h
  have fin : ∀ {v : V} {r : R}, σ[i]? = some (some v) → nm i ρ = .ok r ρ true → RepR g F H (Own fp) v r [] → tVar i σ H Q := fun {v r} e1 e2 rr =>
    ⟨v, e1, ob.2.1 r ρ true e2 v F H fp [] ⟨.refl F, fun _ _ _ h => h, fun _ _ h => .inl h, fun x h => .inl (h.elim id fun z => nomatch z)⟩ st rr List.nodup_nil ⟨.refl ρ, fun _ => ⟨.refl H, rfl⟩⟩⟩
  cases e : ρ[i]? with
  | none => exact absurd (by unfold nm; rw [e]) ob.1
  | some x =>
    cases x with
    | un => exact absurd (by unfold nm; rw [e]) ob.1
    | shr d =>
      obtain ⟨v, e1, r⟩ := st.shr i d e
      exact fin (r := .d d) e1 (by unfold nm; rw [e]) ⟨r, rfl⟩
    | mu b o =>
      obtain ⟨v, e1, r⟩ := st.mu i b o e
      exact fin (r := .pk o) e1 (by unfold nm; rw [e]) ⟨rfl, _, r⟩
theorem s_nm {i : Nat} {x : Str} (hN : X.N[i]? = some x) (hv : Vis X.env.scope x) (hd : (x == ("__debug__" : Str)) = false := by decide) (hcd : (x == ("__classdict__" : Str)) = false := by decide) : SE X W (.Name x pos) (nm i) :=
  PE.wk (pe_var hN hv hd hcd) fun σ H Q h => tM_nm h
def mC (d : D) : M := fun ρ => .ok (.d d) ρ true
theorem tM_C {g : Wd} {d : D} {v : V} {σ : L2.St} {H : Hp} {Q : VK} (h : tM g W (mC d) σ H Q) (r : ∀ F, Rep g F v d) : tC v σ H Q := by
  obtain ⟨F, ρ, fp, st, ob⟩ := h
  exact ob.2.1 (.d d) ρ true rfl v F H fp [] ⟨.refl F, fun _ _ _ h => h, fun _ _ h => .inl h, fun x h => .inl (h.elim id fun z => nomatch z)⟩ st ⟨r F, rfl⟩ List.nodup_nil ⟨.refl ρ, fun _ => ⟨.refl H, rfl⟩⟩
theorem s_int {i : Int} {j : Nat} : SE X W (.Constant (.int i) j pos) (mC (.int i)) := PE.wk pe_int fun σ H Q h => tM_C h fun F => .int i
theorem s_bl {i : Bool} {j : Nat} : SE X W (.Constant (.bool i) j pos) (mC (.bl i)) := PE.wk pe_bl fun σ H Q h => tM_C h fun F => .bl i
theorem s_non {j : Nat} : SE X W (.Constant .none j pos) (mC .non) := PE.wk pe_non fun σ H Q h => tM_C h fun F => .non
theorem rep_str {g : Wd} {F : Hp} {x : Str} {s : List Nat} (e : x.cps.toList = s) (hl : s.length ≤ sizeLine) : Rep g F (.str x) (.str s) := by
  subst e
  obtain ⟨c⟩ := x
  have := Rep.str (g := g) (F := F) (s := c.toList) hl
  simpa using this
theorem s_str {x : Str} {s : List Nat} {j : Nat} (e : x.cps.toList = s := by rfl) (hl : s.length ≤ sizeLine := by decide) : SE X W (.Constant (.str x) j pos) (mC (.str s)) := PE.wk pe_str fun σ H Q h => tM_C h fun F => rep_str e hl
theorem s_glob {x : Str} {v : V} {u : Value} {d : D} (hg : Gl X x) (hm : X.mg x = some u) (r : RelV v u) (hr : ∀ F, Rep (gOf X) F v d) (hd : (x == ("__debug__" : Str)) = false := by decide) : SE X W (.Name x pos) (mC d) :=
  PE.wk (pe_glob hg hm r hd) fun σ H Q h => tM_C h hr
end
end
end Mw

set_option Elab.async false
set_option linter.all false
set_option maxRecDepth 100000
set_option autoImplicit false
namespace Mw
open PySem PySem.Spec PyProof.Rows L2
noncomputable section

section
variable {X : Cx} {W : WX} {pos : Pos} {a b c : Expr} {es : List Expr} {ma mb mc : M} {ms : List M}

/-! ### operators -/
abbrev leaf1 (f : R → Option R) : List R → Option R
  | [x] => f x
  | _ => none
abbrev leaf2 (f : R → R → Option R) : List R → Option R
  | [x, y] => f x y
  | _ => none
/-- what a rule about two values is asked -/
structure LF (g : Wd) (leaf : Option R) (F H : Hp) (S : Addr → Prop) (fr : List Addr) (Q : VK) : Prop where
  sub : Ext F H
  hS : ∀ a, S a → H a ≠ none ∧ F a = none
  nd : fr.Nodup
  go : ∃ rr, leaf = some rr ∧ ∀ v F' H' fr', LStep F H fr F' H' fr' → RepR g F' H' S v rr fr' → fr'.Nodup → Q v H'
theorem LF.val {g : Wd} {leaf : Option R} {F H : Hp} {S : Addr → Prop} {fr : List Addr} {Q : VK} (l : LF g leaf F H S fr Q) {d : D} (e : leaf = some (.d d)) {v : V} (h : Rep g F v d) : Q v H := by
  obtain ⟨rr, e', k⟩ := l.go
  rw [e] at e'; cases e'
  exact leaf_d l.sub k h
theorem LF.tup {g : Wd} {leaf : Option R} {F H : Hp} {S : Addr → Prop} {fr : List Addr} {Q : VK} (l : LF g leaf F H S fr Q) {ds : List D} (e : leaf = some (.d (.tup ds))) {vs : List V} (h : Reps g F vs ds) (hl : vs.length ≤ sizeLine) {p : Addr} (hp : H p = none) : Q (.ref p) (upd H p (.tup vs)) := by
  obtain ⟨rr, e', k⟩ := l.go
  rw [e] at e'; cases e'
  exact leaf_tup l.sub k h hl hp
theorem LF.lst {g : Wd} {leaf : Option R} {F H : Hp} {S : Addr → Prop} {fr : List Addr} {Q : VK} (l : LF g leaf F H S fr Q) {ds : List D} (e : leaf = some (.own (.lst (ds.map O.d)))) {vs : List V} (h : Reps g F vs ds) (hl : vs.length ≤ sizeLine) {p : Addr} (hp : H p = none) : Q (.ref p) (upd H p (.lst vs)) := by
  obtain ⟨rr, e', k⟩ := l.go
  rw [e] at e'; cases e'
  exact leaf_lst l.sub l.hS k h hl hp
theorem LF.has {g : Wd} {leaf : Option R} {F H : Hp} {S : Addr → Prop} {fr : List Addr} {Q : VK} (l : LF g leaf F H S fr Q) : ∃ r, leaf = some r := l.go.imp fun _ h => h.1
/-- a rule by its leaf -/
def LOk1 (g : Wd) (f : R → Option R) (r : V → Hp → VK → Prop) : Prop := ∀ F H S x p fr Q, RepR g F H S x p fr → LF g (f p) F H S fr Q → r x H Q
def LOk2 (g : Wd) (f : R → R → Option R) (r : R2) : Prop := ∀ F H S x y p q f1 f2 Q, RepR g F H S x p f1 → RepR g F H S y q f2 → LF g (f p q) F H S (f1 ++ f2) Q → r x y H Q
theorem LOk2.at {g : Wd} {f : R → R → Option R} {r : R2} (h : LOk2 g f r) {vs : List V} {H : Hp} {Q : VK} (l : LeafG g (leaf2 f) vs H Q) : ∃ x y, vs = [x, y] ∧ r x y H Q := by
  obtain ⟨F, S, rs, fr, rr, sub, hS, rp, nd, e, k⟩ := l
  match rs, e, rp with
  | [p, q], e, rp =>
    obtain ⟨v, w, f1, f2, rfl, rfl, h1, h2⟩ := rp.two
    exact ⟨v, w, rfl, h F H S v w p q f1 f2 Q h1 h2 ⟨sub, hS, nd, rr, e, k⟩⟩
theorem LOk1.at {g : Wd} {f : R → Option R} {r : V → Hp → VK → Prop} (h : LOk1 g f r) {vs : List V} {H : Hp} {Q : VK} (l : LeafG g (leaf1 f) vs H Q) : ∃ x, vs = [x] ∧ r x H Q := by
  obtain ⟨F, S, rs, fr, rr, sub, hS, rp, nd, e, k⟩ := l
  match rs, e, rp with
  | [p], e, rp =>
    obtain ⟨v, rfl, h1⟩ := rp.one
    exact ⟨v, rfl, h F H S v p fr Q h1 ⟨sub, hS, nd, rr, e, k⟩⟩
def m1 (f : R → Option R) (ma : M) : M := mOps [ma] (leaf1 f)
def m2 (f : R → R → Option R) (ma mb : M) : M := mOps [ma, mb] (leaf2 f)
theorem tM_m1 {g : Wd} {f : R → Option R} {r : V → Hp → VK → Prop} (h : LOk1 g f r) {σ : L2.St} {H : Hp} {Q : VK} (t : tM g W (m1 f ma) σ H Q) : tM g W ma σ H fun x H1 => r x H1 Q := by
  refine (tA_cons (tM_ops t)).imp fun x H1 q => ?_
  obtain ⟨y, e, q⟩ := h.at (tA_nil q)
  cases e; exact q
theorem tM_m2 {g : Wd} {f : R → R → Option R} {r : R2} (h : LOk2 g f r) {σ : L2.St} {H : Hp} {Q : VK} (t : tM g W (m2 f ma mb) σ H Q) : tOp r (tM g W ma) (tM g W mb) σ H Q := by
  refine (tA_cons (tM_ops t)).imp fun x H1 q => (tA_cons q).imp fun y H2 q => ?_
  obtain ⟨x', y', e, q⟩ := h.at (tA_nil q)
  cases e; exact q
/-- a op b -/
theorem s_bin {op : Operator} {f : R → R → Option R} {r : R2} (ho : OpR X (binaryOp op) r) (hl : LOk2 (gOf X) f r) (ha : SE X W a ma) (hb : SE X W b mb) : SE X W (.BinOp a op b pos) (m2 f ma mb) :=
  PE.wk (pe_op ho ha hb) fun σ H Q h => tM_m2 hl h
theorem s_un {op : UnaryOp} {f : R → Option R} {r : V → Hp → VK → Prop} (ho : UnR X (unaryOp op) r) (hl : LOk1 (gOf X) f r) (ha : SE X W a ma) : SE X W (.UnaryOp op a pos) (m1 f ma) :=
  PE.wk (pe_un ho ha) fun σ H Q h => tM_m1 hl h
theorem s_cmp {op : CmpOp} {f : R → R → Option R} {r : R2} (ho : OpR X (compareOp op) r) (hl : LOk2 (gOf X) f r) (ha : SE X W a ma) (hb : SE X W b mb) (hm : behindInMarks op b = false) : SE X W (.Compare a [op] [b] pos) (m2 f ma mb) :=
  PE.wk (pe_cmpR ho ha hb hm) fun σ H Q h => tM_m2 hl h
theorem s_ix {f : R → R → Option R} {r : R2} (ho : IxR X r) (hl : LOk2 (gOf X) f r) (ha : SE X W a ma) (hb : SE X W b mb) (hs : PlainIx b) : SE X W (.Subscript a b pos) (m2 f ma mb) :=
  PE.wk (pe_ix ho ha hb hs) fun σ H Q h => tM_m2 hl h
theorem LOk2.or {g : Wd} {f : R → R → Option R} {r r' : R2} (h : ∀ F H S x y p q f1 f2 Q, RepR g F H S x p f1 → RepR g F H S y q f2 → LF g (f p q) F H S (f1 ++ f2) Q → r x y H Q ∨ r' x y H Q) : LOk2 g f (fun x y H Q => r x y H Q ∨ r' x y H Q) := h

/-! + -/
def lAdd (p q : R) : Option R := match p.pl, q.pl with
  | some (.int i), some (.int j) => some (.d (.int (i + j)))
  | some (.str s), some (.str t) => if lenOk (s.length + t.length) = true then some (.d (.str (s ++ t))) else none
  | some (.tup s), some (.tup t) => if lenOk (s.length + t.length) = true then some (.d (.tup (s ++ t))) else none
  | some (.lst _), some (.lst _) => match p.ol, q.ol with
    | some s, some t => if lenOk (s.length + t.length) = true then some (.own (.lst ((s ++ t).map O.d))) else none
    | _, _ => none
  | _, _ => none
theorem str_app {s t : List Nat} : (⟨s.toArray⟩ : Str) ++ ⟨t.toArray⟩ = ⟨(s ++ t).toArray⟩ := by
  show (⟨s.toArray ++ t.toArray⟩ : Str) = _
  simp
theorem str_len {s : List Nat} : (⟨s.toArray⟩ : Str).length = s.length := by
  show s.toArray.size = _
  simp
theorem op_addA : OpR X (binaryOp .Add) (fun x y H Q => (rI0 fun i j => .int (i + j)) x y H Q ∨ ((fun x y H Q => ∃ i j, x = .str i ∧ y = .str j ∧ i.length + j.length ≤ sizeLine ∧ Q (.str (i ++ j)) H) x y H Q ∨ (rCatA X.K x y H Q ∨ rCat x y H Q))) :=
  op_add.or (op_add_str.or (op_catA.or op_cat))
theorem l_add : LOk2 (gOf X) lAdd (fun x y H Q => (rI0 fun i j => .int (i + j)) x y H Q ∨ ((fun x y H Q => ∃ i j, x = .str i ∧ y = .str j ∧ i.length + j.length ≤ sizeLine ∧ Q (.str (i ++ j)) H) x y H Q ∨ (rCatA X.K x y H Q ∨ rCat x y H Q))) := by
  intro F H S x y p q f1 f2 Q rx ry l
  obtain ⟨rr, e⟩ := l.has
  have e0 := e
  unfold lAdd at e
  split at e
  · next i j e1 e2 =>
    cases e
    exact .inl ⟨i, j, rx.int e1, ry.int e2, l.val e0 (.int _)⟩
  · next s t e1 e2 =>
    split at e
    · next hl =>
      have hl := lenOk_le hl
      cases e
      obtain ⟨rfl, h1⟩ := rx.str e1
      obtain ⟨rfl, h2⟩ := ry.str e2
      rw [← sizeLine_eq] at hl
      refine .inr (.inl ⟨_, _, rfl, rfl, by rw [str_len, str_len]; exact hl, ?_⟩)
      rw [str_app]
      exact l.val e0 (.str (by rw [List.length_append]; exact hl))
    · cases e
  · next s t e1 e2 =>
    split at e
    · next hl =>
      have hl := lenOk_le hl
      cases e
      obtain ⟨a1, vs, rfl, k1, n1, r1⟩ := rx.tup e1
      obtain ⟨a2, ws, rfl, k2, n2, r2⟩ := ry.tup e2
      rw [← sizeLine_eq] at hl
      have hl' : vs.length + ws.length ≤ sizeLine := by rw [r1.length, r2.length]; exact hl
      refine .inr (.inr (.inl ⟨a1, a2, vs, ws, rfl, rfl, l.sub.sqT k1, l.sub.sqT k2, hl', fun z => ?_, fun _ z => ?_, fun _ _ p hp => ?_⟩))
      · subst z
        have z : s = [] := List.eq_nil_of_length_eq_zero r1.length.symm
        subst z
        exact l.val e0 (.tup k2 n2 (by simpa using r2))
      · subst z
        have z : t = [] := List.eq_nil_of_length_eq_zero r2.length.symm
        subst z
        exact l.val e0 (.tup k1 n1 (by simpa using r1))
      · exact l.tup e0 (r1.app r2) (by rw [List.length_append]; exact hl') hp
    · cases e
  · split at e
    · next s t e1 e2 =>
      split at e
      · next hl =>
        have hl := lenOk_le hl
        cases e
        obtain ⟨a1, vs, rfl, k1, n1, r1⟩ := rx.ofOl e1
        obtain ⟨a2, ws, rfl, k2, n2, r2⟩ := ry.ofOl e2
        rw [← sizeLine_eq] at hl
        have hl' : vs.length + ws.length ≤ sizeLine := by rw [r1.length, r2.length]; exact hl
        exact .inr (.inr (.inr ⟨a1, a2, vs, ws, rfl, rfl, k1, k2, hl', fun p hp => l.lst e0 (r1.app r2) (by rw [List.length_append]; exact hl') hp⟩))
      · cases e
    · cases e
  · cases e
theorem s_add (ha : SE X W a ma) (hb : SE X W b mb) : SE X W (.BinOp a .Add b pos) (m2 lAdd ma mb) := s_bin op_addA l_add ha hb
/-! ints -/
def lI (f : Int → Int → Option D) (p q : R) : Option R := match p.pl, q.pl with
  | some (.int i), some (.int j) => (f i j).map R.d
  | _, _ => none
theorem lI_some {f : Int → Int → Option D} {p q : R} {rr : R} (e : lI f p q = some rr) : ∃ i j d, p.pl = some (.int i) ∧ q.pl = some (.int j) ∧ f i j = some d ∧ rr = .d d := by
  unfold lI at e
  split at e
  · next i j e1 e2 =>
    cases q' : f i j with
    | none => rw [q'] at e; cases e
    | some d => rw [q'] at e; cases e; exact ⟨i, j, d, e1, e2, q', rfl⟩
  · cases e
theorem l_I {f : Int → Int → Option D} {C : Int → Int → Prop} {h : Int → Int → V} (k : ∀ i j d, f i j = some d → C i j ∧ ∀ F, Rep (gOf X) F (h i j) d) : LOk2 (gOf X) (lI f) (rI C h) := by
  intro F H S x y p q f1 f2 Q rx ry l
  obtain ⟨rr, e⟩ := l.has
  obtain ⟨i, j, d, e1, e2, e3, rfl⟩ := lI_some e
  exact ⟨i, j, rx.int e1, ry.int e2, (k i j d e3).1, l.val e ((k i j d e3).2 F)⟩
theorem l_I0 {f : Int → Int → Option D} {h : Int → Int → V} (k : ∀ i j d, f i j = some d → ∀ F, Rep (gOf X) F (h i j) d) : LOk2 (gOf X) (lI f) (rI0 h) := by
  intro F H S x y p q f1 f2 Q rx ry l
  obtain ⟨rr, e⟩ := l.has
  obtain ⟨i, j, d, e1, e2, e3, rfl⟩ := lI_some e
  exact ⟨i, j, rx.int e1, ry.int e2, l.val e (k i j d e3 F)⟩
abbrev lSub := lI fun i j => some (.int (i - j))
abbrev lMod := lI fun i j => if modOk j = true then some (.int (i % j)) else none
abbrev lDiv := lI fun i j => if divOk j = true then some (.int (i / j)) else none
abbrev lPow := lI fun i j => if powOk i j = true then some (.int (i ^ j.toNat)) else none
abbrev lLt := lI fun i j => some (.bl (decide (i < j)))
abbrev lLe := lI fun i j => some (.bl (decide (i ≤ j)))
abbrev lGt := lI fun i j => some (.bl (decide (j < i)))
abbrev lGe := lI fun i j => some (.bl (decide (j ≤ i)))
theorem s_sub (ha : SE X W a ma) (hb : SE X W b mb) : SE X W (.BinOp a .Sub b pos) (m2 lSub ma mb) := s_bin op_sub (l_I0 fun i j d e F => by cases e; exact .int _) ha hb
theorem s_mod (ha : SE X W a ma) (hb : SE X W b mb) : SE X W (.BinOp a .Mod b pos) (m2 lMod ma mb) := s_bin op_mod (l_I fun i j d e => by
  split at e
  · cases e; exact ⟨modOk_iff (by assumption), fun F => .int _⟩
  · cases e) ha hb
theorem s_div (ha : SE X W a ma) (hb : SE X W b mb) : SE X W (.BinOp a .FloorDiv b pos) (m2 lDiv ma mb) := s_bin op_fdiv (l_I fun i j d e => by
  split at e
  · cases e; exact ⟨divOk_iff (by assumption), fun F => .int _⟩
  · cases e) ha hb
theorem s_pow (ha : SE X W a ma) (hb : SE X W b mb) : SE X W (.BinOp a .Pow b pos) (m2 lPow ma mb) := s_bin op_pow (l_I fun i j d e => by
  split at e
  · next h => have h := powOk_iff h; cases e; exact ⟨⟨h.1, by omega, by have := h.2.2; omega⟩, fun F => .int _⟩
  · cases e) ha hb
theorem s_lt (ha : SE X W a ma) (hb : SE X W b mb) : SE X W (.Compare a [.Lt] [b] pos) (m2 lLt ma mb) := s_cmp op_lt (l_I0 fun i j d e F => by cases e; exact .bl _) ha hb (nomark _)
theorem s_le (ha : SE X W a ma) (hb : SE X W b mb) : SE X W (.Compare a [.LtE] [b] pos) (m2 lLe ma mb) := s_cmp op_le (l_I0 fun i j d e F => by cases e; exact .bl _) ha hb (nomark _)
theorem s_gt (ha : SE X W a ma) (hb : SE X W b mb) : SE X W (.Compare a [.Gt] [b] pos) (m2 lGt ma mb) := s_cmp op_gt (l_I0 fun i j d e F => by cases e; exact .bl _) ha hb (nomark _)
theorem s_ge (ha : SE X W a ma) (hb : SE X W b mb) : SE X W (.Compare a [.GtE] [b] pos) (m2 lGe ma mb) := s_cmp op_ge (l_I0 fun i j d e F => by cases e; exact .bl _) ha hb (nomark _)
abbrev lNeg (p : R) : Option R := match p.pl with
  | some (.int i) => some (.d (.int (-i)))
  | _ => none
theorem s_neg (ha : SE X W a ma) : SE X W (.UnaryOp .USub a pos) (m1 lNeg ma) := s_un un_neg (by
  intro F H S x p fr Q rx l
  obtain ⟨rr, e⟩ := l.has
  have e0 := e
  dsimp only [lNeg] at e
  split at e
  · next i e1 => cases e; exact ⟨i, rx.int e1, l.val e0 (.int _)⟩
  · cases e) ha
end
end
end Mw

set_option Elab.async false
set_option linter.all false
set_option maxRecDepth 100000
set_option autoImplicit false
namespace Mw
open PySem PySem.Spec PyProof.Rows L2
noncomputable section

section
variable {X : Cx} {W : WX} {pos : Pos} {a b c : Expr} {es : List Expr} {ma mb mc : M} {ms : List M}

/-! ### * -/
def rRepS : R2 := fun x y H Q => ∃ s n, x = .str s ∧ y = .int n ∧ 0 ≤ n ∧ n ≤ 1000 ∧ s.length ≤ 1000 ∧ Q (.str ⟨(List.replicate n.toNat s.cps.toList).flatten.toArray⟩) H
theorem size_repS (its : List Nat) : ∀ (m : Nat) (acc : Array Nat), (List.foldl (fun x1 x2 => x1 ++ x2) acc (List.replicate m its.toArray)) = acc ++ (List.replicate m its).flatten.toArray := by
  intro m
  induction m with
  | zero => intro acc; simp
  | succ m ih => intro acc; rw [List.replicate_succ, List.foldl_cons, ih, List.replicate_succ, List.flatten_cons]; simp [Array.append_assoc]
theorem flat_len {α : Type} (m : Nat) (l : List α) : (List.replicate m l).flatten.length = m * l.length := by
  induction m with
  | zero => simp
  | succ m ih => rw [List.replicate_succ, List.flatten_cons, List.length_append, ih, Nat.succ_mul, Nat.add_comm]
theorem op_repS : OpR X (binaryOp .Mult) rRepS := by
  intro pins s σ H x y v u Q I rx ry h
  obtain ⟨z, n, rfl, rfl, h0, h1, hz, q⟩ := h
  obtain ⟨t, rfl⟩ := rx
  obtain ⟨t', rfl⟩ := ry
  obtain ⟨⟨l⟩⟩ := z
  have hz : l.length ≤ 1000 := hz
  have sl : (1000 * 1000 : Nat) ≤ sizeLine := by rw [sizeLine_eq]; decide
  have hm : l.length * n.toNat ≤ 1000 * 1000 := Nat.mul_le_mul hz (by omega)
  have hlen : ((⟨⟨l⟩⟩ : Str)).length = l.length := rfl
  have n1 : ¬ n < -(2 ^ 63 : Int) := by omega
  have n2 : ¬ n ≥ (2 ^ 63 : Int) := by omega
  refine P.mul_str (by rw [decide_eq_false n1, decide_eq_false n2]; rfl) (fun h2 _ => ?_) (fun h2 _ => ?_) ?_
  · rw [hlen]
    have : (1000 : Int) ≤ (2 ^ 63 - 1) / n := by
      have : (2 ^ 63 - 1) / 1000 ≤ (2 ^ 63 - 1) / n := by
        have e1 : (2 ^ 63 - 1 : Int) / 1000 * n ≤ 2 ^ 63 - 1 := by omega
        exact Int.le_ediv_of_mul_le (by omega) e1
      omega
    omega
  · rw [hlen]
    unfold Builtin.Str.tooLong
    exact decide_eq_false (by omega)
  · have fin : ∀ (w : Str), w = ⟨(List.replicate n.toNat l).flatten.toArray⟩ → Q (.str w) H := fun w e => by rw [e]; exact q
    by_cases hn : n < 1
    · rw [if_pos hn]
      have : n = 0 := by omega
      subst this
      exact ⟨by decide, .str _, H, I.tok _, ⟨_, rfl⟩, fin _ rfl⟩
    · rw [if_neg hn]
      by_cases hk : (n == 1 || (⟨⟨l⟩⟩ : Str).length == 0) = true
      · rw [if_pos hk]
        refine ⟨.str ⟨⟨l⟩⟩, H, I, ⟨_, rfl⟩, fin _ ?_⟩
        rcases Bool.or_eq_true_iff.mp hk with hk | hk
        · have : n = 1 := by simpa using hk
          subst this; simp
        · have : l = [] := List.eq_nil_of_length_eq_zero (show l.length = 0 by simpa using (show (l.length == 0) = true from hk))
          subst this; simp
      · rw [if_neg hk]
        have e := size_repS l n.toNat #[]
        simp only [Array.empty_append] at e
        refine ⟨?_, .str _, H, I.tok _, ⟨_, rfl⟩, fin _ (by rw [← e])⟩
        show (List.foldl (fun x1 x2 => x1 ++ x2) #[] (List.replicate n.toNat l.toArray)).size ≤ sizeLine
        rw [e, List.size_toArray, flat_len]
        rw [Nat.mul_comm] at hm
        omega
def lMul (p q : R) : Option R := match p.pl, q.pl with
  | some (.int i), some (.int j) => if mulOk i j = true then some (.d (.int (i * j))) else none
  | some (.str s), some (.int n) => if repOk n s.length = true then some (.d (.str (List.replicate n.toNat s).flatten)) else none
  | some (.lst _), some (.int n) => match p.ol with
    | some s => if repOk n s.length = true then some (.own (.lst ((List.replicate n.toNat s).flatten.map O.d))) else none
    | none => none
  | _, _ => none
theorem Reps.flat {g : Wd} {F : Hp} {vs : List V} {ds : List D} (h : Reps g F vs ds) : ∀ n : Nat, Reps g F (List.replicate n vs).flatten (List.replicate n ds).flatten
  | 0 => .nil
  | n + 1 => by
    rw [List.replicate_succ, List.replicate_succ, List.flatten_cons, List.flatten_cons]
    exact h.app (Reps.flat h n)
theorem op_mulA : OpR X (binaryOp .Mult) (fun x y H Q => (rI CMul fun i j => .int (i * j)) x y H Q ∨ (rRepS x y H Q ∨ rRep x y H Q)) := op_mul.or (op_repS.or op_rep)
theorem l_mul : LOk2 (gOf X) lMul (fun x y H Q => (rI CMul fun i j => .int (i * j)) x y H Q ∨ (rRepS x y H Q ∨ rRep x y H Q)) := by
  intro F H S x y p q f1 f2 Q rx ry l
  obtain ⟨rr, e⟩ := l.has
  have e0 := e
  unfold lMul at e
  split at e
  · next i j e1 e2 =>
    split at e
    · next hc =>
      have hc := mulOk_iff hc
      cases e
      exact .inl ⟨i, j, rx.int e1, ry.int e2, by unfold CMul; omega, l.val e0 (.int _)⟩
    · cases e
  · next s n e1 e2 =>
    split at e
    · next hc =>
      have hc := repOk_iff hc
      cases e
      obtain ⟨rfl, h1⟩ := rx.str e1
      refine .inr (.inl ⟨_, n, rfl, ry.int e2, hc.1, hc.2.1, by rw [str_len]; exact hc.2.2, l.val e0 (.str ?_)⟩)
      show (List.replicate n.toNat s).flatten.length ≤ sizeLine
      rw [flat_len, sizeLine_eq]
      have := Nat.mul_le_mul (show n.toNat ≤ 1000 by omega) hc.2.2
      omega
    · cases e
  · next s' n e1 e2 =>
    split at e
    · next s e3 =>
      split at e
      · next hc =>
        have hc := repOk_iff hc
        cases e
        obtain ⟨a1, vs, rfl, k1, n1, r1⟩ := rx.ofOl e3
        have hz : vs.length * n.toNat ≤ sizeLine := by
          rw [sizeLine_eq, r1.length]
          have := Nat.mul_le_mul hc.2.2 (show n.toNat ≤ 1000 by omega)
          omega
        exact .inr (.inr ⟨a1, n, vs, rfl, ry.int e2, k1, by omega, by omega, hz, fun p hp => l.lst e0 (r1.flat _) (by rw [flat_len, Nat.mul_comm]; exact hz) hp⟩)
      · cases e
    · cases e
  · cases e
theorem s_mul (ha : SE X W a ma) (hb : SE X W b mb) : SE X W (.BinOp a .Mult b pos) (m2 lMul ma mb) := s_bin op_mulA l_mul ha hb

/-! ### is None -/
def D.isNon : D → Bool
  | .non => true
  | _ => false
theorem rep_non {g : Wd} {F : Hp} {v : V} {d : D} (h : Rep g F v d) : decide (v = .non) = d.isNon := by
  cases h <;> first | rfl | exact decide_eq_false (fun z => nomatch z)
def lIsN (p q : R) : Option R := match p.pl, q.pl with
  | some x, some .non => some (.d (.bl x.isNon))
  | _, _ => none
def lNotN (p q : R) : Option R := match p.pl, q.pl with
  | some x, some .non => some (.d (.bl (!x.isNon)))
  | _, _ => none
theorem s_isN (ha : SE X W a ma) (hb : SE X W b mb) : SE X W (.Compare a [.Is] [b] pos) (m2 lIsN ma mb) := s_cmp op_isN (by
  intro F H S x y p q f1 f2 Q rx ry l
  obtain ⟨rr, e⟩ := l.has
  have e0 := e
  unfold lIsN at e
  split at e
  · next i e1 e2 =>
    cases e
    refine ⟨ry.non e2, ?_⟩
    rw [rep_non (rx.whole l.sub e1)]
    exact l.val e0 (.bl _)
  · cases e) ha hb (nomark _)
theorem s_notN (ha : SE X W a ma) (hb : SE X W b mb) : SE X W (.Compare a [.IsNot] [b] pos) (m2 lNotN ma mb) := s_cmp op_notN (by
  intro F H S x y p q f1 f2 Q rx ry l
  obtain ⟨rr, e⟩ := l.has
  have e0 := e
  unfold lNotN at e
  split at e
  · next i e1 e2 =>
    cases e
    refine ⟨ry.non e2, ?_⟩
    rw [rep_non (rx.whole l.sub e1)]
    exact l.val e0 (.bl _)
  · cases e) ha hb (nomark _)

/-! ### data as the library's -/
mutual
def D.py : D → PyData
  | .non => .none
  | .bl b => .bool b
  | .int i => .int i
  | .str s => .str ⟨s.toArray⟩
  | .tup xs => .tuple (pys xs)
  | .lst xs => .list (pys xs)
  | .obj _ _ _ => .dict []
def pys : List D → List PyData
  | [] => []
  | x :: xs => x.py :: pys xs
end
mutual
def D.nob : D → Bool
  | .tup xs => nobs xs
  | .lst xs => nobs xs
  | .obj _ _ _ => false
  | _ => true
def nobs : List D → Bool
  | [] => true
  | x :: xs => x.nob && nobs xs
end
mutual
theorem Rep.dp {g : Wd} {H : Hp} : ∀ {v : V} {d : D}, Rep g H v d → d.nob = true → Dp g.K H v d.py
  | _, _, .non, _ => .non
  | _, _, .bl b, _ => .bl b
  | _, _, .int i, _ => .int i
  | _, _, .str h, _ => .str _
  | _, _, .tup h hl r, n => .tup h (Reps.dp r n)
  | _, _, .lst h hl r, n => .lst h (Reps.dp r n)
  | _, _, .obj hc h hd hn r, n => nomatch n
theorem Reps.dp {g : Wd} {H : Hp} : ∀ {vs : List V} {ds : List D}, Reps g H vs ds → nobs ds = true → DpAll g.K H vs (pys ds)
  | _, _, .nil, _ => .nil
  | _, _, .cons h t, n => by
    have n := Bool.and_eq_true_iff.mp (show (_ && _) = true from n)
    exact .cons (Rep.dp h n.1) (Reps.dp t n.2)
end
theorem pys_map (ds : List D) : pys ds = ds.map D.py := by
  induction ds with
  | nil => rfl
  | cons d ds ih => show d.py :: pys ds = _; rw [ih]; rfl
/-- of a shape that == can be asked of -/
def D.shp (d : D) : Bool := d.nob && SeqAt.shaped d.py
/-- Python's == -/
def D.eqv (x y : D) : Bool := PyData.eqv x.py y.py
@[simp] theorem eqv_int (i j : Int) : D.eqv (.int i) (.int j) = (i == j) := rfl
@[simp] theorem eqv_bl (i j : Bool) : D.eqv (.bl i) (.bl j) = (i == j) := rfl
@[simp] theorem shp_int (i : Int) : D.shp (.int i) = true := rfl
@[simp] theorem shp_bl (i : Bool) : D.shp (.bl i) = true := rfl
@[simp] theorem shp_non : D.shp .non = true := rfl
def lEq (p q : R) : Option R := match p.pl, q.pl with
  | some (.int i), some (.int j) => some (.d (.bl (decide (i = j))))
  | some (.bl i), some (.bl j) => some (.d (.bl (decide (i = j))))
  | some (.str i), some (.str j) => some (.d (.bl (decide (i = j))))
  | some x, some y => if x.shp = true ∧ y.shp = true then some (.d (.bl (D.eqv x y))) else none
  | _, _ => none
def lNe (p q : R) : Option R := match p.pl, q.pl with
  | some (.int i), some (.int j) => some (.d (.bl (!decide (i = j))))
  | some (.bl i), some (.bl j) => some (.d (.bl (!decide (i = j))))
  | some (.str i), some (.str j) => some (.d (.bl (!decide (i = j))))
  | some x, some y => if x.shp = true ∧ y.shp = true then some (.d (.bl (!D.eqv x y))) else none
  | _, _ => none
theorem shp_dp {g : Wd} {H : Hp} {v : V} {d : D} (h : Rep g H v d) (s : d.shp = true) : Dp g.K H v d.py ∧ SeqAt.shaped d.py = true := by
  have s := Bool.and_eq_true_iff.mp s
  exact ⟨h.dp s.1, s.2⟩
theorem l_eq : LOk2 (gOf X) lEq (fun x y H Q => rEq x y H Q ∨ rEqD X.K x y H Q) := by
  intro F H S x y p q f1 f2 Q rx ry l
  obtain ⟨rr, e⟩ := l.has
  have e0 := e
  unfold lEq at e
  split at e
  · next i j e1 e2 =>
    cases e
    rw [rx.int e1, ry.int e2]
    refine .inl ⟨rfl, ?_⟩
    rw [show decide (V.int i = V.int j) = decide (i = j) from decide_eq_decide.mpr ⟨fun h => V.int.inj h, fun h => by rw [h]⟩]
    exact l.val e0 (.bl _)
  · next i j e1 e2 =>
    cases e
    rw [rx.bl e1, ry.bl e2]
    refine .inl ⟨rfl, ?_⟩
    rw [show decide (V.bl i = V.bl j) = decide (i = j) from decide_eq_decide.mpr ⟨fun h => V.bl.inj h, fun h => by rw [h]⟩]
    exact l.val e0 (.bl _)
  · next i j e1 e2 =>
    cases e
    rw [(rx.str e1).1, (ry.str e2).1]
    refine .inl ⟨rfl, ?_⟩
    rw [show decide (V.str ⟨i.toArray⟩ = V.str ⟨j.toArray⟩) = decide (i = j) from decide_eq_decide.mpr ⟨fun h => by simpa using h, fun h => by rw [h]⟩]
    exact l.val e0 (.bl _)
  · next x' y' _ _ _ e1 e2 =>
    split at e
    · next hs =>
      cases e
      obtain ⟨d1, s1⟩ := shp_dp (rx.whole l.sub e1) hs.1
      obtain ⟨d2, s2⟩ := shp_dp (ry.whole l.sub e2) hs.2
      exact .inr ⟨_, _, d1, d2, s1, s2, l.val e0 (.bl _)⟩
    · cases e
  · cases e
theorem l_ne : LOk2 (gOf X) lNe (fun x y H Q => rNe x y H Q ∨ rNeD X.K x y H Q) := by
  intro F H S x y p q f1 f2 Q rx ry l
  obtain ⟨rr, e⟩ := l.has
  have e0 := e
  unfold lNe at e
  split at e
  · next i j e1 e2 =>
    cases e
    rw [rx.int e1, ry.int e2]
    refine .inl ⟨rfl, ?_⟩
    rw [show decide (V.int i = V.int j) = decide (i = j) from decide_eq_decide.mpr ⟨fun h => V.int.inj h, fun h => by rw [h]⟩]
    exact l.val e0 (.bl _)
  · next i j e1 e2 =>
    cases e
    rw [rx.bl e1, ry.bl e2]
    refine .inl ⟨rfl, ?_⟩
    rw [show decide (V.bl i = V.bl j) = decide (i = j) from decide_eq_decide.mpr ⟨fun h => V.bl.inj h, fun h => by rw [h]⟩]
    exact l.val e0 (.bl _)
  · next i j e1 e2 =>
    cases e
    rw [(rx.str e1).1, (ry.str e2).1]
    refine .inl ⟨rfl, ?_⟩
    rw [show decide (V.str ⟨i.toArray⟩ = V.str ⟨j.toArray⟩) = decide (i = j) from decide_eq_decide.mpr ⟨fun h => by simpa using h, fun h => by rw [h]⟩]
    exact l.val e0 (.bl _)
  · next x' y' _ _ _ e1 e2 =>
    split at e
    · next hs =>
      cases e
      obtain ⟨d1, s1⟩ := shp_dp (rx.whole l.sub e1) hs.1
      obtain ⟨d2, s2⟩ := shp_dp (ry.whole l.sub e2) hs.2
      exact .inr ⟨_, _, d1, d2, s1, s2, l.val e0 (.bl _)⟩
    · cases e
  · cases e
theorem s_eq (hu : X.A.units + 64 < cLine) (ha : SE X W a ma) (hb : SE X W b mb) : SE X W (.Compare a [.Eq] [b] pos) (m2 lEq ma mb) := s_cmp (op_eq.or (op_eqD hu)) l_eq ha hb (nomark _)
theorem s_ne (hu : X.A.units + 64 < cLine) (ha : SE X W a ma) (hb : SE X W b mb) : SE X W (.Compare a [.NotEq] [b] pos) (m2 lNe ma mb) := s_cmp (op_ne.or (op_neD hu)) l_ne ha hb (nomark _)

/-! ### in -/
def D.flat : D → Bool
  | .non | .bl _ | .int _ | .str _ => true
  | _ => false
def flats (ds : List D) : Bool := ds.all D.flat
theorem rep_flat {g : Wd} {F : Hp} {v : V} {d : D} (h : Rep g F v d) (e : d.flat = true) : L2.flatV v = true := by
  cases h <;> first | rfl | cases e
theorem reps_flat {g : Wd} {F : Hp} {vs : List V} {ds : List D} (h : Reps g F vs ds) (e : flats ds = true) : vs.all L2.flatV = true := by
  induction ds generalizing vs with
  | nil => cases h; rfl
  | cons d ds ih =>
    cases h with
    | cons h t =>
      have e := Bool.and_eq_true_iff.mp (show (d.flat && flats ds) = true from e)
      rw [List.all_cons, rep_flat h e.1, ih t e.2]; rfl
theorem eqV_eqv {g : Wd} {F F' : Hp} {v w : V} {d e : D} (h : Rep g F v d) (k : Rep g F' w e) (fd : d.flat = true) (fe : e.flat = true) : L2.eqV v w = D.eqv d e := by
  cases h <;> first | (cases fd; done) | skip
  all_goals (cases k <;> first | (cases fe; done) | rfl)
theorem inV_any {g : Wd} {F F' : Hp} {v : V} {d : D} (h : Rep g F v d) (fd : d.flat = true) : ∀ {vs : List V} {ds : List D}, Reps g F' vs ds → flats ds = true → L2.inV v vs = ds.any fun z => D.eqv z d
  | _, _, .nil, _ => rfl
  | _, _, .cons (d := d') (ds := ds') k t, e => by
    have e := Bool.and_eq_true_iff.mp (show (d'.flat && flats ds') = true from e)
    show (L2.eqV _ v || L2.inV v _) = (D.eqv _ _ || _)
    rw [eqV_eqv k h e.1 fd, inV_any h fd t e.2]
/-- x in c: a sign in a text, a flat thing in a list or tuple of flat things, data in a list -/
def isIn (p q : R) : Option Bool := match p.pl, q.pl with
  | some (.str [n]), some (.str s) => some (decide (n ∈ s))
  | some x, some (.tup ds) => if x.flat = true ∧ flats ds = true then some (ds.any fun z => D.eqv z x) else none
  | some x, some (.lst ds) => if x.flat = true ∧ flats ds = true then some (ds.any fun z => D.eqv z x) else if x.shp = true ∧ (D.lst ds).shp = true then some (ds.any fun z => D.eqv z x) else none
  | _, _ => none
def lIn (p q : R) : Option R := (isIn p q).map fun b => .d (.bl b)
def lNotIn (p q : R) : Option R := (isIn p q).map fun b => .d (.bl (!b))
def rInA (K : PySem.W.Frag) (neg : Bool) : R2 := fun x y H Q => (∃ (c : Nat) (z : Str), x = .str ⟨#[c]⟩ ∧ y = .str z ∧ Q (.bl (if neg then !decide (c ∈ z.cps.toList) else decide (c ∈ z.cps.toList))) H) ∨ (rIn K neg x y H Q ∨
  ∃ d ds, Dp K H x d ∧ Dp K H y (.list ds) ∧ SeqAt.shaped d = true ∧ SeqAt.shaped (.list ds) = true ∧ Q (.bl (if neg then !ds.any fun z => PyData.eqv z d else ds.any fun z => PyData.eqv z d)) H)
theorem l_inA (neg : Bool) : LOk2 (gOf X) (fun p q => (isIn p q).map fun b => .d (.bl (if neg then !b else b))) (rInA X.K neg) := by
  intro F H S x y p q f1 f2 Q rx ry l
  obtain ⟨rr, e⟩ := l.has
  dsimp only at e l
  cases e1 : isIn p q with
  | none => rw [e1] at e; cases e
  | some b =>
    rw [e1] at l
    have fin : Q (.bl (if neg then !b else b)) H := l.val rfl (.bl _)
    unfold isIn at e1
    split at e1
    · next n s h1 h2 =>
      cases e1
      exact .inl ⟨n, _, (rx.str h1).1, (ry.str h2).1, fin⟩
    · next x' ds h1 h2 =>
      split at e1
      · next hc =>
        cases e1
        obtain ⟨a1, vs, rfl, k1, n1, r1⟩ := ry.tup h2
        have rxw := rx.whole l.sub h1
        refine .inr (.inl ⟨a1, vs, rfl, .inr (l.sub.sqT k1), rep_flat rxw hc.1, reps_flat r1 hc.2, ?_⟩)
        rw [inV_any rxw hc.1 r1 hc.2]
        exact fin
      · cases e1
    · next x' ds _ h1 h2 =>
      obtain ⟨a1, vs, rfl, k1, n1, r1⟩ := ry.lst l.sub h2
      have rxw := rx.whole l.sub h1
      split at e1
      · next hc =>
        cases e1
        refine .inr (.inl ⟨a1, vs, rfl, .inl k1, rep_flat rxw hc.1, reps_flat r1 hc.2, ?_⟩)
        rw [inV_any rxw hc.1 r1 hc.2]
        exact fin
      · split at e1
        · next hc =>
          cases e1
          obtain ⟨d1, s1⟩ := shp_dp rxw hc.1
          obtain ⟨d2, s2⟩ := shp_dp (ry.whole l.sub h2) hc.2
          refine .inr (.inr ⟨_, _, d1, d2, s1, s2, ?_⟩)
          rw [pys_map, List.any_map]
          exact fin
        · cases e1
    · cases e1
theorem s_in (hu : X.A.units + 65 < cLine) (ha : SE X W a ma) (hb : SE X W b mb) (hm : behindInMarks .In b = false) : SE X W (.Compare a [.In] [b] pos) (m2 lIn ma mb) :=
  s_cmp (op_in_sign.or (op_in_seq.or (op_inD hu))) (l_inA false) ha hb hm
theorem s_notin (hu : X.A.units + 65 < cLine) (ha : SE X W a ma) (hb : SE X W b mb) (hm : behindInMarks .NotIn b = false) : SE X W (.Compare a [.NotIn] [b] pos) (m2 lNotIn ma mb) :=
  s_cmp (op_notIn_sign.or (op_notIn_seq.or (op_notInD hu))) (l_inA true) ha hb hm
end
end
end Mw

set_option Elab.async false
set_option linter.all false
set_option maxRecDepth 100000
set_option autoImplicit false
namespace Mw
open PySem PySem.Spec PyProof.Rows L2
noncomputable section

section
variable {X : Cx} {W : WX} {pos : Pos} {a b c : Expr} {es : List Expr} {ma mb mc : M} {ms : List M}

/-! ### places -/
theorem ixN_lt {n : Nat} {i : Int} {j : Nat} (h : ixN n i = some j) : j < n := (ixN_seq h).2.1
theorem Reps.atI {g : Wd} {F : Hp} {vs : List V} {ds : List D} (h : Reps g F vs ds) {i : Int} {d : D} (e : L2.atI ds i = some d) : ∃ v, L2.atI vs i = some v ∧ Rep g F v d := by
  unfold L2.atI at e ⊢
  rw [h.length]
  cases q : ixN ds.length i with
  | none => rw [q] at e; cases e
  | some j => rw [q] at e; exact h.get e
theorem RepOs.get {g : Wd} {F H : Hp} : ∀ {vs : List V} {os : List O} {fp : List Addr} {i : Nat} {o : O}, RepOs g F H vs os fp → os[i]? = some o → ∃ v f, vs[i]? = some v ∧ RepO g F H v o f
  | _, _, _, _, _, .nil, h => by simp at h
  | _, _, _, 0, _, .cons h t, e => by simp at e; subst e; exact ⟨_, _, rfl, h⟩
  | _, _, _, i + 1, _, .cons h t, e => by simpa using RepOs.get (i := i) t (by simpa using e)
theorem RepOs.atI {g : Wd} {F H : Hp} {vs : List V} {os : List O} {fp : List Addr} (h : RepOs g F H vs os fp) {i : Int} {o : O} (e : L2.atI os i = some o) : ∃ v f, L2.atI vs i = some v ∧ RepO g F H v o f := by
  unfold L2.atI at e ⊢
  rw [h.length]
  cases q : ixN os.length i with
  | none => rw [q] at e; cases e
  | some j => rw [q] at e; exact h.get e
@[simp] theorem atI_map {α β : Type} (f : α → β) (xs : List α) (i : Int) : L2.atI (xs.map f) i = (L2.atI xs i).map f := by
  unfold L2.atI
  rw [List.length_map]
  cases ixN xs.length i with
  | none => rfl
  | some j => simp
def O.r : O → R
  | .d x => .d x
  | o => .pk o
@[simp] theorem O.r_d (x : D) : (O.d x).r = .d x := rfl
def lIx (p q : R) : Option R := match q.pl with
  | some (.int i) => match p with
    | .d (.lst ds) => (L2.atI ds i).map R.d
    | .d (.tup ds) => (L2.atI ds i).map R.d
    | .d (.str s) => (L2.atI s i).map fun c => .d (.str [c])
    | .own (.lst os) => (L2.atI os i).map O.r
    | .pk (.lst os) => (L2.atI os i).map O.r
    | _ => none
  | _ => none
theorem LF.pk {g : Wd} {leaf : Option R} {F H : Hp} {S : Addr → Prop} {fr : List Addr} {Q : VK} (l : LF g leaf F H S fr Q) {o : O} (e : leaf = some o.r) {v : V} {f : List Addr} (h : RepO g F H v o f) : Q v H := by
  obtain ⟨rr, e', k⟩ := l.go
  rw [e] at e'; cases e'
  refine k v F H [] (.refl l.sub) ?_ List.nodup_nil
  cases o with
  | d x => cases h; exact ⟨by assumption, rfl⟩
  | lst _ => exact ⟨rfl, f, h⟩
  | dct _ _ => exact ⟨rfl, f, h⟩
  | obj _ _ _ => exact ⟨rfl, f, h⟩
theorem l_ix : LOk2 (gOf X) lIx (rIx X.K) := by
  intro F H S x y p q f1 f2 Q rx ry l
  obtain ⟨rr, e⟩ := l.has
  have e0 := e
  unfold lIx at e
  split at e
  · next i e2 =>
    have hy := ry.int e2
    have own : ∀ {o : O} {os : List O} {fp}, RepO (gOf X) F H x o fp → o = .lst os → (L2.atI os i).map O.r = some rr → rIx X.K x y H Q := by
      intro o os fp hr eo e
      subst eo
      cases q' : L2.atI os i with
      | none => rw [q'] at e; cases e
      | some o =>
        rw [q'] at e; cases e
        cases hr with
        | lst h hl r =>
          obtain ⟨v, f, h1, h2⟩ := r.atI q'
          exact .inl ⟨_, _, i, v, rfl, hy, .inl (.inl h), h1, l.pk e0 h2⟩
    split at e
    · next ds =>
      obtain ⟨a1, vs, rfl, k1, n1, r1⟩ := rx.lst l.sub (ds := ds) rfl
      cases q' : L2.atI ds i with
      | none => rw [q'] at e; cases e
      | some d =>
        rw [q'] at e; cases e
        obtain ⟨v, h1, h2⟩ := r1.atI q'
        exact .inl ⟨a1, vs, i, v, rfl, hy, k1, h1, l.val e0 h2⟩
    · next ds =>
      obtain ⟨a1, vs, rfl, k1, n1, r1⟩ := rx.tup (ds := ds) rfl
      cases q' : L2.atI ds i with
      | none => rw [q'] at e; cases e
      | some d =>
        rw [q'] at e; cases e
        obtain ⟨v, h1, h2⟩ := r1.atI q'
        exact .inr (.inl ⟨a1, vs, i, v, rfl, hy, l.sub.sqT k1, h1, l.val e0 h2⟩)
    · next s =>
      obtain ⟨rfl, h1⟩ := rx.str (s := s) rfl
      cases q' : L2.atI s i with
      | none => rw [q'] at e; cases e
      | some d =>
        rw [q'] at e; cases e
        refine .inr (.inr ⟨_, i, d, rfl, hy, by rw [str_len]; exact h1, q', l.val e0 ?_⟩)
        exact .str (s := [d]) (by rw [sizeLine_eq]; show 1 ≤ 16777216; decide)
    · next os => exact own rx.1 rfl e
    · next os =>
      obtain ⟨_, fp, hr⟩ := rx
      exact own hr rfl e
    · cases e
  · cases e
theorem s_at (ha : SE X W a ma) (hb : SE X W b mb) (hs : PlainIx b := by exact fun _ _ => rfl) : SE X W (.Subscript a b pos) (m2 lIx ma mb) := s_ix ix_seq l_ix ha hb hs

/-! ### slices -/
def cutA {α : Type} (xs : List α) (lo hi : Option Int) : List α := (xs.drop (HT.sIx xs.length 0 lo)).take (HT.sIx xs.length xs.length hi - HT.sIx xs.length 0 lo)
theorem cutA_len {α : Type} (xs : List α) (lo hi : Option Int) : (cutA xs lo hi).length ≤ xs.length := by
  unfold cutA; rw [List.length_take, List.length_drop]; omega
theorem Reps.cut {g : Wd} {F : Hp} {vs : List V} {ds : List D} (h : Reps g F vs ds) (lo hi : Option Int) : Reps g F (cutV vs lo hi) (cutA ds lo hi) := by
  unfold cutV cutA
  rw [h.length]
  exact (h.drop _).take _
def lSl (p : R) (lo hi : Option Int) : Option R := match p.pl with
  | some (.str s) => some (.d (.str (cutA s lo hi)))
  | some (.tup ds) => some (.d (.tup (cutA ds lo hi)))
  | some (.lst ds) => some (.own (.lst ((cutA ds lo hi).map O.d)))
  | _ => none
def rSlAll (K : PySem.W.Frag) : V → Option Int → Option Int → Hp → VK → Prop := fun x lo hi H Q => rSlS x lo hi H Q ∨ (rSlA K x lo hi H Q ∨ rSlL K x lo hi H Q)
theorem l_sl {lo hi : Option Int} {F H : Hp} {S : Addr → Prop} {x : V} {p : R} {fr : List Addr} {Q : VK} (rx : RepR (gOf X) F H S x p fr) {fr' : List Addr} (l : LF (gOf X) (lSl p lo hi) F H S fr' Q) : rSlAll X.K x lo hi H Q := by
  obtain ⟨rr, e⟩ := l.has
  have e0 := e
  unfold lSl at e
  split at e
  · next s h1 =>
    cases e
    obtain ⟨rfl, h2⟩ := rx.str h1
    have hh : (cutS ⟨s.toArray⟩ lo hi) = ⟨(cutA s lo hi).toArray⟩ := by
      unfold cutS cutA
      rw [str_len]
    refine .inl ⟨_, rfl, by rw [str_len]; exact h2, ?_⟩
    rw [hh]
    exact l.val e0 (.str (Nat.le_trans (cutA_len _ _ _) h2))
  · next ds h1 =>
    cases e
    obtain ⟨a1, vs, rfl, k1, n1, r1⟩ := rx.tup h1
    refine .inr (.inl ⟨a1, vs, rfl, l.sub.sqT k1, fun z => ?_, fun _ p hp => l.tup e0 (r1.cut lo hi) (Nat.le_trans (cutV_length _ _ _) n1) hp⟩)
    have : cutA ds lo hi = ds := by
      unfold cutA
      rw [← r1.length, z.1, z.2]
      simp [r1.length]
    rw [this] at e0
    exact l.val e0 (.tup k1 n1 r1)
  · next ds h1 =>
    cases e
    obtain ⟨a1, vs, rfl, k1, n1, r1⟩ := rx.lst l.sub h1
    exact .inr (.inr ⟨a1, vs, rfl, k1, fun p hp => l.lst e0 (r1.cut lo hi) (Nat.le_trans (cutV_length _ _ _) n1) hp⟩)
  · cases e
theorem sl_all : SlR X (rSlAll X.K) := sl_str.or (sl_tupA.or sl_list)
/-- an expression whose value is an int -/
def mInt (m : M) : M := fun ρ => (m ρ).bind fun r ρ' q => match r with
  | .d (.int i) => .ok (.d (.int i)) ρ' q
  | _ => .no
theorem tM_int {g : Wd} {m : M} {σ : L2.St} {H : Hp} {Q : VK} (h : tM g W (mInt m) σ H Q) : tM g W m σ H fun x H1 => ∃ i, x = .int i ∧ Q (.int i) H1 := by
  refine tR.bind h fun F ρ fp st r ρ1 q1 e1 v F1 H1 fp1 fr1 s1 st1 r1 n1 z1 ob => ?_
  cases r with
  | d x =>
    cases x with
    | int i =>
      refine ⟨i, r1.int rfl, ?_⟩
      have := ob.2.1 (.d (.int i)) ρ1 q1 rfl (.int i) F1 H1 fp1 fr1 (.refl _ _ _) st1 ⟨.int i, r1.2⟩ n1 z1
      exact this
    | _ => exact absurd rfl ob.1
  | _ => exact absurd rfl ob.1
def mSl (ma : M) : Option M → Option M → M
  | none, none => mOps [ma] fun rs => match rs with | [p] => lSl p none none | _ => none
  | some ml, none => mOps [ma, mInt ml] fun rs => match rs with | [p, .d (.int i)] => lSl p (some i) none | _ => none
  | none, some mh => mOps [ma, mInt mh] fun rs => match rs with | [p, .d (.int i)] => lSl p none (some i) | _ => none
  | some ml, some mh => mOps [ma, mInt ml, mInt mh] fun rs => match rs with | [p, .d (.int i), .d (.int j)] => lSl p (some i) (some j) | _ => none
variable {p2 : Pos}
theorem s_sl00 (ha : SE X W a ma) : SE X W (.Subscript a (.Slice none none none p2) pos) (mSl ma none none) := PE.wk (pe_slice sl_all ha po_none po_none) fun σ H Q h =>
  (tA_cons (tM_ops h)).imp fun x H1 q => by
    obtain ⟨F, S, rs, fr, rr, sub, hS, rp, nd, e, k⟩ := tA_nil q
    dsimp only at e
    split at e
    · next p =>
      obtain ⟨v, ev, h1⟩ := rp.one
      cases ev
      exact l_sl h1 (fr' := fr) ⟨sub, hS, nd, rr, e, k⟩
    · cases e
theorem s_sl10 (ha : SE X W a ma) (hb : SE X W b mb) : SE X W (.Subscript a (.Slice (some b) none none p2) pos) (mSl ma (some mb) none) := PE.wk (pe_slice sl_all ha (po_some hb) po_none) fun σ H Q h =>
  (tA_cons (tM_ops h)).imp fun x H1 q => (tM_int (tA_cons q)).imp fun y H2 ⟨i, e1, q⟩ => ⟨i, e1, by
    obtain ⟨F, S, rs, fr, rr, sub, hS, rp, nd, e, k⟩ := tA_nil q
    dsimp only at e
    split at e
    · next p j =>
      obtain ⟨v, w, f1, f2, ev, rfl, h1, h2⟩ := rp.two
      cases ev
      cases h2.int rfl
      exact l_sl h1 (fr' := f1 ++ f2) ⟨sub, hS, nd, rr, e, k⟩
    · cases e⟩
theorem s_sl01 (ha : SE X W a ma) (hb : SE X W b mb) : SE X W (.Subscript a (.Slice none (some b) none p2) pos) (mSl ma none (some mb)) := PE.wk (pe_slice sl_all ha po_none (po_some hb)) fun σ H Q h =>
  (tA_cons (tM_ops h)).imp fun x H1 q => (tM_int (tA_cons q)).imp fun y H2 ⟨i, e1, q⟩ => ⟨i, e1, by
    obtain ⟨F, S, rs, fr, rr, sub, hS, rp, nd, e, k⟩ := tA_nil q
    dsimp only at e
    split at e
    · next p j =>
      obtain ⟨v, w, f1, f2, ev, rfl, h1, h2⟩ := rp.two
      cases ev
      cases h2.int rfl
      exact l_sl h1 (fr' := f1 ++ f2) ⟨sub, hS, nd, rr, e, k⟩
    · cases e⟩
theorem RepRs.three {g : Wd} {F H : Hp} {S : Addr → Prop} {vs : List V} {r q t : R} {fr : List Addr} (h : RepRs g F H S vs [r, q, t] fr) : ∃ v w u f1 f2 f3, vs = [v, w, u] ∧ fr = f1 ++ (f2 ++ f3) ∧ RepR g F H S v r f1 ∧ RepR g F H S w q f2 ∧ RepR g F H S u t f3 := by
  cases h with
  | cons h t =>
    obtain ⟨w, u, f2, f3, rfl, rfl, h2, h3⟩ := t.two
    exact ⟨_, _, _, _, _, _, rfl, rfl, h, h2, h3⟩
theorem s_sl11 (ha : SE X W a ma) (hb : SE X W b mb) (hc : SE X W c mc) : SE X W (.Subscript a (.Slice (some b) (some c) none p2) pos) (mSl ma (some mb) (some mc)) := PE.wk (pe_slice sl_all ha (po_some hb) (po_some hc)) fun σ H Q h =>
  (tA_cons (tM_ops h)).imp fun x H1 q => (tM_int (tA_cons q)).imp fun y H2 ⟨i, e1, q⟩ => ⟨i, e1, (tM_int (tA_cons q)).imp fun z H3 ⟨j, e2, q⟩ => ⟨j, e2, by
    obtain ⟨F, S, rs, fr, rr, sub, hS, rp, nd, e, k⟩ := tA_nil q
    dsimp only at e
    split at e
    · next p j =>
      obtain ⟨v, w, u, f1, f2, f3, ev, rfl, h1, h2, h3⟩ := rp.three
      cases ev
      cases h2.int rfl
      cases h3.int rfl
      exact l_sl h1 (fr' := f1 ++ (f2 ++ f3)) ⟨sub, hS, nd, rr, e, k⟩
    · cases e⟩⟩

/-! ### calls of built-in functions -/
variable {x : Str} {p : Pos}
theorem s_blt1 {id : String} {f : R → Option R} {r : List V → Hp → VK → Prop} (ho : CallR X (.builtin id) r) (hl : LOk1 (gOf X) f (fun v H Q => r [v] H Q)) (hg : Gl X x) (hm : X.mg x = none) (hv : bootBuiltins x = some (.builtin id)) (ha : SE X W a ma)
    (he : starEach [a] X.env = (false, eval a X.env) :: starEach [] X.env := by rfl) (hn : x ≠ "__name__" := by decide) (hdb : (x == ("__debug__" : Str)) = false := by decide) : SE X W (.Call (.Name x p) [a] [] pos) (m1 f ma) :=
  PE.wk (pe_callB ho hg hm hv (pa_cons ha pa_nil he) hn hdb he rfl) fun σ H Q h => tM_m1 hl h
theorem s_ty1 {T : String} {f : R → Option R} {r : List V → Hp → VK → Prop} (ho : CallR X (.type T) r) (hl : LOk1 (gOf X) f (fun v H Q => r [v] H Q)) (hg : Gl X x) (hm : X.mg x = none) (hv : bootBuiltins x = some (.type T)) (ha : SE X W a ma)
    (he : starEach [a] X.env = (false, eval a X.env) :: starEach [] X.env := by rfl) (hn : x ≠ "__name__" := by decide) (hdb : (x == ("__debug__" : Str)) = false := by decide) : SE X W (.Call (.Name x p) [a] [] pos) (m1 f ma) :=
  PE.wk (pe_callTy ho hg hm hv (pa_cons ha pa_nil he) hn hdb he rfl) fun σ H Q h => tM_m1 hl h
theorem s_blt2 {id : String} {f : R → R → Option R} {r : List V → Hp → VK → Prop} (ho : CallR X (.builtin id) r) (hl : LOk2 (gOf X) f (fun v w H Q => r [v, w] H Q)) (hg : Gl X x) (hm : X.mg x = none) (hv : bootBuiltins x = some (.builtin id)) (ha : SE X W a ma) (hb : SE X W b mb)
    (he : starEach [a, b] X.env = (false, eval a X.env) :: starEach [b] X.env := by rfl) (hpl : (backTo pos (starEach [b] X.env)).any (·.1) = false := by rfl) (hs : starEach [b] X.env = (false, eval b X.env) :: starEach [] X.env := by rfl)
    (hn : x ≠ "__name__" := by decide) (hdb : (x == ("__debug__" : Str)) = false := by decide) : SE X W (.Call (.Name x p) [a, b] [] pos) (m2 f ma mb) :=
  PE.wk (pe_callB ho hg hm hv (pa_cons ha (pa_cons hb pa_nil hs) he) hn hdb he hpl) fun σ H Q h => tM_m2 hl h
def lLen (p : R) : Option R := match p with
  | .d (.str s) => some (.d (.int s.length))
  | .d (.lst ds) => some (.d (.int ds.length))
  | .d (.tup ds) => some (.d (.int ds.length))
  | .own (.lst os) => some (.d (.int os.length))
  | .pk (.lst os) => some (.d (.int os.length))
  | _ => none
theorem l_len : LOk1 (gOf X) lLen (fun v H Q => (fun xs H Q => ∃ x n, xs = [x] ∧ LenV X.K x H n ∧ Q (.int n) H) [v] H Q) := by
  intro F H S x p fr Q rx l
  obtain ⟨rr, e⟩ := l.has
  have e0 := e
  have own : ∀ {o : O} {os : List O} {fp}, RepO (gOf X) F H x o fp → o = .lst os → LenV X.K x H os.length := by
    intro o os fp hr eo
    subst eo
    cases hr with
    | lst h hl r => exact .inl ⟨_, .inl (.inl h), r.length.symm⟩
  unfold lLen at e
  split at e
  · next s =>
    cases e
    obtain ⟨rfl, h1⟩ := rx.str (s := s) rfl
    exact ⟨_, s.length, rfl, ⟨by rw [str_len]; exact h1, str_len.symm⟩, l.val e0 (.int _)⟩
  · next ds =>
    cases e
    obtain ⟨a1, vs, rfl, k1, n1, r1⟩ := rx.lst l.sub (ds := ds) rfl
    exact ⟨_, ds.length, rfl, .inl ⟨vs, k1, r1.length.symm⟩, l.val e0 (.int _)⟩
  · next ds =>
    cases e
    obtain ⟨a1, vs, rfl, k1, n1, r1⟩ := rx.tup (ds := ds) rfl
    exact ⟨_, ds.length, rfl, .inr ⟨vs, l.sub.sqT k1, r1.length.symm⟩, l.val e0 (.int _)⟩
  · next os => cases e; exact ⟨_, os.length, rfl, own rx.1 rfl, l.val e0 (.int _)⟩
  · next os =>
    cases e
    obtain ⟨_, fp, hr⟩ := rx
    exact ⟨_, os.length, rfl, own hr rfl, l.val e0 (.int _)⟩
  · cases e
theorem s_len (hg : Gl X "len") (hm : X.mg "len" = none) (ha : SE X W a ma) (he : starEach [a] X.env = (false, eval a X.env) :: starEach [] X.env := by rfl) : SE X W (.Call (.Name "len" p) [a] [] pos) (m1 lLen ma) := s_blt1 call_len l_len hg hm PySem.boot_len ha he
def lInt1 (p : R) : Option R := match p.pl with
  | some (.int i) => some (.d (.int i))
  | some (.bl k) => some (.d (.int (if k then 1 else 0)))
  | _ => none
theorem s_int1 (hg : Gl X "int") (hm : X.mg "int" = none) (ha : SE X W a ma) (he : starEach [a] X.env = (false, eval a X.env) :: starEach [] X.env := by rfl) : SE X W (.Call (.Name "int" p) [a] [] pos) (m1 lInt1 ma) := s_ty1 call_int1 (by
  intro F H S x p fr Q rx l
  obtain ⟨rr, e⟩ := l.has
  have e0 := e
  unfold lInt1 at e
  split at e
  · next i h1 => cases e; rw [rx.int h1]; exact .inl ⟨i, rfl, l.val e0 (.int _)⟩
  · next i h1 => cases e; rw [rx.bl h1]; exact .inr ⟨i, rfl, l.val e0 (.int _)⟩
  · cases e) hg hm (by decide +kernel) ha he
abbrev lMax2 := lI fun i j => some (.int (if j > i then j else i))
abbrev lMin2 := lI fun i j => some (.int (if j < i then j else i))
theorem l_I00 {f : Int → Int → Option D} {h : Int → Int → V} (k : ∀ i j d, f i j = some d → ∀ F, Rep (gOf X) F (h i j) d) : LOk2 (gOf X) (lI f) (fun v w H Q => (fun xs H Q => ∃ i j, xs = [.int i, .int j] ∧ Q (h i j) H) [v, w] H Q) := by
  intro F H S x y p q f1 f2 Q rx ry l
  obtain ⟨rr, e⟩ := l.has
  obtain ⟨i, j, d, e1, e2, e3, rfl⟩ := lI_some e
  rw [rx.int e1, ry.int e2]
  exact ⟨i, j, rfl, l.val e (k i j d e3 F)⟩
theorem s_max2 (hc : X.calm = true) (hg : Gl X "max") (hm : X.mg "max" = none) (ha : SE X W a ma) (hb : SE X W b mb) (he : starEach [a, b] X.env = (false, eval a X.env) :: starEach [b] X.env := by rfl) (hpl : (backTo pos (starEach [b] X.env)).any (·.1) = false := by rfl) (hs : starEach [b] X.env = (false, eval b X.env) :: starEach [] X.env := by rfl) : SE X W (.Call (.Name "max" p) [a, b] [] pos) (m2 lMax2 ma mb) :=
  s_blt2 (call_max2 hc) (l_I00 fun i j d e F => by cases e; exact .int _) hg hm (by decide +kernel) ha hb he hpl hs
theorem s_min2 (hc : X.calm = true) (hg : Gl X "min") (hm : X.mg "min" = none) (ha : SE X W a ma) (hb : SE X W b mb) (he : starEach [a, b] X.env = (false, eval a X.env) :: starEach [b] X.env := by rfl) (hpl : (backTo pos (starEach [b] X.env)).any (·.1) = false := by rfl) (hs : starEach [b] X.env = (false, eval b X.env) :: starEach [] X.env := by rfl) : SE X W (.Call (.Name "min" p) [a, b] [] pos) (m2 lMin2 ma mb) :=
  s_blt2 (call_min2 hc) (l_I00 fun i j d e F => by cases e; exact .int _) hg hm (by decide +kernel) ha hb he hpl hs
/-- isinstance(e, T) -/
def D.kind : D → Option String
  | .non => some "NoneType" | .bl _ => some "bool" | .int _ => some "int" | .str _ => some "str" | .tup _ => some "tuple" | .lst _ => some "list" | .obj _ _ _ => none
def isK (T : String) (k : String) : Bool := k == T || (T == "int" && k == "bool")
def lIsi (T : String) (p : R) : Option R := match p.pl with
  | some x => x.kind.map fun k => .d (.bl (isK T k))
  | none => none
theorem rep_ty {K : PySem.W.Frag} {mg : Str → Option Value} {H : Hp} {v : V} {d : D} (h : Rep ⟨K, mg⟩ H v d) {k : String} (e : d.kind = some k) : TyX K H v (.type k) := by
  have tup : ∀ {a : Addr} {vs : List V}, SqT K H a vs → TyX K H (.ref a) (.type "tuple") := by
    intro a vs q
    rcases q with (q | ⟨o, q⟩) | ⟨o, its, n, h1, h2, _⟩
    · exact .base (.tup q)
    · exact .fTuple q
    · exact .kTuple h1 h2
  have lst : ∀ {a : Addr} {vs : List V}, SqL K H a vs → TyX K H (.ref a) (.type "list") := by
    intro a vs q
    rcases q with (q | ⟨o, q⟩) | ⟨o, its, n, h1, h2, _⟩
    · exact .base (.lst q)
    · exact .base (.frz q)
    · exact .kList h1 h2
  cases h with
  | non => cases e; exact .base .non
  | bl b => cases e; exact .base (.bl b)
  | int i => cases e; exact .base (.int i)
  | str h => cases e; exact .base (.str _)
  | tup h hl r => cases e; exact tup h
  | lst h hl r => cases e; exact lst h
  | obj hc h hd hn r => cases e
theorem kit_is {K : PySem.W.Frag} {T k : String} (hT : T = "int" ∨ T = "bool" ∨ T = "str" ∨ T = "list" ∨ T = "tuple") {d : D} (e : d.kind = some k) : PySem.W.kitOne K (.type k) (.type T) = some (isK T k) := by
  have hk : k = "NoneType" ∨ k = "bool" ∨ k = "int" ∨ k = "str" ∨ k = "tuple" ∨ k = "list" := by
    cases d <;> simp [D.kind] at e <;> subst e <;> simp
  rcases hT with rfl | rfl | rfl | rfl | rfl <;> rcases hk with rfl | rfl | rfl | rfl | rfl | rfl <;> exact kit_ty (by decide +kernel)
theorem s_isi {T : String} {xT : Str} {pT : Pos} (hT : T = "int" ∨ T = "bool" ∨ T = "str" ∨ T = "list" ∨ T = "tuple") (hg : Gl X "isinstance") (hm : X.mg "isinstance" = none) (hgT : Gl X xT) (hmT : X.mg xT = none) (hvT : bootBuiltins xT = some (.type T)) (ha : SE X W a ma)
    (he : starEach [a, .Name xT pT] X.env = (false, eval a X.env) :: starEach [.Name xT pT] X.env := by rfl) (hn : xT ≠ "__name__" := by decide) (hdb : (xT == ("__debug__" : Str)) = false := by decide) :
    SE X W (.Call (.Name "isinstance" p) [a, .Name xT pT] [] pos) (m1 (lIsi T) ma) :=
  PE.wk (pe_callB call_isi hg hm (by decide +kernel) (pa_cons ha (pa_cons (pe_bltn hgT hmT hvT (v := .ty T) rfl hn hdb) pa_nil rfl) he) (by decide) (by decide) he rfl) fun σ H Q h => (tA_cons (tM_ops h)).imp fun x H1 q => by
    obtain ⟨F, S, rs, fr, rr, sub, hS, rp, nd, e, k⟩ := tA_nil q
    match rs, e, rp with
    | [p], e, rp =>
      obtain ⟨v, ev, h1⟩ := rp.one
      cases ev
      have l : LF (gOf X) (lIsi T p) F H1 S fr Q := ⟨sub, hS, nd, rr, e, k⟩
      have e : lIsi T p = some rr := e
      have e0 := e
      unfold lIsi at e
      split at e
      · next d h2 =>
        cases h3 : d.kind with
        | none => rw [h3] at e; cases e
        | some kd =>
          rw [h3] at e; cases e
          exact ⟨x, .ty T, .type kd, .type T, isK T kd, rfl, .ty T, rep_ty (h1.whole sub h2) h3, kit_is hT h3, l.val e0 (.bl _)⟩
      · cases e
end
end
end Mw

set_option Elab.async false
set_option linter.all false
set_option maxRecDepth 100000
set_option autoImplicit false
namespace Mw
open PySem PySem.Spec PyProof.Rows L2
noncomputable section

section
variable {X : Cx} {W : WX} {pos : Pos} {a b c : Expr} {es : List Expr} {ma mb mc : M} {ms : List M}
/-! ### displays -/
def mLst (ms : List M) : M := mOps ms fun rs => match sts rs with
  | some ds => if lenOk ds.length = true then some (.own (.lst (ds.map O.d))) else none
  | none => none
def mTup (ms : List M) : M := mOps ms fun rs => match sts rs with
  | some ds => if lenOk ds.length = true then some (.d (.tup ds)) else none
  | none => none
theorem s_lst (h : SA X W es ms) : SE X W (.List es pos) (mLst ms) := PE.wk (pe_lst h) fun σ H Q h => (tM_ops h).imp fun vs H1 q => by
  obtain ⟨F, S, rs, fr, rr, sub, hS, rp, nd, e, k⟩ := q
  dsimp only at e
  split at e
  · next ds e1 =>
    split at e
    · next hl =>
      have hl := lenOk_le hl
      cases e
      have r1 := rp.sts e1 (frz_ext sub) fun a ha => frz_mem ha
      have hl' : vs.length ≤ sizeLine := by rw [r1.length, sizeLine_eq]; exact hl
      refine ⟨hl', fun p hp => leaf_lst (S := S) (fr := []) (frz_sub sub) (fun a ha => ⟨(hS a ha).1, ?_⟩) (fun v F' H' fr' l => k v F' H' fr' ((lstep_frz sub).thn l)) r1 hl' hp⟩
      unfold frz
      rw [if_neg fun z => (rp.out a z).2.1 ha]
      exact (hS a ha).2
    · cases e
  · cases e
theorem s_tup {k0 : Nat} (h : SA X W es ms) : SE X W (.Tuple es k0 pos) (mTup ms) := PE.wk (pe_tup h) fun σ H Q h => (tM_ops h).imp fun vs H1 q => by
  obtain ⟨F, S, rs, fr, rr, sub, hS, rp, nd, e, k⟩ := q
  dsimp only at e
  split at e
  · next ds e1 =>
    split at e
    · next hl =>
      have hl := lenOk_le hl
      cases e
      have r1 := rp.sts e1 (frz_ext sub) fun a ha => frz_mem ha
      have hl' : vs.length ≤ sizeLine := by rw [r1.length, sizeLine_eq]; exact hl
      exact ⟨hl', fun p hp => leaf_tup (S := S) (fr := []) (frz_sub sub) (fun v F' H' fr' l => k v F' H' fr' ((lstep_frz sub).thn l)) r1 hl' hp⟩
    · cases e
  · cases e

/-! ### tests -/
def RepB : VRel Bool Bool := fun _ _ _ v b fr => v = b ∧ fr = []
abbrev tB' (g : Wd) (W : WX) (m : MB) : TT := tR g W RepB m
abbrev ST (X : Cx) (W : WX) (e : Expr) (m : MB) : Prop := PT X e (tB' (gOf X) W m)
abbrev SW (X : Cx) (W : WX) (e : Expr) (m : MB) : Prop := PW X e (tB' (gOf X) W m)
def mTest (m : M) : MB := fun ρ => (m ρ).bind fun r ρ' q => match r with
  | .d (.bl b) => .ok b ρ' q
  | _ => .no
theorem tM_test {g : Wd} {m : M} {σ : L2.St} {H : Hp} {Q : Bool → Hp → Prop} (h : tB' g W (mTest m) σ H Q) : tM g W m σ H fun x H1 => ∃ k, x = .bl k ∧ Q k H1 := by
  refine tR.bind h fun F ρ fp st r ρ1 q1 e1 v F1 H1 fp1 fr1 s1 st1 r1 n1 z1 ob => ?_
  cases r with
  | d x =>
    cases x with
    | bl i => exact ⟨i, r1.bl rfl, ob.2.1 i ρ1 q1 rfl i F1 H1 fp1 fr1 (.refl _ _ _) st1 ⟨rfl, r1.2⟩ n1 z1⟩
    | _ => exact absurd rfl ob.1
  | _ => exact absurd rfl ob.1
theorem st_val (h : SE X W a ma) (he : ∀ whole, isTrue a X.env whole = (do let v ← whole; standAt a.pos; holding [v] (truthy v)) := by intro _; rfl) : ST X W a (mTest ma) :=
  PT.wk (pt_val h he) fun σ H Q h => tM_test h
def mAnd (a b : MB) : MB := fun ρ => (a ρ).bind fun x ρ1 q1 => if x = true then (b ρ1).bind fun y ρ2 q2 => .ok y ρ2 (q1 && q2) else .ok false ρ1 q1
def mOr (a b : MB) : MB := fun ρ => (a ρ).bind fun x ρ1 q1 => if x = true then .ok true ρ1 q1 else (b ρ1).bind fun y ρ2 q2 => .ok y ρ2 (q1 && q2)
def mNot (a : MB) : MB := fun ρ => (a ρ).bind fun x ρ1 q1 => .ok (!x) ρ1 q1
/-- the second part behind a first that has given nothing to hold -/
theorem tR.after {α β : Type} {g : Wd} {RR : VRel α β} {b : Ro → Res α} {σ : L2.St} {H H1 F1 : Hp} {ρ ρ1 : Ro} {q1 : Bool} {fp1 : Nat → List Addr} {Q : β → Hp → Prop} (st1 : Stt g F1 H1 σ ρ1 fp1) (z1 : Zq H ρ q1 H1 ρ1)
    (ob : Ob g W σ F1 H1 (Own fp1) (Zq H ρ) RR ((b ρ1).bind fun y ρ2 q2 => .ok y ρ2 (q1 && q2)) Q) : tR g W RR b σ H1 Q := by
  refine ⟨F1, ρ1, fp1, st1, ?_⟩
  refine Ob.bind ob (fun r ρ2 q2 e2 v F2 H2 fp2 fr2 s2 st2 r2 n2 z2 ob2 => ?_) fun H' ρ' z => ⟨z1.1.trans z.1, fun z => nomatch z⟩
  have hm : ∀ {Z : Bool → Hp → Ro → Prop} {S : Addr → Prop}, Ob g W σ F2 H2 S Z RR (Res.ok r ρ2 (q1 && q2)) Q → Step F2 H2 S F2 H2 (Plus (Own fp2) fr2) → Z (q1 && q2) H2 ρ2 → Q v H2 := fun {Z S} ob s z => ob.2.1 r ρ2 (q1 && q2) rfl v F2 H2 fp2 fr2 s st2 r2 n2 z
  exact hm ob2 (.refl _ _ _) ⟨z1.1.trans z2.1, fun hz => by
    have hz := Bool.and_eq_true_iff.mp hz
    exact ⟨(z1.2 hz.1).1.trans (z2.2 hz.2).1, (z2.2 hz.2).2.trans (z1.2 hz.1).2⟩⟩
theorem plus_nil {S : Addr → Prop} : Plus S [] = S := by
  funext x
  exact propext ⟨fun h => Or.elim h id (fun z => nomatch z), fun h => Or.inl h⟩
theorem tB_and {g : Wd} {ta tb : MB} {σ : L2.St} {H : Hp} {Q : Bool → Hp → Prop} (h : tB' g W (mAnd ta tb) σ H Q) : tAnd (tB' g W ta) (tB' g W tb) σ H Q := by
  refine tR.bind h fun F ρ fp st x ρ1 q1 e1 v F1 H1 fp1 fr1 s1 st1 r1 n1 z1 ob => ?_
  obtain ⟨rfl, rfl⟩ := r1
  cases v with
  | true =>
    rw [if_pos rfl] at ob ⊢
    rw [plus_nil] at ob
    exact tR.after st1 z1 ob
  | false =>
    rw [if_neg (by decide)] at ob ⊢
    exact ob.2.1 false ρ1 q1 rfl false F1 H1 fp1 [] (.refl _ _ _) st1 ⟨rfl, rfl⟩ n1 z1
theorem tB_or {g : Wd} {ta tb : MB} {σ : L2.St} {H : Hp} {Q : Bool → Hp → Prop} (h : tB' g W (mOr ta tb) σ H Q) : tOr (tB' g W ta) (tB' g W tb) σ H Q := by
  refine tR.bind h fun F ρ fp st x ρ1 q1 e1 v F1 H1 fp1 fr1 s1 st1 r1 n1 z1 ob => ?_
  obtain ⟨rfl, rfl⟩ := r1
  cases v with
  | true =>
    rw [if_pos rfl] at ob ⊢
    exact ob.2.1 true ρ1 q1 rfl true F1 H1 fp1 [] (.refl _ _ _) st1 ⟨rfl, rfl⟩ n1 z1
  | false =>
    rw [if_neg (by decide)] at ob ⊢
    rw [plus_nil] at ob
    exact tR.after st1 z1 ob
theorem tB_not {g : Wd} {ta : MB} {σ : L2.St} {H : Hp} {Q : Bool → Hp → Prop} (h : tB' g W (mNot ta) σ H Q) : tNot (tB' g W ta) σ H Q := by
  refine tR.bind h fun F ρ fp st x ρ1 q1 e1 v F1 H1 fp1 fr1 s1 st1 r1 n1 z1 ob => ?_
  obtain ⟨rfl, rfl⟩ := r1
  exact ob.2.1 (!v) ρ1 q1 rfl (!v) F1 H1 fp1 [] (.refl _ _ _) st1 ⟨rfl, rfl⟩ n1 z1
variable {ta tb : MB}
theorem sw_and1 (ha : ST X W a ta) : SW X W (.BoolOp .And [a] pos) ta := pw_and1 ha
theorem sw_or1 (ha : ST X W a ta) : SW X W (.BoolOp .Or [a] pos) ta := pw_or1 ha
theorem sw_and (ha : ST X W a ta) (hb : SW X W (.BoolOp .And (b :: es) pos) tb) : SW X W (.BoolOp .And (a :: b :: es) pos) (mAnd ta tb) := PW.wk (pw_and ha hb) fun σ H Q h => tB_and h
theorem sw_or (ha : ST X W a ta) (hb : SW X W (.BoolOp .Or (b :: es) pos) tb) : SW X W (.BoolOp .Or (a :: b :: es) pos) (mOr ta tb) := PW.wk (pw_or ha hb) fun σ H Q h => tB_or h
theorem st_pw (h : SW X W a ta) : ST X W a ta := PW.pt h
theorem st_not (ha : ST X W a ta) : ST X W (.UnaryOp .Not a pos) (mNot ta) := PT.wk (pt_not ha) fun σ H Q h => tB_not h
/-! values of and, or, not -/
def mAndV (a b : M) : M := fun ρ => (a ρ).bind fun x ρ1 q1 => match x with
  | .d (.bl true) => (b ρ1).bind fun y ρ2 q2 => .ok y ρ2 (q1 && q2)
  | .d (.bl false) => .ok (.d (.bl false)) ρ1 q1
  | _ => .no
def mOrV (a b : M) : M := fun ρ => (a ρ).bind fun x ρ1 q1 => match x with
  | .d (.bl false) => (b ρ1).bind fun y ρ2 q2 => .ok y ρ2 (q1 && q2)
  | .d (.bl true) => .ok (.d (.bl true)) ρ1 q1
  | _ => .no
def lNot (p : R) : Option R := match p.pl with
  | some (.bl b) => some (.d (.bl (!b)))
  | _ => none
theorem s_and1 {op : BoolOp} (ha : SE X W a ma) : SE X W (.BoolOp op [a] pos) ma := pe_one ha
theorem s_and (ha : SE X W a ma) (hb : SE X W (.BoolOp .And (b :: es) pos) mb) : SE X W (.BoolOp .And (a :: b :: es) pos) (mAndV ma mb) := PE.wk (pe_and ha hb) fun σ H Q h => by
  refine tR.bind h fun F ρ fp st x ρ1 q1 e1 v F1 H1 fp1 fr1 s1 st1 r1 n1 z1 ob => ?_
  cases x with
  | d x =>
    cases x with
    | bl i =>
      obtain rfl := r1.2
      refine ⟨i, r1.bl rfl, ?_⟩
      cases i with
      | true => rw [if_pos rfl]; rw [plus_nil] at ob; exact tR.after st1 z1 ob
      | false => rw [if_neg (by decide)]; exact ob.2.1 (.d (.bl false)) ρ1 q1 rfl (.bl false) F1 H1 fp1 [] (.refl _ _ _) st1 ⟨.bl _, rfl⟩ n1 z1
    | _ => exact absurd rfl ob.1
  | _ => exact absurd rfl ob.1
theorem s_or (ha : SE X W a ma) (hb : SE X W (.BoolOp .Or (b :: es) pos) mb) : SE X W (.BoolOp .Or (a :: b :: es) pos) (mOrV ma mb) := PE.wk (pe_or ha hb) fun σ H Q h => by
  refine tR.bind h fun F ρ fp st x ρ1 q1 e1 v F1 H1 fp1 fr1 s1 st1 r1 n1 z1 ob => ?_
  cases x with
  | d x =>
    cases x with
    | bl i =>
      obtain rfl := r1.2
      refine ⟨i, r1.bl rfl, ?_⟩
      cases i with
      | false => rw [if_neg (by decide)]; rw [plus_nil] at ob; exact tR.after st1 z1 ob
      | true => rw [if_pos rfl]; exact ob.2.1 (.d (.bl true)) ρ1 q1 rfl (.bl true) F1 H1 fp1 [] (.refl _ _ _) st1 ⟨.bl _, rfl⟩ n1 z1
    | _ => exact absurd rfl ob.1
  | _ => exact absurd rfl ob.1
theorem s_not (ha : SE X W a ma) : SE X W (.UnaryOp .Not a pos) (m1 lNot ma) := PE.wk (pe_not ha) fun σ H Q h => tM_m1 (r := fun x H Q => ∃ c, x = .bl c ∧ Q (.bl (!c)) H) (by
  intro F H S x p fr Q rx l
  obtain ⟨rr, e⟩ := l.has
  have e0 := e
  unfold lNot at e
  split at e
  · next i h1 => cases e; exact ⟨i, rx.bl h1, l.val e0 (.bl _)⟩
  · cases e) h

/-! ## statements -/
end
inductive SRes where
  | nx (ρ : Ro) | rt (r : R) (ρ : Ro) | bk (ρ : Ro) | ct (ρ : Ro) | ex (x : Exc) (ρ : Ro) | no
abbrev MS := Ro → SRes
def Res.stm {α : Type} : Res α → (α → Ro → SRes) → SRes
  | .ok a ρ _, k => k a ρ
  | .ex x ρ, _ => .ex x ρ
  | .no, _ => .no
@[simp] theorem Res.stm_ok {α : Type} (a : α) (ρ : Ro) (q : Bool) (k : α → Ro → SRes) : (Res.ok a ρ q).stm k = k a ρ := rfl
@[simp] theorem Res.stm_ex {α : Type} (x : Exc) (ρ : Ro) (k : α → Ro → SRes) : (Res.ex x ρ : Res α).stm k = .ex x ρ := rfl
@[simp] theorem Res.stm_no {α : Type} (k : α → Ro → SRes) : (Res.no : Res α).stm k = .no := rfl
def SRes.thn : SRes → (Ro → SRes) → SRes
  | .nx ρ, k => k ρ
  | r, _ => r
@[simp] theorem SRes.thn_nx (ρ : Ro) (k : Ro → SRes) : (SRes.nx ρ).thn k = k ρ := rfl
@[simp] theorem SRes.thn_rt (r : R) (ρ : Ro) (k : Ro → SRes) : (SRes.rt r ρ).thn k = .rt r ρ := rfl
@[simp] theorem SRes.thn_bk (ρ : Ro) (k : Ro → SRes) : (SRes.bk ρ).thn k = .bk ρ := rfl
@[simp] theorem SRes.thn_ct (ρ : Ro) (k : Ro → SRes) : (SRes.ct ρ).thn k = .ct ρ := rfl
@[simp] theorem SRes.thn_ex (x : Exc) (ρ : Ro) (k : Ro → SRes) : (SRes.ex x ρ).thn k = .ex x ρ := rfl
@[simp] theorem SRes.thn_no (k : Ro → SRes) : SRes.no.thn k = .no := rfl
/-- a borrowed place stays, at its address -/
def Kbs (ρ : Ro) (σ : L2.St) (ρ' : Ro) (σ' : L2.St) : Prop := ∀ (k : Nat) (o : O), ρ[k]? = some (.mu true o) → (∃ o', ρ'[k]? = some (.mu true o')) ∧ σ'[k]? = σ[k]?
theorem Kbs.refl (ρ : Ro) (σ : L2.St) : Kbs ρ σ ρ σ := fun _ o h => ⟨⟨o, h⟩, rfl⟩
theorem Kbs.trans {a b c : Ro} {s t u : L2.St} (x : Kbs a s b t) (y : Kbs b t c u) : Kbs a s c u := fun k o h => by
  obtain ⟨⟨o', h1⟩, e1⟩ := x k o h
  obtain ⟨h2, e2⟩ := y k o' h1
  exact ⟨h2, e2.trans e1⟩
theorem Kb.s {a b : Ro} {σ : L2.St} (h : Kb a b) : Kbs a σ b σ := fun k o z => ⟨h k o z, rfl⟩
structure ObS (g : Wd) (W : WX) (ρ : Ro) (σ : L2.St) (F H : Hp) (S : Addr → Prop) (res : SRes) (D : Ends) : Prop where
  no : res ≠ .no
  nx : ∀ ρ', res = .nx ρ' → ∀ σ' F' H' fp', Step F H S F' H' (Own fp') → Stt g F' H' σ' ρ' fp' → Kbs ρ σ ρ' σ' → D.nx σ' H'
  bk : ∀ ρ', res = .bk ρ' → ∀ σ' F' H' fp', Step F H S F' H' (Own fp') → Stt g F' H' σ' ρ' fp' → Kbs ρ σ ρ' σ' → D.bk σ' H'
  ct : ∀ ρ', res = .ct ρ' → ∀ σ' F' H' fp', Step F H S F' H' (Own fp') → Stt g F' H' σ' ρ' fp' → Kbs ρ σ ρ' σ' → D.ct σ' H'
  rt : ∀ r ρ', res = .rt r ρ' → ∀ v σ' F' H' fp' fr, Step F H S F' H' (Plus (Own fp') fr) → Stt g F' H' σ' ρ' fp' → RepR g F' H' (Own fp') v r fr → fr.Nodup → Kbs ρ σ ρ' σ' → D.rt v H'
  ex : ∀ x ρ', res = .ex x ρ' → ∀ cls d σ' F' H' fp', Step F H S F' H' (Own fp') → Stt g F' H' σ' ρ' fp' → RepX g F' cls d x → Kbs ρ σ ρ' σ' → W cls d σ' H'
def tS (g : Wd) (W : WX) (m : MS) : TS := fun D σ H => ∃ F ρ fp, Stt g F H σ ρ fp ∧ ObS g W ρ σ F H (Own fp) (m ρ) D
abbrev SS (X : Cx) (W : WX) (st : Stmt) (m : MS) : Prop := PS X st (tS (gOf X) W m)
abbrev SSs (X : Cx) (W : WX) (st : List Stmt) (m : MS) : Prop := PSs X st (tS (gOf X) W m)
theorem ObS.after {g : Wd} {W : WX} {ρ ρ1 : Ro} {σ σ1 : L2.St} {F H F1 H1 : Hp} {S S1 : Addr → Prop} {res : SRes} {D : Ends} (h : ObS g W ρ σ F H S res D) (s : Step F H S F1 H1 S1) (k : Kbs ρ σ ρ1 σ1) : ObS g W ρ1 σ1 F1 H1 S1 res D :=
  ⟨h.no, fun ρ' e σ' F' H' fp' a b c => h.nx ρ' e σ' F' H' fp' (s.trans a) b (k.trans c), fun ρ' e σ' F' H' fp' a b c => h.bk ρ' e σ' F' H' fp' (s.trans a) b (k.trans c),
   fun ρ' e σ' F' H' fp' a b c => h.ct ρ' e σ' F' H' fp' (s.trans a) b (k.trans c), fun r ρ' e v σ' F' H' fp' fr a b c d f => h.rt r ρ' e v σ' F' H' fp' fr (s.trans a) b c d (k.trans f),
   fun x ρ' e cls d σ' F' H' fp' a b c f => h.ex x ρ' e cls d σ' F' H' fp' (s.trans a) b c (k.trans f)⟩
/-- a statement that begins with an expression -/
theorem tS_of {α β : Type} {g : Wd} {W : WX} {RR : VRel α β} {m : Ro → Res α} {k : α → Ro → SRes} {D : Ends} {σ : L2.St} {H : Hp} {Q : β → Hp → Prop} (h : tS g W (fun ρ => (m ρ).stm k) D σ H)
    (i : ∀ r ρ1 v F1 H1 fp1 fr1, Stt g F1 H1 σ ρ1 fp1 → RR F1 H1 (Own fp1) v r fr1 → fr1.Nodup → ObS g W ρ1 σ F1 H1 (Plus (Own fp1) fr1) (k r ρ1) D → Q v H1) : tR g W RR m σ H Q := by
  obtain ⟨F, ρ, fp, st, ob⟩ := h
  have ob : ObS g W ρ σ F H (Own fp) ((m ρ).stm k) D := ob
  refine ⟨F, ρ, fp, st, fun e => ?_, fun r ρ1 q e v F1 H1 fp1 fr1 s1 st1 r1 n1 z1 => ?_, fun x ρ' e cls d F' H' fp' a b c z => ?_⟩
  · rw [e] at ob; exact ob.no rfl
  · rw [e] at ob; exact i r ρ1 v F1 H1 fp1 fr1 st1 r1 n1 (ob.after s1 z1.1.s)
  · rw [e] at ob; exact ob.ex x ρ' rfl cls d σ F' H' fp' a b c z.1.s

section
variable {X : Cx} {W : WX} {pos : Pos} {a b c : Expr} {es : List Expr} {ma mb mc : M} {ms : List M} {st : Stmt} {sts : List Stmt} {m n : MS} {tc : MB}
def mNx : MS := fun ρ => .nx ρ
def mBk : MS := fun ρ => .bk ρ
def mCt : MS := fun ρ => .ct ρ
def mSeq (m n : MS) : MS := fun ρ => (m ρ).thn n
def mRt (m : M) : MS := fun ρ => (m ρ).stm fun r ρ' => .rt r ρ'
def mRtN : MS := fun ρ => .rt (.d .non) ρ
def mIf (c : MB) (m n : MS) : MS := fun ρ => (c ρ).stm fun b ρ' => if b = true then m ρ' else n ρ'
def mDrop (m : M) : MS := fun ρ => (m ρ).stm fun _ ρ' => .nx ρ'
theorem tS_nx {g : Wd} {D : Ends} {σ : L2.St} {H : Hp} (h : tS g W mNx D σ H) : D.nx σ H := by
  obtain ⟨F, ρ, fp, st, ob⟩ := h
  exact ob.nx ρ rfl σ F H fp (.refl _ _ _) st (.refl _ _)
theorem ss_nil : SSs X W [] mNx := PSs.wk pss_nil fun D σ H h => tS_nx h
theorem ss_cons (h1 : SS X W st m) (h2 : SSs X W sts n) : SSs X W (st :: sts) (mSeq m n) := PSs.wk (pss_cons h1 h2) fun D σ H h => by
  obtain ⟨F, ρ, fp, st, ob⟩ := h
  refine ⟨F, ρ, fp, st, ?_⟩
  have ob : ObS (gOf X) W ρ σ F H (Own fp) ((m ρ).thn n) D := ob
  cases e : m ρ with
  | nx ρ1 =>
    rw [e] at ob
    refine ⟨(fun z => nomatch z), fun ρ' q σ' F' H' fp' s1 st1 k1 => ?_, fun ρ' q => (nomatch q), fun ρ' q => (nomatch q), fun r ρ' q => (nomatch q), fun r ρ' q => (nomatch q)⟩
    cases q
    exact ⟨F', ρ1, fp', st1, ob.after s1 k1⟩
  | rt r ρ1 => rw [e] at ob; exact ⟨ob.no, fun ρ' q => (nomatch q), ob.bk, ob.ct, ob.rt, ob.ex⟩
  | bk ρ1 => rw [e] at ob; exact ⟨ob.no, fun ρ' q => (nomatch q), ob.bk, ob.ct, ob.rt, ob.ex⟩
  | ct ρ1 => rw [e] at ob; exact ⟨ob.no, fun ρ' q => (nomatch q), ob.bk, ob.ct, ob.rt, ob.ex⟩
  | ex x ρ1 => rw [e] at ob; exact ⟨ob.no, fun ρ' q => (nomatch q), ob.bk, ob.ct, ob.rt, ob.ex⟩
  | no => rw [e] at ob; exact absurd rfl ob.no
theorem ss_one (h1 : SS X W st m) : SSs X W [st] m := pss_one h1
theorem ss_pass : SS X W (.Pass pos) mNx := PS.wk ps_pass fun D σ H h => tS_nx h
theorem ss_doc {x : Str} {j : Nat} {pos' : Pos} : SS X W (.Expr (.Constant (.str x) j pos) pos') mNx := PS.wk ps_doc fun D σ H h => tS_nx h
theorem ss_break : SS X W (.Break pos) mBk := PS.wk ps_break fun D σ H ⟨F, ρ, fp, st, ob⟩ => ob.bk ρ rfl σ F H fp (.refl _ _ _) st (.refl _ _)
theorem ss_continue : SS X W (.Continue pos) mCt := PS.wk ps_continue fun D σ H ⟨F, ρ, fp, st, ob⟩ => ob.ct ρ rfl σ F H fp (.refl _ _ _) st (.refl _ _)
theorem ss_ret (h : SE X W a ma) : SS X W (.Return (some a) pos) (mRt ma) := PS.wk (ps_ret h) fun D σ H h =>
  tS_of h fun r ρ1 v F1 H1 fp1 fr1 st1 r1 n1 ob => ob.rt r ρ1 rfl v σ F1 H1 fp1 fr1 (.refl _ _ _) st1 r1 n1 (.refl _ _)
theorem ss_retN : SS X W (.Return none pos) mRtN := PS.wk ps_retN fun D σ H ⟨F, ρ, fp, st, ob⟩ => ob.rt (.d .non) ρ rfl .non σ F H fp [] (by rw [plus_nil]; exact .refl _ _ _) st ⟨.non, rfl⟩ List.nodup_nil (.refl _ _)
theorem ss_if {sa sb : List Stmt} (hc : ST X W a tc) (h1 : SSs X W sa m) (h2 : SSs X W sb n) : SS X W (.If a sa sb pos) (mIf tc m n) := PS.wk (ps_if hc h1 h2) fun D σ H h =>
  tS_of h fun r ρ1 v F1 H1 fp1 fr1 st1 r1 n1 ob => by
    obtain ⟨rfl, rfl⟩ := r1
    rw [plus_nil] at ob
    cases v with
    | true => rw [if_pos rfl] at ob ⊢; exact ⟨F1, ρ1, fp1, st1, ob⟩
    | false => rw [if_neg (by decide)] at ob ⊢; exact ⟨F1, ρ1, fp1, st1, ob⟩
theorem ss_expr (h : SE X W a ma) (hs : swapsWith a none pos.line X.env = pure false := by rfl) : SS X W (.Expr a pos) (mDrop ma) := PS.wk (ps_expr h hs) fun D σ H h =>
  tS_of h fun r ρ1 v F1 H1 fp1 fr1 st1 r1 n1 ob => ob.nx ρ1 rfl σ F1 H1 fp1 ((Step.refl _ _ _).weak fun x z => .inl z) st1 (.refl _ _)
end
end
end Mw

set_option Elab.async false
set_option linter.all false
set_option maxRecDepth 100000
set_option autoImplicit false
namespace Mw
open PySem PySem.Spec PyProof.Rows L2
noncomputable section

/-! ### storing into a place -/
def SlOk (g : Wd) (F H : Hp) (v : V) (s : Slo) (f : List Addr) : Prop := match s with
  | .un => f = []
  | .shr d => Rep g F v d ∧ f = []
  | .mu _ o => RepO g F H v o f
theorem set_get {α : Type} {l : List α} {i j : Nat} {x y : α} (h : (l.set i x)[j]? = some y) : (i = j ∧ y = x ∧ i < l.length) ∨ (i ≠ j ∧ l[j]? = some y) := by
  rw [List.getElem?_set] at h
  split at h
  · next e =>
    split at h
    · cases h; exact .inl ⟨e, rfl, by omega⟩
    · cases h
  · next e => exact .inr ⟨e, h⟩
theorem Stt.put {g : Wd} {F H : Hp} {σ : L2.St} {ρ : Ro} {fp : Nat → List Addr} (st : Stt g F H σ ρ fp) {v : V} {s : Slo} {f : List Addr} (i : Nat) (h : SlOk g F H v s f) (nd : f.Nodup) (out : ∀ a ∈ f, F a = none ∧ ¬ Own fp a) :
    ∃ fp', Stt g F H (σ.set i (some v)) (ρ.set i s) fp' ∧ ∀ a, Own fp' a → Plus (Own fp) f a := by
  by_cases hi : i < ρ.length
  · have hi' : i < σ.length := by rw [st.len]; exact hi
    have hs : ∀ {w : Option V}, (σ.set i w)[i]? = some w := fun {w} => by rw [List.getElem?_set]; simp [hi']
    have hn : ∀ {j : Nat} {w : Option V}, i ≠ j → (σ.set i w)[j]? = σ[j]? := fun {j w} e => by rw [List.getElem?_set, if_neg e]
    have sl : ∀ b o, s = .mu b o → RepO g F H v o f := fun b o e => by subst e; exact h
    refine ⟨fun k => if k = i then f else fp k, ⟨st.sub, by simp [st.len], fun j hj => ?_, fun j d hd => ?_, fun j b o ho => ?_, fun j => ?_, fun j k a ha hb => ?_, fun j a ha => ?_⟩, fun a ⟨j, ha⟩ => ?_⟩
    · try dsimp only
      split
      · next e =>
        subst e
        cases s with
        | un => exact h
        | shr d => exact h.2
        | mu b o => exact absurd (by rw [List.getElem?_set]; simp [hi]) (hj b o)
      · next e => exact st.un j fun b o z => hj b o (by rw [List.getElem?_set, if_neg fun z => e z.symm]; exact z)
    · rcases set_get hd with ⟨rfl, rfl, _⟩ | ⟨ne, hd⟩
      · exact ⟨v, hs, h.1⟩
      · rw [hn ne]; exact st.shr j d hd
    · rcases set_get ho with ⟨rfl, e, _⟩ | ⟨ne, ho⟩
      · (try dsimp only); rw [if_pos rfl]; exact ⟨v, hs, sl b o e.symm⟩
      · (try dsimp only); rw [if_neg fun z => ne z.symm, hn ne]; exact st.mu j b o ho
    · (try dsimp only); split
      · exact nd
      · exact st.nd j
    · try dsimp only at ha hb
      split at ha <;> split at hb
      · next e1 e2 => exact e1.trans e2.symm
      · exact absurd ⟨k, hb⟩ (out a ha).2
      · exact absurd ⟨j, ha⟩ (out a hb).2
      · exact st.dis j k a ha hb
    · try dsimp only at ha
      split at ha
      · exact (out a ha).1
      · exact st.fre j a ha
    · try dsimp only at ha
      split at ha
      · exact .inr ha
      · exact .inl ⟨j, ha⟩
  · have e1 : ρ.set i s = ρ := List.set_eq_of_length_le (by omega)
    have e2 : σ.set i (some v) = σ := List.set_eq_of_length_le (by rw [st.len]; omega)
    rw [e1, e2]
    exact ⟨fp, st, fun a h => .inl h⟩
/-- a place is given up -/
theorem Stt.drop {g : Wd} {F H : Hp} {σ : L2.St} {ρ : Ro} {fp : Nat → List Addr} (st : Stt g F H σ ρ fp) (i : Nat) :
    ∃ fp', Stt g F H σ (ρ.set i .un) fp' ∧ (∀ a, Own fp' a → Own fp a) ∧ (i < ρ.length → ∀ a ∈ fp i, ¬ Own fp' a) := by
  refine ⟨fun k => if k = i then [] else fp k, ⟨st.sub, by simp [st.len], fun j hj => ?_, fun j d hd => ?_, fun j b o ho => ?_, fun j => ?_, fun j k a ha hb => ?_, fun j a ha => ?_⟩, fun a ⟨j, ha⟩ => ?_, fun hi a ha ⟨j, hb⟩ => ?_⟩
  · try dsimp only
    split
    · rfl
    · next e => exact st.un j fun b o z => hj b o (by rw [List.getElem?_set, if_neg fun z => e z.symm]; exact z)
  · rcases set_get hd with ⟨rfl, z, _⟩ | ⟨ne, hd⟩
    · cases z
    · exact st.shr j d hd
  · rcases set_get ho with ⟨rfl, e, _⟩ | ⟨ne, ho⟩
    · cases e
    · (try dsimp only); rw [if_neg fun z => ne z.symm]; exact st.mu j b o ho
  · (try dsimp only); split
    · exact List.nodup_nil
    · exact st.nd j
  · try dsimp only at ha hb
    split at ha <;> split at hb
    · cases ha
    · cases ha
    · cases hb
    · exact st.dis j k a ha hb
  · try dsimp only at ha
    split at ha
    · cases ha
    · exact st.fre j a ha
  · try dsimp only at ha
    split at ha
    · cases ha
    · exact ⟨j, ha⟩
  · try dsimp only at hb
    split at hb
    · cases hb
    · next e => exact e (st.dis j i a hb ha)
/-- the place i holds a borrowed thing -/
def isBor (ρ : Ro) (i : Nat) : Bool := match ρ[i]? with
  | some (.mu true _) => true
  | _ => false
theorem Kbs.set {ρ : Ro} {σ : L2.St} {i : Nat} (h : isBor ρ i = false) (s : Slo) (w : Option V) : Kbs ρ σ (ρ.set i s) (σ.set i w) := fun k o e => by
  by_cases hk : i = k
  · subst hk
    unfold isBor at h
    rw [e] at h; cases h
  · exact ⟨⟨o, by rw [List.getElem?_set, if_neg hk]; exact e⟩, by rw [List.getElem?_set, if_neg hk]⟩
theorem Kb.set {ρ : Ro} {i : Nat} (h : isBor ρ i = false) (s : Slo) : Kb ρ (ρ.set i s) := fun k o e => by
  by_cases hk : i = k
  · subst hk
    unfold isBor at h
    rw [e] at h; cases h
  · exact ⟨o, by rw [List.getElem?_set, if_neg hk]; exact e⟩
def R.slo : R → Option Slo
  | .d x => some (.shr x)
  | .own o => some (.mu false o)
  | .pk _ => none
@[simp] theorem R.slo_d (x : D) : (R.d x).slo = some (.shr x) := rfl
@[simp] theorem R.slo_own (o : O) : (R.own o).slo = some (.mu false o) := rfl
theorem RepR.slo {g : Wd} {F H : Hp} {S : Addr → Prop} {v : V} {r : R} {fr : List Addr} (h : RepR g F H S v r fr) {s : Slo} (e : r.slo = some s) : SlOk g F H v s fr := by
  cases r with
  | d x => cases e; exact h
  | own o => cases e; exact h.1
  | pk o => cases e
/-- name = e -/
def mSet (i : Nat) (m : M) : MS := fun ρ => (m ρ).stm fun r ρ' => if isBor ρ' i = true then .no else match r.slo with
  | some s => .nx (ρ'.set i s)
  | none => .no
theorem tS_set {g : Wd} {W : WX} {i : Nat} {m : M} {D : Ends} {σ : L2.St} {H : Hp} (h : tS g W (mSet i m) D σ H) : tM g W m σ H fun x H1 => D.nx (σ.set i (some x)) H1 := by
  refine tS_of h fun r ρ1 v F1 H1 fp1 fr1 st1 r1 n1 ob => ?_
  by_cases hb : isBor ρ1 i = true
  · rw [if_pos hb] at ob; exact absurd rfl ob.no
  · rw [if_neg hb] at ob
    cases e : r.slo with
    | none => rw [e] at ob; exact absurd rfl ob.no
    | some s =>
      rw [e] at ob
      obtain ⟨fp', st', k⟩ := st1.put i (r1.slo e) n1 fun a ha => ⟨(r1.out a ha).1, (r1.out a ha).2.1⟩
      exact ob.nx _ rfl _ F1 H1 fp' ((Step.refl _ _ _).weak k) st' (.set (by simpa using hb) _ _)
section
variable {X : Cx} {W : WX} {pos : Pos} {a b c tg : Expr} {es : List Expr} {ma mb mc : M} {ms : List M} {st : Stmt} {sts : List Stmt} {m n : MS} {tc : MB}
theorem ss_set {i : Nat} {x : Str} {pos' : Pos} (hN : X.N.Nodup) (hi : X.N[i]? = some x) (hx : Loc X.env.scope x) (ha : SE X W a ma) (hs : swapsWith a (some (.Name x pos')) pos.line X.env = pure false := by rfl) (hf : X.fn x = true ∨ X.env.scope.names.lookup x = some .local := by first | exact .inl rfl | exact .inr rfl) :
    SS X W (.Assign [.Name x pos'] a pos) (mSet i ma) := PS.wk (ps_set hN hi hx ha hs hf) fun D σ H h => tS_set h
/-- name += e -/
def lAddP (p q : R) : Option R := match p.pl, q.pl with
  | some (.int i), some (.int j) => some (.d (.int (i + j)))
  | some (.str s), some (.str t) => if lenOk (s.length + t.length) = true then some (.d (.str (s ++ t))) else none
  | _, _ => none
def rAddP : R2 := fun x y H Q => (rI0 fun i j => .int (i + j)) x y H Q ∨ (fun x y H Q => ∃ i j, x = .str i ∧ y = .str j ∧ i.length + j.length ≤ sizeLine ∧ Q (.str (i ++ j)) H) x y H Q
theorem l_addP : LOk2 (gOf X) lAddP rAddP := by
  intro F H S x y p q f1 f2 Q rx ry l
  obtain ⟨rr, e⟩ := l.has
  have e0 := e
  unfold lAddP at e
  split at e
  · next i j e1 e2 => cases e; exact .inl ⟨i, j, rx.int e1, ry.int e2, l.val e0 (.int _)⟩
  · next s t e1 e2 =>
    split at e
    · next hl =>
      have hl := lenOk_le hl
      cases e
      obtain ⟨rfl, h1⟩ := rx.str e1
      obtain ⟨rfl, h2⟩ := ry.str e2
      rw [← sizeLine_eq] at hl
      refine .inr ⟨_, _, rfl, rfl, by rw [str_len, str_len]; exact hl, ?_⟩
      rw [str_app]
      exact l.val e0 (.str (by rw [List.length_append]; exact hl))
    · cases e
  · cases e
def mAug (i : Nat) (m : M) : MS := mSet i (m2 lAddP (nm i) m)
theorem ss_aug {i : Nat} {x : Str} {pos' : Pos} (hN : X.N.Nodup) (hi : X.N[i]? = some x) (hx : Loc X.env.scope x) (ha : SE X W a ma) (hf : X.fn x = true ∨ X.env.scope.names.lookup x = some .local := by first | exact .inl rfl | exact .inr rfl) :
    SS X W (.AugAssign (.Name x pos') .Add a pos) (mAug i ma) := PS.wk (ps_aug (ti := rAddP) hN hi hx ha (fun pins s σ H x y v u Q I rx ry q => (iop_add.or iop_add_str) pins s σ H x y v u Q I rx ry q) hf) fun D σ H h => tM_nm (tM_m2 l_addP (tS_set h))

/-! ### targets -/
end
inductive Tg where
  | nm (i : Nat) | tup (ts : List Tg)
mutual
def asg : Tg → D → Ro → Option Ro
  | .nm i, x, ρ => if isBor ρ i = true then none else some (ρ.set i (.shr x))
  | .tup ts, .tup xs, ρ => asgs ts xs ρ
  | .tup _, _, _ => none
def asgs : List Tg → List D → Ro → Option Ro
  | [], [], ρ => some ρ
  | t :: ts, x :: xs, ρ => match asg t x ρ with
    | some ρ' => asgs ts xs ρ'
    | none => none
  | _, _, _ => none
end
theorem asgs_len : ∀ {ts : List Tg} {xs : List D} {ρ ρ' : Ro}, asgs ts xs ρ = some ρ' → ts.length = xs.length
  | [], [], _, _, _ => rfl
  | t :: ts, x :: xs, ρ, ρ', h => by
    unfold asgs at h
    split at h
    · rw [List.length_cons, List.length_cons, asgs_len h]
    · cases h
  | [], _ :: _, _, _, h => by simp [asgs] at h
  | _ :: _, [], _, _, h => by simp [asgs] at h
def tG (g : Wd) (t : Tg) : TG := fun v σ H Q => ∃ F ρ fp x ρ', Stt g F H σ ρ fp ∧ Rep g F v x ∧ asg t x ρ = some ρ' ∧ ∀ σ' fp', Stt g F H σ' ρ' fp' → (∀ a, Own fp' a → Own fp a) → Kbs ρ σ ρ' σ' → Q σ' H
def tGs (g : Wd) (ts : List Tg) : TGs := fun vs σ H Q => ∃ F ρ fp xs ρ', Stt g F H σ ρ fp ∧ Reps g F vs xs ∧ asgs ts xs ρ = some ρ' ∧ ∀ σ' fp', Stt g F H σ' ρ' fp' → (∀ a, Own fp' a → Own fp a) → Kbs ρ σ ρ' σ' → Q σ' H
abbrev SG (X : Cx) (e : Expr) (t : Tg) : Prop := PG X e (tG (gOf X) t)
abbrev SGs (X : Cx) (e : List Expr) (ts : List Tg) : Prop := PGs X e (tGs (gOf X) ts)
theorem PG.wk {X : Cx} {e : Expr} {t t' : TG} (h : PG X e t) (i : ∀ v σ H Q, t' v σ H Q → t v σ H Q) : PG X e t' := ⟨fun pins s σ H v u Q I r q => h.run pins s σ H v u Q I r (i v σ H Q q)⟩
theorem PGs.wk {X : Cx} {e : List Expr} {t t' : TGs} (h : PGs X e t) (i : ∀ v σ H Q, t' v σ H Q → t v σ H Q) : PGs X e t' := ⟨fun pins s σ H v u Q I r q => h.run pins s σ H v u Q I r (i v σ H Q q)⟩
section
variable {X : Cx} {W : WX} {pos : Pos} {a b c tg : Expr} {es : List Expr} {ma mb mc : M} {ms : List M} {st : Stmt} {sts : List Stmt} {m n : MS} {tc : MB} {t : Tg} {ts : List Tg}
theorem sg_nm {i : Nat} {x : Str} (hN : X.N.Nodup) (hi : X.N[i]? = some x) (hx : Loc X.env.scope x) (hf : X.fn x = true ∨ X.env.scope.names.lookup x = some .local := by first | exact .inl rfl | exact .inr rfl) : SG X (.Name x pos) (.nm i) :=
  PG.wk (pg_name hN hi hx hf) fun v σ H Q h => by
    obtain ⟨F, ρ, fp, x, ρ', st, r, e, k⟩ := h
    unfold asg at e
    split at e
    · cases e
    · next hb =>
      cases e
      obtain ⟨fp', st', k'⟩ := st.put i (s := .shr x) (f := []) ⟨r, rfl⟩ List.nodup_nil fun a ha => nomatch ha
      exact k _ fp' st' (fun a ha => (k' a ha).elim id fun z => nomatch z) (.set (by simpa using hb) _ _)
theorem sgs_nil : SGs X [] [] := PGs.wk pgs_nil fun v σ H Q h => by
  obtain ⟨F, ρ, fp, xs, ρ', st, r, e, k⟩ := h
  cases r with
  | nil => simp [asgs] at e; subst e; exact ⟨rfl, k σ fp st (fun _ h => h) (.refl _ _)⟩
  | cons => simp [asgs] at e
theorem sgs_cons (h1 : SG X a t) (h2 : SGs X es ts) (hs : (assignEach (a :: es) X.env).map (·.2) = assign a X.env :: (assignEach es X.env).map (·.2) := by rfl) : SGs X (a :: es) (t :: ts) := PGs.wk (pgs_cons h1 h2 hs) fun v σ H Q h => by
  obtain ⟨F, ρ, fp, xs, ρ', st, r, e, k⟩ := h
  cases r with
  | nil => simp [asgs] at e
  | @cons v vs d ds r rs =>
    unfold asgs at e
    split at e
    · next ρ1 e1 => exact ⟨v, vs, rfl, F, ρ, fp, d, ρ1, st, r, e1, fun σ1 fp1 st1 o1 k1 => ⟨F, ρ1, fp1, ds, ρ', st1, rs, e, fun σ' fp' st' o' k' => k σ' fp' st' (fun a h => o1 a (o' a h)) (k1.trans k')⟩⟩
    · cases e
theorem sg_tup {k : Nat} {n : Nat} (hc : X.calm = true) (h : SGs X es ts) (hn : (assignEach es X.env).length = n := by rfl) (hst : (assignEach es X.env).findIdx? (·.1) = none := by rfl) (hl : ts.length = n := by rfl) : SG X (.Tuple es k pos) (.tup ts) :=
  PG.wk (pg_tup hc h hn hst) fun v σ H Q h => by
    obtain ⟨F, ρ, fp, x, ρ', st, r, e, q⟩ := h
    cases x with
    | tup xs =>
      cases r with
      | tup h1 hl1 rs =>
        have e : asgs ts xs ρ = some ρ' := by unfold asg at e; exact e
        exact ⟨_, _, rfl, st.sub.sqT h1, by rw [rs.length, ← asgs_len e]; exact hl, F, ρ, fp, xs, ρ', st, rs, e, q⟩
    | _ => simp [asg] at e
/-- target = e -/
def mAsg (t : Tg) (m : M) : MS := fun ρ => (m ρ).stm fun r ρ' => match r with
  | .d x => match asg t x ρ' with
    | some ρ2 => .nx ρ2
    | none => .no
  | _ => .no
theorem ss_asg (ha : SE X W a ma) (hg : SG X tg t) (hs : swapsWithSole [tg] a pos.line X.env = pure false := by rfl) (hw : swappedStores [tg] a X.env = pure none := by rfl) (h1 : (assignEach [tg] X.env).map (·.2) = [assign tg X.env] := by rfl) : SS X W (.Assign [tg] a pos) (mAsg t ma) :=
  PS.wk (ps_asg ha hg hs hw h1) fun D σ H h => tS_of h fun r ρ1 v F1 H1 fp1 fr1 st1 r1 n1 ob => by
    cases r with
    | d x =>
      obtain ⟨r1, rfl⟩ := r1
      rw [plus_nil] at ob
      dsimp only at ob
      cases e : asg t x ρ1 with
      | none => rw [e] at ob; exact absurd rfl ob.no
      | some ρ2 =>
        rw [e] at ob
        exact ⟨F1, ρ1, fp1, x, ρ2, st1, r1, e, fun σ' fp' st' o' k' => ob.nx ρ2 rfl σ' F1 H1 fp' ((Step.refl _ _ _).weak o') st' k'⟩
    | _ => exact absurd rfl ob.no

/-! ### what a loop walks -/
end
def Yields (g : Wd) (F : Hp) (J : It) (xs : List D) : Prop := ∀ (i : Nat) (F2 H2 : Hp), Ext F F2 → Ext F2 H2 → (i = xs.length → J.stop i H2) ∧ (∀ d, xs[i]? = some d → J.go i H2 ∧ ∀ x H3, J.yld i H2 x H3 → ∃ F3, Ext F3 H3 ∧ Ext F2 F3 ∧ Ext H2 H3 ∧ (∀ a o, F3 a = some o → F2 a = some o ∨ H2 a = none) ∧ Rep g F3 x d)
theorem Yields.mono {g : Wd} {F F' : Hp} {J : It} {xs : List D} (y : Yields g F J xs) (e : Ext F F') : Yields g F' J xs := fun i F2 H2 e1 e2 => y i F2 H2 (e.trans e1) e2
def RepI (g : Wd) : VRel (List D) It := fun F H S J xs fr => Yields g F J xs ∧ fr = []
abbrev MI := Ro → Res (List D)
abbrev tI (g : Wd) (W : WX) (m : MI) : TI := tR g W (RepI g) m
abbrev SI (X : Cx) (W : WX) (tg e : Expr) (m : MI) : Prop := PI X tg e (tI (gOf X) W m)
theorem PI.wk {X : Cx} {tg e : Expr} {t t' : TI} (h : PI X tg e t) (i : ∀ σ H Q, t' σ H Q → t σ H Q) : PI X tg e t' := ⟨fun pins s σ H Q I q => h.run pins s σ H Q I (i σ H Q q)⟩
def forGoR (t : Tg) (b : MS) : List D → MS
  | [], ρ => .nx ρ
  | x :: xs, ρ => match asg t x ρ with
    | none => .no
    | some ρ1 => match b ρ1 with
      | .nx ρ2 => forGoR t b xs ρ2
      | .ct ρ2 => forGoR t b xs ρ2
      | .bk ρ2 => .nx ρ2
      | r => r
def forGo : Tg → MS → List D → MS := hide forGoR
theorem forGo_nil (t : Tg) (b : MS) (ρ : Ro) : forGo t b [] ρ = .nx ρ := by unfold forGo; rw [hide_eq]; rfl
theorem forGo_cons (t : Tg) (b : MS) (x : D) (xs : List D) (ρ : Ro) : forGo t b (x :: xs) ρ = match asg t x ρ with
    | none => .no
    | some ρ1 => (match b ρ1 with
      | .nx ρ2 => forGo t b xs ρ2
      | .ct ρ2 => forGo t b xs ρ2
      | .bk ρ2 => .nx ρ2
      | r => r) := by unfold forGo; rw [hide_eq]; rfl
def mFor (it : MI) (t : Tg) (b : MS) : MS := fun ρ => (it ρ).stm fun xs ρ' => forGo t b xs ρ'
def whGo (c : MB) (b : MS) : Nat → MS
  | 0, _ => .no
  | n + 1, ρ => (c ρ).stm fun x ρ1 => if x = true then (match b ρ1 with
      | .nx ρ2 => whGo c b n ρ2
      | .ct ρ2 => whGo c b n ρ2
      | .bk ρ2 => .nx ρ2
      | r => r) else .nx ρ1
open Classical in
def mWhile (c : MB) (b : MS) : MS := fun ρ => if h : ∃ n, whGo c b n ρ ≠ .no then whGo c b (Classical.choose h) ρ else .no
theorem whGo_more (c : MB) (b : MS) : ∀ (n : Nat) (ρ : Ro), whGo c b n ρ ≠ .no → whGo c b (n + 1) ρ = whGo c b n ρ
  | 0, ρ, h => absurd rfl h
  | n + 1, ρ, h => by
    rw [whGo] at h
    rw [whGo, whGo]
    cases e : c ρ with
    | no => rfl
    | ex x ρ1 => rfl
    | ok x ρ1 q =>
      rw [e] at h
      simp only [Res.stm_ok] at h ⊢
      cases x with
      | false => rfl
      | true =>
        rw [if_pos rfl] at h ⊢
        rw [if_pos rfl]
        cases e2 : b ρ1 with
        | nx ρ2 => rw [e2] at h; exact whGo_more c b n ρ2 h
        | ct ρ2 => rw [e2] at h; exact whGo_more c b n ρ2 h
        | _ => rfl
theorem whGo_le (c : MB) (b : MS) {n k : Nat} {ρ : Ro} (h : whGo c b n ρ ≠ .no) : whGo c b (n + k) ρ = whGo c b n ρ := by
  induction k with
  | zero => rfl
  | succ k ih => rw [← Nat.add_assoc, whGo_more c b (n + k) ρ (by rw [ih]; exact h), ih]
theorem mWhile_eq {c : MB} {b : MS} {n : Nat} {ρ : Ro} {r : SRes} (e : whGo c b n ρ = r) (h : r ≠ .no) : mWhile c b ρ = r := by
  have hx : ∃ n, whGo c b n ρ ≠ .no := ⟨n, by rw [e]; exact h⟩
  unfold mWhile
  rw [dif_pos hx]
  have h2 := Classical.choose_spec hx
  have a1 := whGo_le c b (k := Classical.choose hx) (n := n) (ρ := ρ) (by rw [e]; exact h)
  have a2 := whGo_le c b (k := n) h2
  rw [Nat.add_comm] at a2
  rw [← a2, a1, e]
section
variable {X : Cx} {W : WX} {pos : Pos} {a b c tg : Expr} {es : List Expr} {ma mb mc : M} {ms : List M} {st : Stmt} {sts : List Stmt} {m n : MS} {tc : MB} {t : Tg} {ts : List Tg} {mi : MI}
theorem ss_for (hp : PassesOwn (model X.prog X.w) X.A X.env X.xe) (hc : X.calm = true) (hi : SI X W tg a mi) (hg : SG X tg t) (hb : SSs X W sts m) (hs : ∀ x, foldedSetIterable a X.env x = pure x := by intro _; rfl) : SS X W (.For tg a sts [] pos) (mFor mi t m) :=
  PS.wk (ps_for hp hc hi hg hb hs) fun D σ H h => tS_of h fun xs ρ1 J F1 H1 fp1 fr1 st1 r1 n1 ob => by
    obtain ⟨yl, rfl⟩ := r1
    rw [plus_nil] at ob
    refine ⟨fun i k σ' H' => i ≤ xs.length ∧ k = xs.length - i ∧ ∃ F ρ fp, Stt (gOf X) F H' σ' ρ fp ∧ Ext F1 F ∧ ObS (gOf X) W ρ σ' F H' (Own fp) (forGo t m (xs.drop i) ρ) D, ⟨xs.length, Nat.zero_le _, rfl, F1, ρ1, fp1, st1, .refl _, ob⟩, fun i k σ2 H2 hw => ?_⟩
    obtain ⟨hi, rfl, F, ρ, fp, stt, ex, ob2⟩ := hw
    have Y := yl i F H2 ex stt.sub
    by_cases hl : i < xs.length
    · obtain ⟨d, hd⟩ : ∃ d, xs[i]? = some d := ⟨xs[i], List.getElem?_eq_getElem hl⟩
      have hdr : xs.drop i = d :: xs.drop (i + 1) := by
        rw [List.getElem?_eq_getElem hl] at hd
        cases hd
        exact (List.drop_eq_getElem_cons hl)
      rw [hdr] at ob2
      obtain ⟨go, yy⟩ := Y.2 d hd
      refine .inr ⟨go, fun σ' H' => i + 1 ≤ xs.length ∧ ∃ F ρ fp, Stt (gOf X) F H' σ' ρ fp ∧ Ext F1 F ∧ ObS (gOf X) W ρ σ' F H' (Own fp) (forGo t m (xs.drop (i + 1)) ρ) D, fun σ' H' hN => ⟨xs.length - (i + 1), by omega, hN.1, rfl, hN.2⟩, fun x H3 hy => ?_⟩
      obtain ⟨F3, s3, e3, eh3, n3, r3⟩ := yy x H3 hy
      have own3 : ∀ a, Own fp a → F3 a = none := fun a ha => by
        cases q : F3 a with
        | none => rfl
        | some u =>
          rcases n3 a u q with z | z
          · rw [(stt.there ha).2] at z; cases z
          · exact absurd z (stt.there ha).1
      have st3 := stt.grown e3 eh3 s3 own3
      have step3 : Step F H2 (Own fp) F3 H3 (Own fp) := ⟨e3, fun a o _ h => eh3 a o h, fun a o h => (n3 a o h).imp id .inr, fun a h => .inl h⟩
      have ob3 := ob2.after step3 (.refl ρ σ2)
      cases e : asg t d ρ with
      | none => rw [forGo_cons, e] at ob3; exact absurd rfl ob3.no
      | some ρ4 =>
        rw [forGo_cons, e] at ob3
        dsimp only at ob3
        refine ⟨F3, ρ, fp, d, ρ4, st3, r3, e, fun σ4 fp4 st4 o4 k4 => ⟨F3, ρ4, fp4, st4, ?_⟩⟩
        have ob4 := ob3.after ((Step.refl F3 H3 (Own fp)).weak o4) k4
        have next : ∀ ρ5 σ5 F5 H5 fp5, ObS (gOf X) W ρ4 σ4 F3 H3 (Own fp4) (forGo t m (xs.drop (i + 1)) ρ5) D → Step F3 H3 (Own fp4) F5 H5 (Own fp5) → Stt (gOf X) F5 H5 σ5 ρ5 fp5 → Kbs ρ4 σ4 ρ5 σ5 → i + 1 ≤ xs.length ∧ ∃ F ρ fp, Stt (gOf X) F H5 σ5 ρ fp ∧ Ext F1 F ∧ ObS (gOf X) W ρ σ5 F H5 (Own fp) (forGo t m (xs.drop (i + 1)) ρ) D :=
          fun ρ5 σ5 F5 H5 fp5 o s st5 k => ⟨hl, F5, ρ5, fp5, st5, (ex.trans e3).trans s.ext, o.after s k⟩
        cases e5 : m ρ4 with
        | nx ρ5 =>
          rw [e5] at ob4
          exact ⟨fun z => (nomatch z), fun ρ' q σ' F' H' fp' s' st' k' => by cases q; exact next _ _ _ _ _ ob4 s' st' k', fun ρ' q => (nomatch q), fun ρ' q => (nomatch q), fun r ρ' q => (nomatch q), fun r ρ' q => (nomatch q)⟩
        | ct ρ5 =>
          rw [e5] at ob4
          exact ⟨fun z => (nomatch z), fun ρ' q => (nomatch q), fun ρ' q => (nomatch q), fun ρ' q σ' F' H' fp' s' st' k' => by cases q; exact next _ _ _ _ _ ob4 s' st' k', fun r ρ' q => (nomatch q), fun r ρ' q => (nomatch q)⟩
        | bk ρ5 =>
          rw [e5] at ob4
          exact ⟨fun z => (nomatch z), fun ρ' q => (nomatch q), fun ρ' q σ' F' H' fp' s' st' k' => by cases q; exact ob4.nx _ rfl σ' F' H' fp' s' st' k', fun ρ' q => (nomatch q), fun r ρ' q => (nomatch q), fun r ρ' q => (nomatch q)⟩
        | rt r ρ5 => rw [e5] at ob4; exact ⟨fun z => (nomatch z), fun ρ' q => (nomatch q), fun ρ' q => (nomatch q), fun ρ' q => (nomatch q), ob4.rt, ob4.ex⟩
        | ex x ρ5 => rw [e5] at ob4; exact ⟨fun z => (nomatch z), fun ρ' q => (nomatch q), fun ρ' q => (nomatch q), fun ρ' q => (nomatch q), ob4.rt, ob4.ex⟩
        | no => rw [e5] at ob4; exact absurd rfl ob4.no
    · have e : i = xs.length := by omega
      subst e
      refine .inl ⟨Y.1 rfl, ?_⟩
      rw [List.drop_length, forGo_nil] at ob2
      exact ob2.nx ρ rfl σ2 F H2 fp (.refl _ _ _) stt (.refl _ _)
theorem ss_while (hp : PassesOwn (model X.prog X.w) X.A X.env X.xe) (hc : ST X W a tc) (hb : SSs X W sts m) : SS X W (.While a sts [] pos) (mWhile tc m) :=
  PS.wk (ps_while hp hc hb) fun D σ H h => by
    obtain ⟨F, ρ, fp, st, ob⟩ := h
    have hx : ∃ n, whGo tc m n ρ ≠ .no := by
      by_cases hx : ∃ n, whGo tc m n ρ ≠ .no
      · exact hx
      · exact absurd (show mWhile tc m ρ = .no by unfold mWhile; rw [dif_neg hx]) ob.no
    obtain ⟨N, hN⟩ := hx
    rw [mWhile_eq (n := N) rfl hN] at ob
    refine ⟨fun k σ' H' => ∃ F ρ fp, Stt (gOf X) F H' σ' ρ fp ∧ ObS (gOf X) W ρ σ' F H' (Own fp) (whGo tc m k ρ) D, ⟨N, F, ρ, fp, st, ob⟩, fun k σ2 H2 hw => ?_⟩
    obtain ⟨F, ρ, fp, stt, ob2⟩ := hw
    cases k with
    | zero => exact absurd rfl ob2.no
    | succ k =>
      refine tS_of (D := D) (m := tc) (k := fun x ρ1 => if x = true then (match m ρ1 with
        | .nx ρ2 => whGo tc m k ρ2
        | .ct ρ2 => whGo tc m k ρ2
        | .bk ρ2 => .nx ρ2
        | r => r) else .nx ρ1) ⟨F, ρ, fp, stt, ob2⟩ fun x ρ3 v F3 H3 fp3 fr3 st3 r3 n3 ob3 => ?_
      obtain ⟨rfl, rfl⟩ := r3
      rw [plus_nil] at ob3
      cases v with
      | false =>
        rw [if_neg (by decide)] at ob3 ⊢
        exact ob3.nx ρ3 rfl σ2 F3 H3 fp3 (.refl _ _ _) st3 (.refl _ _)
      | true =>
        rw [if_pos rfl] at ob3 ⊢
        refine ⟨fun σ' H' => ∃ F ρ fp, Stt (gOf X) F H' σ' ρ fp ∧ ObS (gOf X) W ρ σ' F H' (Own fp) (whGo tc m k ρ) D, fun σ' H' hN => ⟨k, Nat.lt_succ_self k, hN⟩, F3, ρ3, fp3, st3, ?_⟩
        cases e5 : m ρ3 with
        | nx ρ5 =>
          rw [e5] at ob3
          exact ⟨fun z => (nomatch z), fun ρ' q σ' F' H' fp' s' st' k' => by cases q; exact ⟨F', ρ5, fp', st', ob3.after s' k'⟩, fun ρ' q => (nomatch q), fun ρ' q => (nomatch q), fun r ρ' q => (nomatch q), fun r ρ' q => (nomatch q)⟩
        | ct ρ5 =>
          rw [e5] at ob3
          exact ⟨fun z => (nomatch z), fun ρ' q => (nomatch q), fun ρ' q => (nomatch q), fun ρ' q σ' F' H' fp' s' st' k' => by cases q; exact ⟨F', ρ5, fp', st', ob3.after s' k'⟩, fun r ρ' q => (nomatch q), fun r ρ' q => (nomatch q)⟩
        | bk ρ5 =>
          rw [e5] at ob3
          exact ⟨fun z => (nomatch z), fun ρ' q => (nomatch q), fun ρ' q σ' F' H' fp' s' st' k' => by cases q; exact ob3.nx _ rfl σ' F' H' fp' s' st' k', fun ρ' q => (nomatch q), fun r ρ' q => (nomatch q), fun r ρ' q => (nomatch q)⟩
        | rt r ρ5 => rw [e5] at ob3; exact ⟨fun z => (nomatch z), fun ρ' q => (nomatch q), fun ρ' q => (nomatch q), fun ρ' q => (nomatch q), ob3.rt, ob3.ex⟩
        | ex x ρ5 => rw [e5] at ob3; exact ⟨fun z => (nomatch z), fun ρ' q => (nomatch q), fun ρ' q => (nomatch q), fun ρ' q => (nomatch q), ob3.rt, ob3.ex⟩
        | no => rw [e5] at ob3; exact absurd rfl ob3.no
end
end
end Mw

set_option Elab.async false
set_option linter.all false
set_option maxRecDepth 100000
set_option autoImplicit false
namespace Mw
open PySem PySem.Spec PyProof.Rows L2
noncomputable section

section
variable {X : Cx} {W : WX} {pos : Pos} {a b c tg : Expr} {es : List Expr} {ma mb mc : M} {ms : List M} {st : Stmt} {sts : List Stmt} {m n : MS} {tc : MB} {t : Tg} {ts : List Tg} {mi : MI}
/-! ### walked things -/
theorem pi_seq {tl : TE} (hl : PE X a tl) : PI X tg a (fun σ H R => tl σ H fun x H1 => (∃ p xs, x = .ref p ∧ SqL X.K H1 p xs ∧ R (Itl X.K p) H1) ∨ (∃ p xs, x = .ref p ∧ SqT X.K H1 p xs ∧ R (Itt X.K p) H1) ∨ ∃ z, x = .str z ∧ R (Its z) H1) := by
  refine ⟨fun pins s σ H R I h => ?_⟩
  refine thn (hl.run pins s σ H _ I h) fun v s1 ⟨x, H1, I1, r1, q1⟩ => ?_
  rcases q1 with ⟨p, xs, e, hq, q⟩ | ⟨p, xs, e, hq, q⟩ | ⟨z, e, q⟩
  · subst e
    cases r1
    obtain ⟨its, rv, pl, hz⟩ := I1.list hq
    refine wpAny_pyIter_list pl.isList ?_
    refine ⟨s1.heap.objs.size, [s1.heap.objs.size], _, _, H1, rfl, I1.kept (t' := s1.toks) fun b o e => Heap.get?_push_of_some _ e, turn_list p _, ⟨_, Heap.get?_push_size _ rfl, rfl, rfl⟩, fun b hb => ?_, q⟩
    have e : b = s1.heap.objs.size := by simpa using hb
    subst e
    exact I1.fpOk (Nat.le_refl _) (I1.hok.fresh (Nat.le_refl _))
  · subst e
    cases r1
    obtain ⟨its, rv, pl, hz⟩ := I1.tuple hq
    refine wpAny_pyIter_tuple (show s1.heap.IsTuple p its.toArray from pl) ?_
    refine ⟨s1.heap.objs.size, [s1.heap.objs.size], _, _, H1, rfl, I1.kept (t' := s1.toks) fun b o e => Heap.get?_push_of_some _ e, turn_tuple p _, ⟨_, Heap.get?_push_size _ rfl, rfl, rfl⟩, fun b hb => ?_, q⟩
    have e : b = s1.heap.objs.size := by simpa using hb
    subst e
    exact I1.fpOk (Nat.le_refl _) (I1.hok.fresh (Nat.le_refl _))
  · subst e
    obtain ⟨t, rfl⟩ := r1
    cases ha : z.cps.all (· < 128)
    · exact wpAny_pyIter_wide ha (pi_one (tk := s1.toks) I1 _ (turn_str _ z t "str_iterator" (.inr rfl)) ⟨_, Heap.get?_push_size _ rfl, rfl, rfl⟩ q)
    · exact wpAny_pyIter_ascii ha (pi_one (tk := s1.toks) I1 _ (turn_str _ z t "str_ascii_iterator" (.inl rfl)) ⟨_, Heap.get?_push_size _ rfl, rfl, rfl⟩ q)
/-- what is plain: its items -/
def R.its : R → Option (List D)
  | .d (.lst ds) => some ds
  | .d (.tup ds) => some ds
  | .d (.str s) => some (s.map fun c => .str [c])
  | .own (.lst os) => undO os
  | _ => none
@[simp] theorem R.its_l (ds : List D) : (R.d (.lst ds)).its = some ds := rfl
@[simp] theorem R.its_t (ds : List D) : (R.d (.tup ds)).its = some ds := rfl
@[simp] theorem R.its_o (ds : List D) : (R.own (.lst (ds.map O.d))).its = some ds := by simp [R.its]
def mIt (m : M) : MI := fun ρ => (m ρ).bind fun r ρ' q => match r.its with
  | some ds => .ok ds ρ' q
  | none => .no
theorem yields_list {g : Wd} {F : Hp} {p : Addr} {vs : List V} {ds : List D} (h : SqL g.K F p vs) (r : Reps g F vs ds) : Yields g F (Itl g.K p) ds := by
  intro i F2 H2 e1 e2
  have h2 := e2.sqL (e1.sqL h)
  refine ⟨fun e => ⟨vs, h2, by rw [e, r.length]; exact Nat.le_refl _⟩, fun d hd => ?_⟩
  obtain ⟨v, hv, rv⟩ := r.get hd
  refine ⟨⟨vs, v, h2, hv⟩, fun x H3 hy => ?_⟩
  obtain ⟨rfl, hy⟩ := hy
  have := hy vs h2
  rw [hv] at this; cases this
  exact ⟨F2, e2, .refl _, .refl _, fun a o h => .inl h, rv.mono e1⟩
theorem yields_tup {g : Wd} {F : Hp} {p : Addr} {vs : List V} {ds : List D} (h : SqT g.K F p vs) (r : Reps g F vs ds) : Yields g F (Itt g.K p) ds := by
  intro i F2 H2 e1 e2
  have h2 := e2.sqT (e1.sqT h)
  refine ⟨fun e => ⟨vs, h2, by rw [e, r.length]; exact Nat.le_refl _⟩, fun d hd => ?_⟩
  obtain ⟨v, hv, rv⟩ := r.get hd
  refine ⟨⟨vs, v, h2, hv⟩, fun x H3 hy => ?_⟩
  obtain ⟨rfl, hy⟩ := hy
  have := hy vs h2
  rw [hv] at this; cases this
  exact ⟨F2, e2, .refl _, .refl _, fun a o h => .inl h, rv.mono e1⟩
theorem yields_str {g : Wd} {F : Hp} {s : List Nat} : Yields g F (Its ⟨s.toArray⟩) (s.map fun c => .str [c]) := by
  have w := walk_str (z := ⟨s.toArray⟩)
  intro i F2 H2 e1 e2
  refine ⟨fun e => ?_, fun d hd => ?_⟩
  · have := w.stops H2 trivial
    rw [e, List.length_map]
    simpa using this
  · rw [List.getElem?_map] at hd
    cases hc : s[i]? with
    | none => rw [hc] at hd; cases hd
    | some c =>
      rw [hc] at hd; cases hd
      have hi : i < (⟨s.toArray⟩ : Str).cps.size := by
        have := (List.getElem?_eq_some_iff.mp hc).1
        simpa using this
      refine ⟨w.goes i H2 hi trivial, fun x H3 hy => ?_⟩
      obtain ⟨rfl, c', hc', rfl⟩ := w.yields i H2 x H3 hi trivial hy
      have : c' = c := by
        have h2 : s[i]? = some c' := by simpa using hc'
        rw [hc] at h2; cases h2; rfl
      subst this
      exact ⟨F2, e2, .refl _, .refl _, fun a o h => .inl h, .str (s := [c']) (by rw [sizeLine_eq]; show 1 ≤ 16777216; decide)⟩
theorem si_seq (ha : SE X W a ma) : SI X W tg a (mIt ma) := PI.wk (pi_seq ha) fun σ H R h => by
  refine tR.bind h fun F ρ fp st r ρ1 q1 e1 v F1 H1 fp1 fr1 s1 st1 r1 n1 z1 ob => ?_
  cases e : r.its with
  | none => rw [e] at ob; exact absurd rfl ob.1
  | some ds =>
    rw [e] at ob
    have fin : ∀ (J : It), fr1 = [] → Yields (gOf X) F1 J ds → R J H1 := fun J hf y => by
      subst hf
      exact ob.2.1 ds ρ1 q1 rfl J F1 H1 fp1 [] (by rw [plus_nil]; exact .refl _ _ _) st1 ⟨y, rfl⟩ n1 z1
    cases r with
    | d x =>
      cases x with
      | lst es =>
        cases e
        obtain ⟨hr, hf⟩ := r1
        cases hr with
        | lst h hl rr => exact .inl ⟨_, _, rfl, st1.sub.sqL h, fin _ hf (yields_list h rr)⟩
      | tup es =>
        cases e
        obtain ⟨hr, hf⟩ := r1
        cases hr with
        | tup h hl rr => exact .inr (.inl ⟨_, _, rfl, st1.sub.sqT h, fin _ hf (yields_tup h rr)⟩)
      | str s =>
        cases e
        obtain ⟨hr, hf⟩ := r1
        cases hr with
        | str h => exact .inr (.inr ⟨_, rfl, fin _ hf yields_str⟩)
      | _ => cases e
    | own o =>
      cases o with
      | lst os =>
        have o1 := RepR.out (r := .own (.lst os)) r1
        obtain ⟨p, vs, rfl, hp, hl, rr⟩ := RepR.ofOl (r := .own (.lst os)) r1 (ds := ds) e
        obtain ⟨hr, ho⟩ := r1
        cases hr with
        | @lst _ vs' _ fp' h hl' r' =>
          have hpm : p ∈ p :: fp' := by simp
          have st2 : Stt (gOf X) (frz F1 H1 (p :: fp')) H1 σ ρ1 fp1 := st1.grown (frz_ext st1.sub) (.refl _) (frz_sub st1.sub) fun a ha => by
            unfold frz
            rw [if_neg fun z => (o1 a z).2.1 ha]
            exact (st1.there ha).2
          refine .inl ⟨p, vs, rfl, .inl (.inl hp), ?_⟩
          refine ob.2.1 ds ρ1 q1 rfl _ (frz F1 H1 (p :: fp')) H1 fp1 [] ?_ st2 ⟨yields_list (.inl (.inl ((frz_mem hpm).trans hp))) (rr.mono (frz_ext st1.sub)), rfl⟩ List.nodup_nil z1
          rw [plus_nil]
          exact ⟨frz_ext st1.sub, fun a o _ h => h, fun a o h => (frz_new h).imp id fun z => .inl (.inr z), fun a h => .inl (.inl h)⟩
      | _ => cases e
    | pk o => cases e
variable {p : Pos}
def mRg1 (m : M) : MI := fun ρ => (m ρ).bind fun r ρ' q => match r with
  | .d (.int j) => if rgOk j = true then .ok ((List.range j.toNat).map fun (k : Nat) => D.int k) ρ' q else .no
  | _ => .no
theorem yields_rng {g : Wd} {F : Hp} {lo : Int} {n : Nat} : Yields g F (Itr lo n) ((List.range n).map fun (k : Nat) => D.int (lo + k)) := by
  intro i F2 H2 e1 e2
  refine ⟨fun e => by rw [e, List.length_map, List.length_range]; exact Nat.le_refl _, fun d hd => ?_⟩
  rw [List.getElem?_map] at hd
  cases hc : (List.range n)[i]? with
  | none => rw [hc] at hd; cases hd
  | some c =>
    rw [hc] at hd; cases hd
    obtain ⟨hi, e⟩ := List.getElem?_eq_some_iff.mp hc
    rw [List.length_range] at hi
    rw [List.getElem_range] at e
    subst e
    refine ⟨hi, fun x H3 hy => ?_⟩
    obtain ⟨rfl, rfl⟩ := hy
    exact ⟨F2, e2, .refl _, .refl _, fun a o h => .inl h, .int _⟩
theorem si_rg1 (hg : Gl X "range") (hm : X.mg "range" = none) (ha : SE X W a ma) (he : starEach [a] X.env = (false, eval a X.env) :: starEach [] X.env := by rfl) : SI X W tg (.Call (.Name "range" p) [a] [] pos) (mRg1 ma) := PI.wk (pi_range1 hg hm (pa_cons ha pa_nil he) he) fun σ H R h => by
  refine tR.bind h fun F ρ fp st r ρ1 q1 e1 v F1 H1 fp1 fr1 s1 st1 r1 n1 z1 ob => ?_
  show ∃ j : Int, [v] = [.int j] ∧ -(2 ^ 62) ≤ j ∧ j < 2 ^ 62 ∧ R (Itr 0 j.toNat) H1
  cases r with
  | d x =>
    cases x with
    | int j =>
      dsimp only at ob
      split at ob
      · next hj =>
        have hj := rgOk_iff hj
        obtain ⟨hr, rfl⟩ := r1
        cases hr
        refine ⟨j, rfl, by omega, by omega, ?_⟩
        have y := yields_rng (g := gOf X) (F := F1) (lo := 0) (n := j.toNat)
        simp only [Int.zero_add] at y
        exact ob.2.1 _ ρ1 q1 rfl _ F1 H1 fp1 [] (by rw [plus_nil]; exact .refl _ _ _) st1 ⟨y, rfl⟩ n1 z1
      · exact absurd rfl ob.1
    | _ => exact absurd rfl ob.1
  | _ => exact absurd rfl ob.1
def mRg2 (ma mb : M) : MI := fun ρ => (mArgs [ma, mb] ρ).bind fun rs ρ' q => match rs with
  | [.d (.int i), .d (.int j)] => if (rgOk i && rgOk j) = true then .ok ((List.range (j - i).toNat).map fun (k : Nat) => D.int (i + k)) ρ' q else .no
  | _ => .no
theorem si_rg2 (hg : Gl X "range") (hm : X.mg "range" = none) (ha : SE X W a ma) (hb : SE X W b mb) (he : starEach [a, b] X.env = [(false, eval a X.env), (false, eval b X.env)] := by rfl) (hs2 : starEach [b] X.env = [(false, eval b X.env)] := by rfl) :
    SI X W tg (.Call (.Name "range" p) [a, b] [] pos) (mRg2 ma mb) := PI.wk (pi_range2 hg hm (a_cons ha (a_cons hb a_nil hs2) (he.trans (by rw [hs2]))) he hs2) fun σ H R h => by
  refine tR.bind h fun F ρ fp st rs ρ1 q1 e1 vs F1 H1 fp1 fr1 s1 st1 r1 n1 z1 ob => ?_
  have key : ∀ i j, rs = [.d (.int i), .d (.int j)] → ∃ i j : Int, vs = [.int i, .int j] ∧ (-(2 ^ 62) ≤ i ∧ i < 2 ^ 62 ∧ -(2 ^ 62) ≤ j ∧ j < 2 ^ 62) ∧ R (Itr i (j - i).toNat) H1 := fun i j e => by
    subst e
    dsimp only at ob
    split at ob
    · next hj =>
      have hj := Bool.and_eq_true_iff.mp hj
      have hi := rgOk_iff hj.1
      have hj := rgOk_iff hj.2
      obtain ⟨v, w, f1, f2, rfl, rfl, h1, h2⟩ := r1.two
      obtain ⟨h1, rfl⟩ := h1
      obtain ⟨h2, rfl⟩ := h2
      cases h1; cases h2
      refine ⟨i, j, rfl, by omega, ?_⟩
      exact ob.2.1 _ ρ1 q1 rfl _ F1 H1 fp1 [] (by rw [plus_nil]; exact (Step.refl _ _ _).weak fun x h => .inl h) st1 ⟨yields_rng, rfl⟩ n1 z1
    · exact absurd rfl ob.1
  match rs with
  | [.d (.int i), .d (.int j)] => exact key i j rfl
  | [] => exact absurd rfl ob.1
  | [.d (.int i)] => exact absurd rfl ob.1
  | .d (.int i) :: .d (.int j) :: _ :: _ => exact absurd rfl ob.1
  | .d (.int i) :: .d .non :: _ => exact absurd rfl ob.1
  | .d (.int i) :: .d (.bl _) :: _ => exact absurd rfl ob.1
  | .d (.int i) :: .d (.str _) :: _ => exact absurd rfl ob.1
  | .d (.int i) :: .d (.tup _) :: _ => exact absurd rfl ob.1
  | .d (.int i) :: .d (.lst _) :: _ => exact absurd rfl ob.1
  | .d (.int i) :: .d (.obj _ _ _) :: _ => exact absurd rfl ob.1
  | .d (.int i) :: .own _ :: _ => exact absurd rfl ob.1
  | .d (.int i) :: .pk _ :: _ => exact absurd rfl ob.1
  | .d .non :: _ => exact absurd rfl ob.1
  | .d (.bl _) :: _ => exact absurd rfl ob.1
  | .d (.str _) :: _ => exact absurd rfl ob.1
  | .d (.tup _) :: _ => exact absurd rfl ob.1
  | .d (.lst _) :: _ => exact absurd rfl ob.1
  | .d (.obj _ _ _) :: _ => exact absurd rfl ob.1
  | .own _ :: _ => exact absurd rfl ob.1
  | .pk _ :: _ => exact absurd rfl ob.1

/-! ### an own name handed over, or frozen -/
def mv (i : Nat) : M := fun ρ => match ρ[i]? with
  | some (.shr d) => .ok (.d d) ρ true
  | some (.mu false o) => .ok (.own o) (ρ.set i .un) false
  | _ => .no
def fz (i : Nat) : M := fun ρ => match ρ[i]? with
  | some (.shr d) => .ok (.d d) ρ true
  | some (.mu false o) => if o.fz = true then .ok (.d o.toD) (ρ.set i (.shr o.toD)) false else .no
  | _ => .no
theorem tM_mv {g : Wd} {i : Nat} {σ : L2.St} {H : Hp} {Q : VK} (h : tM g W (mv i) σ H Q) : tVar i σ H Q := by
  obtain ⟨F, ρ, fp, st, ob⟩ := h
  cases e : ρ[i]? with
  | none => exact absurd (by unfold mv; rw [e]) ob.1
  | some x =>
    have hi : i < ρ.length := (List.getElem?_eq_some_iff.mp e).1
    cases x with
    | un => exact absurd (by unfold mv; rw [e]) ob.1
    | shr d =>
      obtain ⟨v, e1, r⟩ := st.shr i d e
      exact ⟨v, e1, ob.2.1 (.d d) ρ true (by unfold mv; rw [e]) v F H fp [] (by rw [plus_nil]; exact .refl _ _ _) st ⟨r, rfl⟩ List.nodup_nil ⟨.refl ρ, fun _ => ⟨.refl H, rfl⟩⟩⟩
    | mu b o =>
      cases b with
      | true => exact absurd (by unfold mv; rw [e]) ob.1
      | false =>
        obtain ⟨v, e1, r⟩ := st.mu i false o e
        obtain ⟨fp', st', k1, k2⟩ := st.drop i
        refine ⟨v, e1, ob.2.1 (.own o) (ρ.set i .un) false (by unfold mv; rw [e]) v F H fp' (fp i) ⟨.refl F, fun a o _ h => h, fun a o h => .inl h, fun a h => .inl (h.elim (k1 a) fun z => ⟨i, z⟩)⟩ st' ⟨r, fun a ha => ⟨st.fre i a ha, k2 hi a ha⟩⟩ (st.nd i) ⟨.set (by unfold isBor; rw [e]) _, fun z => nomatch z⟩⟩
theorem tM_fz {g : Wd} {i : Nat} {σ : L2.St} {H : Hp} {Q : VK} (h : tM g W (fz i) σ H Q) : tVar i σ H Q := by
  obtain ⟨F, ρ, fp, st, ob⟩ := h
  cases e : ρ[i]? with
  | none => exact absurd (by unfold fz; rw [e]) ob.1
  | some x =>
    have hi : i < ρ.length := (List.getElem?_eq_some_iff.mp e).1
    cases x with
    | un => exact absurd (by unfold fz; rw [e]) ob.1
    | shr d =>
      obtain ⟨v, e1, r⟩ := st.shr i d e
      exact ⟨v, e1, ob.2.1 (.d d) ρ true (by unfold fz; rw [e]) v F H fp [] (by rw [plus_nil]; exact .refl _ _ _) st ⟨r, rfl⟩ List.nodup_nil ⟨.refl ρ, fun _ => ⟨.refl H, rfl⟩⟩⟩
    | mu b o =>
      cases b with
      | true => exact absurd (by unfold fz; rw [e]) ob.1
      | false =>
        have he : fz i ρ = if o.fz = true then .ok (.d o.toD) (ρ.set i (.shr o.toD)) false else .no := by unfold fz; rw [e]
        by_cases hz : o.fz = true
        · rw [if_pos hz] at he
          obtain ⟨v, e1, r⟩ := st.mu i false o e
          obtain ⟨fp1, st1, k1, k2⟩ := st.drop i
          have r' : Rep g (frz F H (fp i)) v o.toD := r.freeze (frz_ext st.sub) hz fun a ha u q => (frz_mem ha).trans q
          have st2 : Stt g (frz F H (fp i)) H σ (ρ.set i .un) fp1 := st1.grown (frz_ext st.sub) (.refl _) (frz_sub st.sub) fun a ha => by
            unfold frz
            rw [if_neg fun z => k2 hi a z ha]
            exact (st1.there ha).2
          obtain ⟨fp3, st3, k3⟩ := st2.put i (s := .shr o.toD) (f := []) (v := v) ⟨r', rfl⟩ List.nodup_nil fun a ha => nomatch ha
          have es : (σ.set i (some v)) = σ := by
            apply List.ext_getElem?
            intro j
            rw [List.getElem?_set]
            split
            · next z =>
              subst z
              split
              · exact e1.symm
              · rw [List.getElem?_eq_none (by omega)]
            · rfl
          rw [es, List.set_set] at st3
          refine ⟨v, e1, ob.2.1 _ _ false he v (frz F H (fp i)) H fp3 [] ?_ st3 ⟨r', rfl⟩ List.nodup_nil ⟨.set (by unfold isBor; rw [e]) _, fun z => nomatch z⟩⟩
          rw [plus_nil]
          exact ⟨frz_ext st.sub, fun a o _ h => h, fun a o h => (frz_new h).imp id fun z => .inl ⟨i, z⟩, fun a h => .inl (k1 a ((k3 a h).elim id fun z => nomatch z))⟩
        · rw [if_neg hz] at he
          exact absurd he ob.1
theorem s_mv {i : Nat} {x : Str} (hN : X.N[i]? = some x) (hv : Vis X.env.scope x) (hd : (x == ("__debug__" : Str)) = false := by decide) (hcd : (x == ("__classdict__" : Str)) = false := by decide) : SE X W (.Name x pos) (mv i) :=
  PE.wk (pe_var hN hv hd hcd) fun σ H Q h => tM_mv h
theorem s_fz {i : Nat} {x : Str} (hN : X.N[i]? = some x) (hv : Vis X.env.scope x) (hd : (x == ("__debug__" : Str)) = false := by decide) (hcd : (x == ("__classdict__" : Str)) = false := by decide) : SE X W (.Name x pos) (fz i) :=
  PE.wk (pe_var hN hv hd hcd) fun σ H Q h => tM_fz h

/-! ### a list at a name is changed -/
end
/-- the object at an own place is changed in place -/
theorem Stt.chg {g : Wd} {F H H' : Hp} {σ : L2.St} {ρ : Ro} {fp : Nat → List Addr} (st : Stt g F H σ ρ fp) {i : Nat} {b : Bool} {o o' : O} (e : ρ[i]? = some (.mu b o)) {v : V} (ev : σ[i]? = some (some v)) {f : List Addr}
    (keep : ∀ a u, a ∉ fp i → H a = some u → H' a = some u) (r : RepO g F H' v o' f) (nd : f.Nodup) (fr : ∀ a ∈ f, a ∈ fp i ∨ H a = none) :
    ∃ fp', Stt g F H' σ (ρ.set i (.mu b o')) fp' ∧ Step F H (Own fp) F H' (Own fp') := by
  have hi : i < ρ.length := (List.getElem?_eq_some_iff.mp e).1
  have nf : ∀ a ∈ f, F a = none := fun a ha => by
    rcases fr a ha with z | z
    · exact st.fre i a z
    · exact fnone st.sub z
  have nj : ∀ j, j ≠ i → ∀ a ∈ f, a ∉ fp j := fun j hj a ha hb => by
    rcases fr a ha with z | z
    · exact hj (st.dis j i a hb z)
    · exact (st.there ⟨j, hb⟩).1 z
  have sub' : Ext F H' := fun a u h => keep a u (fun z => by rw [st.fre i a z] at h; cases h) (st.sub a u h)
  refine ⟨fun k => if k = i then f else fp k, ⟨sub', by simp [st.len], fun j hj => ?_, fun j d hd => ?_, fun j b' o1 ho => ?_, fun j => ?_, fun j k a ha hb => ?_, fun j a ha => ?_⟩, ⟨.refl F, fun a u hs h => keep a u (fun z => hs ⟨i, z⟩) h, fun a o h => .inl h, fun a ⟨j, ha⟩ => ?_⟩⟩
  · try dsimp only
    split
    · next z => subst z; exact absurd (by rw [List.getElem?_set]; simp [hi]) (hj b o')
    · next z => exact st.un j fun b o q => hj b o (by rw [List.getElem?_set, if_neg fun y => z y.symm]; exact q)
  · rcases set_get hd with ⟨rfl, z, _⟩ | ⟨ne, hd⟩
    · cases z
    · exact st.shr j d hd
  · rcases set_get ho with ⟨rfl, z, _⟩ | ⟨ne, ho⟩
    · cases z
      (try dsimp only); rw [if_pos rfl]; exact ⟨v, ev, r⟩
    · (try dsimp only); rw [if_neg fun z => ne z.symm]
      obtain ⟨w, ew, rw'⟩ := st.mu j b' o1 ho
      exact ⟨w, ew, rw'.mono (.refl F) fun a ha u h => keep a u (fun z => ne (st.dis i j a z ha)) h⟩
  · (try dsimp only); split
    · exact nd
    · exact st.nd j
  · try dsimp only at ha hb
    split at ha <;> split at hb
    · next e1 e2 => exact e1.trans e2.symm
    · next e1 e2 => exact absurd hb (nj k e2 a ha)
    · next e1 e2 => exact absurd ha (nj j e1 a hb)
    · exact st.dis j k a ha hb
  · try dsimp only at ha
    split at ha
    · exact nf a ha
    · exact st.fre j a ha
  · try dsimp only at ha
    split at ha
    · exact (fr a ha).imp (fun z => ⟨i, z⟩) id
    · exact .inl ⟨j, ha⟩
theorem Kb.chg {ρ : Ro} {i : Nat} {b : Bool} {o o' : O} (e : ρ[i]? = some (.mu b o)) : Kb ρ (ρ.set i (.mu b o')) := fun k u h => by
  by_cases hk : i = k
  · subst hk
    rw [e] at h; cases h
    exact ⟨o', by rw [List.getElem?_set]; simp [(List.getElem?_eq_some_iff.mp e).1]⟩
  · exact ⟨u, by rw [List.getElem?_set, if_neg hk]; exact h⟩
theorem Step.frz {F H : Hp} {S : Addr → Prop} {fr : List Addr} (s : Ext F H) : Step F H (Plus S fr) (frz F H fr) H S :=
  ⟨frz_ext s, fun a o _ h => h, fun a o h => (frz_new h).imp id fun z => .inl (.inr z), fun a h => .inl (.inl h)⟩
theorem Stt.frzd {g : Wd} {F H : Hp} {σ : L2.St} {ρ : Ro} {fp : Nat → List Addr} {fr : List Addr} (st : Stt g F H σ ρ fp) (h : ∀ a ∈ fr, ¬ Own fp a) : Stt g (frz F H fr) H σ ρ fp :=
  st.grown (frz_ext st.sub) (.refl _) (frz_sub st.sub) fun a ha => by
    unfold Mw.frz
    rw [if_neg fun z => h a z ha]
    exact (st.there ha).2
theorem RepOs.app1 {g : Wd} {F H : Hp} : ∀ {vs : List V} {os : List O} {fp : List Addr} {v : V} {x : D}, RepOs g F H vs os fp → Rep g F v x → RepOs g F H (vs ++ [v]) (os ++ [.d x]) fp
  | _, _, _, v, x, .nil, r => .cons (f := []) (fp := []) (.d r) .nil
  | _, _, _, v, x, .cons h t, r => .cons h (RepOs.app1 t r)
theorem RepOs.set1 {g : Wd} {F H : Hp} : ∀ {vs : List V} {os : List O} {fp : List Addr} {v : V} {x : D} (j : Nat), RepOs g F H vs os fp → Rep g F v x → ∃ fp', RepOs g F H (vs.set j v) (os.set j (.d x)) fp' ∧ List.Sublist fp' fp
  | _, _, _, v, x, j, .nil, r => ⟨[], .nil, List.Sublist.refl _⟩
  | _, _, _, v, x, 0, .cons (f := f) (fp := fp) h t, r => ⟨[] ++ fp, .cons (.d r) t, List.sublist_append_right f fp⟩
  | _, _, _, v, x, j + 1, .cons (f := f) (fp := fp) h t, r => by
    obtain ⟨fp', r', s⟩ := RepOs.set1 j t r
    exact ⟨f ++ fp', .cons h r', (List.Sublist.refl f).append s⟩
def isLst (ρ : Ro) (i : Nat) : Bool := match ρ[i]? with
  | some (.mu _ (.lst _)) => true
  | _ => false
/-- name.append(e): the place, a list, gets one more item -/
def pushAt (ρ : Ro) (i : Nat) (x : D) : Option Ro := match ρ[i]? with
  | some (.mu b (.lst os)) => if lenOk (os.length + 1) = true then some (ρ.set i (.mu b (.lst (os ++ [.d x])))) else none
  | _ => none
def mApp (i : Nat) (m : M) : M := fun ρ => if isLst ρ i = true then (m ρ).bind fun r ρ' _ => match r.st with
  | some x => match pushAt ρ' i x with
    | some ρ2 => .ok (.d .non) ρ2 false
    | none => .no
  | none => .no
  else .no
section
variable {X : Cx} {W : WX} {pos : Pos} {a b c tg : Expr} {es : List Expr} {ma mb mc : M} {ms : List M} {st : Stmt} {sts : List Stmt} {m n : MS} {tc : MB} {t : Tg} {ts : List Tg} {mi : MI} {p : Pos}
theorem s_append {i : Nat} {x : Str} {apos : Pos} (hN : X.N[i]? = some x) (hv : Vis X.env.scope x) (ha : SE X W a ma) (hd : (x == ("__debug__" : Str)) = false := by decide) (hcd : (x == ("__classdict__" : Str)) = false := by decide)
    (hbase : attributeBase (.Name x p) "append" X.env (eval (.Name x p) X.env) = eval (.Name x p) X.env := by rfl)
    (hfew : ((backTo pos (starEach (a :: []) X.env)).all (fun x => !x.1) && (backToKw pos (keywordEach [] X.env)).all (fun x => x.1.isSome)
      && decide ((a :: ([] : List Expr)).length + ([] : List Keyword).length + (if ([] : List Keyword).isEmpty then 0 else 1) < 30)) = true := by rfl)
    (hline : (apos.endLine == pos.line) = true := by rfl) (hs : starEach (a :: []) X.env = (false, eval a X.env) :: starEach [] X.env := by rfl) :
    SE X W (.Call (.Attribute (.Name x p) "append" apos) [a] [] pos) (mApp i ma) :=
  PE.wk (pe_bm PySem.F.plainAttrs_list PySem.F.slot_list_append PySem.F.type_list_append mt_append (pe_var hN hv hd hcd) (pa_cons ha pa_nil hs) hbase hfew hline hs rfl) fun σ H Q h => by
    obtain ⟨F, ρ, fp, st, ob⟩ := h
    have ob : Ob (gOf X) W σ F H (Own fp) (Zq H ρ) (RepR (gOf X)) (if isLst ρ i = true then _ else _) Q := ob
    by_cases hl : isLst ρ i = true
    · rw [if_pos hl] at ob
      obtain ⟨b, os, e⟩ : ∃ b os, ρ[i]? = some (.mu b (.lst os)) := by
        unfold isLst at hl
        split at hl
        · next b os e => exact ⟨b, os, e⟩
        · cases hl
      obtain ⟨v, ev, r⟩ := st.mu i b _ e
      obtain ⟨f0, hf0⟩ : ∃ f, f = fp i := ⟨_, rfl⟩
      rw [← hf0] at r
      refine ⟨v, ev, ?_, ?_⟩
      · cases r with
        | lst h hl r => exact .inl ⟨rfl, _, .inl (.inl h)⟩
      · show tM (gOf X) W ma σ H fun y H2 => rAppend v [y] H2 Q
        refine tR.bind (m := ma) (k := fun r ρ' _ => match r.st with
          | some x => match pushAt ρ' i x with
            | some ρ2 => .ok (.d .non) ρ2 false
            | none => .no
          | none => .no) (RR := RepR (gOf X)) (Q := Q) ⟨F, ρ, fp, st, ob⟩ fun F0 ρ0 fp0 st0 r0 ρ1 q1 e1 y F1 H1 fp1 fr1 s1 st1 r1 n1 z1 ob1 => ?_
        cases ex : r0.st with
        | none => rw [ex] at ob1; exact absurd rfl ob1.1
        | some x =>
          rw [ex] at ob1
          dsimp only at ob1
          unfold pushAt at ob1
          split at ob1
          · next ρ2 e2 =>
            split at e2
            · next b2 os2 e3 =>
              split at e2
              · next hlen =>
                have hlen := lenOk_le hlen
                cases e2
                obtain ⟨v2, ev2, r2⟩ := st1.mu i b2 _ e3
                rw [ev] at ev2; cases ev2
                obtain ⟨f1, hf1⟩ : ∃ f, f = fp1 i := ⟨_, rfl⟩
                have nd1 := st1.nd i
                rw [← hf1] at r2 nd1
                cases r2 with
                | @lst l vs2 _ fe h2 hl2 rs2 =>
                  have hne : ∀ a ∈ fe, a ≠ l := fun a ha z => (List.nodup_cons.mp nd1).1 (z ▸ ha)
                  have hlt : vs2.length < sizeLine := by rw [rs2.length, sizeLine_eq]; omega
                  have st2 := st1.frzd fun a ha => (r1.out a ha).2.1
                  have ry : Rep (gOf X) (frz F1 H1 fr1) y x := r1.st ex (frz_ext st1.sub) fun a ha => frz_mem ha
                  obtain ⟨fp3, st3, sp3⟩ := st2.chg (H' := upd H1 l (.lst (vs2 ++ [y]))) e3 ev (o' := .lst (os2 ++ [.d x])) (f := l :: fe) (fun a u ha hu => by
                    rw [upd_ne fun z => ha (by rw [← hf1, z]; simp)]; exact hu)
                    (.lst upd_same (by rw [List.length_append]; exact hlt) (RepOs.app1 (rs2.mono (frz_ext st1.sub) fun a ha u hu => by rw [upd_ne (hne a ha)]; exact hu) ry)) nd1 fun a ha => .inl (by rw [← hf1]; exact ha)
                  refine ⟨l, vs2, y, rfl, rfl, h2, hlt, ob1.2.1 (.d .non) _ false rfl .non _ _ fp3 [] ?_ st3 ⟨.non, rfl⟩ List.nodup_nil ⟨z1.1.trans (.chg e3), fun z => nomatch z⟩⟩
                  rw [plus_nil]
                  exact (Step.frz st1.sub).trans sp3
              · cases e2
            · cases e2
          · exact absurd rfl ob1.1
    · rw [if_neg hl] at ob; exact absurd rfl ob.1
/-- name[k] = e -/
def putAt (ρ : Ro) (i : Nat) (k : Int) (x : D) : Option Ro := match ρ[i]? with
  | some (.mu b (.lst os)) => match ixN os.length k with
    | some j => some (ρ.set i (.mu b (.lst (os.set j (.d x)))))
    | none => none
  | _ => none
def mPut (i : Nat) (mk me : M) : MS := fun ρ => if isLst ρ i = true then (mArgs [me, mInt mk] ρ).stm fun rs ρ' => match rs with
  | [r, .d (.int k)] => match r.st with
    | some x => match putAt ρ' i k x with
      | some ρ2 => .nx ρ2
      | none => .no
    | none => .no
  | _ => .no
  else .no
theorem Kbs.chg {ρ : Ro} {σ : L2.St} {i : Nat} {b : Bool} {o o' : O} (e : ρ[i]? = some (.mu b o)) : Kbs ρ σ (ρ.set i (.mu b o')) σ := fun k u h => ⟨Kb.chg e k u h, rfl⟩
theorem ss_put {i : Nat} {x : Str} {spos : Pos} (hN : X.N[i]? = some x) (hv : Vis X.env.scope x) (ha : SE X W a ma) (hb : SE X W b mb) (hd : (x == ("__debug__" : Str)) = false := by decide) (hcd : (x == ("__classdict__" : Str)) = false := by decide)
    (hA : ∀ v, assign (.Subscript (.Name x p) b spos) X.env v = (do
      let ov ← holding [v] (eval (.Name x p) X.env)
      let iv ← holding [v, ov] (eval b X.env)
      standAt spos
      holding [v, ov, iv] (setItem ov iv v)
      release [v, ov, iv] []) := by intro _; rfl)
    (hs : swapsWithSole [.Subscript (.Name x p) b spos] a pos.line X.env = pure false := by rfl) (hw : swappedStores [.Subscript (.Name x p) b spos] a X.env = pure none := by rfl) (h1 : (assignEach [.Subscript (.Name x p) b spos] X.env).map (·.2) = [assign (.Subscript (.Name x p) b spos) X.env] := by rfl) :
    SS X W (.Assign [.Subscript (.Name x p) b spos] a pos) (mPut i mb ma) :=
  PS.wk (ps_asg ha (pg_sub (pe_var hN hv hd hcd) hb set_list hA) hs hw h1) fun D σ H h => by
    obtain ⟨F, ρ, fp, st, ob⟩ := h
    have ob : ObS (gOf X) W ρ σ F H (Own fp) (if isLst ρ i = true then _ else _) D := ob
    by_cases hl : isLst ρ i = true
    · rw [if_pos hl] at ob
      obtain ⟨b, os, e⟩ : ∃ b os, ρ[i]? = some (.mu b (.lst os)) := by
        unfold isLst at hl
        split at hl
        · next b os e => exact ⟨b, os, e⟩
        · cases hl
      obtain ⟨v, ev, _⟩ := st.mu i b _ e
      have h2 : tA (gOf X) W [ma, mInt mb] σ H fun vs H2 => ∃ y k, vs = [y, .int k] ∧ rSetL v (.int k) y H2 fun H4 => D.nx σ H4 := by
        refine tS_of (m := mArgs [ma, mInt mb]) (k := fun rs ρ' => match rs with
          | [r, .d (.int k)] => match r.st with
            | some x => match putAt ρ' i k x with
              | some ρ2 => .nx ρ2
              | none => .no
            | none => .no
          | _ => .no) (D := D) ⟨F, ρ, fp, st, ob⟩ fun rs ρ1 vs F1 H1 fp1 fr1 st1 r1 n1 ob1 => ?_
        split at ob1
        · next r k =>
          obtain ⟨y, w, fa, fb, rfl, rfl, ra, rb⟩ := r1.two
          obtain ⟨rb, rfl⟩ := rb
          cases rb
          rw [List.append_nil] at ob1 n1
          refine ⟨y, k, rfl, ?_⟩
          split at ob1
          · next x ex =>
            unfold putAt at ob1
            split at ob1
            · next ρ2 e2 =>
              split at e2
              · next b2 os2 e3 =>
                split at e2
                · next j hj =>
                  cases e2
                  obtain ⟨v2, ev2, r2⟩ := st1.mu i b2 _ e3
                  rw [ev] at ev2; cases ev2
                  obtain ⟨f1, hf1⟩ : ∃ f, f = fp1 i := ⟨_, rfl⟩
                  have nd1 := st1.nd i
                  rw [← hf1] at r2 nd1
                  cases r2 with
                  | @lst l vs2 _ fe h2 hl2 rs2 =>
                    have hne : ∀ a ∈ fe, a ≠ l := fun a ha z => (List.nodup_cons.mp nd1).1 (z ▸ ha)
                    have st2 := st1.frzd fun a ha => (ra.out a ha).2.1
                    have ry : Rep (gOf X) (frz F1 H1 fa) y x := ra.st ex (frz_ext st1.sub) fun a ha => frz_mem ha
                    obtain ⟨fe', re', sb⟩ := RepOs.set1 j (rs2.mono (frz_ext st1.sub) (F' := frz F1 H1 fa) (H' := upd H1 l (.lst (vs2.set j y))) fun a ha u hu => by rw [upd_ne (hne a ha)]; exact hu) ry
                    obtain ⟨fp3, st3, sp3⟩ := st2.chg (H' := upd H1 l (.lst (vs2.set j y))) e3 ev (o' := .lst (os2.set j (.d x))) (f := l :: fe') (fun a u ha hu => by
                      rw [upd_ne fun z => ha (by rw [← hf1, z]; simp)]; exact hu)
                      (.lst upd_same (by rw [List.length_set]; exact hl2) re') (List.nodup_cons.mpr ⟨fun z => (List.nodup_cons.mp nd1).1 (sb.subset z), (List.nodup_cons.mp nd1).2.sublist sb⟩) fun a ha => .inl (by
                        rw [← hf1]
                        rcases List.mem_cons.mp ha with z | z
                        · rw [z]; simp
                        · exact List.mem_cons_of_mem _ (sb.subset z))
                    refine ⟨l, vs2, k, j, rfl, rfl, h2, by rw [rs2.length]; exact hj, ob1.nx _ rfl σ _ _ fp3 ?_ st3 (.chg e3)⟩
                    exact (Step.frz st1.sub).trans sp3
                · cases e2
              · cases e2
            · exact absurd rfl ob1.no
          · exact absurd rfl ob1.no
        · exact absurd rfl ob1.no
      refine (tA_cons h2).imp fun y H1 q => ⟨v, ev, (tM_int (tA_cons q)).imp fun z H2 ⟨k, e1, q⟩ => ?_⟩
      obtain ⟨y', k', e2, q⟩ := tA_nil q
      cases e2
      rw [e1]
      exact q
    · rw [if_neg hl] at ob; exact absurd rfl ob.no
end
end
end Mw

set_option Elab.async false
set_option linter.all false
set_option maxRecDepth 100000
set_option autoImplicit false
namespace Mw
open PySem PySem.Spec PyProof.Rows L2
noncomputable section

/-! ## defs -/
inductive FRes where
  | ok (r : R) (as : List Slo) | ex (x : Exc) (as : List Slo) | no
abbrev Fn := List Slo → FRes
def spF (g : Wd) (n : Nat) (f : Fn) : Sp := fun vs H Q E => vs.length = n ∧ ∃ F as fp, Stt g F H (vs.map some) as fp ∧ f as ≠ .no ∧
  (∀ r as', f as = .ok r as' → ∀ v F' H' fp' fr, Step F H (Own fp) F' H' (Plus (Own fp') fr) → Stt g F' H' (vs.map some) as' fp' → RepR g F' H' (Own fp') v r fr → fr.Nodup → r.isPk = false → Kb as as' → Q v H') ∧
  (∀ x as', f as = .ex x as' → ∀ cls d F' H' fp', Step F H (Own fp) F' H' (Own fp') → Stt g F' H' (vs.map some) as' fp' → RepX g F' cls d x → Kb as as' → E cls d H')
def keep : List Slo → Ro → List Slo
  | [], _ => []
  | .mu true _ :: as, s :: ρ => s :: keep as ρ
  | _ :: as, _ :: ρ => .un :: keep as ρ
  | _ :: as, [] => .un :: keep as []
def mkFn (n : Nat) (b : MS) : Fn := fun as => match b (as ++ List.replicate (n - as.length) .un) with
  | .nx ρ => .ok (.d .non) (keep as ρ)
  | .rt r ρ => if r.isPk = true then .no else .ok r (keep as ρ)
  | .ex x ρ => .ex x (keep as ρ)
  | _ => .no
theorem keep_len : ∀ (as : List Slo) (ρ : Ro), (keep as ρ).length = as.length
  | [], _ => rfl
  | .mu true _ :: as, s :: ρ => by simp [keep, keep_len as ρ]
  | .mu false _ :: as, s :: ρ => by simp [keep, keep_len as ρ]
  | .un :: as, s :: ρ => by simp [keep, keep_len as ρ]
  | .shr _ :: as, s :: ρ => by simp [keep, keep_len as ρ]
  | .mu true _ :: as, [] => by simp [keep, keep_len as []]
  | .mu false _ :: as, [] => by simp [keep, keep_len as []]
  | .un :: as, [] => by simp [keep, keep_len as []]
  | .shr _ :: as, [] => by simp [keep, keep_len as []]
theorem keep_get : ∀ (as : List Slo) (ρ : Ro) (k : Nat), (keep as ρ)[k]? = if isBor as k = true then some (ρ[k]?.getD .un) else if k < as.length then some .un else none
  | [], ρ, k => by simp [keep, isBor]
  | a :: as, [], 0 => by
    cases a with
    | mu b o => cases b <;> simp [keep, isBor]
    | un => simp [keep, isBor]
    | shr d => simp [keep, isBor]
  | a :: as, s :: ρ, 0 => by
    cases a with
    | mu b o => cases b <;> simp [keep, isBor]
    | un => simp [keep, isBor]
    | shr d => simp [keep, isBor]
  | a :: as, [], k + 1 => by
    have ih := keep_get as [] k
    have e : isBor (a :: as) (k + 1) = isBor as k := by unfold isBor; simp
    have e2 : (keep (a :: as) [])[k + 1]? = (keep as [])[k]? := by
      cases a with
      | mu b o => cases b <;> simp [keep]
      | un => simp [keep]
      | shr d => simp [keep]
    rw [e2, ih, e]
    simp
  | a :: as, s :: ρ, k + 1 => by
    have ih := keep_get as ρ k
    have e : isBor (a :: as) (k + 1) = isBor as k := by unfold isBor; simp
    have e2 : (keep (a :: as) (s :: ρ))[k + 1]? = (keep as ρ)[k]? := by
      cases a with
      | mu b o => cases b <;> simp [keep]
      | un => simp [keep]
      | shr d => simp [keep]
    rw [e2, ih, e]
    simp
theorem isBor_iff {ρ : Ro} {k : Nat} : isBor ρ k = true ↔ ∃ o, ρ[k]? = some (.mu true o) := by
  unfold isBor
  constructor
  · intro h
    split at h
    · next o e => exact ⟨o, e⟩
    · cases h
  · rintro ⟨o, e⟩; rw [e]
/-- the parameters behind the body -/
theorem Stt.keeps {g : Wd} {F H : Hp} {σ : L2.St} {ρ : Ro} {as : List Slo} {vs : List V} {fp : Nat → List Addr} (st : Stt g F H σ ρ fp) (hl : vs.length = as.length)
    (h0 : ∀ (k : Nat) (o : O), as[k]? = some (.mu true o) → (∃ o', ρ[k]? = some (.mu true o')) ∧ σ[k]? = (vs.map some)[k]?) :
    ∃ fp', Stt g F H (vs.map some) (keep as ρ) fp' ∧ (∀ a, Own fp' a → Own fp a) ∧ Kb as (keep as ρ) := by
  have kg := fun k => keep_get as ρ k
  have bor : ∀ {k : Nat} {s : Slo}, (keep as ρ)[k]? = some s → s ≠ .un → isBor as k = true ∧ ρ[k]? = some s := by
    intro k s h hs
    rw [kg] at h
    split at h
    · next hb =>
      obtain ⟨o, e⟩ := isBor_iff.mp hb
      obtain ⟨⟨o', e'⟩, _⟩ := h0 k o e
      rw [e'] at h ⊢
      exact ⟨hb, h⟩
    · split at h
      · cases h; exact absurd rfl hs
      · cases h
  refine ⟨fun k => if isBor as k = true then fp k else [], ⟨st.sub, by simp [keep_len, hl], fun k hk => ?_, fun k d hd => ?_, fun k b o ho => ?_, fun k => ?_, fun j k a ha hb => ?_, fun k a ha => ?_⟩, fun a ⟨k, ha⟩ => ?_, fun k o e => ?_⟩
  · (try dsimp only); split
    · next hb =>
      obtain ⟨o, e⟩ := isBor_iff.mp hb
      obtain ⟨⟨o', e'⟩, _⟩ := h0 k o e
      exact absurd (by rw [kg, if_pos hb, e']; rfl) (hk true o')
    · rfl
  · obtain ⟨hb, e⟩ := bor hd (by simp)
    obtain ⟨o, e1⟩ := isBor_iff.mp hb
    obtain ⟨⟨o', e'⟩, _⟩ := h0 k o e1
    rw [e] at e'; cases e'
  · obtain ⟨hb, e⟩ := bor ho (by simp)
    (try dsimp only); rw [if_pos hb]
    obtain ⟨o1, e1⟩ := isBor_iff.mp hb
    obtain ⟨_, e2⟩ := h0 k o1 e1
    rw [← e2]
    exact st.mu k b o e
  · (try dsimp only); split
    · exact st.nd k
    · exact List.nodup_nil
  · (try dsimp only at ha hb)
    split at ha
    · split at hb
      · exact st.dis j k a ha hb
      · cases hb
    · cases ha
  · (try dsimp only at ha)
    split at ha
    · exact st.fre k a ha
    · cases ha
  · (try dsimp only at ha)
    split at ha
    · exact ⟨k, ha⟩
    · cases ha
  · obtain ⟨⟨o', e'⟩, _⟩ := h0 k o e
    exact ⟨o', by rw [kg, if_pos (isBor_iff.mpr ⟨o, e⟩), e']; rfl⟩
theorem Stt.pad {g : Wd} {F H : Hp} {σ : L2.St} {ρ : Ro} {fp : Nat → List Addr} (st : Stt g F H σ ρ fp) (n : Nat) : Stt g F H (σ ++ List.replicate n none) (ρ ++ List.replicate n .un) fp := by
  have key : ∀ {i : Nat} {s : Slo}, (ρ ++ List.replicate n .un)[i]? = some s → s ≠ .un → ρ[i]? = some s := by
    intro i s h hs
    by_cases hi : i < ρ.length
    · rw [List.getElem?_append_left hi] at h; exact h
    · rw [List.getElem?_append_right (by omega), List.getElem?_replicate] at h
      split at h
      · cases h; exact absurd rfl hs
      · cases h
  have ks : ∀ {i : Nat} {w : Option V}, σ[i]? = some w → (σ ++ List.replicate n none)[i]? = some w := by
    intro i w h
    rw [List.getElem?_append_left (List.getElem?_eq_some_iff.mp h).1]; exact h
  refine ⟨st.sub, by simp [st.len], fun i h => st.un i fun b o e => h b o ?_, fun i d h => ?_, fun i b o h => ?_, st.nd, st.dis, st.fre⟩
  · rw [List.getElem?_append_left (List.getElem?_eq_some_iff.mp e).1]; exact e
  · exact (st.shr i d (key h (by simp))).imp fun v h => ⟨ks h.1, h.2⟩
  · exact (st.mu i b o (key h (by simp))).imp fun v h => ⟨ks h.1, h.2⟩
/-- A DEF KEEPS THE PROMISE OF ITS MEANING -/
theorem fn_ok {P : Program} {w : World} {K : PySem.W.Frag} {mg : Str → Option Value} {base : Heap} {x qual : Str} {st : Stmt} {f : Addr} {fd : FuncData} {N ps : List Str} {k : Nat} {b : MS} (F : L2.Fun K x qual st f fd) (S : FnScope N ps (defScope st))
    (hbody : ∀ (cdv : Value) (A : Around) (outer : List Env) (s : Shared) (H : Hp) (E : XK), Room k (A.deeper (envOfC qual (defScope st) s.heap.objs.size f cdv)) →
      SSs (cxOf (L2.CX P w) P w K mg base N qual (defScope st) f cdv A outer s H E) (fun c d _ H => E c d H) (defBody st) b) :
    FnOk P w K mg base (L2.CX P w) (k + 1) f fd ps (spF ⟨K, mg⟩ ps.length (mkFn N.length b)) := by
  have hpn : ps.length ≤ N.length := by have := congrArg List.length S.pre; rw [List.length_take] at this; omega
  refine Fun.okX F S (fun vs H Q E h => h.1) fun cdv A outer s H vs Q E hr h => ?_
  obtain ⟨hlen, F0, as, fp, stt, hno, hok, hex⟩ := h
  have hal : vs.length = as.length := by have := stt.len; simpa using this
  have hst : L2.start N vs = vs.map some ++ List.replicate (N.length - vs.length) none := rfl
  refine ⟨_, hbody cdv A outer s H E hr, F0, as ++ List.replicate (N.length - as.length) .un, fp, ?_, ?_⟩
  · rw [hst, hal]; exact stt.pad _
  · have fin : ∀ (ρ' : Ro) (σ' : L2.St) (F' H' : Hp) (fp' : Nat → List Addr), Stt ⟨K, mg⟩ F' H' σ' ρ' fp' → Kbs (as ++ List.replicate (N.length - as.length) .un) (L2.start N vs) ρ' σ' →
        ∃ fp2, Stt ⟨K, mg⟩ F' H' (vs.map some) (keep as ρ') fp2 ∧ (∀ a, Own fp2 a → Own fp' a) ∧ Kb as (keep as ρ') := by
      intro ρ' σ' F' H' fp' st' kb
      refine st'.keeps hal fun k o e => ?_
      have hk := (List.getElem?_eq_some_iff.mp e).1
      obtain ⟨h1, h2⟩ := kb k o (by rw [List.getElem?_append_left hk]; exact e)
      refine ⟨h1, h2.trans ?_⟩
      rw [hst, List.getElem?_append_left (by rw [List.length_map, hal]; exact hk)]
    unfold mkFn at hno hok hex
    refine ⟨fun e => hno (by rw [e]), fun ρ' e σ' F' H' fp' s' st' k' => ?_, fun ρ' e => absurd (by rw [e]) hno, fun ρ' e => absurd (by rw [e]) hno, fun r ρ' e v σ' F' H' fp' fr s' st' r' n' k' => ?_, fun x ρ' e cls d σ' F' H' fp' s' st' r' k' => ?_⟩
    all_goals rw [e] at hno hok hex
    · obtain ⟨fp2, h1, h2, h3⟩ := fin ρ' σ' F' H' fp' st' k'
      exact hok _ _ rfl .non F' H' fp2 [] (by rw [plus_nil]; exact s'.weak h2) h1 ⟨.non, rfl⟩ List.nodup_nil rfl h3
    · obtain ⟨fp2, h1, h2, h3⟩ := fin ρ' σ' F' H' fp' st' k'
      dsimp only at hno hok
      by_cases hp : r.isPk = true
      · rw [if_pos hp] at hno; exact absurd rfl hno
      · rw [if_neg hp] at hok
        refine hok _ _ rfl v F' H' fp2 fr (s'.weak fun x hx => hx.imp (h2 x) id) h1 ?_ n' (by simpa using hp) h3
        cases r with
        | d x => exact r'
        | own o => exact ⟨r'.1, fun a ha => ⟨(r'.2 a ha).1, fun z => (r'.2 a ha).2 (h2 a z)⟩⟩
        | pk o => exact r'
    · obtain ⟨fp2, h1, h2, h3⟩ := fin ρ' σ' F' H' fp' st' k'
      exact hex _ _ rfl cls d F' H' fp2 (s'.weak h2) h1 r' h3
end
end Mw

set_option Elab.async false
set_option linter.all false
set_option maxRecDepth 100000
set_option autoImplicit false
namespace Mw
open PySem PySem.Spec PyProof.Rows L2
noncomputable section

/-! ## calls of defs -/
theorem Stt.cons {g : Wd} {F H : Hp} {σ : L2.St} {ρ : Ro} {fp : Nat → List Addr} (st : Stt g F H σ ρ fp) {v : V} {s : Slo} {f : List Addr} (h : SlOk g F H v s f) (nd : f.Nodup) (out : ∀ a ∈ f, F a = none ∧ ¬ Own fp a) :
    ∃ fp', Stt g F H (some v :: σ) (s :: ρ) fp' ∧ (∀ a, Own fp' a ↔ Own fp a ∨ a ∈ f) := by
  refine ⟨fun k => match k with | 0 => f | k + 1 => fp k, ⟨st.sub, by simp [st.len], fun k hk => ?_, fun k d hd => ?_, fun k b o ho => ?_, fun k => ?_, fun j k a ha hb => ?_, fun k a ha => ?_⟩, fun a => ⟨fun ⟨k, ha⟩ => ?_, fun ha => ?_⟩⟩
  · cases k with
    | zero =>
      cases s with
      | un => exact h
      | shr d => exact h.2
      | mu b o => exact absurd rfl (hk b o)
    | succ k => exact st.un k fun b o e => hk b o (by simpa using e)
  · cases k with
    | zero => simp at hd; subst hd; exact ⟨v, rfl, h.1⟩
    | succ k => simpa using st.shr k d (by simpa using hd)
  · cases k with
    | zero => simp at ho; subst ho; exact ⟨v, rfl, h⟩
    | succ k => simpa using st.mu k b o (by simpa using ho)
  · cases k with
    | zero => exact nd
    | succ k => exact st.nd k
  · cases j with
    | zero =>
      cases k with
      | zero => rfl
      | succ k => exact absurd ⟨k, hb⟩ (out a ha).2
    | succ j =>
      cases k with
      | zero => exact absurd ⟨j, ha⟩ (out a hb).2
      | succ k => exact congrArg (· + 1) (st.dis j k a ha hb)
  · cases k with
    | zero => exact (out a ha).1
    | succ k => exact st.fre k a ha
  · cases k with
    | zero => exact .inr ha
    | succ k => exact .inl ⟨k, ha⟩
  · rcases ha with ⟨k, ha⟩ | ha
    · exact ⟨k + 1, ha⟩
    · exact ⟨0, ha⟩
theorem Stt.tail {g : Wd} {F H : Hp} {σ : L2.St} {ρ : Ro} {v : V} {s : Slo} {fp : Nat → List Addr} (st : Stt g F H (some v :: σ) (s :: ρ) fp) :
    SlOk g F H v s (fp 0) ∧ Stt g F H σ ρ (fun k => fp (k + 1)) ∧ (∀ a ∈ fp 0, ¬ Own (fun k => fp (k + 1)) a) := by
  refine ⟨?_, ⟨st.sub, by simpa using st.len, fun k hk => st.un (k + 1) fun b o e => hk b o (by simpa using e), fun k d hd => ?_, fun k b o ho => ?_, fun k => st.nd (k + 1), fun j k a ha hb => by simpa using st.dis (j + 1) (k + 1) a ha hb, fun k a ha => st.fre (k + 1) a ha⟩, fun a ha ⟨k, hb⟩ => ?_⟩
  · cases s with
    | un => exact st.un 0 fun b o e => by simp at e
    | shr d =>
      obtain ⟨w, e, r⟩ := st.shr 0 d rfl
      simp at e; subst e
      exact ⟨r, st.un 0 fun b o e => by simp at e⟩
    | mu b o =>
      obtain ⟨w, e, r⟩ := st.mu 0 b o rfl
      simp at e; subst e
      exact r
  · simpa using st.shr (k + 1) d (by simpa using hd)
  · simpa using st.mu (k + 1) b o (by simpa using ho)
  · have := st.dis 0 (k + 1) a ha hb
    omega

inductive Ar where
  | v (m : M) | b (i : Nat)
inductive Av where
  | r (r : R) | b (i : Nat)
def live (ρ : Ro) (i : Nat) : Bool := match ρ[i]? with
  | some (.mu _ _) => true
  | some (.shr _) => true
  | _ => false
def mArgB : List Ar → Ro → Res (List Av)
  | [], ρ => .ok [] ρ true
  | .v m :: as, ρ => (m ρ).bind fun r ρ1 q1 => (mArgB as ρ1).bind fun rs ρ2 q2 => if r.isPk = true then .no else .ok (.r r :: rs) ρ2 (q1 && q2)
  | .b i :: as, ρ => if live ρ i = true then (mArgB as ρ).bind fun rs ρ2 q2 => .ok (.b i :: rs) ρ2 q2 else .no
inductive RepAs (g : Wd) (σ : L2.St) (F H : Hp) (S : Addr → Prop) : List V → List Av → List Addr → Prop
  | nil : RepAs g σ F H S [] [] []
  | r {v : V} {vs : List V} {r : R} {rs : List Av} {f fr : List Addr} (h : RepR g F H S v r f) (hp : r.isPk = false) (t : RepAs g σ F H S vs rs fr) : RepAs g σ F H S (v :: vs) (.r r :: rs) (f ++ fr)
  | b {v : V} {vs : List V} {i : Nat} {rs : List Av} {fr : List Addr} (h : σ[i]? = some (some v)) (t : RepAs g σ F H S vs rs fr) : RepAs g σ F H S (v :: vs) (.b i :: rs) fr
def tB (g : Wd) (W : WX) (as : List Ar) : TA := fun σ H Q => tR g W (fun F H S vs rs fr => RepAs g σ F H S vs rs fr) (mArgB as) σ H Q
theorem RepAs.out {g : Wd} {σ : L2.St} {F H : Hp} {S : Addr → Prop} {vs : List V} {rs : List Av} {fr : List Addr} (h : RepAs g σ F H S vs rs fr) : ∀ a ∈ fr, F a = none ∧ ¬ S a ∧ H a ≠ none := by
  induction h with
  | nil => intro a ha; cases ha
  | r h hp t ih =>
    intro a ha
    rcases List.mem_append.mp ha with ha | ha
    · exact h.out a ha
    · exact ih a ha
  | b h t ih => exact ih
theorem tB_nil {g : Wd} {W : WX} {σ : L2.St} {H : Hp} {Q : List V → Hp → Prop} (h : tB g W [] σ H Q) : Q [] H := by
  obtain ⟨F, ρ, fp, st, ob⟩ := h
  exact ob.2.1 [] ρ true rfl [] F H fp [] (by rw [plus_nil]; exact .refl _ _ _) st .nil List.nodup_nil ⟨.refl ρ, fun _ => ⟨.refl H, rfl⟩⟩
theorem tB_v {g : Wd} {W : WX} {m : M} {as : List Ar} {σ : L2.St} {H : Hp} {Q : List V → Hp → Prop} (h : tB g W (.v m :: as) σ H Q) : tM g W m σ H fun x H1 => tB g W as σ H1 fun xs H2 => Q (x :: xs) H2 := by
  refine tR.bind h fun F ρ fp st r ρ1 q1 e1 v F1 H1 fp1 fr1 s1 st1 r1 n1 z1 ob => ⟨F1, ρ1, fp1, st1, ?_⟩
  refine ⟨fun e => ob.1 (by rw [e]; rfl), fun rs ρ2 q2 e vs F2 H2 fp2 fr2 s2 st2 r2 n2 z2 => ?_, fun x ρ' e cls d F' H' fp' a b c z => ?_⟩
  · rw [e] at ob
    by_cases hp : r.isPk = true
    · exact absurd (if_pos hp) ob.1
    · have hp' : r.isPk = false := by simpa using hp
      have hq : r.isPk = true → Ext H1 H2 := fun hk => absurd hk hp
      have o1' := (r1.keep s2 hq).out
      refine ob.2.1 (.r r :: rs) ρ2 (q1 && q2) (if_neg hp) (v :: vs) F2 H2 fp2 (fr1 ++ fr2) ((s2.frame fr1).weak fun x hx => ?_) st2 (.r (r1.keep (s2.weak fun x hx => .inl hx) hq) hp' r2) ?_ ⟨z1.1.trans z2.1, fun hz => ?_⟩
      · rcases hx with hx | hx
        · exact .inl (.inl hx)
        · rcases List.mem_append.mp hx with hx | hx
          · exact .inr hx
          · exact .inl (.inr hx)
      · exact List.nodup_append.mpr ⟨n1, n2, fun a ha b hb e => (o1' a ha).2.1 (.inr (e ▸ hb))⟩
      · have hz := Bool.and_eq_true_iff.mp hz
        exact ⟨(z1.2 hz.1).1.trans (z2.2 hz.2).1, (z2.2 hz.2).2.trans (z1.2 hz.1).2⟩
  · rw [e] at ob
    exact ob.2.2 x ρ' rfl cls d F' H' fp' ((a.frame fr1).weak fun x hx => .inl hx) b c ⟨z1.1.trans z.1, fun z => nomatch z⟩
theorem tB_b {g : Wd} {W : WX} {i : Nat} {as : List Ar} {σ : L2.St} {H : Hp} {Q : List V → Hp → Prop} (h : tB g W (.b i :: as) σ H Q) : tVar i σ H fun x H1 => tB g W as σ H1 fun xs H2 => Q (x :: xs) H2 := by
  obtain ⟨F, ρ, fp, st, ob⟩ := h
  have ob : Ob g W σ F H (Own fp) (Zq H ρ) _ (if live ρ i = true then (mArgB as ρ).bind fun rs ρ2 q2 => .ok (.b i :: rs) ρ2 q2 else .no) Q := ob
  by_cases hl : live ρ i = true
  · rw [if_pos hl] at ob
    obtain ⟨v, ev⟩ : ∃ v, σ[i]? = some (some v) := by
      unfold live at hl
      split at hl
      · next b o e => exact (st.mu i b o e).imp fun _ h => h.1
      · next d e => exact (st.shr i d e).imp fun _ h => h.1
      · cases hl
    refine ⟨v, ev, F, ρ, fp, st, ?_⟩
    refine ⟨fun e => ob.1 (by rw [e]; rfl), fun rs ρ2 q2 e vs F2 H2 fp2 fr2 s2 st2 r2 n2 z2 => ?_, fun x ρ' e cls d F' H' fp' a b c z => ?_⟩
    · rw [e] at ob
      exact ob.2.1 (.b i :: rs) ρ2 q2 rfl (v :: vs) F2 H2 fp2 fr2 s2 st2 (.b ev r2) n2 z2
    · rw [e] at ob
      exact ob.2.2 x ρ' rfl cls d F' H' fp' a b c z
  · rw [if_neg hl] at ob; exact absurd rfl ob.1
abbrev Loan := Option (Nat × Bool)
def lend : List Av → Ro → Option (List Slo × List Loan × Ro)
  | [], ρ => some ([], [], ρ)
  | .r r :: rs, ρ => match r.st, lend rs ρ with
    | some x, some (as, ls, ρ') => some (.shr x :: as, none :: ls, ρ')
    | _, _ => none
  | .b i :: rs, ρ => match ρ[i]? with
    | some (.shr d) => match lend rs ρ with
      | some (as, ls, ρ') => some (.shr d :: as, none :: ls, ρ')
      | none => none
    | some (.mu b o) => match lend rs (ρ.set i .un) with
      | some (as, ls, ρ') => some (.mu true o :: as, some (i, b) :: ls, ρ')
      | none => none
    | _ => none
def back : List Loan → List Slo → Ro → Ro
  | some (i, b) :: ls, .mu true o :: as, ρ => back ls as (ρ.set i (.mu b o))
  | _ :: ls, _ :: as, ρ => back ls as ρ
  | _, _, ρ => ρ
/-- loans: the places that were lent hold the values -/
inductive Lent (σ : L2.St) : List V → List Slo → List Loan → Prop
  | nil : Lent σ [] [] []
  | no {v : V} {vs : List V} {s : Slo} {as : List Slo} {ls : List Loan} (t : Lent σ vs as ls) : Lent σ (v :: vs) (s :: as) (none :: ls)
  | yes {v : V} {vs : List V} {o : O} {as : List Slo} {ls : List Loan} {i : Nat} {b : Bool} (h : σ[i]? = some (some v)) (t : Lent σ vs as ls) : Lent σ (v :: vs) (.mu true o :: as) (some (i, b) :: ls)
inductive RepAf (g : Wd) (σ : L2.St) (F : Hp) : List V → List Av → Prop
  | nil : RepAf g σ F [] []
  | r {v : V} {vs : List V} {r : R} {rs : List Av} (h : ∀ x, r.st = some x → Rep g F v x) (t : RepAf g σ F vs rs) : RepAf g σ F (v :: vs) (.r r :: rs)
  | b {v : V} {vs : List V} {i : Nat} {rs : List Av} (h : σ[i]? = some (some v)) (t : RepAf g σ F vs rs) : RepAf g σ F (v :: vs) (.b i :: rs)
theorem RepAs.frz {g : Wd} {σ : L2.St} {F H : Hp} {S : Addr → Prop} {vs : List V} {rs : List Av} {fr : List Addr} (h : RepAs g σ F H S vs rs fr) {F' : Hp} (e : Ext F F') (k : ∀ a ∈ fr, F' a = H a) : RepAf g σ F' vs rs := by
  induction h with
  | nil => exact .nil
  | r h hp t ih => exact .r (fun x ex => h.st ex e fun a ha => k a (by simp [ha])) (ih fun a ha => k a (by simp [ha]))
  | b h t ih => exact .b h (ih k)
theorem set_self {σ : L2.St} {i : Nat} {v : V} (e : σ[i]? = some (some v)) : σ.set i (some v) = σ := by
  apply List.ext_getElem?
  intro j
  rw [List.getElem?_set]
  split
  · next z =>
    subst z
    rw [if_pos (List.getElem?_eq_some_iff.mp e).1, e]
  · rfl
def lix (ls : List Loan) : List Nat := ls.filterMap fun l => l.map (·.1)
theorem mem_lix {ls : List Loan} {j : Nat} : j ∈ lix ls ↔ ∃ b, some (j, b) ∈ ls := by
  unfold lix
  rw [List.mem_filterMap]
  constructor
  · rintro ⟨l, h, e⟩
    cases l with
    | none => cases e
    | some p => cases e; exact ⟨p.2, h⟩
  · rintro ⟨b, h⟩; exact ⟨_, h, rfl⟩
theorem lend_ok {g : Wd} {σ : L2.St} {F H : Hp} : ∀ {rs : List Av} {vs : List V} {ρ : Ro} {fp : Nat → List Addr} {as : List Slo} {ls : List Loan} {ρu : Ro}, Stt g F H σ ρ fp → RepAf g σ F vs rs → lend rs ρ = some (as, ls, ρu) →
    ∃ fpc fpu, Stt g F H (vs.map some) as fpc ∧ Stt g F H σ ρu fpu ∧ (∀ a, Own fpu a → Own fp a) ∧ (∀ a, Own fpc a → Own fp a) ∧ (∀ a, Own fpu a → ¬ Own fpc a) ∧ Lent σ vs as ls ∧
      (ls.all Option.isNone = true → ρu = ρ ∧ ∀ a, ¬ Own fpc a) ∧ (∀ (j : Nat) (o : O), ρ[j]? = some (.mu true o) → ρu[j]? = some (.mu true o) ∨ some (j, true) ∈ ls) ∧ (lix ls).Nodup ∧ (∀ (i : Nat) (b : Bool), some (i, b) ∈ ls → ∃ o, ρ[i]? = some (.mu b o))
  | [], _, ρ, fp, _, _, _, st, .nil, e => by
    cases e
    refine ⟨fun _ => [], fp, ⟨st.sub, rfl, fun _ _ => rfl, fun i d h => by simp at h, fun i b o h => by simp at h, fun _ => List.nodup_nil, (fun _ _ _ h => nomatch h), (fun _ _ h => nomatch h)⟩, st, fun _ h => h, (fun a ⟨_, h⟩ => nomatch h), (fun a _ ⟨_, h⟩ => nomatch h), .nil, (fun _ => ⟨rfl, (fun a ⟨_, h⟩ => nomatch h)⟩), (fun j o h => .inl h), List.nodup_nil, (fun i b h => nomatch h)⟩
  | .r r :: rs, _, ρ, fp, _, _, _, st, .r (v := v) (vs := vs) h t, e => by
    unfold lend at e
    split at e
    · next x as ls ρ' e1 e2 =>
      cases e
      obtain ⟨fpc, fpu, c1, c2, c3, c4, c5, c6, c7, c8, c9, c10⟩ := lend_ok st t e2
      obtain ⟨fpc', d1, d2⟩ := c1.cons (s := .shr x) (f := []) ⟨h x e1, rfl⟩ List.nodup_nil fun a ha => nomatch ha
      have d3 : ∀ a, Own fpc' a → Own fpc a := fun a ha => ((d2 a).mp ha).elim id fun z => nomatch z
      exact ⟨fpc', fpu, d1, c2, c3, fun a ha => c4 a (d3 a ha), fun a ha hb => c5 a ha (d3 a hb), .no c6, fun hn => ⟨(c7 (by simpa using hn)).1, fun a ha => (c7 (by simpa using hn)).2 a (d3 a ha)⟩, fun j o h => (c8 j o h).imp id fun z => List.mem_cons_of_mem _ z, c9, fun i b h => c10 i b (by simpa using h)⟩
    · cases e
  | .b i :: rs, _, ρ, fp, _, _, _, st, .b (v := v) (vs := vs) h t, e => by
    unfold lend at e
    split at e
    · next d e1 =>
      split at e
      · next as ls ρ' e2 =>
        cases e
        obtain ⟨fpc, fpu, c1, c2, c3, c4, c5, c6, c7, c8, c9, c10⟩ := lend_ok st t e2
        obtain ⟨w, ew, rw'⟩ := st.shr i d e1
        rw [h] at ew; cases ew
        obtain ⟨fpc', d1, d2⟩ := c1.cons (s := .shr d) (f := []) ⟨rw', rfl⟩ List.nodup_nil fun a ha => nomatch ha
        have d3 : ∀ a, Own fpc' a → Own fpc a := fun a ha => ((d2 a).mp ha).elim id fun z => nomatch z
        exact ⟨fpc', fpu, d1, c2, c3, fun a ha => c4 a (d3 a ha), fun a ha hb => c5 a ha (d3 a hb), .no c6, fun hn => ⟨(c7 (by simpa using hn)).1, fun a ha => (c7 (by simpa using hn)).2 a (d3 a ha)⟩, fun j o h => (c8 j o h).imp id fun z => List.mem_cons_of_mem _ z, c9, fun i b h => c10 i b (by simpa using h)⟩
      · cases e
    · next b o e1 =>
      split at e
      · next as ls ρ' e2 =>
        cases e
        have hi : i < ρ.length := (List.getElem?_eq_some_iff.mp e1).1
        obtain ⟨w, ew, rw'⟩ := st.mu i b o e1
        rw [h] at ew; cases ew
        obtain ⟨fp1, st1, k1, k2⟩ := st.drop i
        obtain ⟨fpc, fpu, c1, c2, c3, c4, c5, c6, c7, c8, c9, c10⟩ := lend_ok st1 t e2
        obtain ⟨fpc', d1, d2⟩ := c1.cons (s := .mu true o) (f := fp i) rw' (st.nd i) fun a ha => ⟨st.fre i a ha, fun z => k2 hi a ha (c4 a z)⟩
        refine ⟨fpc', fpu, d1, c2, fun a ha => k1 a (c3 a ha), fun a ha => ?_, fun a ha hb => ?_, .yes h c6, fun hn => absurd hn (by simp), fun j o' h' => ?_, ?_, fun j b' h' => ?_⟩
        · rcases (d2 a).mp ha with z | z
          · exact k1 a (c4 a z)
          · exact ⟨i, z⟩
        · rcases (d2 a).mp hb with z | z
          · exact c5 a ha z
          · exact k2 hi a z (c3 a ha)
        · by_cases hj : i = j
          · subst hj
            rw [e1] at h'; cases h'
            exact .inr (by simp)
          · exact (c8 j o' (by rw [List.getElem?_set, if_neg hj]; exact h')).imp id fun z => List.mem_cons_of_mem _ z
        · show (i :: lix ls).Nodup
          refine List.nodup_cons.mpr ⟨fun z => ?_, c9⟩
          obtain ⟨b', z⟩ := mem_lix.mp z
          obtain ⟨o', z⟩ := c10 i b' z
          rw [List.getElem?_set] at z
          simp [hi] at z
        · rcases List.mem_cons.mp h' with z | z
          · cases z; exact ⟨o, e1⟩
          · obtain ⟨o', q⟩ := c10 j b' z
            rw [List.getElem?_set] at q
            split at q
            · first
                | cases q; done
                | (split at q <;> cases q)
            · exact ⟨o', q⟩
      · cases e
    · cases e
theorem back_ok {g : Wd} {σ : L2.St} {F H : Hp} : ∀ {vs : List V} {as as' : List Slo} {ls : List Loan} {ρu : Ro} {fpu fpc : Nat → List Addr}, Lent σ vs as ls → Stt g F H σ ρu fpu → Stt g F H (vs.map some) as' fpc → (∀ a, Own fpu a → ¬ Own fpc a) → Kb as as' → (lix ls).Nodup →
    (∃ fp2, Stt g F H σ (back ls as' ρu) fp2 ∧ (∀ a, Own fp2 a → Own fpu a ∨ Own fpc a)) ∧ (∀ (j : Nat), j ∉ lix ls → (back ls as' ρu)[j]? = ρu[j]?) ∧ (∀ (j : Nat), j < ρu.length → some (j, true) ∈ ls → ∃ o, (back ls as' ρu)[j]? = some (.mu true o))
  | _, _, as', _, ρu, fpu, fpc, .nil, st, sc, dj, kb, nd => ⟨⟨fpu, by cases as' <;> exact st, fun a h => .inl h⟩, fun j h => by cases as' <;> rfl, (fun j _ h => nomatch h)⟩
  | _, _, [], _, ρu, fpu, fpc, .no t, st, sc, dj, kb, nd => by have := sc.len; simp at this
  | _, _, [], _, ρu, fpu, fpc, .yes h t, st, sc, dj, kb, nd => by have := sc.len; simp at this
  | _, _, s' :: as', _, ρu, fpu, fpc, .no (as := as) (ls := ls) t, st, sc, dj, kb, nd => by
    obtain ⟨h1, h2, h3⟩ := Stt.tail sc
    have e : back (none :: ls) (s' :: as') ρu = back ls as' ρu := by cases s' <;> rfl
    rw [e]
    have ih := back_ok t st h2 (fun a ha ⟨k, hb⟩ => dj a ha ⟨k + 1, hb⟩) (fun k o q => by simpa using kb (k + 1) o (by simpa using q)) nd
    obtain ⟨⟨fp2, a1, a2⟩, a3, a4⟩ := ih
    exact ⟨⟨fp2, a1, fun a ha => (a2 a ha).imp id fun ⟨k, z⟩ => ⟨k + 1, z⟩⟩, a3, fun j hj hm => a4 j hj (by simpa using hm)⟩
  | _, _, s' :: as', _, ρu, fpu, fpc, .yes (as := as) (ls := ls) (i := i) (b := b) h t, st, sc, dj, kb, nd => by
    obtain ⟨o', eo⟩ := kb 0 _ rfl
    simp at eo
    subst eo
    have nd : (i :: lix ls).Nodup := nd
    obtain ⟨h1, h2, h3⟩ := Stt.tail sc
    obtain ⟨fp1, st1, k1⟩ := st.put (v := _) i (s := .mu b o') (f := fpc 0) h1 (sc.nd 0) fun a ha => ⟨sc.fre 0 a ha, fun z => dj a z ⟨0, ha⟩⟩
    rw [set_self h] at st1
    have dj1 : ∀ a, Own fp1 a → ¬ Own (fun k => fpc (k + 1)) a := fun a ha ⟨k, hb⟩ => by
      rcases k1 a ha with z | z
      · exact dj a z ⟨k + 1, hb⟩
      · exact h3 a z ⟨k, hb⟩
    have ih := back_ok t st1 h2 dj1 (fun k o q => by simpa using kb (k + 1) o (by simpa using q)) (List.nodup_cons.mp nd).2
    obtain ⟨⟨fp2, a1, a2⟩, a3, a4⟩ := ih
    have hi : i < ρu.length := by rw [← st.len]; exact (List.getElem?_eq_some_iff.mp h).1
    refine ⟨⟨fp2, a1, fun a ha => ?_⟩, fun j hj => ?_, fun j hj hm => ?_⟩
    · rcases a2 a ha with z | ⟨k, z⟩
      · rcases k1 a z with z | z
        · exact .inl z
        · exact .inr ⟨0, z⟩
      · exact .inr ⟨k + 1, z⟩
    · have hj : j ∉ i :: lix ls := hj
      have := a3 j fun z => hj (List.mem_cons_of_mem _ z)
      refine this.trans ?_
      rw [List.getElem?_set, if_neg fun z => hj (by simp [z])]
    · rcases List.mem_cons.mp hm with z | z
      · cases z
        exact ⟨o', (a3 i (List.nodup_cons.mp nd).1).trans (by rw [List.getElem?_set]; simp [hi])⟩
      · exact a4 j (by simpa using hj) z

def mCall (f : Fn) (args : List Ar) : M := fun ρ => (mArgB args ρ).bind fun rs ρ1 q => match lend rs ρ1 with
  | none => .no
  | some (as, ls, ρu) => match f as with
    | .ok r as' => .ok r (back ls as' ρu) (q && ls.all Option.isNone)
    | .ex x as' => .ex x (back ls as' ρu)
    | .no => .no
theorem Stt.framed {g : Wd} {F H F' H' : Hp} {σ : L2.St} {ρ : Ro} {fp : Nat → List Addr} {S S' : Addr → Prop} (st : Stt g F H σ ρ fp) (s : Step F H S F' H' S') (sub : Ext F' H') (d : ∀ a, Own fp a → ¬ S a) : Stt g F' H' σ ρ fp :=
  ⟨sub, st.len, st.un, fun i x h => (st.shr i x h).imp fun v h => ⟨h.1, h.2.mono s.ext⟩, fun i b o h => (st.mu i b o h).imp fun v h => ⟨h.1, h.2.mono s.ext fun a ha u e => s.keep a u (d a ⟨i, ha⟩) e⟩, st.nd, st.dis, fun i a ha => by
    cases q : F' a with
    | none => rfl
    | some u =>
      rcases s.new a u q with z | z | z
      · rw [st.fre i a ha] at z; cases z
      · exact absurd z (d a ⟨i, ha⟩)
      · exact absurd z (st.there ⟨i, ha⟩).1⟩
theorem tM_call {g : Wd} {W : WX} {n : Nat} {f : Fn} {args : List Ar} {σ : L2.St} {H : Hp} {Q : VK} (hn : args.length = n) (h : tM g W (mCall f args) σ H Q) : tB g W args σ H fun vs H1 => spF g n f vs H1 Q (WE W σ) := by
  have alen : ∀ (as : List Ar) (ρ : Ro) {rs : List Av} {ρ1 : Ro} {q : Bool}, mArgB as ρ = .ok rs ρ1 q → rs.length = as.length := by
    intro as
    induction as with
    | nil => intro ρ rs ρ1 q e; cases e; rfl
    | cons a as ih =>
      intro ρ rs ρ1 q e
      cases a with
      | v m =>
        unfold mArgB at e
        cases e1 : m ρ with
        | no => rw [e1] at e; cases e
        | ex x ρ' => rw [e1] at e; cases e
        | ok r ρ' q' =>
          rw [e1] at e
          simp only [Res.bind_ok] at e
          cases e2 : mArgB as ρ' with
          | no => rw [e2] at e; cases e
          | ex x ρ'' => rw [e2] at e; cases e
          | ok rs' ρ'' q'' =>
            rw [e2] at e
            simp only [Res.bind_ok] at e
            split at e
            · cases e
            · cases e; simp [ih _ e2]
      | b i =>
        unfold mArgB at e
        split at e
        · cases e2 : mArgB as ρ with
          | no => rw [e2] at e; cases e
          | ex x ρ'' => rw [e2] at e; cases e
          | ok rs' ρ'' q'' => rw [e2] at e; cases e; simp [ih _ e2]
        · cases e
  have vlen : ∀ {F H : Hp} {S : Addr → Prop} {vs : List V} {rs : List Av} {fr : List Addr}, RepAs g σ F H S vs rs fr → vs.length = rs.length := by
    intro F H S vs rs fr h
    induction h with
    | nil => rfl
    | r h hp t ih => simp [ih]
    | b h t ih => simp [ih]
  refine tR.bind h fun F ρ fp st rs ρ1 q1 e1 vs F1 H1 fp1 fr1 s1 st1 r1 n1 z1 ob => ?_
  refine ⟨(vlen r1).trans ((alen _ _ e1).trans hn), ?_⟩
  cases el : lend rs ρ1 with
  | none => rw [el] at ob; exact absurd rfl ob.1
  | some p =>
    obtain ⟨as, ls, ρu⟩ := p
    rw [el] at ob
    dsimp only at ob
    have st2 := st1.frzd fun a ha => (r1.out a ha).2.1
    obtain ⟨fpc, fpu, c1, c2, c3, c4, c5, c6, c7, c8, c9, c10⟩ := lend_ok st2 (r1.frz (frz_ext st1.sub) fun a ha => frz_mem ha) el
    have after : ∀ {as' : List Slo} {F' H' : Hp} {fp' : Nat → List Addr} {fr : List Addr}, Step (frz F1 H1 fr1) H1 (Own fpc) F' H' (Plus (Own fp') fr) → Stt g F' H' (vs.map some) as' fp' → Kb as as' →
        ∃ fp2, Stt g F' H' σ (back ls as' ρu) fp2 ∧ (∀ a, Own fp2 a → Own fpu a ∨ Own fp' a) ∧ Kb ρ1 (back ls as' ρu) ∧ Step F1 H1 (Plus (Own fp1) fr1) F' H' (Plus (Own fp2) fr) := by
      intro as' F' H' fp' fr s' sc' kb
      have su := c2.framed s' sc'.sub c5
      obtain ⟨⟨fp2, a1, a2⟩, a3, a4⟩ := back_ok c6 su sc' (fun a ha hb => by
        rcases s'.fre a (.inl hb) with z | z
        · exact c5 a ha z
        · exact (c2.there ha).1 z) kb c9
      refine ⟨fp2, a1, a2, fun j o h => ?_, ?_⟩
      · have hj : j < ρu.length := by rw [← c2.len, st1.len]; exact (List.getElem?_eq_some_iff.mp h).1
        by_cases hm : j ∈ lix ls
        · obtain ⟨b, hb⟩ := mem_lix.mp hm
          obtain ⟨o', ho'⟩ := c10 j b hb
          rw [h] at ho'; cases ho'
          exact a4 j hj hb
        · rcases c8 j o h with z | z
          · exact ⟨o, (a3 j hm).trans z⟩
          · exact a4 j hj z
      · refine (Step.frz st1.sub).trans ⟨s'.ext, fun a u hs hh => s'.keep a u (fun z => hs (c4 a z)) hh, fun a u hh => (s'.new a u hh).imp id fun z => z.imp (c4 a) id, fun a hh => ?_⟩
        rcases hh with hh | hh
        · rcases a2 a hh with z | z
          · exact .inl (c3 a z)
          · exact (s'.fre a (.inl z)).imp (c4 a) id
        · exact (s'.fre a (.inr hh)).imp (c4 a) id
    refine ⟨frz F1 H1 fr1, as, fpc, c1, fun e => ob.1 (by rw [e]), fun r as' e v F' H' fp' fr s' sc' r' n' hp kb => ?_, fun x as' e cls d F' H' fp' s' sc' r' kb => ?_⟩
    · rw [e] at ob
      obtain ⟨fp2, b1, b2, b3, b4⟩ := after s' sc' kb
      refine ob.2.1 r _ _ rfl v F' H' fp2 fr b4 b1 ?_ n' ⟨z1.1.trans b3, fun hq => ?_⟩
      · cases r with
        | d x => exact r'
        | own o =>
          refine ⟨r'.1, fun a ha => ⟨(r'.2 a ha).1, fun z => ?_⟩⟩
          rcases b2 a z with w | w
          · rcases s'.fre a (.inr ha) with y | y
            · exact c5 a w y
            · exact (c2.there w).1 y
          · exact (r'.2 a ha).2 w
        | pk o => exact r'
      · have hq := Bool.and_eq_true_iff.mp hq
        obtain ⟨h1, h2⟩ := c7 hq.2
        refine ⟨(z1.2 hq.1).1.trans fun a u hh => s'.keep a u (h2 a) hh, ?_⟩
        have hb : ∀ (ls : List Loan) (as' : List Slo) (ρ : Ro), ls.all Option.isNone = true → back ls as' ρ = ρ := by
          intro ls
          induction ls with
          | nil => intro as' ρ _; cases as' <;> rfl
          | cons l ls ih =>
            intro as' ρ hl
            cases l with
            | some p => simp at hl
            | none =>
              cases as' with
              | nil => rfl
              | cons s as' => rw [show back (none :: ls) (s :: as') ρ = back ls as' ρ by cases s <;> rfl]; exact ih as' ρ (by simpa using hl)
        rw [hb ls as' ρu hq.2, h1]
        exact (z1.2 hq.1).2
    · rw [e] at ob
      obtain ⟨fp2, b1, b2, b3, b4⟩ := after (fr := []) (by rw [plus_nil]; exact s') sc' kb
      rw [plus_nil] at b4
      exact ob.2.2 x _ rfl cls d F' H' fp2 b4 b1 r' ⟨z1.1.trans b3, fun z => nomatch z⟩

section
variable {X : Cx} {W : WX} {pos : Pos} {a b c : Expr} {es : List Expr} {ma mb mc : M} {as : List Ar} {x : Str} {p : Pos}
abbrev SB (X : Cx) (W : WX) (es : List Expr) (as : List Ar) : Prop := PA X es (tB (gOf X) W as)
theorem b_nil : SB X W [] [] := PA.wk pa_nil fun σ H Q h => tB_nil h
theorem b_v (ha : SE X W a ma) (hr : SB X W es as) (hs : starEach (a :: es) X.env = (false, eval a X.env) :: starEach es X.env := by rfl) : SB X W (a :: es) (.v ma :: as) := PA.wk (pa_cons ha hr hs) fun σ H Q h => tB_v h
theorem b_b {i : Nat} (hN : X.N[i]? = some x) (hv : Vis X.env.scope x) (hr : SB X W es as) (hs : starEach (.Name x p :: es) X.env = (false, eval (.Name x p) X.env) :: starEach es X.env := by rfl) (hd : (x == ("__debug__" : Str)) = false := by decide) (hcd : (x == ("__classdict__" : Str)) = false := by decide) :
    SB X W (.Name x p :: es) (.b i :: as) := PA.wk (pa_cons (pe_var hN hv hd hcd) hr hs) fun σ H Q h => tB_b h
/-- a def that stands at a name of the module and keeps a meaning's promise -/
structure Kp (P : Program) (w : World) (K : PySem.W.Frag) (mg : Str → Option Value) (base : Heap) (k : Nat) (x : Str) (n : Nat) (f : Fn) : Prop where
  ex : ∃ fa fd ps, FnOk P w K mg base (L2.CX P w) k fa fd ps (spF ⟨K, mg⟩ n f) ∧ Binds K fd ps [] ∧ mg x = some (.ref fa) ∧ PySem.W.keepIn K (.ref fa) = true
theorem Kp.mono {P : Program} {w : World} {K : PySem.W.Frag} {mg : Str → Option Value} {base : Heap} {j k : Nat} {x : Str} {n : Nat} {f : Fn} (h : Kp P w K mg base j x n f) (l : j ≤ k) : Kp P w K mg base k x n f := by
  obtain ⟨fa, fd, ps, h1, h2⟩ := h.ex
  exact ⟨fa, fd, ps, h1.mono l, h2⟩
theorem s_call {k n : Nat} {f : Fn} (G : Kp X.prog X.w X.K X.mg X.base k x n f) (hr : Room k X.A) (hg : Gl X x) (tk : Takes X W) (ha : SB X W (a :: es) as) (hn : as.length = n := by rfl)
    (hdb : (x == ("__debug__" : Str)) = false := by decide) (he : starEach (a :: es) X.env = (false, eval a X.env) :: starEach es X.env := by rfl) (hpl : (backTo pos (starEach es X.env)).any (·.1) = false := by rfl) :
    SE X W (.Call (.Name x p) (a :: es) [] pos) (mCall f as) := by
  obtain ⟨fa, fd, ps, h1, h2, h3, h4⟩ := G.ex
  exact PE.wk (pe_callSD (E := WE W) (dvs := []) (ds := []) h1 hr hg h3 h4 h2 .nil (fun σ => passAt tk σ) ha hdb he hpl) fun σ H Q h => (tM_call hn h).imp fun vs H1 q => by rw [List.append_nil]; exact q
end
end
end Mw

set_option Elab.async false
set_option linter.all false
set_option maxRecDepth 100000
set_option autoImplicit false
namespace Mw
open PySem PySem.Spec PyProof.Rows L2
noncomputable section
/-! ## comparisons as tests -/
def CmpB (X : Cx) (op : CmpOp) (f : R → R → Option R) : Prop := ∃ r, OpR X (compareOp op) r ∧ LOk2 (gOf X) f r
section
variable {X : Cx} {W : WX} {pos : Pos} {a b : Expr} {ma mb : M} {op : CmpOp} {f : R → R → Option R}
theorem st_cmp (h : CmpB X op f) (ha : SE X W a ma) (hb : SE X W b mb) (hm : behindInMarks op b = false) : ST X W (.Compare a [op] [b] pos) (mTest (m2 f ma mb)) := by
  obtain ⟨r, h1, h2⟩ := h
  exact PT.wk (pt_cmpR h1 ha hb hm) fun σ H Q h => tM_m2 h2 (tM_test h)
theorem cb_lt : CmpB X .Lt lLt := ⟨_, op_lt, l_I0 fun i j d e F => by cases e; exact .bl _⟩
theorem cb_le : CmpB X .LtE lLe := ⟨_, op_le, l_I0 fun i j d e F => by cases e; exact .bl _⟩
theorem cb_gt : CmpB X .Gt lGt := ⟨_, op_gt, l_I0 fun i j d e F => by cases e; exact .bl _⟩
theorem cb_ge : CmpB X .GtE lGe := ⟨_, op_ge, l_I0 fun i j d e F => by cases e; exact .bl _⟩
theorem cb_eq (hu : X.A.units + 64 < cLine) : CmpB X .Eq lEq := ⟨_, op_eq.or (op_eqD hu), l_eq⟩
theorem cb_ne (hu : X.A.units + 64 < cLine) : CmpB X .NotEq lNe := ⟨_, op_ne.or (op_neD hu), l_ne⟩
theorem cb_in (hu : X.A.units + 65 < cLine) : CmpB X .In lIn := ⟨_, op_in_sign.or (op_in_seq.or (op_inD hu)), l_inA false⟩
theorem cb_notin (hu : X.A.units + 65 < cLine) : CmpB X .NotIn lNotIn := ⟨_, op_notIn_sign.or (op_notIn_seq.or (op_notInD hu)), l_inA true⟩
theorem cb_isN : CmpB X .Is lIsN := ⟨_, op_isN, by
  intro F H S x y p q f1 f2 Q rx ry l
  obtain ⟨rr, e⟩ := l.has
  have e0 := e
  unfold lIsN at e
  split at e
  · next i e1 e2 =>
    cases e
    refine ⟨ry.non e2, ?_⟩
    rw [rep_non (rx.whole l.sub e1)]
    exact l.val e0 (.bl _)
  · cases e⟩
theorem cb_notN : CmpB X .IsNot lNotN := ⟨_, op_notN, by
  intro F H S x y p q f1 f2 Q rx ry l
  obtain ⟨rr, e⟩ := l.has
  have e0 := e
  unfold lNotN at e
  split at e
  · next i e1 e2 =>
    cases e
    refine ⟨ry.non e2, ?_⟩
    rw [rep_non (rx.whole l.sub e1)]
    exact l.val e0 (.bl _)
  · cases e⟩
end
/-! ## the ends -/
structure Cst (K : PySem.W.Frag) (mg : Str → Option Value) (x : Str) (d : D) : Prop where
  ex : ∃ v u, mg x = some u ∧ RelV v u ∧ ∀ F, Rep ⟨K, mg⟩ F v d
theorem Cst.int {K : PySem.W.Frag} {mg : Str → Option Value} {x : Str} {i : Int} {t : Tok} (h : mg x = some (.int i t)) : Cst K mg x (.int i) := ⟨⟨.int i, _, h, ⟨_, rfl⟩, fun F => .int i⟩⟩
theorem Cst.str {K : PySem.W.Frag} {mg : Str → Option Value} {x : Str} {z : Str} {t : Tok} {s : List Nat} (h : mg x = some (.str z t)) (e : z.cps.toList = s) (hl : s.length ≤ sizeLine) : Cst K mg x (.str s) :=
  ⟨⟨.str z, _, h, ⟨_, rfl⟩, fun F => rep_str e hl⟩⟩
section
variable {X : Cx} {W : WX} {pos : Pos} {x : Str} {d : D}
theorem s_cst (hg : Gl X x) (h : Cst X.K X.mg x d) (hd : (x == ("__debug__" : Str)) = false := by decide) : SE X W (.Name x pos) (mC d) := by
  obtain ⟨v, u, h1, h2, h3⟩ := h.ex
  exact s_glob hg h1 h2 h3 hd
theorem hu65 {A : Around} {k : Nat} (hr : Room k A) : A.units + 65 < cLine := by have := hr.un; omega
end
theorem fn_no {P : Program} {w : World} {K : PySem.W.Frag} {mg : Str → Option Value} {base : Heap} {k : Nat} {f : Addr} {fd : FuncData} {ps : List Str} : FnOk P w K mg base (L2.CX P w) k f fd ps (spF ⟨K, mg⟩ ps.length fun _ => .no) :=
  ⟨fun vs H Q E h => h.1, fun A outer s H args us vs Q E hr e0 hb r h => by
    obtain ⟨_, F, as, fp, st, hno, _⟩ := h
    exact absurd rfl hno⟩
/-- the law's own end -/
def spLaw (K : PySem.W.Frag) : Sp := fun vs H Q E => ∃ (a : Addr) (ns : List Int), vs = [.ref a] ∧ SqL K H a (ns.map V.int) ∧ ns.length ≤ 63 ∧ ∀ H', Q (.bl true) H'
theorem Reps.ints {g : Wd} {F : Hp} : ∀ ns : List Int, Reps g F (ns.map V.int) (ns.map D.int)
  | [] => .nil
  | n :: ns => .cons (.int n) (Reps.ints ns)
theorem fn_law {P : Program} {w : World} {K : PySem.W.Frag} {mg : Str → Option Value} {base : Heap} {k : Nat} {fa : Addr} {fd : FuncData} {p : Str} {f : Fn} (h : FnOk P w K mg base (L2.CX P w) k fa fd [p] (spF ⟨K, mg⟩ 1 f))
    (law : ∀ ns : List Int, ns.length ≤ 63 → ∃ as, f [.shr (.lst (ns.map D.int))] = .ok (.d (.bl true)) as) : FnOk P w K mg base (L2.CX P w) k fa fd [p] (spLaw K) :=
  h.imp (fun vs H Q E ⟨a, ns, e, hs, hl, q⟩ => by
    subst e
    obtain ⟨as', e⟩ := law ns hl
    refine ⟨rfl, fun b => if b = a then H a else none, [.shr (.lst (ns.map D.int))], fun _ => [], ⟨fun b o h => ?_, rfl, fun _ _ => rfl, fun i d h => ?_, fun i b o h => ?_, fun _ => List.nodup_nil, (fun _ _ _ h => nomatch h), (fun _ _ h => nomatch h)⟩, ?_, fun r as2 e2 v F' H' fp' fr s st' rr nd hp kb => ?_, fun x as2 e2 => ?_⟩
    · split at h
      · next z => subst z; exact h
      · cases h
    · cases i with
      | zero =>
        simp at h; subst h
        refine ⟨.ref a, rfl, .lst (vs := ns.map V.int) ?_ (by rw [List.length_map]; exact Nat.le_trans hl (by rw [sizeLine_eq]; decide)) (Reps.ints ns)⟩
        rcases hs with (hs | ⟨o, hs⟩) | hs
        · exact .inl (.inl ((if_pos rfl).trans hs))
        · exact .inl (.inr ⟨o, (if_pos rfl).trans hs⟩)
        · exact .inr hs
      | succ i => simp at h
    · cases i with
      | zero => simp at h
      | succ i => simp at h
    · rw [e]; simp
    · rw [e] at e2; cases e2
      obtain ⟨rr, _⟩ := rr
      cases rr
      exact q H'
    · rw [e] at e2; cases e2)
end
end Mw

set_option Elab.async false
set_option linter.all false
set_option maxRecDepth 100000
set_option autoImplicit false
namespace Mw
open PySem PySem.Spec PyProof.Rows L2
noncomputable section

/-! ## running meanings: first what stands first -/
def Slo.bor : Slo → Bool
  | .mu true _ => true
  | _ => false
@[simp] theorem bor_un : Slo.bor .un = false := rfl
@[simp] theorem bor_shr (d : D) : Slo.bor (.shr d) = false := rfl
@[simp] theorem bor_mu (b : Bool) (o : O) : Slo.bor (.mu b o) = b := by cases b <;> rfl
@[simp] theorem isBor_nil (n : Nat) : isBor [] n = false := rfl
@[simp] theorem isBor_0 (s : Slo) (ρ : Ro) : isBor (s :: ρ) 0 = s.bor := by
  cases s with
  | mu b o => cases b <;> rfl
  | _ => rfl
@[simp] theorem isBor_s (s : Slo) (ρ : Ro) (n : Nat) : isBor (s :: ρ) (n + 1) = isBor ρ n := rfl
@[simp] theorem isLst_0 (b : Bool) (os : List O) (ρ : Ro) : isLst (.mu b (.lst os) :: ρ) 0 = true := rfl
@[simp] theorem isLst_s (s : Slo) (ρ : Ro) (n : Nat) : isLst (s :: ρ) (n + 1) = isLst ρ n := rfl
@[simp] theorem live_mu (b : Bool) (o : O) (ρ : Ro) : live (.mu b o :: ρ) 0 = true := rfl
@[simp] theorem live_shr (d : D) (ρ : Ro) : live (.shr d :: ρ) 0 = true := rfl
@[simp] theorem live_s (s : Slo) (ρ : Ro) (n : Nat) : live (s :: ρ) (n + 1) = live ρ n := rfl
theorem pushAt_0 (b : Bool) (os : List O) (ρ : Ro) (x : D) : pushAt (.mu b (.lst os) :: ρ) 0 x = if lenOk (os.length + 1) = true then some (.mu b (.lst (os ++ [.d x])) :: ρ) else none := rfl
theorem pushAt_s (s : Slo) (ρ : Ro) (n : Nat) (x : D) : pushAt (s :: ρ) (n + 1) x = (pushAt ρ n x).map (s :: ·) := by
  unfold pushAt
  simp only [List.getElem?_cons_succ, List.set_cons_succ]
  cases ρ[n]? with
  | none => rfl
  | some t =>
    cases t with
    | mu b o =>
      cases o with
      | lst os => dsimp only; split <;> rfl
      | _ => rfl
    | _ => rfl
theorem putAt_0 (b : Bool) (os : List O) (ρ : Ro) (k : Int) (x : D) : putAt (.mu b (.lst os) :: ρ) 0 k x = (L2.ixN os.length k).map fun j => .mu b (.lst (os.set j (.d x))) :: ρ := by
  unfold putAt
  simp only [List.getElem?_cons_zero]
  cases L2.ixN os.length k <;> rfl
theorem putAt_s (s : Slo) (ρ : Ro) (n : Nat) (k : Int) (x : D) : putAt (s :: ρ) (n + 1) k x = (putAt ρ n k x).map (s :: ·) := by
  unfold putAt
  simp only [List.getElem?_cons_succ, List.set_cons_succ]
  cases ρ[n]? with
  | none => rfl
  | some t =>
    cases t with
    | mu b o =>
      cases o with
      | lst os => dsimp only; split <;> rfl
      | _ => rfl
    | _ => rfl
/-! ## running meanings -/
section
variable (s₀ : Slo) (ρ₀ : Ro) (a b c : M) (ms : List M)
@[simp] theorem ev_C (d : D) : mC d (s₀ :: ρ₀) = .ok (.d d) (s₀ :: ρ₀) true := rfl
theorem ev_nm (i : Nat) : nm i (s₀ :: ρ₀) = match (s₀ :: ρ₀)[i]? with
  | some (.shr d) => .ok (.d d) (s₀ :: ρ₀) true
  | some (.mu _ o) => .ok (.pk o) (s₀ :: ρ₀) true
  | _ => .no := rfl
theorem ev_fz (i : Nat) : fz i (s₀ :: ρ₀) = match (s₀ :: ρ₀)[i]? with
  | some (.shr d) => .ok (.d d) (s₀ :: ρ₀) true
  | some (.mu false o) => if o.fz = true then .ok (.d o.toD) ((s₀ :: ρ₀).set i (.shr o.toD)) false else .no
  | _ => .no := rfl
theorem ev_mv (i : Nat) : mv i (s₀ :: ρ₀) = match (s₀ :: ρ₀)[i]? with
  | some (.shr d) => .ok (.d d) (s₀ :: ρ₀) true
  | some (.mu false o) => .ok (.own o) ((s₀ :: ρ₀).set i .un) false
  | _ => .no := rfl
def pkq (r : R) (q : Bool) : Bool := r.isPk && !q
@[simp] theorem pkq_d (d : D) (q : Bool) : pkq (.d d) q = false := rfl
@[simp] theorem pkq_own (o : O) (q : Bool) : pkq (.own o) q = false := rfl
@[simp] theorem pkq_t (r : R) : pkq r true = false := by simp [pkq]
@[simp] theorem pkq_pk (o : O) (q : Bool) : pkq (.pk o) q = !q := by simp [pkq]
theorem ev_m2 (f : R → R → Option R) : m2 f a b (s₀ :: ρ₀) = (a (s₀ :: ρ₀)).bind fun x ρ1 q1 => (b ρ1).bind fun y ρ2 q2 => if pkq x q2 = true then .no else match f x y with
    | some r => .ok r ρ2 (q1 && q2)
    | none => .no := by
  unfold m2 mOps mArgs mArgs mArgs pkq
  cases a (s₀ :: ρ₀) with
  | no => rfl
  | ex x ρ1 => rfl
  | ok x ρ1 q1 =>
    simp only [Res.bind_ok]
    cases b ρ1 with
    | no => rfl
    | ex x ρ1 => rfl
    | ok y ρ2 q2 =>
      simp only [Res.bind_ok, Bool.not_true, Bool.and_false, Bool.false_eq_true, if_false, Bool.and_true]
      split
      · rfl
      · rfl
theorem ev_m1 (f : R → Option R) : m1 f a (s₀ :: ρ₀) = (a (s₀ :: ρ₀)).bind fun x ρ1 q1 => match f x with
    | some r => .ok r ρ1 q1
    | none => .no := by
  unfold m1 mOps mArgs mArgs
  cases a (s₀ :: ρ₀) with
  | no => rfl
  | ex x ρ1 => rfl
  | ok x ρ1 q1 => (simp only [Res.bind_ok, Bool.not_true, Bool.and_false, Bool.false_eq_true, if_false, Bool.and_true]) <;> rfl
theorem ev_mInt : mInt a (s₀ :: ρ₀) = (a (s₀ :: ρ₀)).bind fun r ρ' q => match r with
  | .d (.int i) => .ok (.d (.int i)) ρ' q
  | _ => .no := rfl
theorem ev_mTest : mTest a (s₀ :: ρ₀) = (a (s₀ :: ρ₀)).bind fun r ρ' q => match r with
  | .d (.bl b) => .ok b ρ' q
  | _ => .no := rfl
theorem ev_mAnd (a b : MB) : mAnd a b (s₀ :: ρ₀) = (a (s₀ :: ρ₀)).bind fun x ρ1 q1 => if x = true then (b ρ1).bind fun y ρ2 q2 => .ok y ρ2 (q1 && q2) else .ok false ρ1 q1 := rfl
theorem ev_mOr (a b : MB) : mOr a b (s₀ :: ρ₀) = (a (s₀ :: ρ₀)).bind fun x ρ1 q1 => if x = true then .ok true ρ1 q1 else (b ρ1).bind fun y ρ2 q2 => .ok y ρ2 (q1 && q2) := rfl
theorem ev_mNot (a : MB) : mNot a (s₀ :: ρ₀) = (a (s₀ :: ρ₀)).bind fun x ρ1 q1 => .ok (!x) ρ1 q1 := rfl
theorem ev_mAndV : mAndV a b (s₀ :: ρ₀) = (a (s₀ :: ρ₀)).bind fun x ρ1 q1 => match x with
  | .d (.bl true) => (b ρ1).bind fun y ρ2 q2 => .ok y ρ2 (q1 && q2)
  | .d (.bl false) => .ok (.d (.bl false)) ρ1 q1
  | _ => .no := rfl
theorem ev_mOrV : mOrV a b (s₀ :: ρ₀) = (a (s₀ :: ρ₀)).bind fun x ρ1 q1 => match x with
  | .d (.bl false) => (b ρ1).bind fun y ρ2 q2 => .ok y ρ2 (q1 && q2)
  | .d (.bl true) => .ok (.d (.bl true)) ρ1 q1
  | _ => .no := rfl
theorem ev_args0 : mArgs [] (s₀ :: ρ₀) = .ok [] (s₀ :: ρ₀) true := rfl
theorem ev_args : mArgs (a :: ms) (s₀ :: ρ₀) = (a (s₀ :: ρ₀)).bind fun r ρ1 q1 => (mArgs ms ρ1).bind fun rs ρ2 q2 => if pkq r q2 = true then .no else .ok (r :: rs) ρ2 (q1 && q2) := rfl
theorem ev_mLst : mLst ms (s₀ :: ρ₀) = (mArgs ms (s₀ :: ρ₀)).bind fun rs ρ' q => match sts rs with
  | some ds => if lenOk ds.length = true then .ok (.own (.lst (ds.map O.d))) ρ' q else .no
  | none => .no := by
  unfold mLst mOps
  cases mArgs ms (s₀ :: ρ₀) with
  | no => rfl
  | ex x ρ1 => rfl
  | ok x ρ1 q1 =>
    simp only [Res.bind_ok]
    cases sts x with
    | none => rfl
    | some ds => dsimp only; split <;> simp_all
theorem ev_mTup : mTup ms (s₀ :: ρ₀) = (mArgs ms (s₀ :: ρ₀)).bind fun rs ρ' q => match sts rs with
  | some ds => if lenOk ds.length = true then .ok (.d (.tup ds)) ρ' q else .no
  | none => .no := by
  unfold mTup mOps
  cases mArgs ms (s₀ :: ρ₀) with
  | no => rfl
  | ex x ρ1 => rfl
  | ok x ρ1 q1 =>
    simp only [Res.bind_ok]
    cases sts x with
    | none => rfl
    | some ds => dsimp only; split <;> simp_all
@[simp] theorem sts_nil : sts [] = some [] := rfl
theorem sts_cons (r : R) (rs : List R) : sts (r :: rs) = match r.st, sts rs with
    | some x, some xs => some (x :: xs)
    | _, _ => none := rfl
theorem ev_sl00 : mSl a none none (s₀ :: ρ₀) = (mArgs [a] (s₀ :: ρ₀)).bind fun rs ρ' q => match (match rs with | [p] => lSl p none none | _ => none) with
    | some r => .ok r ρ' q
    | none => .no := rfl
theorem ev_sl10 : mSl a (some b) none (s₀ :: ρ₀) = (mArgs [a, mInt b] (s₀ :: ρ₀)).bind fun rs ρ' q => match (match rs with | [p, .d (.int i)] => lSl p (some i) none | _ => none) with
    | some r => .ok r ρ' q
    | none => .no := rfl
theorem ev_sl01 : mSl a none (some b) (s₀ :: ρ₀) = (mArgs [a, mInt b] (s₀ :: ρ₀)).bind fun rs ρ' q => match (match rs with | [p, .d (.int i)] => lSl p none (some i) | _ => none) with
    | some r => .ok r ρ' q
    | none => .no := rfl
theorem ev_sl11 : mSl a (some b) (some c) (s₀ :: ρ₀) = (mArgs [a, mInt b, mInt c] (s₀ :: ρ₀)).bind fun rs ρ' q => match (match rs with | [p, .d (.int i), .d (.int j)] => lSl p (some i) (some j) | _ => none) with
    | some r => .ok r ρ' q
    | none => .no := rfl
theorem ev_set (i : Nat) : mSet i a (s₀ :: ρ₀) = (a (s₀ :: ρ₀)).stm fun r ρ' => if isBor ρ' i = true then .no else match r.slo with
  | some s => .nx (ρ'.set i s)
  | none => .no := rfl
theorem ev_aug (i : Nat) : mAug i a (s₀ :: ρ₀) = mSet i (m2 lAddP (nm i) a) (s₀ :: ρ₀) := rfl
theorem ev_asg (t : Tg) : mAsg t a (s₀ :: ρ₀) = (a (s₀ :: ρ₀)).stm fun r ρ' => match r with
  | .d x => (match asg t x ρ' with
    | some ρ2 => .nx ρ2
    | none => .no)
  | _ => .no := rfl
theorem ev_seq (m n : MS) : mSeq m n (s₀ :: ρ₀) = (m (s₀ :: ρ₀)).thn n := rfl
@[simp] theorem ev_nx : mNx (s₀ :: ρ₀) = .nx (s₀ :: ρ₀) := rfl
@[simp] theorem ev_bk : mBk (s₀ :: ρ₀) = .bk (s₀ :: ρ₀) := rfl
@[simp] theorem ev_ct : mCt (s₀ :: ρ₀) = .ct (s₀ :: ρ₀) := rfl
theorem ev_rt : mRt a (s₀ :: ρ₀) = (a (s₀ :: ρ₀)).stm fun r ρ' => .rt r ρ' := rfl
@[simp] theorem ev_rtN : mRtN (s₀ :: ρ₀) = .rt (.d .non) (s₀ :: ρ₀) := rfl
theorem ev_if (c : MB) (m n : MS) : mIf c m n (s₀ :: ρ₀) = (c (s₀ :: ρ₀)).stm fun b ρ' => if b = true then m ρ' else n ρ' := rfl
theorem ev_drop : mDrop a (s₀ :: ρ₀) = (a (s₀ :: ρ₀)).stm fun _ ρ' => .nx ρ' := rfl
theorem ev_for (it : MI) (t : Tg) (m : MS) : mFor it t m (s₀ :: ρ₀) = (it (s₀ :: ρ₀)).stm fun xs ρ' => forGo t m xs ρ' := rfl
theorem ev_it : mIt a (s₀ :: ρ₀) = (a (s₀ :: ρ₀)).bind fun r ρ' q => match r.its with
  | some ds => .ok ds ρ' q
  | none => .no := rfl
theorem ev_rg1 : mRg1 a (s₀ :: ρ₀) = (a (s₀ :: ρ₀)).bind fun r ρ' q => match r with
  | .d (.int j) => if rgOk j = true then .ok ((List.range j.toNat).map fun (k : Nat) => D.int k) ρ' q else .no
  | _ => .no := rfl
theorem ev_rg2 : mRg2 a b (s₀ :: ρ₀) = (mArgs [a, b] (s₀ :: ρ₀)).bind fun rs ρ' q => match rs with
  | [.d (.int i), .d (.int j)] => if (rgOk i && rgOk j) = true then .ok ((List.range (j - i).toNat).map fun (k : Nat) => D.int (i + k)) ρ' q else .no
  | _ => .no := rfl
theorem ev_app (i : Nat) : mApp i a (s₀ :: ρ₀) = if isLst (s₀ :: ρ₀) i = true then (a (s₀ :: ρ₀)).bind fun r ρ' _ => match r.st with
    | some x => (match pushAt ρ' i x with
      | some ρ2 => .ok (.d .non) ρ2 false
      | none => .no)
    | none => .no
  else .no := rfl
theorem ev_put (i : Nat) : mPut i b a (s₀ :: ρ₀) = if isLst (s₀ :: ρ₀) i = true then (mArgs [a, mInt b] (s₀ :: ρ₀)).stm fun rs ρ' => match rs with
    | [r, .d (.int k)] => (match r.st with
      | some x => (match putAt ρ' i k x with
        | some ρ2 => .nx ρ2
        | none => .no)
      | none => .no)
    | _ => .no
  else .no := rfl
theorem ev_argb0 : mArgB [] (s₀ :: ρ₀) = .ok [] (s₀ :: ρ₀) true := rfl
theorem ev_argbv (as : List Ar) : mArgB (.v a :: as) (s₀ :: ρ₀) = (a (s₀ :: ρ₀)).bind fun r ρ1 q1 => (mArgB as ρ1).bind fun rs ρ2 q2 => if r.isPk = true then .no else .ok (.r r :: rs) ρ2 (q1 && q2) := rfl
theorem ev_argbb (i : Nat) (as : List Ar) : mArgB (.b i :: as) (s₀ :: ρ₀) = if live (s₀ :: ρ₀) i = true then (mArgB as (s₀ :: ρ₀)).bind fun rs ρ2 q2 => .ok (.b i :: rs) ρ2 q2 else .no := rfl
theorem ev_call (f : Fn) (as : List Ar) : mCall f as (s₀ :: ρ₀) = (mArgB as (s₀ :: ρ₀)).bind fun rs ρ1 q => match lend rs ρ1 with
  | none => .no
  | some (as, ls, ρu) => (match f as with
    | .ok r as' => .ok r (back ls as' ρu) (q && ls.all Option.isNone)
    | .ex x as' => .ex x (back ls as' ρu)
    | .no => .no) := rfl
end
theorem sq (m n : MS) (ρ : Ro) : mSeq m n ρ = (m ρ).thn n := rfl
def fin (as : List Slo) : SRes → FRes
  | .nx ρ => .ok (.d .non) (keep as ρ)
  | .rt r ρ => if r.isPk = true then .no else .ok r (keep as ρ)
  | .ex x ρ => .ex x (keep as ρ)
  | _ => .no
theorem ev_fn (n : Nat) (b : MS) (as : List Slo) : mkFn n b as = fin as (b (as ++ List.replicate (n - as.length) .un)) := by
  unfold mkFn fin
  cases b (as ++ List.replicate (n - as.length) .un) <;> rfl
@[simp] theorem fin_nx (as : List Slo) (ρ : Ro) : fin as (.nx ρ) = .ok (.d .non) (keep as ρ) := rfl
@[simp] theorem fin_rtd (as : List Slo) (x : D) (ρ : Ro) : fin as (.rt (.d x) ρ) = .ok (.d x) (keep as ρ) := rfl
@[simp] theorem fin_rto (as : List Slo) (x : O) (ρ : Ro) : fin as (.rt (.own x) ρ) = .ok (.own x) (keep as ρ) := rfl
@[simp] theorem fin_ex (as : List Slo) (x : Exc) (ρ : Ro) : fin as (.ex x ρ) = .ex x (keep as ρ) := rfl
/-! places -/
theorem atI_pos {α : Type} (xs : List α) (n : Nat) : L2.atI xs (n : Int) = xs[n]? := by
  unfold L2.atI L2.ixN
  rw [if_pos (by omega)]
  by_cases h : n < xs.length
  · rw [if_pos (by omega)]; simp
  · rw [if_neg (by omega)]; simp; omega
@[simp] theorem atI_0 {α : Type} (xs : List α) : L2.atI xs 0 = xs[0]? := atI_pos xs 0
@[simp] theorem atI_1 {α : Type} (xs : List α) : L2.atI xs 1 = xs[1]? := atI_pos xs 1
@[simp] theorem atI_2 {α : Type} (xs : List α) : L2.atI xs 2 = xs[2]? := atI_pos xs 2
@[simp] theorem atI_3 {α : Type} (xs : List α) : L2.atI xs 3 = xs[3]? := atI_pos xs 3
@[simp] theorem atI_4 {α : Type} (xs : List α) : L2.atI xs 4 = xs[4]? := atI_pos xs 4
@[simp] theorem atI_5 {α : Type} (xs : List α) : L2.atI xs 5 = xs[5]? := atI_pos xs 5
@[simp] theorem ixN_0 (n : Nat) : L2.ixN n 0 = if 0 < n then some 0 else none := by
  unfold L2.ixN
  rw [if_pos (by omega)]
  by_cases h : 0 < n
  · rw [if_pos (by omega), if_pos h]; rfl
  · rw [if_neg (by omega), if_neg h]
@[simp] theorem ixN_1 (n : Nat) : L2.ixN n 1 = if 1 < n then some 1 else none := by
  unfold L2.ixN
  rw [if_pos (by omega)]
  by_cases h : 1 < n
  · rw [if_pos (by omega), if_pos h]; rfl
  · rw [if_neg (by omega), if_neg h]
@[simp] theorem ixN_2 (n : Nat) : L2.ixN n 2 = if 2 < n then some 2 else none := by
  unfold L2.ixN
  rw [if_pos (by omega)]
  by_cases h : 2 < n
  · rw [if_pos (by omega), if_pos h]; rfl
  · rw [if_neg (by omega), if_neg h]
@[simp] theorem ixN_3 (n : Nat) : L2.ixN n 3 = if 3 < n then some 3 else none := by
  unfold L2.ixN
  rw [if_pos (by omega)]
  by_cases h : 3 < n
  · rw [if_pos (by omega), if_pos h]; rfl
  · rw [if_neg (by omega), if_neg h]
@[simp] theorem atI_neg1 {α : Type} (xs : List α) : L2.atI xs (-1) = xs.getLast? := by
  unfold L2.atI L2.ixN
  rw [if_neg (by omega), List.getLast?_eq_getElem?]
  by_cases h : 1 ≤ xs.length
  · rw [if_pos (by omega)]
    simp only [Option.bind_some]
    congr 1
    omega
  · rw [if_neg (by omega)]
    have : xs = [] := List.eq_nil_of_length_eq_zero (by omega)
    subst this; rfl
theorem ixN_pos (n : Nat) (i : Nat) (h : i < n) : L2.ixN n (i : Int) = some i := by
  unfold L2.ixN
  rw [if_pos (by omega), if_pos (by omega)]; simp
theorem lIx_d (ds : List D) (i : Int) : lIx (.d (.lst ds)) (.d (.int i)) = (L2.atI ds i).map R.d := rfl
theorem lIx_t (ds : List D) (i : Int) : lIx (.d (.tup ds)) (.d (.int i)) = (L2.atI ds i).map R.d := rfl
theorem lIx_s (s : List Nat) (i : Int) : lIx (.d (.str s)) (.d (.int i)) = (L2.atI s i).map fun c => .d (.str [c]) := rfl
theorem lIx_own (os : List O) (i : Int) : lIx (.own (.lst os)) (.d (.int i)) = (L2.atI os i).map O.r := rfl
theorem lIx_pk (os : List O) (i : Int) : lIx (.pk (.lst os)) (.d (.int i)) = (L2.atI os i).map O.r := rfl
/-! operators on known kinds -/
@[simp] theorem lAdd_i (i j : Int) : lAdd (.d (.int i)) (.d (.int j)) = some (.d (.int (i + j))) := rfl
theorem lAdd_s (s t : List Nat) : lAdd (.d (.str s)) (.d (.str t)) = if lenOk (s.length + t.length) = true then some (.d (.str (s ++ t))) else none := rfl
theorem lAdd_t (s t : List D) : lAdd (.d (.tup s)) (.d (.tup t)) = if lenOk (s.length + t.length) = true then some (.d (.tup (s ++ t))) else none := rfl
@[simp] theorem lI_i (f : Int → Int → Option D) (i j : Int) : lI f (.d (.int i)) (.d (.int j)) = (f i j).map R.d := rfl
@[simp] theorem lInt1_i (i : Int) : lInt1 (.d (.int i)) = some (.d (.int i)) := rfl
@[simp] theorem lInt1_b (k : Bool) : lInt1 (.d (.bl k)) = some (.d (.int (if k then 1 else 0))) := rfl
theorem lMul_i (i j : Int) : lMul (.d (.int i)) (.d (.int j)) = if mulOk i j = true then some (.d (.int (i * j))) else none := rfl
theorem lMul_s (s : List Nat) (n : Int) : lMul (.d (.str s)) (.d (.int n)) = if repOk n s.length = true then some (.d (.str (List.replicate n.toNat s).flatten)) else none := rfl
@[simp] theorem lLen_s (s : List Nat) : lLen (.d (.str s)) = some (.d (.int s.length)) := rfl
@[simp] theorem lLen_l (s : List D) : lLen (.d (.lst s)) = some (.d (.int s.length)) := rfl
@[simp] theorem lLen_t (s : List D) : lLen (.d (.tup s)) = some (.d (.int s.length)) := rfl
@[simp] theorem lLen_o (s : List O) : lLen (.own (.lst s)) = some (.d (.int s.length)) := rfl
@[simp] theorem lLen_p (s : List O) : lLen (.pk (.lst s)) = some (.d (.int s.length)) := rfl
@[simp] theorem lEq_i (i j : Int) : lEq (.d (.int i)) (.d (.int j)) = some (.d (.bl (decide (i = j)))) := rfl
@[simp] theorem lEq_s (i j : List Nat) : lEq (.d (.str i)) (.d (.str j)) = some (.d (.bl (decide (i = j)))) := rfl
@[simp] theorem lEq_b (i j : Bool) : lEq (.d (.bl i)) (.d (.bl j)) = some (.d (.bl (decide (i = j)))) := rfl
@[simp] theorem lNe_i (i j : Int) : lNe (.d (.int i)) (.d (.int j)) = some (.d (.bl (!decide (i = j)))) := rfl
@[simp] theorem lNe_s (i j : List Nat) : lNe (.d (.str i)) (.d (.str j)) = some (.d (.bl (!decide (i = j)))) := rfl
@[simp] theorem lNe_b (i j : Bool) : lNe (.d (.bl i)) (.d (.bl j)) = some (.d (.bl (!decide (i = j)))) := rfl
@[simp] theorem lIn_s (n : Nat) (s : List Nat) : lIn (.d (.str [n])) (.d (.str s)) = some (.d (.bl (decide (n ∈ s)))) := rfl
@[simp] theorem lIsi_d (T : String) (x : D) : lIsi T (.d x) = x.kind.map fun k => .d (.bl (isK T k)) := rfl
@[simp] theorem lIsN_d (x : D) : lIsN (.d x) (.d .non) = some (.d (.bl x.isNon)) := rfl
@[simp] theorem lNotN_d (x : D) : lNotN (.d x) (.d .non) = some (.d (.bl (!x.isNon))) := rfl
@[simp] theorem lNeg_i (i : Int) : lNeg (.d (.int i)) = some (.d (.int (-i))) := rfl
@[simp] theorem lNot_b (b : Bool) : lNot (.d (.bl b)) = some (.d (.bl (!b))) := rfl
@[simp] theorem lAddP_i (i j : Int) : lAddP (.d (.int i)) (.d (.int j)) = some (.d (.int (i + j))) := rfl
@[simp] theorem its_s (s : List Nat) : (R.d (.str s)).its = some (s.map fun c => .str [c]) := rfl
@[simp] theorem lSl_s (s : List Nat) (lo hi : Option Int) : lSl (.d (.str s)) lo hi = some (.d (.str (cutA s lo hi))) := rfl
@[simp] theorem lSl_t (s : List D) (lo hi : Option Int) : lSl (.d (.tup s)) lo hi = some (.d (.tup (cutA s lo hi))) := rfl
@[simp] theorem lSl_l (s : List D) (lo hi : Option Int) : lSl (.d (.lst s)) lo hi = some (.own (.lst ((cutA s lo hi).map O.d))) := rfl
@[simp] theorem lSl_o (s : List D) (lo hi : Option Int) : lSl (.own (.lst (s.map O.d))) lo hi = some (.own (.lst ((cutA s lo hi).map O.d))) := by simp [lSl]
@[simp] theorem lSl_p (s : List D) (lo hi : Option Int) : lSl (.pk (.lst (s.map O.d))) lo hi = some (.own (.lst ((cutA s lo hi).map O.d))) := by simp [lSl]
@[simp] theorem fz_l (ds : List D) : (O.lst (ds.map O.d)).fz = true := fzs_d ds
@[simp] theorem toD_l (ds : List D) : (O.lst (ds.map O.d)).toD = .lst ds := by show D.lst (toDs (ds.map O.d)) = _; rw [toDs_d]
theorem pkE : R.isPk (.d .non) = false := rfl
/-! loops -/
/-- a loop whose turns all go on -/
theorem forGo_inv {t : Tg} {b : MS} (P : Nat → Ro → Prop) : ∀ (xs : List D) (k : Nat) (ρ : Ro), P k ρ → (∀ i x ρ, xs[i]? = some x → P (k + i) ρ → ∃ ρ1, asg t x ρ = some ρ1 ∧ ∃ ρ2, (b ρ1 = .nx ρ2 ∨ b ρ1 = .ct ρ2) ∧ P (k + i + 1) ρ2) → ∃ ρ2, forGo t b xs ρ = .nx ρ2 ∧ P (k + xs.length) ρ2
  | [], k, ρ, h, _ => ⟨ρ, forGo_nil t b ρ, h⟩
  | x :: xs, k, ρ, h, hs => by
    obtain ⟨ρ1, h1, ρ2, h2, h3⟩ := hs 0 x ρ rfl h
    obtain ⟨ρ3, h4, h5⟩ := forGo_inv P xs (k + 1) ρ2 h3 fun i y ρ hy hp => by
      have := hs (i + 1) y ρ (by simpa using hy) (by rw [show k + (i + 1) = k + 1 + i by omega]; exact hp)
      rw [show k + (i + 1) + 1 = k + 1 + i + 1 by omega] at this
      exact this
    refine ⟨ρ3, ?_, by rw [List.length_cons, show k + (xs.length + 1) = k + 1 + xs.length by omega]; exact h5⟩
    rw [forGo_cons, h1]
    rcases h2 with h2 | h2
    · simp only [h2]; exact h4
    · simp only [h2]; exact h4
theorem forGo_run {t : Tg} {b : MS} (P : Nat → Ro → Prop) {xs : List D} {ρ : Ro} (h : P 0 ρ) (hs : ∀ i x ρ, xs[i]? = some x → P i ρ → ∃ ρ1, asg t x ρ = some ρ1 ∧ ∃ ρ2, (b ρ1 = .nx ρ2 ∨ b ρ1 = .ct ρ2) ∧ P (i + 1) ρ2) : ∃ ρ2, forGo t b xs ρ = .nx ρ2 ∧ P xs.length ρ2 := by
  have := forGo_inv P xs 0 ρ h fun i x ρ hx hp => by
    rw [Nat.zero_add] at hp ⊢
    exact hs i x ρ hx hp
  rwa [Nat.zero_add] at this
/-- a while whose turns lower a measure -/
theorem while_run {c : MB} {b : MS} (P : Ro → Prop) (μ : Ro → Nat) (Q : SRes → Prop)
    (hs : ∀ ρ, P ρ → ∃ x ρ1 q, c ρ = .ok x ρ1 q ∧ (x = false → Q (.nx ρ1)) ∧ (x = true → (∃ ρ2, (b ρ1 = .nx ρ2 ∨ b ρ1 = .ct ρ2) ∧ P ρ2 ∧ μ ρ2 < μ ρ) ∨ (∃ ρ2, b ρ1 = .bk ρ2 ∧ Q (.nx ρ2)) ∨ (∃ r ρ2, b ρ1 = .rt r ρ2 ∧ Q (.rt r ρ2)) ∨ (∃ e ρ2, b ρ1 = .ex e ρ2 ∧ Q (.ex e ρ2)))) (hq : ¬ Q .no) :
    ∀ ρ, P ρ → Q (mWhile c b ρ) := by
  have key : ∀ n ρ, P ρ → μ ρ < n → ∃ k, Q (whGo c b k ρ) := by
    intro n
    induction n with
    | zero => intro ρ _ h; omega
    | succ n ih =>
      intro ρ hp hl
      obtain ⟨x, ρ1, q, e, hf, ht⟩ := hs ρ hp
      cases x with
      | false => exact ⟨1, by simp only [whGo, e, Res.stm_ok]; exact hf rfl⟩
      | true =>
        rcases ht rfl with ⟨ρ2, h2, hp2, hl2⟩ | ⟨ρ2, h2, h3⟩ | ⟨r, ρ2, h2, h3⟩ | ⟨r, ρ2, h2, h3⟩
        · obtain ⟨k, hk⟩ := ih ρ2 hp2 (by omega)
          refine ⟨k + 1, ?_⟩
          rcases h2 with h2 | h2
          · simp only [whGo, e, Res.stm_ok, h2, if_true]; exact hk
          · simp only [whGo, e, Res.stm_ok, h2, if_true]; exact hk
        · exact ⟨1, by simp only [whGo, e, Res.stm_ok, h2, if_true]; exact h3⟩
        · exact ⟨1, by simp only [whGo, e, Res.stm_ok, h2, if_true]; exact h3⟩
        · exact ⟨1, by simp only [whGo, e, Res.stm_ok, h2, if_true]; exact h3⟩
  intro ρ hp
  obtain ⟨k, hk⟩ := key (μ ρ + 1) ρ hp (Nat.lt_succ_self _)
  rw [mWhile_eq (n := k) rfl fun z => hq (by rw [z] at hk; exact hk)]
  exact hk
end
end Mw

set_option Elab.async false
set_option linter.all false
set_option maxRecDepth 100000
set_option autoImplicit false
namespace Mw
open PySem PySem.Spec PyProof.Rows L2 Mw
noncomputable section
def lc__run_end_1 : MB := (mAnd (mTest (m2 lLt (nm 3) (m1 lLen (nm 0)))) (mTest (m2 lIn (m2 lIx (nm 0) (nm 3)) (nm 2))))
def lb__run_end_2 : MS := (mAug 3 (mC (.int 1)))
def b__run_end : MS := (mSeq (mSet 3 (fz 1))
    (mSeq (mWhile lc__run_end_1 lb__run_end_2)
    (mRt (mv 3))))
def f__run_end : Fn := hide (mkFn 4 b__run_end)
theorem f__run_end_eq : f__run_end = mkFn 4 b__run_end := hide_eq _

def b__token : MS := (mSeq (mSet 2 (m2 lIx (nm 0) (nm 1)))
    (mSeq (mIf (mTest (m2 lIn (nm 2) (mC (.str [97, 98, 99, 100, 101, 102, 103, 104, 105, 106, 107, 108, 109, 110, 111, 112, 113, 114, 115, 116, 117, 118, 119, 120, 121, 122])))) (mSeq (mSet 3 (mSl (nm 0) (some (nm 1)) (some (mCall f__run_end [.v (fz 0), .v (fz 1), .v (mC (.str [97, 98, 99, 100, 101, 102, 103, 104, 105, 106, 107, 108, 109, 110, 111, 112, 113, 114, 115, 116, 117, 118, 119, 120, 121, 122]))]))))
    (mSeq (mIf (mTest (m2 lGt (m1 lLen (nm 3)) (mC (.int 12)))) (mRt (mTup [(mC (.str [98, 97, 100])), (fz 3)])) mNx)
    (mRt (mTup [(mC (.str [110, 97, 109, 101])), (fz 3)])))) mNx)
    (mSeq (mIf (mTest (m2 lIn (nm 2) (mC (.str [48, 49, 50, 51, 52, 53, 54, 55, 56, 57])))) (mSeq (mSet 3 (mSl (nm 0) (some (nm 1)) (some (mCall f__run_end [.v (fz 0), .v (fz 1), .v (mC (.str [48, 49, 50, 51, 52, 53, 54, 55, 56, 57]))]))))
    (mSeq (mIf (mOr (mTest (m2 lGt (m1 lLen (nm 3)) (mC (.int 4)))) (mAnd (mTest (m2 lGt (m1 lLen (nm 3)) (mC (.int 1)))) (mTest (m2 lEq (m2 lIx (nm 3) (mC (.int 0))) (mC (.str [48])))))) (mRt (mTup [(mC (.str [98, 97, 100])), (fz 3)])) mNx)
    (mRt (mTup [(mC (.str [110, 117, 109, 98, 101, 114])), (fz 3)])))) mNx)
    (mSeq (mIf (mTest (m2 lIn (nm 2) (mC (.str [58, 44, 59])))) (mRt (mTup [(mC (.str [115, 105, 103, 110])), (fz 2)])) mNx)
    (mRt (mTup [(mC (.str [98, 97, 100])), (fz 2)]))))))
def f__token : Fn := hide (mkFn 4 b__token)
theorem f__token_eq : f__token = mkFn 4 b__token := hide_eq _

def lc_tokens_1 : MB := (mTest (m2 lLt (nm 2) (m1 lLen (nm 0))))
def lb_tokens_2 : MS := (mIf (mTest (m2 lEq (m2 lIx (nm 0) (nm 2)) (mC (.str [32])))) (mAug 2 (mC (.int 1))) (mSeq (mSet 3 (mCall f__token [.v (fz 0), .v (fz 2)]))
    (mSeq (mDrop (mApp 1 (fz 3)))
    (mAug 2 (m1 lLen (m2 lIx (nm 3) (mC (.int 1))))))))
def b_tokens : MS := (mSeq (mSet 1 (mLst []))
    (mSeq (mSet 2 (mC (.int 0)))
    (mSeq (mWhile lc_tokens_1 lb_tokens_2)
    (mRt (mv 1)))))
def f_tokens : Fn := hide (mkFn 4 b_tokens)
theorem f_tokens_eq : f_tokens = mkFn 4 b_tokens := hide_eq _

def b__law_cell : MS := (mSeq (mIf (mTest (m2 lLt (nm 1) (m1 lLen (nm 0)))) (mRt (m2 lIx (nm 0) (nm 1))) mNx)
    (mRt (mC (.int 0))))
def f__law_cell : Fn := hide (mkFn 2 b__law_cell)
theorem f__law_cell_eq : f__law_cell = mkFn 2 b__law_cell := hide_eq _

def lb__law_digits_1 : MS := (mIf (mTest (m2 lGt (nm 5) (mC (.int 0)))) (mSeq (mDrop (mApp 3 (m2 lMod (m1 lInt1 (nm 5)) (mC (.int 1000)))))
    (mSet 5 (m2 lDiv (nm 5) (mC (.int 1000))))) mNx)
def lb__law_digits_2 : MS := (mSeq (mSet 7 (m2 lMod (m1 lInt1 (m2 lAdd (m2 lAdd (m2 lMul (nm 7) (mC (.int 16807))) (m2 lMul (mC (.int 7)) (nm 6))) (mC (.int 1)))) (mC (.int 2147483647))))
    (mDrop (mApp 3 (m2 lMod (m1 lInt1 (m2 lDiv (nm 7) (mC (.int 997)))) (mC (.int 1000))))))
def lb__law_digits_3 : MS := (mSeq (mSet 5 (mCall f__law_cell [.v (fz 0), .v (fz 4)]))
    (mSeq (mIf (mTest (m2 lLt (nm 5) (mC (.int 0)))) (mSet 5 (m2 lSub (mC (.int 1)) (m2 lMul (mC (.int 2)) (nm 5)))) mNx)
    (mIf (mTest (m2 lGe (nm 5) (m2 lPow (mC (.int 10)) (mC (.int 18))))) (mFor (mRg1 (mC (.int 60))) (.nm 6) lb__law_digits_1) (mSeq (mSet 7 (m2 lMod (m1 lInt1 (m2 lAdd (m2 lAdd (m2 lMul (nm 5) (mC (.int 48271))) (m2 lMul (nm 4) (mC (.int 69621)))) (mC (.int 11)))) (mC (.int 2147483647))))
    (mFor (mRg1 (mC (.int 12))) (.nm 6) lb__law_digits_2)))))
def b__law_digits : MS := (mSeq (mSet 3 (mLst []))
    (mSeq (mFor (mRg2 (nm 1) (nm 2)) (.nm 4) lb__law_digits_3)
    (mRt (mv 3))))
def f__law_digits : Fn := hide (mkFn 8 b__law_digits)
theorem f__law_digits_eq : f__law_digits = mkFn 8 b__law_digits := hide_eq _

def b__law_draw : MS := (mSeq (mSet 2 (m2 lIx (nm 0) (mC (.int 1))))
    (mSeq (mPut 0 (mC (.int 1)) (m2 lAdd (nm 2) (mC (.int 1))))
    (mSeq (mIf (mTest (m2 lLt (nm 2) (m1 lLen (m2 lIx (nm 0) (mC (.int 0)))))) (mRt (m2 lMod (m1 lInt1 (m2 lIx (m2 lIx (nm 0) (mC (.int 0))) (nm 2))) (nm 1))) mNx)
    (mRt (mC (.int 0))))))
def f__law_draw : Fn := hide (mkFn 3 b__law_draw)
theorem f__law_draw_eq : f__law_draw = mkFn 3 b__law_draw := hide_eq _

def lb__law_same_1 (fr__law_same : Fn) : MS := (mIf (mNot (mTest (mCall fr__law_same [.v (m2 lIx (nm 0) (nm 2)), .v (m2 lIx (nm 1) (nm 2))]))) (mRt (mC (.bl false))) mNx)
def b__law_same (fr__law_same : Fn) : MS := (mSeq (mIf (mOr (mTest (m1 (lIsi "list") (nm 1))) (mTest (m1 (lIsi "tuple") (nm 1)))) (mSeq (mIf (mOr (mTest (m2 lNe (m1 (lIsi "list") (nm 1)) (m1 (lIsi "list") (nm 0)))) (mTest (m2 lNe (m1 (lIsi "tuple") (nm 1)) (m1 (lIsi "tuple") (nm 0))))) (mRt (mC (.bl false))) mNx)
    (mSeq (mIf (mTest (m2 lNe (m1 lLen (nm 0)) (m1 lLen (nm 1)))) (mRt (mC (.bl false))) mNx)
    (mSeq (mFor (mRg1 (m1 lLen (nm 1))) (.nm 2) (lb__law_same_1 fr__law_same))
    (mRt (mC (.bl true)))))) mNx)
    (mSeq (mIf (mTest (m2 lIsN (nm 1) (mC .non))) (mRt (m2 lIsN (nm 0) (mC .non))) mNx)
    (mSeq (mIf (mTest (m1 (lIsi "bool") (nm 1))) (mRt (mAndV (m1 (lIsi "bool") (nm 0)) (m2 lEq (nm 0) (nm 1)))) mNx)
    (mSeq (mIf (mTest (m1 (lIsi "str") (nm 1))) (mRt (mAndV (m1 (lIsi "str") (nm 0)) (m2 lEq (nm 0) (nm 1)))) mNx)
    (mRt (mAndV (m1 (lIsi "int") (nm 0)) (mAndV (m1 lNot (m1 (lIsi "bool") (nm 0))) (m2 lEq (nm 0) (nm 1)))))))))
def k__law_same : Nat → Fn
  | 0 => fun _ => .no
  | k + 1 => mkFn 3 (b__law_same (k__law_same k))
def f__law_same : Fn := hide (k__law_same 60)
theorem f__law_same_eq : f__law_same = k__law_same 60 := hide_eq _

def lb__law_run_1 : MS := (mSet 3 (m2 lAdd (nm 3) (m2 lIx (nm 2) (mCall f__law_draw [.b 0, .v (m1 lLen (nm 2))]))))
def b__law_run : MS := (mSeq (mSet 3 (mC (.str [])))
    (mSeq (mFor (mRg1 (nm 1)) (.nm 4) lb__law_run_1)
    (mRt (mv 3))))
def f__law_run : Fn := hide (mkFn 5 b__law_run)
theorem f__law_run_eq : f__law_run = mkFn 5 b__law_run := hide_eq _

def b__law_token : MS := (mSeq (mSet 1 (mCall f__law_draw [.b 0, .v (mC (.int 5))]))
    (mSeq (mIf (mTest (m2 lLt (nm 1) (mC (.int 2)))) (mSeq (mSet 2 (mCall f__law_run [.b 0, .v (m2 lAdd (mC (.int 1)) (mCall f__law_draw [.b 0, .v (m2 lIx (mLst [(mC (.int 4)), (mC (.int 15))]) (mCall f__law_draw [.b 0, .v (mC (.int 2))]))])), .v (mC (.str [97, 98, 99, 100, 101, 102, 103, 104, 105, 106, 107, 108, 109, 110, 111, 112, 113, 114, 115, 116, 117, 118, 119, 120, 121, 122]))]))
    (mRt (mLst [(m2 lIx (mLst [(mC (.str [110, 97, 109, 101])), (mC (.str [98, 97, 100]))]) (m1 lInt1 (m2 lGt (m1 lLen (nm 2)) (mC (.int 12))))), (fz 2)]))) mNx)
    (mSeq (mIf (mTest (m2 lEq (nm 1) (mC (.int 2)))) (mSeq (mSet 2 (mCall f__law_run [.b 0, .v (m2 lAdd (mC (.int 1)) (mCall f__law_draw [.b 0, .v (mC (.int 6))])), .v (mC (.str [48, 49, 50, 51, 52, 53, 54, 55, 56, 57]))]))
    (mRt (mLst [(m2 lIx (mLst [(mC (.str [110, 117, 109, 98, 101, 114])), (mC (.str [98, 97, 100]))]) (m1 lInt1 (mOrV (m2 lGt (m1 lLen (nm 2)) (mC (.int 4))) (mAndV (m2 lGt (m1 lLen (nm 2)) (mC (.int 1))) (m2 lEq (m2 lIx (nm 2) (mC (.int 0))) (mC (.str [48]))))))), (fz 2)]))) mNx)
    (mSeq (mIf (mTest (m2 lEq (nm 1) (mC (.int 3)))) (mRt (mLst [(mC (.str [115, 105, 103, 110])), (m2 lIx (mC (.str [58, 44, 59])) (mCall f__law_draw [.b 0, .v (mC (.int 3))]))])) mNx)
    (mRt (mLst [(mC (.str [98, 97, 100])), (m2 lIx (mC (.str [65, 66, 90, 33, 35, 36, 38, 39, 40, 41, 42, 43, 45, 46, 47, 60, 61, 62, 63, 64, 91, 92, 93, 94, 95, 96, 123, 124, 125, 126, 34])) (mCall f__law_draw [.b 0, .v (mC (.int 30))]))]))))))
def f__law_token : Fn := hide (mkFn 3 b__law_token)
theorem f__law_token_eq : f__law_token = mkFn 3 b__law_token := hide_eq _

def b__law_sort : MS := (mSeq (mIf (mTest (m2 lIn (m2 lIx (nm 0) (mC (.int 0))) (mC (.str [48, 49, 50, 51, 52, 53, 54, 55, 56, 57])))) (mRt (mC (.int 1))) mNx)
    (mRt (m2 lMul (mC (.int 2)) (m1 lInt1 (m2 lIn (m2 lIx (nm 0) (mC (.int 0))) (mC (.str [97, 98, 99, 100, 101, 102, 103, 104, 105, 106, 107, 108, 109, 110, 111, 112, 113, 114, 115, 116, 117, 118, 119, 120, 121, 122])))))))
def f__law_sort : Fn := hide (mkFn 1 b__law_sort)
theorem f__law_sort_eq : f__law_sort = mkFn 1 b__law_sort := hide_eq _

end
end Mw

set_option Elab.async false
set_option linter.all false
set_option maxRecDepth 100000
set_option autoImplicit false
namespace Mw
open PySem PySem.Spec PyProof.Rows L2 Mw
local macro_rules | `(tactic| walk_at "ev") => `(tactic| ((try simp -implicitDefEqProofs [-List.map_map, ev_fn, atI_pos, ev_seq, ev_set, ev_aug, ev_nm, ev_fz, ev_mv, ev_m1, ev_m2, ev_mInt, ev_mTest, ev_mAnd, ev_mOr, ev_mNot, ev_mAndV, ev_mOrV, ev_args, ev_args0, ev_mLst, ev_mTup, sts_cons, ev_sl00, ev_sl01, ev_sl10, ev_sl11, ev_asg, ev_rt, ev_if, ev_drop, ev_for, ev_it, ev_rg1, ev_rg2, ev_app, ev_put, ev_argb0, ev_argbv, ev_argbb, ev_call, pushAt_0, pushAt_s, putAt_0, putAt_s, lend, back, keep, asg, asgs, lIx_d, lIx_t, lIx_s, lIx_own, lIx_pk, lMul_i, lAdd_s, lAdd_t, lMul_s, D.kind, isK, D.isNon]); (repeat (simp -implicitDefEqProofs (disch := omega) only [lenOk_of, mulOk_l, mulOk_r, repOk_of, rgOk_of, powOk_of, divOk_of, modOk_of]; try simp -implicitDefEqProofs [-List.map_map, ev_fn, atI_pos, ev_seq, ev_set, ev_aug, ev_nm, ev_fz, ev_mv, ev_m1, ev_m2, ev_mInt, ev_mTest, ev_mAnd, ev_mOr, ev_mNot, ev_mAndV, ev_mOrV, ev_args, ev_args0, ev_mLst, ev_mTup, sts_cons, ev_sl00, ev_sl01, ev_sl10, ev_sl11, ev_asg, ev_rt, ev_if, ev_drop, ev_for, ev_it, ev_rg1, ev_rg2, ev_app, ev_put, ev_argb0, ev_argbv, ev_argbb, ev_call, pushAt_0, pushAt_s, putAt_0, putAt_s, lend, back, keep, asg, asgs, lIx_d, lIx_t, lIx_s, lIx_own, lIx_pk, lMul_i, lAdd_s, lAdd_t, lMul_s, D.kind, isK, D.isNon]))))
local macro_rules | `(tactic| walk_at "evh") => `(tactic| ((try simp -implicitDefEqProofs [*, -List.map_map, ev_fn, atI_pos, ev_seq, ev_set, ev_aug, ev_nm, ev_fz, ev_mv, ev_m1, ev_m2, ev_mInt, ev_mTest, ev_mAnd, ev_mOr, ev_mNot, ev_mAndV, ev_mOrV, ev_args, ev_args0, ev_mLst, ev_mTup, sts_cons, ev_sl00, ev_sl01, ev_sl10, ev_sl11, ev_asg, ev_rt, ev_if, ev_drop, ev_for, ev_it, ev_rg1, ev_rg2, ev_app, ev_put, ev_argb0, ev_argbv, ev_argbb, ev_call, pushAt_0, pushAt_s, putAt_0, putAt_s, lend, back, keep, asg, asgs, lIx_d, lIx_t, lIx_s, lIx_own, lIx_pk, lMul_i, lAdd_s, lAdd_t, lMul_s, D.kind, isK, D.isNon]); (repeat (simp -implicitDefEqProofs (disch := omega) only [lenOk_of, mulOk_l, mulOk_r, repOk_of, rgOk_of, powOk_of, divOk_of, modOk_of]; try simp -implicitDefEqProofs [*, -List.map_map, ev_fn, atI_pos, ev_seq, ev_set, ev_aug, ev_nm, ev_fz, ev_mv, ev_m1, ev_m2, ev_mInt, ev_mTest, ev_mAnd, ev_mOr, ev_mNot, ev_mAndV, ev_mOrV, ev_args, ev_args0, ev_mLst, ev_mTup, sts_cons, ev_sl00, ev_sl01, ev_sl10, ev_sl11, ev_asg, ev_rt, ev_if, ev_drop, ev_for, ev_it, ev_rg1, ev_rg2, ev_app, ev_put, ev_argb0, ev_argbv, ev_argbb, ev_call, pushAt_0, pushAt_s, putAt_0, putAt_s, lend, back, keep, asg, asgs, lIx_d, lIx_t, lIx_s, lIx_own, lIx_pk, lMul_i, lAdd_s, lAdd_t, lMul_s, D.kind, isK, D.isNon]))))
/-! ## the laws' own helpers -/
def bx (ds : List Int) (a : Nat) : O := .lst [.d (.lst (ds.map .int)), .d (.int a)]
def dr (ds : List Int) (a : Nat) (m : Int) : Int := match ds[a]? with
  | some x => x % m
  | none => 0
theorem dr_lo (ds : List Int) (a : Nat) (m : Int) (hm : 0 < m) : 0 ≤ dr ds a m := by
  unfold dr; split
  · exact Int.emod_nonneg _ (by omega)
  · exact Int.le_refl 0
theorem dr_lt (ds : List Int) (a : Nat) (m : Int) (hm : 0 < m) : dr ds a m < m := by
  unfold dr; split
  · exact Int.emod_lt_of_pos _ hm
  · exact hm
@[simp] theorem bx_plain (ds : List Int) (a : Nat) (b : Bool) : Slo.mu b (bx ds a) = Slo.mu b (bx ds a) := rfl
theorem cell (ns : List Int) (k : Nat) : f__law_cell [.shr (.lst (ns.map .int)), .shr (.int k)] = .ok (.d (.int (ns.getD k 0))) [.un, .un] := by
  rw [f__law_cell_eq]; unfold b__law_cell
  by_cases h : k < ns.length <;> walk_at "evh"
theorem draw (ds : List Int) (a : Nat) (m : Int) (hm : 0 < m) : f__law_draw [.mu true (bx ds a), .shr (.int m)] = .ok (.d (.int (dr ds a m))) [.mu true (bx ds (a + 1)), .un] := by
  rw [f__law_draw_eq]; unfold b__law_draw bx dr
  by_cases h : a < ds.length <;> walk_at "evh"
/-- a place that holds no borrowed thing -/
abbrev Jk (s : Slo) : Prop := s.bor = false
theorem Jk.un : Jk .un := rfl
theorem Jk.shr (d : D) : Jk (.shr d) := rfl
def dgE (L : D) (lo hi : Int) (ds : List Int) (s4 s5 s6 s7 : Slo) : Ro := [.shr L, .shr (.int lo), .shr (.int hi), .mu false (O.l (ds.map .int)), s4, s5, s6, s7]
theorem push_ints (ds : List Int) (x : Int) : List.map O.d (List.map D.int ds) ++ [O.d (D.int x)] = List.map O.d (List.map D.int (ds ++ [x])) := by simp
theorem digits_1 (L : D) (lo hi : Int) (ds : List Int) (s4 s7 : Slo) (c : Int) (k : D) (hl : ds.length ≤ 100000) :
    ∃ ds' c', lb__law_digits_1 (dgE L lo hi ds s4 (.shr (.int c)) (.shr k) s7) = .nx (dgE L lo hi ds' s4 (.shr (.int c')) (.shr k) s7) ∧ ds'.length ≤ ds.length + 1 := by
  unfold lb__law_digits_1 dgE
  by_cases h : 0 < c
  · refine ⟨ds ++ [c % 1000], c / 1000, ?_, by simp⟩
    walk_at "evh"
  · refine ⟨ds, c, ?_, by omega⟩
    walk_at "evh"
theorem digits_2 (L : D) (lo hi : Int) (ds : List Int) (s4 s5 : Slo) (c : Int) (k : Nat) (hk : k ≤ 1000) (hl : ds.length ≤ 100000) :
    ∃ ds' c', lb__law_digits_2 (dgE L lo hi ds s4 s5 (.shr (.int k)) (.shr (.int c))) = .nx (dgE L lo hi ds' s4 s5 (.shr (.int k)) (.shr (.int c'))) ∧ ds'.length ≤ ds.length + 1 := by
  unfold lb__law_digits_2 dgE
  refine ⟨ds ++ [((c * 16807 + 7 * k + 1) % 2147483647) / 997 % 1000], (c * 16807 + 7 * k + 1) % 2147483647, ?_, by simp⟩
  walk_at "evh"
theorem digits_3 (ns : List Int) (lo hi : Int) (ds : List Int) (s5 s6 s7 : Slo) (k : Nat) (hn : ns.length ≤ 63) (hk : k ≤ 1000) (hl : ds.length ≤ 70000) (h5 : Jk s5) (h6 : Jk s6) (h7 : Jk s7) :
    ∃ ds' t5 t6 t7, lb__law_digits_3 (dgE (.lst (ns.map .int)) lo hi ds (.shr (.int k)) s5 s6 s7) = .nx (dgE (.lst (ns.map .int)) lo hi ds' (.shr (.int k)) t5 t6 t7) ∧ ds'.length ≤ ds.length + 60 ∧ Jk t5 ∧ Jk t6 ∧ Jk t7 := by
  have l1 : ∀ (s6 : Slo) (c : Int), Jk s6 → ∃ ds' c' t6, forGo (.nm 6) lb__law_digits_1 ((List.range 60).map fun (k : Nat) => D.int k) (dgE (.lst (ns.map .int)) lo hi ds (.shr (.int k)) (.shr (.int c)) s6 s7) = .nx (dgE (.lst (ns.map .int)) lo hi ds' (.shr (.int k)) (.shr (.int c')) t6 s7) ∧ ds'.length ≤ ds.length + 60 ∧ Jk t6 := by
    intro s6 c h6
    obtain ⟨ρ2, e, ds', c', t6, h1, h2, h3⟩ := forGo_run (t := .nm 6) (b := lb__law_digits_1) (fun i ρ => ∃ ds' c' t6, ds'.length ≤ ds.length + i ∧ Jk t6 ∧ ρ = dgE (.lst (ns.map .int)) lo hi ds' (.shr (.int k)) (.shr (.int c')) t6 s7) (xs := (List.range 60).map fun (k : Nat) => D.int k) ⟨ds, c, s6, by omega, h6, rfl⟩ fun i x ρ hx hp => by
      obtain ⟨ds', c', t6, h1, h2, rfl⟩ := hp
      have hil : i < 60 := by simpa using (List.getElem?_eq_some_iff.mp hx).1
      obtain ⟨ds2, c2, e2, h4⟩ := digits_1 (.lst (ns.map .int)) lo hi ds' (.shr (.int k)) s7 c' x (by omega)
      refine ⟨dgE (.lst (ns.map .int)) lo hi ds' (.shr (.int k)) (.shr (.int c')) (.shr x) s7, ?_, _, .inl e2, ds2, c2, .shr x, by omega, .shr _, rfl⟩
      unfold dgE
      walk_at "evh"
    exact ⟨ds', c', t6, by rw [e, h3], by simpa using h1, h2⟩
  have l2 : ∀ (s5 s6 : Slo) (c : Int), Jk s6 → ∃ ds' c' t6, forGo (.nm 6) lb__law_digits_2 ((List.range 12).map fun (k : Nat) => D.int k) (dgE (.lst (ns.map .int)) lo hi ds (.shr (.int k)) s5 s6 (.shr (.int c))) = .nx (dgE (.lst (ns.map .int)) lo hi ds' (.shr (.int k)) s5 t6 (.shr (.int c'))) ∧ ds'.length ≤ ds.length + 60 ∧ Jk t6 := by
    intro s5 s6 c h6
    obtain ⟨ρ2, e, ds', c', t6, h1, h2, h3⟩ := forGo_run (t := .nm 6) (b := lb__law_digits_2) (fun i ρ => ∃ ds' c' t6, ds'.length ≤ ds.length + i ∧ Jk t6 ∧ ρ = dgE (.lst (ns.map .int)) lo hi ds' (.shr (.int k)) s5 t6 (.shr (.int c'))) (xs := (List.range 12).map fun (k : Nat) => D.int k) ⟨ds, c, s6, by omega, h6, rfl⟩ fun i x ρ hx hp => by
      obtain ⟨ds', c', t6, h1, h2, rfl⟩ := hp
      have hil : i < 12 := by simpa using (List.getElem?_eq_some_iff.mp hx).1
      have ex : x = .int (i : Nat) := by
        rw [List.getElem?_map, List.getElem?_range hil] at hx
        simpa using hx.symm
      subst ex
      obtain ⟨ds2, c2, e2, h4⟩ := digits_2 (.lst (ns.map .int)) lo hi ds' (.shr (.int k)) s5 c' i (by omega) (by omega)
      refine ⟨dgE (.lst (ns.map .int)) lo hi ds' (.shr (.int k)) s5 (.shr (.int i)) (.shr (.int c')), ?_, _, .inl e2, ds2, c2, .shr _, by omega, .shr _, rfl⟩
      unfold dgE
      walk_at "evh"
    refine ⟨ds', c', t6, by rw [e, h3], ?_, h2⟩
    have h1 : ds'.length ≤ ds.length + 12 := by simpa using h1
    omega
  unfold lb__law_digits_3
  have step : ∀ c : Int, ∃ ds' t5 t6 t7, ((mIf (mTest (m2 lGe (nm 5) (m2 lPow (mC (.int 10)) (mC (.int 18))))) (mFor (mRg1 (mC (.int 60))) (.nm 6) lb__law_digits_1) (mSeq (mSet 7 (m2 lMod (m1 lInt1 (m2 lAdd (m2 lAdd (m2 lMul (nm 5) (mC (.int 48271))) (m2 lMul (nm 4) (mC (.int 69621)))) (mC (.int 11)))) (mC (.int 2147483647))))
    (mFor (mRg1 (mC (.int 12))) (.nm 6) lb__law_digits_2)))) (dgE (.lst (ns.map .int)) lo hi ds (.shr (.int k)) (.shr (.int c)) s6 s7) = .nx (dgE (.lst (ns.map .int)) lo hi ds' (.shr (.int k)) t5 t6 t7) ∧ ds'.length ≤ ds.length + 60 ∧ Jk t5 ∧ Jk t6 ∧ Jk t7 := by
    intro c
    by_cases h : (1000000000000000000 : Int) ≤ c
    · obtain ⟨ds', c', t6, e, h1, h2⟩ := l1 s6 c h6
      refine ⟨ds', .shr (.int c'), t6, s7, ?_, h1, .shr _, h2, h7⟩
      rw [← e]
      unfold dgE
      walk_at "evh"
    · obtain ⟨ds', c', t6, e, h1, h2⟩ := l2 (.shr (.int c)) s6 ((c * 48271 + k * 69621 + 11) % 2147483647) h6
      refine ⟨ds', .shr (.int c), t6, .shr (.int c'), ?_, h1, .shr _, h2, .shr _⟩
      rw [← e]
      unfold dgE
      walk_at "evh"
  have c0 := cell ns k
  by_cases hc : ns.getD k 0 < 0
  · obtain ⟨ds', t5, t6, t7, e, h1⟩ := step (1 - 2 * ns.getD k 0)
    refine ⟨ds', t5, t6, t7, ?_, h1⟩
    rw [← e, sq]
    have a1 : mSet 5 (mCall f__law_cell [.v (fz 0), .v (fz 4)]) (dgE (.lst (ns.map .int)) lo hi ds (.shr (.int k)) s5 s6 s7) = .nx (dgE (.lst (ns.map .int)) lo hi ds (.shr (.int k)) (.shr (.int (ns.getD k 0))) s6 s7) := by
      unfold dgE
      simp only [List.getD_eq_getElem?_getD] at c0 ⊢; walk_at "evh"
    rw [a1, SRes.thn_nx, sq]
    generalize ns.getD k 0 = z at hc ⊢
    have a2 : mIf (mTest (m2 lLt (nm 5) (mC (.int 0)))) (mSet 5 (m2 lSub (mC (.int 1)) (m2 lMul (mC (.int 2)) (nm 5)))) mNx (dgE (.lst (ns.map .int)) lo hi ds (.shr (.int k)) (.shr (.int z)) s6 s7) = .nx (dgE (.lst (ns.map .int)) lo hi ds (.shr (.int k)) (.shr (.int (1 - 2 * z))) s6 s7) := by
      unfold dgE
      walk_at "evh"
    rw [a2, SRes.thn_nx]
  · obtain ⟨ds', t5, t6, t7, e, h1⟩ := step (ns.getD k 0)
    refine ⟨ds', t5, t6, t7, ?_, h1⟩
    rw [← e, sq]
    have a1 : mSet 5 (mCall f__law_cell [.v (fz 0), .v (fz 4)]) (dgE (.lst (ns.map .int)) lo hi ds (.shr (.int k)) s5 s6 s7) = .nx (dgE (.lst (ns.map .int)) lo hi ds (.shr (.int k)) (.shr (.int (ns.getD k 0))) s6 s7) := by
      unfold dgE
      simp only [List.getD_eq_getElem?_getD] at c0 ⊢; walk_at "evh"
    rw [a1, SRes.thn_nx, sq]
    generalize ns.getD k 0 = z at hc ⊢
    have a2 : mIf (mTest (m2 lLt (nm 5) (mC (.int 0)))) (mSet 5 (m2 lSub (mC (.int 1)) (m2 lMul (mC (.int 2)) (nm 5)))) mNx (dgE (.lst (ns.map .int)) lo hi ds (.shr (.int k)) (.shr (.int z)) s6 s7) = .nx (dgE (.lst (ns.map .int)) lo hi ds (.shr (.int k)) (.shr (.int z)) s6 s7) := by
      unfold dgE
      walk_at "evh"
    rw [a2, SRes.thn_nx]
theorem digits_own (ns : List Int) (lo hi : Nat) (hn : ns.length ≤ 63) (hlo : lo ≤ hi) (hh : hi ≤ 1000) : ∃ ds : List Int, f__law_digits [.shr (.lst (ns.map .int)), .shr (.int lo), .shr (.int hi)] = .ok (.own (O.l (ds.map .int))) [.un, .un, .un] := by
  obtain ⟨ρ2, e, ds', t4, t5, t6, t7, h1, h4, h5, h6, h7, h3⟩ := forGo_run (t := .nm 4) (b := lb__law_digits_3) (fun i ρ => ∃ ds' t4 t5 t6 t7, ds'.length ≤ 60 * i ∧ Jk t4 ∧ Jk t5 ∧ Jk t6 ∧ Jk t7 ∧ ρ = dgE (.lst (ns.map .int)) lo hi ds' t4 t5 t6 t7) (xs := (List.range (hi - lo)).map fun (k : Nat) => D.int (lo + k)) ⟨[], .un, .un, .un, .un, by simp, .un, .un, .un, .un, rfl⟩ fun i x ρ hx hp => by
    obtain ⟨ds', t4, t5, t6, t7, h1, h4, h5, h6, h7, rfl⟩ := hp
    have hil : i < hi - lo := by simpa using (List.getElem?_eq_some_iff.mp hx).1
    have ex : x = .int ((lo + i : Nat) : Int) := by
      rw [List.getElem?_map, List.getElem?_range hil] at hx
      simpa using hx.symm
    subst ex
    obtain ⟨ds2, u5, u6, u7, e2, g1, g2⟩ := digits_3 ns lo hi ds' t5 t6 t7 (lo + i) hn (by omega) (by omega) h5 h6 h7
    refine ⟨dgE (.lst (ns.map .int)) lo hi ds' (.shr (.int ((lo + i : Nat) : Int))) t5 t6 t7, ?_, _, .inl e2, ds2, _, u5, u6, u7, by omega, .shr _, g2.1, g2.2.1, g2.2.2, rfl⟩
    unfold dgE
    walk_at "evh"
  refine ⟨ds', ?_⟩
  rw [f__law_digits_eq]; unfold b__law_digits
  have ee : ((hi : Int) - lo).toNat = hi - lo := by omega
  subst h3
  unfold dgE at e
  simp only [O.l, List.map_nil] at e
  walk_at "evh"
end Mw

set_option Elab.async false
set_option linter.all false
set_option maxRecDepth 100000
set_option autoImplicit false
namespace Mw
open PySem PySem.Spec PyProof.Rows L2 Mw
local macro_rules | `(tactic| walk_at "ev") => `(tactic| ((try simp -implicitDefEqProofs [-List.map_map, ev_fn, atI_pos, ev_seq, ev_set, ev_aug, ev_nm, ev_fz, ev_mv, ev_m1, ev_m2, ev_mInt, ev_mTest, ev_mAnd, ev_mOr, ev_mNot, ev_mAndV, ev_mOrV, ev_args, ev_args0, ev_mLst, ev_mTup, sts_cons, ev_sl00, ev_sl01, ev_sl10, ev_sl11, ev_asg, ev_rt, ev_if, ev_drop, ev_for, ev_it, ev_rg1, ev_rg2, ev_app, ev_put, ev_argb0, ev_argbv, ev_argbb, ev_call, pushAt_0, pushAt_s, putAt_0, putAt_s, lend, back, keep, asg, asgs, lIx_d, lIx_t, lIx_s, lIx_own, lIx_pk, lMul_i, lAdd_s, lAdd_t, lMul_s, D.kind, isK, D.isNon]); (repeat (simp -implicitDefEqProofs (disch := omega) only [lenOk_of, mulOk_l, mulOk_r, repOk_of, rgOk_of, powOk_of, divOk_of, modOk_of]; try simp -implicitDefEqProofs [-List.map_map, ev_fn, atI_pos, ev_seq, ev_set, ev_aug, ev_nm, ev_fz, ev_mv, ev_m1, ev_m2, ev_mInt, ev_mTest, ev_mAnd, ev_mOr, ev_mNot, ev_mAndV, ev_mOrV, ev_args, ev_args0, ev_mLst, ev_mTup, sts_cons, ev_sl00, ev_sl01, ev_sl10, ev_sl11, ev_asg, ev_rt, ev_if, ev_drop, ev_for, ev_it, ev_rg1, ev_rg2, ev_app, ev_put, ev_argb0, ev_argbv, ev_argbb, ev_call, pushAt_0, pushAt_s, putAt_0, putAt_s, lend, back, keep, asg, asgs, lIx_d, lIx_t, lIx_s, lIx_own, lIx_pk, lMul_i, lAdd_s, lAdd_t, lMul_s, D.kind, isK, D.isNon]))))
local macro_rules | `(tactic| walk_at "evh") => `(tactic| ((try simp -implicitDefEqProofs [*, -List.map_map, ev_fn, atI_pos, ev_seq, ev_set, ev_aug, ev_nm, ev_fz, ev_mv, ev_m1, ev_m2, ev_mInt, ev_mTest, ev_mAnd, ev_mOr, ev_mNot, ev_mAndV, ev_mOrV, ev_args, ev_args0, ev_mLst, ev_mTup, sts_cons, ev_sl00, ev_sl01, ev_sl10, ev_sl11, ev_asg, ev_rt, ev_if, ev_drop, ev_for, ev_it, ev_rg1, ev_rg2, ev_app, ev_put, ev_argb0, ev_argbv, ev_argbb, ev_call, pushAt_0, pushAt_s, putAt_0, putAt_s, lend, back, keep, asg, asgs, lIx_d, lIx_t, lIx_s, lIx_own, lIx_pk, lMul_i, lAdd_s, lAdd_t, lMul_s, D.kind, isK, D.isNon]); (repeat (simp -implicitDefEqProofs (disch := omega) only [lenOk_of, mulOk_l, mulOk_r, repOk_of, rgOk_of, powOk_of, divOk_of, modOk_of]; try simp -implicitDefEqProofs [*, -List.map_map, ev_fn, atI_pos, ev_seq, ev_set, ev_aug, ev_nm, ev_fz, ev_mv, ev_m1, ev_m2, ev_mInt, ev_mTest, ev_mAnd, ev_mOr, ev_mNot, ev_mAndV, ev_mOrV, ev_args, ev_args0, ev_mLst, ev_mTup, sts_cons, ev_sl00, ev_sl01, ev_sl10, ev_sl11, ev_asg, ev_rt, ev_if, ev_drop, ev_for, ev_it, ev_rg1, ev_rg2, ev_app, ev_put, ev_argb0, ev_argbv, ev_argbb, ev_call, pushAt_0, pushAt_s, putAt_0, putAt_s, lend, back, keep, asg, asgs, lIx_d, lIx_t, lIx_s, lIx_own, lIx_pk, lMul_i, lAdd_s, lAdd_t, lMul_s, D.kind, isK, D.isNon]))))
theorem dr_nat (ds : List Int) (a : Nat) (m : Nat) (hm : 0 < m) : ∃ j : Nat, dr ds a m = j ∧ j < m := by
  have h1 := dr_lo ds a m (by omega)
  have h2 := dr_lt ds a m (by omega)
  exact ⟨(dr ds a m).toNat, by omega, by omega⟩
theorem draw_n (ds : List Int) (a m : Nat) (M : Int) (hM : M = m) (hm : 0 < m) : ∃ j : Nat, j < m ∧ f__law_draw [.mu true (bx ds a), .shr (.int M)] = .ok (.d (.int j)) [.mu true (bx ds (a + 1)), .un] := by
  subst hM
  obtain ⟨j, h1, h2⟩ := dr_nat ds a m hm
  exact ⟨j, h2, by rw [draw ds a m (by omega), h1]⟩
theorem law_run (ds : List Int) (a n : Nat) (chars : List Nat) (hn : n ≤ 1000) (hc : chars ≠ []) (hl : chars.length ≤ 1000) :
    ∃ w : List Nat, f__law_run [.mu true (bx ds a), .shr (.int n), .shr (.str chars)] = .ok (.d (.str w)) [.mu true (bx ds (a + n)), .un, .un] ∧ w.length = n ∧ ∀ c ∈ w, c ∈ chars := by
  have hp : 0 < chars.length := List.length_pos_iff.mpr hc
  obtain ⟨ρ2, e, w, s4, h1, h2, h4, h3⟩ := forGo_run (t := .nm 4) (b := lb__law_run_1) (fun i ρ => ∃ (w : List Nat) (s4 : Slo), w.length = i ∧ (∀ c ∈ w, c ∈ chars) ∧ Jk s4 ∧ ρ = [.mu true (bx ds (a + i)), .shr (.int n), .shr (.str chars), .shr (.str w), s4])
      (xs := (List.range n).map fun (k : Nat) => D.int k) (ρ := [.mu true (bx ds a), .shr (.int n), .shr (.str chars), .shr (.str []), .un]) ⟨[], .un, rfl, (by simp), .un, rfl⟩ fun i x ρ hx hp => by
    obtain ⟨w, s4, h1, h2, h4, rfl⟩ := hp
    have hil : i < n := by simpa using (List.getElem?_eq_some_iff.mp hx).1
    obtain ⟨j, hj, hjl⟩ := dr_nat ds (a + i) chars.length (by omega)
    have hd := draw ds (a + i) chars.length (by omega)
    rw [hj] at hd
    refine ⟨[.mu true (bx ds (a + i)), .shr (.int n), .shr (.str chars), .shr (.str w), .shr x], ?_, [.mu true (bx ds (a + i + 1)), .shr (.int n), .shr (.str chars), .shr (.str (w ++ [chars[j]])), .shr x], .inl ?_, w ++ [chars[j]], .shr x, by simp [h1], ?_, .shr _, rfl⟩
    · walk_at "evh"
    · unfold lb__law_run_1
      have hb : chars[j]? = some chars[j] := List.getElem?_eq_getElem hjl
      have hw : w.length + 1 ≤ 1000000 := by omega
      walk_at "evh"
    · intro c hcm
      rcases List.mem_append.mp hcm with z | z
      · exact h2 c z
      · rw [List.mem_singleton] at z; subst z; exact List.getElem_mem hjl
  refine ⟨w, ?_, by simpa using h1, h2⟩
  have h1 : w.length = n := by simpa using h1
  subst h3
  rw [f__law_run_eq]; unfold b__law_run
  simp only [List.length_map, List.length_range] at e
  walk_at "evh"
/-- data of a depth that the laws' comparison goes through -/
def D.ok : Nat → D → Prop
  | 0, _ => False
  | n + 1, .tup xs => xs.length ≤ 100000 ∧ ∀ y ∈ xs, D.ok n y
  | n + 1, .lst xs => xs.length ≤ 100000 ∧ ∀ y ∈ xs, D.ok n y
  | _ + 1, .obj _ _ _ => False
  | _ + 1, _ => True
theorem same_loop (n : Nat) (x : D) (xs : List D) (hx : x = .tup xs ∨ x = .lst xs) (hl : xs.length ≤ 100000) (ih : ∀ y ∈ xs, k__law_same n [.shr y, .shr y] = .ok (.d (.bl true)) [.un, .un]) :
    ∃ s2, forGo (.nm 2) (lb__law_same_1 (k__law_same n)) ((List.range xs.length).map fun (k : Nat) => D.int k) [.shr x, .shr x, .un] = .nx [.shr x, .shr x, s2] := by
  obtain ⟨ρ2, e, s2, h1, h2⟩ := forGo_run (t := .nm 2) (b := lb__law_same_1 (k__law_same n)) (fun i ρ => ∃ s2, Jk s2 ∧ ρ = [.shr x, .shr x, s2]) (xs := (List.range xs.length).map fun (k : Nat) => D.int k) (ρ := [.shr x, .shr x, .un]) ⟨.un, rfl, rfl⟩ fun i y ρ hy hp => by
    obtain ⟨s2, h1, rfl⟩ := hp
    have hil : i < xs.length := by simpa using (List.getElem?_eq_some_iff.mp hy).1
    have ey : y = .int (i : Nat) := by
      rw [List.getElem?_map, List.getElem?_range hil] at hy
      simpa using hy.symm
    subst ey
    have hi := ih xs[i] (List.getElem_mem hil)
    refine ⟨[.shr x, .shr x, .shr (.int i)], by walk_at "evh", _, .inl ?_, .shr (.int i), rfl, rfl⟩
    unfold lb__law_same_1
    have hg : xs[i]? = some xs[i] := List.getElem?_eq_getElem hil
    rcases hx with rfl | rfl <;> walk_at "evh"
  exact ⟨s2, by rw [e, h2]⟩
theorem same_refl : ∀ (n : Nat) (x : D), D.ok n x → k__law_same n [.shr x, .shr x] = .ok (.d (.bl true)) [.un, .un]
  | 0, x, h => h.elim
  | n + 1, .tup xs, h => by
    obtain ⟨s2, e⟩ := same_loop n (.tup xs) xs (.inl rfl) h.1 fun y hy => same_refl n y (h.2 y hy)
    have hl : xs.length ≤ 100000 := h.1
    unfold k__law_same b__law_same
    walk_at "evh"
  | n + 1, .lst xs, h => by
    obtain ⟨s2, e⟩ := same_loop n (.lst xs) xs (.inr rfl) h.1 fun y hy => same_refl n y (h.2 y hy)
    have hl : xs.length ≤ 100000 := h.1
    unfold k__law_same b__law_same
    walk_at "evh"
  | n + 1, .int i, h => by
    unfold k__law_same b__law_same
    walk_at "evh"
  | n + 1, .bl i, h => by
    unfold k__law_same b__law_same
    walk_at "evh"
  | n + 1, .str i, h => by
    unfold k__law_same b__law_same
    walk_at "evh"
  | n + 1, .non, h => by
    unfold k__law_same b__law_same
    walk_at "evh"
  | n + 1, .obj _ _ _, h => h.elim
end Mw

set_option Elab.async false
set_option linter.all false
set_option maxRecDepth 100000
set_option autoImplicit false
namespace Mw
open PySem PySem.Spec PyProof.Rows L2 Mw
noncomputable section
def lb_law_k01_1 : MS := (mSeq (mSet 5 (mCall f__law_token [.b 1]))
    (mSeq (mSet 6 (m2 lDiv (mCall f__law_draw [.b 1, .v (mC (.int 6))]) (mC (.int 3))))
    (mSeq (mIf (mAnd (mTest (m2 lGt (m1 lLen (nm 2)) (mC (.int 0)))) (mAnd (mTest (m2 lGt (mCall f__law_sort [.v (m2 lIx (nm 5) (mC (.int 1)))]) (mC (.int 0)))) (mTest (m2 lEq (mCall f__law_sort [.v (m2 lIx (nm 5) (mC (.int 1)))]) (mCall f__law_sort [.v (m2 lIx (m2 lIx (nm 2) (m1 lNeg (mC (.int 1)))) (mC (.int 1)))]))))) (mSet 6 (m2 lMax2 (mC (.int 1)) (nm 6))) mNx)
    (mSeq (mDrop (mApp 2 (mTup [(m2 lIx (nm 5) (mC (.int 0))), (m2 lIx (nm 5) (mC (.int 1)))])))
    (mSet 3 (m2 lAdd (m2 lAdd (nm 3) (m2 lMul (mC (.str [32])) (nm 6))) (m2 lIx (nm 5) (mC (.int 1)))))))))
def b_law_k01 : MS := (mSeq (mSet 1 (mLst [(mCall f__law_digits [.v (fz 0), .v (mC (.int 0)), .v (mC (.int 63))]), (mC (.int 0))]))
    (mSeq (mSet 2 (mLst []))
    (mSeq (mSet 3 (m2 lMul (mC (.str [32])) (mCall f__law_draw [.b 1, .v (mC (.int 2))])))
    (mSeq (mFor (mRg1 (mCall f__law_draw [.b 1, .v (mC (.int 15))])) (.nm 4) lb_law_k01_1)
    (mRt (mCall f__law_same [.v (mCall f_tokens [.v (m2 lAdd (nm 3) (m2 lMul (mC (.str [32])) (mCall f__law_draw [.b 1, .v (mC (.int 2))])))]), .v (fz 2)]))))))
def f_law_k01 : Fn := hide (mkFn 7 b_law_k01)
theorem f_law_k01_eq : f_law_k01 = mkFn 7 b_law_k01 := hide_eq _

end
end Mw

set_option Elab.async false
set_option linter.all false
set_option maxRecDepth 100000
set_option autoImplicit false
namespace Mw.K01
open PySem PySem.Spec PyProof.Rows L2 Mw
local macro_rules | `(tactic| walk_at "ev") => `(tactic| ((try simp -implicitDefEqProofs [-List.map_map, ev_fn, atI_pos, ev_seq, ev_set, ev_aug, ev_nm, ev_fz, ev_mv, ev_m1, ev_m2, ev_mInt, ev_mTest, ev_mAnd, ev_mOr, ev_mNot, ev_mAndV, ev_mOrV, ev_args, ev_args0, ev_mLst, ev_mTup, sts_cons, ev_sl00, ev_sl01, ev_sl10, ev_sl11, ev_asg, ev_rt, ev_if, ev_drop, ev_for, ev_it, ev_rg1, ev_rg2, ev_app, ev_put, ev_argb0, ev_argbv, ev_argbb, ev_call, pushAt_0, pushAt_s, putAt_0, putAt_s, lend, back, keep, asg, asgs, lIx_d, lIx_t, lIx_s, lIx_own, lIx_pk, lMul_i, lAdd_s, lAdd_t, lMul_s, D.kind, isK, D.isNon]); (repeat (simp -implicitDefEqProofs (disch := omega) only [lenOk_of, mulOk_l, mulOk_r, repOk_of, rgOk_of, powOk_of, divOk_of, modOk_of]; try simp -implicitDefEqProofs [-List.map_map, ev_fn, atI_pos, ev_seq, ev_set, ev_aug, ev_nm, ev_fz, ev_mv, ev_m1, ev_m2, ev_mInt, ev_mTest, ev_mAnd, ev_mOr, ev_mNot, ev_mAndV, ev_mOrV, ev_args, ev_args0, ev_mLst, ev_mTup, sts_cons, ev_sl00, ev_sl01, ev_sl10, ev_sl11, ev_asg, ev_rt, ev_if, ev_drop, ev_for, ev_it, ev_rg1, ev_rg2, ev_app, ev_put, ev_argb0, ev_argbv, ev_argbb, ev_call, pushAt_0, pushAt_s, putAt_0, putAt_s, lend, back, keep, asg, asgs, lIx_d, lIx_t, lIx_s, lIx_own, lIx_pk, lMul_i, lAdd_s, lAdd_t, lMul_s, D.kind, isK, D.isNon]))))
local macro_rules | `(tactic| walk_at "evh") => `(tactic| ((try simp -implicitDefEqProofs [*, -List.map_map, ev_fn, atI_pos, ev_seq, ev_set, ev_aug, ev_nm, ev_fz, ev_mv, ev_m1, ev_m2, ev_mInt, ev_mTest, ev_mAnd, ev_mOr, ev_mNot, ev_mAndV, ev_mOrV, ev_args, ev_args0, ev_mLst, ev_mTup, sts_cons, ev_sl00, ev_sl01, ev_sl10, ev_sl11, ev_asg, ev_rt, ev_if, ev_drop, ev_for, ev_it, ev_rg1, ev_rg2, ev_app, ev_put, ev_argb0, ev_argbv, ev_argbb, ev_call, pushAt_0, pushAt_s, putAt_0, putAt_s, lend, back, keep, asg, asgs, lIx_d, lIx_t, lIx_s, lIx_own, lIx_pk, lMul_i, lAdd_s, lAdd_t, lMul_s, D.kind, isK, D.isNon]); (repeat (simp -implicitDefEqProofs (disch := omega) only [lenOk_of, mulOk_l, mulOk_r, repOk_of, rgOk_of, powOk_of, divOk_of, modOk_of]; try simp -implicitDefEqProofs [*, -List.map_map, ev_fn, atI_pos, ev_seq, ev_set, ev_aug, ev_nm, ev_fz, ev_mv, ev_m1, ev_m2, ev_mInt, ev_mTest, ev_mAnd, ev_mOr, ev_mNot, ev_mAndV, ev_mOrV, ev_args, ev_args0, ev_mLst, ev_mTup, sts_cons, ev_sl00, ev_sl01, ev_sl10, ev_sl11, ev_asg, ev_rt, ev_if, ev_drop, ev_for, ev_it, ev_rg1, ev_rg2, ev_app, ev_put, ev_argb0, ev_argbv, ev_argbb, ev_call, pushAt_0, pushAt_s, putAt_0, putAt_s, lend, back, keep, asg, asgs, lIx_d, lIx_t, lIx_s, lIx_own, lIx_pk, lMul_i, lAdd_s, lAdd_t, lMul_s, D.kind, isK, D.isNon]))))
/-! ## the lexer, as a function -/
abbrev LET : List Nat := [97, 98, 99, 100, 101, 102, 103, 104, 105, 106, 107, 108, 109, 110, 111, 112, 113, 114, 115, 116, 117, 118, 119, 120, 121, 122]
abbrev DIG : List Nat := [48, 49, 50, 51, 52, 53, 54, 55, 56, 57]
def pre (cs : List Nat) (s : List Nat) : Nat := (s.takeWhile fun c => decide (c ∈ cs)).length
theorem pre_cons (cs : List Nat) (c : Nat) (r : List Nat) : pre cs (c :: r) = if c ∈ cs then 1 + pre cs r else 0 := by
  unfold pre
  rw [List.takeWhile_cons]
  by_cases h : c ∈ cs
  · simp [h]; omega
  · simp [h]
theorem run_end (line cs : List Nat) (a : Nat) (ha : a ≤ line.length) : f__run_end [.shr (.str line), .shr (.int a), .shr (.str cs)] = .ok (.d (.int ((a + pre cs (line.drop a) : Nat) : Int))) [.un, .un, .un] := by
  have key := while_run (c := lc__run_end_1) (b := lb__run_end_2) (fun ρ => ∃ e : Nat, e ≤ line.length ∧ e + pre cs (line.drop e) = a + pre cs (line.drop a) ∧ ρ = [.shr (.str line), .shr (.int a), .shr (.str cs), .shr (.int e)])
    (fun ρ => match ρ with | [_, _, _, .shr (.int e)] => line.length - e.toNat | _ => 0)
    (fun r => r = .nx [.shr (.str line), .shr (.int a), .shr (.str cs), .shr (.int ((a + pre cs (line.drop a) : Nat) : Int))]) (fun ρ hp => by
      obtain ⟨e, he, h1, rfl⟩ := hp
      by_cases hl : e < line.length
      · have hg : line[e]? = some line[e] := List.getElem?_eq_getElem hl
        have hd : line.drop e = line[e] :: line.drop (e + 1) := List.drop_eq_getElem_cons hl
        by_cases hm : line[e] ∈ cs
        · refine ⟨true, [.shr (.str line), .shr (.int a), .shr (.str cs), .shr (.int e)], true, ?_, by simp, fun _ => .inl ⟨[.shr (.str line), .shr (.int a), .shr (.str cs), .shr (.int ((e + 1 : Nat) : Int))], .inl ?_, ⟨e + 1, by omega, ?_, rfl⟩, ?_⟩⟩
          · unfold lc__run_end_1; walk_at "evh"
          · unfold lb__run_end_2; walk_at "evh"
          · have := congrArg (pre cs) hd
            rw [pre_cons, if_pos hm] at this
            omega
          · simp; omega
        · refine ⟨false, [.shr (.str line), .shr (.int a), .shr (.str cs), .shr (.int e)], true, ?_, fun _ => ?_, by simp⟩
          · unfold lc__run_end_1; walk_at "evh"
          · have := congrArg (pre cs) hd
            rw [pre_cons, if_neg hm] at this
            rw [← h1, this]; rfl
      · refine ⟨false, [.shr (.str line), .shr (.int a), .shr (.str cs), .shr (.int e)], true, ?_, fun _ => ?_, by simp⟩
        · unfold lc__run_end_1; walk_at "evh"
        · rw [← h1, List.drop_eq_nil_of_le (by omega)]; simp [pre]) (by simp) [.shr (.str line), .shr (.int a), .shr (.str cs), .shr (.int a)] ⟨a, ha, rfl, rfl⟩
  rw [f__run_end_eq]; unfold b__run_end
  walk_at "evh"
def isBad (w : List Nat) : List Nat × List Nat := ([98, 97, 100], w)
def lexC (c : Nat) (s : List Nat) : List Nat × List Nat :=
  if c ∈ LET then (if 12 < (s.take (pre LET s)).length then ([98, 97, 100], s.take (pre LET s)) else ([110, 97, 109, 101], s.take (pre LET s)))
  else if c ∈ DIG then (if 4 < (s.take (pre DIG s)).length ∨ (1 < (s.take (pre DIG s)).length ∧ (s.take (pre DIG s))[0]? = some 48) then ([98, 97, 100], s.take (pre DIG s)) else ([110, 117, 109, 98, 101, 114], s.take (pre DIG s)))
  else if c ∈ [58, 44, 59] then ([115, 105, 103, 110], [c]) else ([98, 97, 100], [c])
def lexT : List Nat → List Nat × List Nat
  | [] => ([], [])
  | c :: r => lexC c (c :: r)
theorem pre_le (cs s : List Nat) : pre cs s ≤ s.length := by
  unfold pre; exact (List.takeWhile_prefix _).length_le
theorem cut_take (line : List Nat) (a n : Nat) (h : a + n ≤ line.length) : cutA line (some (a : Int)) (some ((a : Int) + (n : Int))) = (line.drop a).take n := by
  rw [show (a : Int) + (n : Int) = ((a + n : Nat) : Int) by omega]
  unfold cutA
  rw [show HT.sIx line.length 0 (some (a : Int)) = a by rw [HT.sIx_nat]; omega, show HT.sIx line.length line.length (some ((a + n : Nat) : Int)) = a + n by rw [HT.sIx_nat]; omega]
  congr 1; omega
theorem token_at (line : List Nat) (a : Nat) (ha : a < line.length) : f__token [.shr (.str line), .shr (.int a)] = .ok (.d (.tup [.str (lexT (line.drop a)).1, .str (lexT (line.drop a)).2])) [.un, .un] := by
  have hd : line.drop a = line[a] :: line.drop (a + 1) := List.drop_eq_getElem_cons ha
  have hg : line[a]? = some line[a] := List.getElem?_eq_getElem ha
  have r1 := run_end line LET a (by omega)
  have r2 := run_end line DIG a (by omega)
  have p1 := pre_le LET (line.drop a)
  have p2 := pre_le DIG (line.drop a)
  have c1 := cut_take line a (pre LET (line.drop a)) (by rw [List.length_drop] at p1; omega)
  have c2 := cut_take line a (pre DIG (line.drop a)) (by rw [List.length_drop] at p2; omega)
  have hL : lexT (line.drop a) = lexC line[a] (line.drop a) := by rw [hd]; rfl
  rw [hL]
  rw [f__token_eq]; unfold b__token lexC
  by_cases h1 : line[a] ∈ LET
  · rw [if_pos h1]
    clear hd hL r2 p2 c2
    generalize hw : (line.drop a).take (pre LET (line.drop a)) = w at *
    by_cases h12 : 12 < w.length
    · rw [if_pos h12]
      have h12 : (12 : Int) < w.length := by omega
      walk_at "evh"
    · rw [if_neg h12]
      have h12 : ¬ (12 : Int) < w.length := by omega
      walk_at "evh"
  · rw [if_neg h1]
    clear r1 p1 c1
    by_cases h2 : line[a] ∈ DIG
    · rw [if_pos h2]
      have hw0 : ((line.drop a).take (pre DIG (line.drop a)))[0]? = some line[a] := by
        rw [hd, pre_cons, if_pos h2, Nat.add_comm, List.take_succ_cons]; rfl
      clear hd hL
      generalize hw : (line.drop a).take (pre DIG (line.drop a)) = w at *
      rw [hw0]
      by_cases h4 : 4 < w.length
      · rw [if_pos (.inl h4)]
        have h4 : (4 : Int) < w.length := by omega
        walk_at "evh"
      · by_cases h5 : 1 < w.length
        · by_cases h6 : line[a] = 48
          · rw [if_pos (.inr ⟨h5, by rw [h6]⟩)]
            have h4 : ¬ (4 : Int) < w.length := by omega
            have h5 : (1 : Int) < w.length := by omega
            walk_at "evh"
          · rw [if_neg (by intro z; rcases z with z | ⟨_, z⟩; exact h4 z; exact h6 (Option.some.inj z))]
            have h4 : ¬ (4 : Int) < w.length := by omega
            have h5 : (1 : Int) < w.length := by omega
            walk_at "evh"
        · rw [if_neg (by intro z; rcases z with z | ⟨z, _⟩; exact h4 z; exact h5 z)]
          have h4 : ¬ (4 : Int) < w.length := by omega
          have h5 : ¬ (1 : Int) < w.length := by omega
          walk_at "evh"
    · rw [if_neg h2]
      by_cases h3 : line[a] ∈ [58, 44, 59]
      · rw [if_pos h3]
        walk_at "evh"
      · rw [if_neg h3]
        walk_at "evh"
/-! ## all tokens -/
def lexF : Nat → List Nat → List (List Nat × List Nat)
  | 0, _ => []
  | _ + 1, [] => []
  | n + 1, c :: r => if c = 32 then lexF n r else lexT (c :: r) :: lexF n ((c :: r).drop (lexT (c :: r)).2.length)
theorem lexT_len (c : Nat) (r : List Nat) : 1 ≤ (lexT (c :: r)).2.length ∧ (lexT (c :: r)).2.length ≤ r.length + 1 := by
  have key : ∀ cs : List Nat, c ∈ cs → 1 ≤ ((c :: r).take (pre cs (c :: r))).length ∧ ((c :: r).take (pre cs (c :: r))).length ≤ r.length + 1 := by
    intro cs h
    have h1 := pre_le cs (c :: r)
    have h2 := pre_cons cs c r
    rw [if_pos h] at h2
    rw [List.length_take, List.length_cons] at *
    omega
  show 1 ≤ (lexC c (c :: r)).2.length ∧ (lexC c (c :: r)).2.length ≤ r.length + 1
  unfold lexC
  split
  · split <;> exact key LET (by assumption)
  · split
    · split <;> exact key DIG (by assumption)
    · split <;> simp
theorem lexF_fuel : ∀ (n m : Nat) (s : List Nat), s.length ≤ n → s.length ≤ m → lexF n s = lexF m s
  | 0, m, s, h, _ => by
    have : s = [] := List.eq_nil_of_length_eq_zero (by omega)
    subst this
    cases m <;> rfl
  | n + 1, 0, s, _, h => by
    have : s = [] := List.eq_nil_of_length_eq_zero (by omega)
    subst this; rfl
  | n + 1, m + 1, [], _, _ => rfl
  | n + 1, m + 1, c :: r, h1, h2 => by
    rw [List.length_cons] at h1 h2
    have hl := lexT_len c r
    unfold lexF
    split
    · exact lexF_fuel n m r (by omega) (by omega)
    · rw [lexF_fuel n m _ (by rw [List.length_drop, List.length_cons]; omega) (by rw [List.length_drop, List.length_cons]; omega)]
def lex (s : List Nat) : List (List Nat × List Nat) := lexF s.length s
theorem lex_nil : lex [] = [] := rfl
theorem lex_sp (r : List Nat) : lex (32 :: r) = lex r := by
  show lexF (r.length + 1) (32 :: r) = _
  unfold lexF; rw [if_pos rfl]; rfl
theorem lex_cons (c : Nat) (r : List Nat) (h : c ≠ 32) : lex (c :: r) = lexT (c :: r) :: lex ((c :: r).drop (lexT (c :: r)).2.length) := by
  have hl := lexT_len c r
  show lexF (r.length + 1) (c :: r) = _
  rw [lexF, if_neg h]
  congr 1
  exact lexF_fuel _ _ _ (by rw [List.length_drop, List.length_cons]; omega) (Nat.le_refl _)
def encT (t : List Nat × List Nat) : D := .tup [.str t.1, .str t.2]
theorem tokens_ok (line : List Nat) (hl : line.length ≤ 100000) : f_tokens [.shr (.str line)] = .ok (.own (.lst (((lex line).map encT).map O.d))) [.un] := by
  obtain ⟨s3, key⟩ := while_run (c := lc_tokens_1) (b := lb_tokens_2) (fun ρ => ∃ (e : Nat) (ts : List (List Nat × List Nat)) (s3 : Slo), e ≤ line.length ∧ ts.length ≤ e ∧ ts ++ lex (line.drop e) = lex line ∧ Jk s3 ∧ ρ = [.shr (.str line), .mu false (.lst ((ts.map encT).map O.d)), .shr (.int e), s3])
    (fun ρ => match ρ with | [_, _, .shr (.int e), _] => line.length - e.toNat | _ => 0)
    (fun r => ∃ s3, r = .nx [.shr (.str line), .mu false (.lst (((lex line).map encT).map O.d)), .shr (.int (line.length : Nat)), s3]) (fun ρ hp => by
      obtain ⟨e, ts, s3, he, ht, h1, h3, rfl⟩ := hp
      by_cases hlt : e < line.length
      · have hg : line[e]? = some line[e] := List.getElem?_eq_getElem hlt
        have hd : line.drop e = line[e] :: line.drop (e + 1) := List.drop_eq_getElem_cons hlt
        refine ⟨true, [.shr (.str line), .mu false (.lst ((ts.map encT).map O.d)), .shr (.int e), s3], true, ?_, by simp, fun _ => .inl ?_⟩
        · unfold lc_tokens_1; walk_at "evh"
        · by_cases h32 : line[e] = 32
          · refine ⟨[.shr (.str line), .mu false (.lst ((ts.map encT).map O.d)), .shr (.int ((e + 1 : Nat) : Int)), s3], .inl ?_, ⟨e + 1, ts, s3, by omega, by omega, ?_, h3, rfl⟩, ?_⟩
            · unfold lb_tokens_2; walk_at "evh"
            · rw [← h1, hd, h32, lex_sp]
            · simp; omega
          · have tk := token_at line e hlt
            have hll := lexT_len line[e] (line.drop (e + 1))
            rw [← hd, List.length_drop] at hll
            have hx : lex (line.drop e) = lexT (line.drop e) :: lex (line.drop (e + (lexT (line.drop e)).2.length)) := by
              have := lex_cons line[e] (line.drop (e + 1)) h32
              rw [← hd] at this
              rw [this, List.drop_drop]
            generalize lexT (line.drop e) = t at *
            obtain ⟨t1, t2⟩ := t
            dsimp only at *
            have hL : (ts.map encT).length + 1 ≤ 1000000 := by rw [List.length_map]; omega
            refine ⟨[.shr (.str line), .mu false (.lst (((ts ++ [(t1, t2)]).map encT).map O.d)), .shr (.int ((e + t2.length : Nat) : Int)), .shr (encT (t1, t2))], .inl ?_, ⟨e + t2.length, ts ++ [(t1, t2)], .shr (encT (t1, t2)), by omega, ?_, ?_, rfl, rfl⟩, ?_⟩
            · unfold lb_tokens_2
              walk_at "evh"
              rfl
            · rw [List.length_append, List.length_singleton]; omega
            · rw [List.append_assoc, ← h1, hx]; rfl
            · simp; omega
      · have ee : e = line.length := by omega
        subst ee
        refine ⟨false, [.shr (.str line), .mu false (.lst ((ts.map encT).map O.d)), .shr (.int (line.length : Nat)), s3], true, ?_, fun _ => ⟨s3, ?_⟩, by simp⟩
        · unfold lc_tokens_1; walk_at "evh"
        · rw [← h1, List.drop_length, lex_nil, List.append_nil]) (by simp) [.shr (.str line), .mu false (.lst []), .shr (.int 0), .un] ⟨0, [], .un, by omega, by simp, rfl, rfl, rfl⟩
  rw [f_tokens_eq]; unfold b_tokens
  walk_at "evh"
/-! ## the law -/
def srtC (c : Nat) : Int := if c ∈ DIG then 1 else if c ∈ LET then 2 else 0
def srt (w : List Nat) : Int := match w with
  | [] => 0
  | c :: _ => srtC c
def stop (w rest : List Nat) : Prop := 0 < srt w → srt rest ≠ srt w
structure Good (t : List Nat × List Nat) : Prop where
  ne : t.2 ≠ []
  sp : ∀ c r, t.2 = c :: r → c ≠ 32
  len : t.2.length ≤ 20
  lex : ∀ rest, stop t.2 rest → lexT (t.2 ++ rest) = t
theorem sort_ok (w : List Nat) (h : w ≠ []) : f__law_sort [.shr (.str w)] = .ok (.d (.int (srt w))) [.un] := by
  cases w with
  | nil => exact absurd rfl h
  | cons c r =>
    show _ = FRes.ok (.d (.int (srtC c))) [.un]
    rw [f__law_sort_eq]; unfold b__law_sort srtC
    by_cases h1 : c ∈ DIG
    · rw [if_pos h1]
      walk_at "evh"
    · rw [if_neg h1]
      by_cases h2 : c ∈ LET
      · rw [if_pos h2]
        walk_at "evh"
      · rw [if_neg h2]
        walk_at "evh"
theorem pre_all (cs w rest : List Nat) (h : ∀ c ∈ w, c ∈ cs) (hr : ∀ c r, rest = c :: r → c ∉ cs) : pre cs (w ++ rest) = w.length := by
  induction w with
  | nil =>
    cases rest with
    | nil => rfl
    | cons c r => rw [List.nil_append, pre_cons, if_neg (hr c r rfl)]; rfl
  | cons c w ih => rw [List.cons_append, pre_cons, if_pos (h c (by simp)), ih fun d hd => h d (by simp [hd]), List.length_cons]; omega
theorem let_dig : ∀ c ∈ LET, c ∉ DIG ∧ c ≠ 32 := by decide
theorem dig_let : ∀ c ∈ DIG, c ∉ LET ∧ c ≠ 32 := by decide
theorem good_let (w : List Nat) (h : ∀ c ∈ w, c ∈ LET) (hn : w ≠ []) (hl : w.length ≤ 20) : Good (if 12 < w.length then ([98, 97, 100], w) else ([110, 97, 109, 101], w)) := by
  have key : ∀ k : List Nat, (if 12 < w.length then [98, 97, 100] else [110, 97, 109, 101]) = k → Good (k, w) := by
    intro k hk
    refine ⟨hn, fun c r e => (let_dig c (h c (by rw [show w = c :: r from e]; simp))).2, hl, fun rest hs => ?_⟩
    cases w with
    | nil => exact absurd rfl hn
    | cons c r =>
      have hc := h c (by simp)
      have hsw : srt (c :: r) = 2 := by show srtC c = 2; unfold srtC; rw [if_neg (let_dig c hc).1, if_pos hc]
      have hs : stop (c :: r) rest := hs
      have hp := pre_all LET (c :: r) rest h fun d r' e hd => by
        subst e
        have := hs (by rw [hsw]; decide)
        apply this
        rw [hsw]
        show srtC d = 2; unfold srtC; rw [if_neg (let_dig d hd).1, if_pos hd]
      show lexC c ((c :: r) ++ rest) = _
      unfold lexC
      rw [if_pos hc, hp, List.take_left]
      rw [← hk]
      split <;> rfl
  split
  · next h12 => exact key _ (if_pos h12)
  · next h12 => exact key _ (if_neg h12)
theorem good_dig (w : List Nat) (h : ∀ c ∈ w, c ∈ DIG) (hn : w ≠ []) (hl : w.length ≤ 20) : Good (if 4 < w.length ∨ (1 < w.length ∧ w[0]? = some 48) then ([98, 97, 100], w) else ([110, 117, 109, 98, 101, 114], w)) := by
  have key : ∀ k : List Nat, (if 4 < w.length ∨ (1 < w.length ∧ w[0]? = some 48) then [98, 97, 100] else [110, 117, 109, 98, 101, 114]) = k → Good (k, w) := by
    intro k hk
    refine ⟨hn, fun c r e => (dig_let c (h c (by rw [show w = c :: r from e]; simp))).2, hl, fun rest hs => ?_⟩
    cases w with
    | nil => exact absurd rfl hn
    | cons c r =>
      have hc := h c (by simp)
      have hsw : srt (c :: r) = 1 := by show srtC c = 1; unfold srtC; rw [if_pos hc]
      have hs : stop (c :: r) rest := hs
      have hp := pre_all DIG (c :: r) rest h fun d r' e hd => by
        subst e
        have := hs (by rw [hsw]; decide)
        apply this
        rw [hsw]
        show srtC d = 1; unfold srtC; rw [if_pos hd]
      show lexC c ((c :: r) ++ rest) = _
      unfold lexC
      rw [if_neg (dig_let c hc).1, if_pos hc, hp, List.take_left]
      rw [← hk]
      split <;> rfl
  split
  · next h12 => exact key _ (if_pos h12)
  · next h12 => exact key _ (if_neg h12)
theorem good_one (k : List Nat) (c : Nat) (h1 : c ∉ LET) (h2 : c ∉ DIG) (h3 : c ≠ 32) (hk : k = if c ∈ [58, 44, 59] then [115, 105, 103, 110] else [98, 97, 100]) : Good (k, [c]) := by
  refine ⟨by simp, fun d r e => by cases e; exact h3, by simp, fun rest _ => ?_⟩
  show lexC c ([c] ++ rest) = _
  unfold lexC
  rw [if_neg h1, if_neg h2, hk]
  split <;> rfl
abbrev SGN : List Nat := [58, 44, 59]
abbrev ODD : List Nat := [65, 66, 90, 33, 35, 36, 38, 39, 40, 41, 42, 43, 45, 46, 47, 60, 61, 62, 63, 64, 91, 92, 93, 94, 95, 96, 123, 124, 125, 126, 34]
theorem sgn_good : ∀ c ∈ SGN, c ∉ LET ∧ c ∉ DIG ∧ c ≠ 32 := by decide
theorem odd_good : ∀ c ∈ ODD, c ∉ LET ∧ c ∉ DIG ∧ c ≠ 32 ∧ c ∉ SGN := by decide
theorem tok_1 (ds : List Int) (a k : Nat) (hk : k < 5) (d0 : f__law_draw [.mu true (bx ds a), .shr (.int 5)] = .ok (.d (.int k)) [.mu true (bx ds (a + 1)), .un]) (h : k < 2) :
    ∃ (t : List Nat × List Nat) (a' : Nat), f__law_token [.mu true (bx ds a)] = .ok (.own (.lst [.d (.str t.1), .d (.str t.2)])) [.mu true (bx ds a')] ∧ Good t := by
    obtain ⟨j, hj, d1⟩ := draw_n ds (a + 1) 2 2 rfl (by omega)
    have hk2 : (k : Int) < 2 := by omega
    have key : ∀ (m : Nat) (M : Int), M = m → 0 < m → m ≤ 15 → [4, 15][j]? = some M → ∃ (t : List Nat × List Nat) (a' : Nat), fin [.mu true (bx ds a)] (b__law_token [.mu true (bx ds a), .un, .un]) = .ok (.own (.lst [.d (.str t.1), .d (.str t.2)])) [.mu true (bx ds a')] ∧ Good t := by
      intro m M hM hm2 hm3 hj2
      obtain ⟨n, hn, d2⟩ := draw_n ds (a + 1 + 1) m M hM hm2
      obtain ⟨w, e, hw1, hw2⟩ := law_run ds (a + 1 + 1 + 1) (1 + n) LET (by omega) (by simp) (by simp)
      rw [show ((1 + n : Nat) : Int) = 1 + (n : Int) by omega] at e
      refine ⟨_, a + 1 + 1 + 1 + (1 + n), ?_, good_let w hw2 (by intro z; subst z; simp at hw1; omega) (by omega)⟩
      have hj3 : j = 0 ∨ j = 1 := by omega
      unfold b__law_token
      by_cases h12 : 12 < w.length
      · rw [if_pos h12]
        have h12' : (12 : Int) < w.length := by omega
        clear hw1 hw2 h12 hj
        rcases hj3 with rfl | rfl
        · obtain rfl : (4 : Int) = M := by simpa using hj2
          clear hM hj2
          walk_at "evh"
        · obtain rfl : (15 : Int) = M := by simpa using hj2
          clear hM hj2
          walk_at "evh"
      · rw [if_neg h12]
        have h12' : ¬ (12 : Int) < w.length := by omega
        clear hw1 hw2 h12 hj
        rcases hj3 with rfl | rfl
        · obtain rfl : (4 : Int) = M := by simpa using hj2
          clear hM hj2
          walk_at "evh"
        · obtain rfl : (15 : Int) = M := by simpa using hj2
          clear hM hj2
          walk_at "evh"
    rw [f__law_token_eq]
    rw [ev_fn]
    have hj3 : j = 0 ∨ j = 1 := by omega
    rcases hj3 with rfl | rfl
    · exact key 4 4 rfl (by omega) (by omega) rfl
    · exact key 15 15 rfl (by omega) (by omega) rfl
theorem tok_2 (ds : List Int) (a k : Nat) (hk : k < 5) (d0 : f__law_draw [.mu true (bx ds a), .shr (.int 5)] = .ok (.d (.int k)) [.mu true (bx ds (a + 1)), .un]) (h : k = 2) :
    ∃ (t : List Nat × List Nat) (a' : Nat), f__law_token [.mu true (bx ds a)] = .ok (.own (.lst [.d (.str t.1), .d (.str t.2)])) [.mu true (bx ds a')] ∧ Good t := by
    subst h
    obtain ⟨n, hn, d2⟩ := draw_n ds (a + 1) 6 6 rfl (by omega)
    obtain ⟨w, e, hw1, hw2⟩ := law_run ds (a + 1 + 1) (1 + n) DIG (by omega) (by simp) (by simp)
    rw [show ((1 + n : Nat) : Int) = 1 + (n : Int) by omega] at e
    refine ⟨_, a + 1 + 1 + (1 + n), ?_, good_dig w hw2 (by intro z; subst z; simp at hw1; omega) (by omega)⟩
    obtain ⟨c, r, rfl⟩ : ∃ c r, w = c :: r := by
      cases w with
      | nil => simp at hw1; omega
      | cons c r => exact ⟨c, r, rfl⟩
    rw [f__law_token_eq]; unfold b__law_token
    generalize hW : c :: r = w at *
    have hw0 : w[0]? = some c := by rw [← hW]; rfl
    by_cases h4 : 4 < w.length
    · rw [if_pos (.inl h4)]
      have h4' : (4 : Int) < w.length := by omega
      clear hw1 hw2 h4 hW
      walk_at "evh"
    · by_cases h5 : 1 < w.length
      · by_cases h6 : c = 48
        · rw [if_pos (.inr ⟨h5, by rw [hw0, h6]⟩)]
          have h4' : ¬ (4 : Int) < w.length := by omega
          have h5' : (1 : Int) < w.length := by omega
          clear hw1 hw2 h4 h5 hW
          walk_at "evh"
        · rw [if_neg (by intro z; rcases z with z | ⟨_, z⟩; exact h4 z; rw [hw0] at z; exact h6 (Option.some.inj z))]
          have h4' : ¬ (4 : Int) < w.length := by omega
          have h5' : (1 : Int) < w.length := by omega
          clear hw1 hw2 h4 h5 hW
          walk_at "evh"
      · rw [if_neg (by intro z; rcases z with z | ⟨z, _⟩; exact h4 z; exact h5 z)]
        have h4' : ¬ (4 : Int) < w.length := by omega
        have h5' : ¬ (1 : Int) < w.length := by omega
        clear hw1 hw2 h4 h5 hW
        walk_at "evh"
theorem tok_3 (ds : List Int) (a k : Nat) (hk : k < 5) (d0 : f__law_draw [.mu true (bx ds a), .shr (.int 5)] = .ok (.d (.int k)) [.mu true (bx ds (a + 1)), .un]) (h : k = 3) :
    ∃ (t : List Nat × List Nat) (a' : Nat), f__law_token [.mu true (bx ds a)] = .ok (.own (.lst [.d (.str t.1), .d (.str t.2)])) [.mu true (bx ds a')] ∧ Good t := by
    subst h
    obtain ⟨n, hn, d2⟩ := draw_n ds (a + 1) 3 3 rfl (by omega)
    have hc : n = 0 ∨ n = 1 ∨ n = 2 := by omega
    rcases hc with rfl | rfl | rfl
    · refine ⟨([115, 105, 103, 110], [58]), a + 1 + 1, ?_, good_one _ 58 (by decide) (by decide) (by decide) (by decide)⟩
      rw [f__law_token_eq]; unfold b__law_token
      walk_at "evh"
    · refine ⟨([115, 105, 103, 110], [44]), a + 1 + 1, ?_, good_one _ 44 (by decide) (by decide) (by decide) (by decide)⟩
      rw [f__law_token_eq]; unfold b__law_token
      walk_at "evh"
    · refine ⟨([115, 105, 103, 110], [59]), a + 1 + 1, ?_, good_one _ 59 (by decide) (by decide) (by decide) (by decide)⟩
      rw [f__law_token_eq]; unfold b__law_token
      walk_at "evh"
theorem tok_4 (ds : List Int) (a k : Nat) (hk : k < 5) (d0 : f__law_draw [.mu true (bx ds a), .shr (.int 5)] = .ok (.d (.int k)) [.mu true (bx ds (a + 1)), .un]) (h : k = 4) :
    ∃ (t : List Nat × List Nat) (a' : Nat), f__law_token [.mu true (bx ds a)] = .ok (.own (.lst [.d (.str t.1), .d (.str t.2)])) [.mu true (bx ds a')] ∧ Good t := by
    subst h
    obtain ⟨n, hn, d2⟩ := draw_n ds (a + 1) 30 30 rfl (by omega)
    have hn' : n < ODD.length := by show n < 31; omega
    have hg : ODD[n]? = some (ODD[n]'hn') := List.getElem?_eq_getElem hn'
    have hm : (ODD[n]'hn') ∈ ODD := List.getElem_mem hn'
    generalize (ODD[n]'hn') = c at hg hm
    obtain ⟨g1, g2, g3, g4⟩ := odd_good c hm
    refine ⟨([98, 97, 100], [c]), a + 1 + 1, ?_, good_one _ c g1 g2 g3 (by rw [if_neg g4])⟩
    rw [f__law_token_eq]; unfold b__law_token
    clear hm g1 g2 g3 g4
    walk_at "evh"
theorem token_ok (ds : List Int) (a : Nat) : ∃ (t : List Nat × List Nat) (a' : Nat), f__law_token [.mu true (bx ds a)] = .ok (.own (.lst [.d (.str t.1), .d (.str t.2)])) [.mu true (bx ds a')] ∧ Good t := by
  obtain ⟨k, hk, d0⟩ := draw_n ds a 5 5 rfl (by omega)
  have hcase : k < 2 ∨ k = 2 ∨ k = 3 ∨ k = 4 := by omega
  rcases hcase with h | h | h | h
  · exact tok_1 ds a k hk d0 h
  · exact tok_2 ds a k hk d0 h
  · exact tok_3 ds a k hk d0 h
  · exact tok_4 ds a k hk d0 h
/-! ## the row of tokens -/
def okR (due : List (List Nat × List Nat)) (rest : List Nat) : Prop := ∀ t, due.getLast? = some t → stop t.2 rest
def Inv (text : List Nat) (due : List (List Nat × List Nat)) : Prop := ∀ rest, okR due rest → lex (text ++ rest) = due ++ lex rest
theorem lex_sps (n : Nat) (r : List Nat) : lex (List.replicate n 32 ++ r) = lex r := by
  induction n with
  | zero => rfl
  | succ n ih => rw [List.replicate_succ, List.cons_append, lex_sp, ih]
theorem lex_good {t : List Nat × List Nat} (h : Good t) {rest : List Nat} (hs : stop t.2 rest) : lex (t.2 ++ rest) = t :: lex rest := by
  have hl := h.lex rest hs
  have hne := h.ne
  have hsp := h.sp
  obtain ⟨k, w⟩ := t
  dsimp only at *
  cases w with
  | nil => exact absurd rfl hne
  | cons c r =>
    rw [List.cons_append] at hl ⊢
    rw [lex_cons c (r ++ rest) (hsp c r rfl), hl]
    rw [← List.cons_append, List.drop_left]
theorem srt_app (w rest : List Nat) (h : w ≠ []) : srt (w ++ rest) = srt w := by
  cases w with
  | nil => exact absurd rfl h
  | cons c r => rfl
theorem inv_step {text : List Nat} {due : List (List Nat × List Nat)} (h : Inv text due) {t : List Nat × List Nat} (hg : Good t) (n : Nat) (hn : n = 0 → ∀ t0, due.getLast? = some t0 → 0 < srt t.2 → srt t.2 ≠ srt t0.2) : Inv (text ++ (List.replicate n 32 ++ t.2)) (due ++ [t]) := by
  intro rest hr
  have hs : stop t.2 rest := hr t (by simp)
  rw [List.append_assoc, List.append_assoc]
  rw [h _ fun t0 h0 => ?_, lex_sps, lex_good hg hs]
  · simp
  · intro h1 h2
    cases n with
    | zero =>
      rw [List.replicate_zero, List.nil_append, srt_app _ _ hg.ne] at h2
      exact hn rfl t0 h0 (by omega) h2
    | succ n =>
      rw [List.replicate_succ, List.cons_append] at h2
      have : srt (32 :: (List.replicate n 32 ++ (t.2 ++ rest))) = 0 := rfl
      omega
theorem flat1 (n : Nat) : (List.replicate n [32]).flatten = List.replicate n 32 := by
  induction n with
  | zero => rfl
  | succ n ih => rw [List.replicate_succ, List.flatten_cons, ih, List.replicate_succ]; rfl
def kE (L : D) (ds : List Int) (a : Nat) (due : List (List Nat × List Nat)) (text : List Nat) (s4 s5 s6 : Slo) : Ro := [.shr L, .mu false (bx ds a), .mu false (.lst ((due.map encT).map O.d)), .shr (.str text), s4, s5, s6]
theorem turn (L : D) (ds : List Int) (a : Nat) (due : List (List Nat × List Nat)) (text : List Nat) (x : D) (s5 s6 : Slo) (h5 : Jk s5) (h6 : Jk s6) (hi : Inv text due) (hl : due.length ≤ 100) (ht : text.length ≤ 10000) (hg : ∀ t ∈ due, Good t) :
    ∃ a' t n t5 t6, lb_law_k01_1 (kE L ds a due text (.shr x) s5 s6) = .nx (kE L ds a' (due ++ [t]) (text ++ (List.replicate n 32 ++ t.2)) (.shr x) t5 t6) ∧ Jk t5 ∧ Jk t6 ∧ Good t ∧ n ≤ 2 ∧ Inv (text ++ (List.replicate n 32 ++ t.2)) (due ++ [t]) := by
  obtain ⟨t, a1, e1, gt⟩ := token_ok ds a
  obtain ⟨n, hn, d1⟩ := draw_n ds a1 6 6 rfl (by omega)
  have so := sort_ok t.2 gt.ne
  have hLd : (due.map encT).length + 1 ≤ 1000000 := by rw [List.length_map]; omega
  have glen := gt.len
  have fin : ∀ m : Nat, (n / 3 = m) ∨ m = 1 → True := fun _ _ => trivial
  obtain ⟨q, hq⟩ : ∃ q : Nat, (n : Int) / 3 = (q : Int) ∧ q ≤ 1 := ⟨n / 3, by omega, by omega⟩
  obtain ⟨hq, hq1⟩ := hq
  -- what is stored behind the number of spaces
  have tail : ∀ (m : Nat), m ≤ 2 → (mSeq (mDrop (mApp 2 (mTup [(m2 lIx (nm 5) (mC (.int 0))), (m2 lIx (nm 5) (mC (.int 1)))]))) (mSet 3 (m2 lAdd (m2 lAdd (nm 3) (m2 lMul (mC (.str [32])) (nm 6))) (m2 lIx (nm 5) (mC (.int 1))))))
      (kE L ds (a1 + 1) due text (.shr x) (.mu false (.lst [.d (.str t.1), .d (.str t.2)])) (.shr (.int m))) = .nx (kE L ds (a1 + 1) (due ++ [t]) (text ++ (List.replicate m 32 ++ t.2)) (.shr x) (.mu false (.lst [.d (.str t.1), .d (.str t.2)])) (.shr (.int m))) := by
    intro m hm
    have f1 := flat1 m
    have hl1 : text.length + m ≤ 1000000 := by omega
    have hl2 : text.length + m + t.2.length ≤ 1000000 := by omega
    unfold kE
    walk_at "evh"
    rfl
  have hA : mSet 5 (mCall f__law_token [.b 1]) (kE L ds a due text (.shr x) s5 s6) = .nx (kE L ds a1 due text (.shr x) (.mu false (.lst [.d (.str t.1), .d (.str t.2)])) s6) := by
    unfold kE
    walk_at "evh"
  have hB : mSet 6 (m2 lDiv (mCall f__law_draw [.b 1, .v (mC (.int 6))]) (mC (.int 3))) (kE L ds a1 due text (.shr x) (.mu false (.lst [.d (.str t.1), .d (.str t.2)])) s6) = .nx (kE L ds (a1 + 1) due text (.shr x) (.mu false (.lst [.d (.str t.1), .d (.str t.2)])) (.shr (.int q))) := by
    unfold kE
    walk_at "evh"
  have done : ∀ m : Nat, m ≤ 2 → (mIf (mAnd (mTest (m2 lGt (m1 lLen (nm 2)) (mC (.int 0)))) (mAnd (mTest (m2 lGt (mCall f__law_sort [.v (m2 lIx (nm 5) (mC (.int 1)))]) (mC (.int 0)))) (mTest (m2 lEq (mCall f__law_sort [.v (m2 lIx (nm 5) (mC (.int 1)))]) (mCall f__law_sort [.v (m2 lIx (m2 lIx (nm 2) (m1 lNeg (mC (.int 1)))) (mC (.int 1)))]))))) (mSet 6 (m2 lMax2 (mC (.int 1)) (nm 6))) mNx) (kE L ds (a1 + 1) due text (.shr x) (.mu false (.lst [.d (.str t.1), .d (.str t.2)])) (.shr (.int q))) = .nx (kE L ds (a1 + 1) due text (.shr x) (.mu false (.lst [.d (.str t.1), .d (.str t.2)])) (.shr (.int m))) →
      (m = 0 → ∀ t0, due.getLast? = some t0 → 0 < srt t.2 → srt t.2 ≠ srt t0.2) →
      ∃ a' t n t5 t6, lb_law_k01_1 (kE L ds a due text (.shr x) s5 s6) = .nx (kE L ds a' (due ++ [t]) (text ++ (List.replicate n 32 ++ t.2)) (.shr x) t5 t6) ∧ Jk t5 ∧ Jk t6 ∧ Good t ∧ n ≤ 2 ∧ Inv (text ++ (List.replicate n 32 ++ t.2)) (due ++ [t]) := by
    intro m hm hC hn'
    refine ⟨a1 + 1, t, m, .mu false (.lst [.d (.str t.1), .d (.str t.2)]), .shr (.int m), ?_, rfl, rfl, gt, hm, inv_step hi gt m hn'⟩
    unfold lb_law_k01_1
    rw [sq, hA, SRes.thn_nx, sq, hB, SRes.thn_nx, sq, hC, SRes.thn_nx, tail m hm]
  cases hlast : due.getLast? with
  | none =>
    have : due = [] := by simpa using hlast
    subst this
    refine done q (by omega) ?_ fun _ t0 h0 => by cases h0
    clear tail hA hB done hlast hi hg
    unfold kE
    walk_at "evh"
  | some t0 =>
    have g0 := hg t0 (List.mem_of_getLast? hlast)
    have so0 := sort_ok t0.2 g0.ne
    have hx1 : lIx (.d (encT t0)) (.d (.int 1)) = some (.d (.str t0.2)) := rfl
    have hpos : 0 < due.length := by
      cases due with
      | nil => cases hlast
      | cons d ds => simp
    by_cases hc1 : 0 < srt t.2
    · by_cases hc2 : srt t.2 = srt t0.2
      · refine done (if q = 0 then 1 else q) (by split <;> omega) ?_ fun hz => ?_
        · clear tail hA hB done hi hg
          have hq2 : q = 0 ∨ q = 1 := by omega
          have hc1' : 0 < srt t0.2 := by omega
          unfold kE
          rcases hq2 with rfl | rfl <;> walk_at "evh"
        · split at hz <;> omega
      · refine done q (by omega) ?_ fun _ t1 h1 _ => by rw [hlast] at h1; cases h1; exact hc2
        clear tail hA hB done hi hg
        unfold kE
        walk_at "evh"
    · refine done q (by omega) ?_ fun _ t1 h1 hp => absurd hp hc1
      clear tail hA hB done hi hg
      unfold kE
      walk_at "evh"
theorem stop_sps (w : List Nat) (n : Nat) : stop w (List.replicate n 32) := by
  intro h
  have : srt (List.replicate n 32) = 0 := by
    cases n with
    | zero => rfl
    | succ n => rfl
  omega
theorem same_due (due : List (List Nat × List Nat)) (h : due.length ≤ 1000) : f__law_same [.shr (.lst (due.map encT)), .shr (.lst (due.map encT))] = .ok (.d (.bl true)) [.un, .un] := by
  rw [f__law_same_eq]
  refine same_refl 60 _ ⟨by rw [List.length_map]; omega, fun y hy => ?_⟩
  obtain ⟨t, _, rfl⟩ := List.mem_map.mp hy
  exact ⟨by show 2 ≤ 100000; omega, fun z hz => by
    have : z = .str t.1 ∨ z = .str t.2 := by simpa using hz
    rcases this with rfl | rfl <;> trivial⟩
theorem law_true : ∀ ns : List Int, ns.length ≤ 63 → ∃ as, f_law_k01 [.shr (.lst (ns.map D.int))] = .ok (.d (.bl true)) as := by
  intro ns hn
  obtain ⟨ds, hd⟩ := digits_own ns 0 63 hn (by omega) (by omega)
  rw [show ((0 : Nat) : Int) = 0 from rfl, show ((63 : Nat) : Int) = 63 from rfl] at hd
  obtain ⟨n0, hn0, d0⟩ := draw_n ds 0 2 2 rfl (by omega)
  obtain ⟨n1, hn1, d1⟩ := draw_n ds (0 + 1) 15 15 rfl (by omega)
  obtain ⟨ρ2, e, a, due, text, s4, s5, s6, h1, h2, h3, h4, h5, h6, h7, rfl⟩ := forGo_run (t := .nm 4) (b := lb_law_k01_1)
      (fun i ρ => ∃ a due text s4 s5 s6, due.length = i ∧ text.length ≤ 2 + 30 * i ∧ Inv text due ∧ (∀ t ∈ due, Good t) ∧ Jk s4 ∧ Jk s5 ∧ Jk s6 ∧ ρ = kE (.lst (ns.map .int)) ds a due text s4 s5 s6)
      (xs := (List.range n1).map fun (k : Nat) => D.int k) (ρ := kE (.lst (ns.map .int)) ds (0 + 1 + 1) [] (List.replicate n0 32) .un .un .un)
      ⟨_, [], _, .un, .un, .un, rfl, by rw [List.length_replicate]; omega, fun rest _ => by rw [lex_sps]; rfl, fun _ h => (nomatch h), rfl, rfl, rfl, rfl⟩ fun i x ρ hx hp => by
    obtain ⟨a, due, text, s4, s5, s6, h1, h2, h3, h4, h5, h6, h7, rfl⟩ := hp
    have hil : i < n1 := by simpa using (List.getElem?_eq_some_iff.mp hx).1
    obtain ⟨a', t, n, t5, t6, e, g1, g2, g3, g4, g5⟩ := turn (.lst (ns.map .int)) ds a due text x s5 s6 h6 h7 h3 (by omega) (by omega) h4
    have gl := g3.len
    refine ⟨kE (.lst (ns.map .int)) ds a due text (.shr x) s5 s6, ?_, _, .inl e, a', due ++ [t], _, .shr x, t5, t6, by rw [List.length_append, h1]; rfl, ?_, g5, ?_, rfl, g1, g2, rfl⟩
    · unfold kE; walk_at "evh"
    · rw [List.length_append, List.length_append, List.length_replicate]; omega
    · intro u hu
      rcases List.mem_append.mp hu with z | z
      · exact h4 u z
      · rw [List.mem_singleton] at z; subst z; exact g3
  have hdl : due.length = n1 := by simpa using h1
  have htl : text.length ≤ 2 + 30 * n1 := by simpa using h2
  obtain ⟨n2, hn2, d2⟩ := draw_n ds a 2 2 rfl (by omega)
  have hlex : lex (text ++ List.replicate n2 32) = due := by
    rw [h3 _ fun t ht => stop_sps t.2 n2, show List.replicate n2 32 = List.replicate n2 32 ++ [] by simp, lex_sps]
    simp [lex_nil]
  have tk := tokens_ok (text ++ List.replicate n2 32) (by rw [List.length_append, List.length_replicate]; omega)
  rw [hlex] at tk
  have sd := same_due due (by omega)
  have f1 := flat1 n0
  have f2 := flat1 n2
  have l2 : text.length + n2 ≤ 1000000 := by omega
  refine ⟨[.un], ?_⟩
  rw [f_law_k01_eq]
  unfold b_law_k01
  unfold kE at e
  simp only [List.map_nil] at e
  clear h1 h2 h3 h4 h5 h6 h7 hlex
  have hbx : O.lst [.d (.lst (ds.map .int)), .d (.int 0)] = bx ds 0 := rfl
  walk_at "evh"
end Mw.K01

set_option Elab.async false
set_option linter.all false
set_option maxRecDepth 100000
set_option autoImplicit false
namespace Mw.K01
open PySem PySem.Spec PyProof.Rows L2 Mw
def topS (i : Nat) : Stmt := PySem.Challenge.pw_latestart_k01_tokens_of_lines.main.body.getD i (.Pass ⟨0, 0, 0, 0⟩)
structure Tp (K : PySem.W.Frag) (mg : Str → Option Value) : Prop where
  n_bool : mg "bool" = none
  n_int : mg "int" = none
  n_isinstance : mg "isinstance" = none
  n_len : mg "len" = none
  n_list : mg "list" = none
  n_max : mg "max" = none
  n_range : mg "range" = none
  n_str : mg "str" = none
  n_tuple : mg "tuple" = none
  c_DIGITS : Cst K mg "DIGITS" (.str [48, 49, 50, 51, 52, 53, 54, 55, 56, 57])
  c_LETTERS : Cst K mg "LETTERS" (.str [97, 98, 99, 100, 101, 102, 103, 104, 105, 106, 107, 108, 109, 110, 111, 112, 113, 114, 115, 116, 117, 118, 119, 120, 121, 122])
  c_NAME_LENGTH : Cst K mg "NAME_LENGTH" (.int 12)
  c_NUMBER_LENGTH : Cst K mg "NUMBER_LENGTH" (.int 4)
  c_SIGNS : Cst K mg "SIGNS" (.str [58, 44, 59])
abbrev s__run_end : Stmt := topS 6
theorem sc__run_end : FnScope ["line", "at", "chars", "end"] ["line", "at", "chars"] (defScope s__run_end) := ⟨rfl, rfl, rfl, by decide +kernel, rfl, by decide +kernel, by decide +kernel⟩
abbrev s__token : Stmt := topS 7
theorem sc__token : FnScope ["line", "at", "char", "run"] ["line", "at"] (defScope s__token) := ⟨rfl, rfl, rfl, by decide +kernel, rfl, by decide +kernel, by decide +kernel⟩
abbrev s_tokens : Stmt := topS 8
theorem sc_tokens : FnScope ["line", "found", "at", "token"] ["line"] (defScope s_tokens) := ⟨rfl, rfl, rfl, by decide +kernel, rfl, by decide +kernel, by decide +kernel⟩
abbrev s__law_cell : Stmt := topS 10
theorem sc__law_cell : FnScope ["_law_script", "_law_k"] ["_law_script", "_law_k"] (defScope s__law_cell) := ⟨rfl, rfl, rfl, by decide +kernel, rfl, by decide +kernel, by decide +kernel⟩
abbrev s__law_digits : Stmt := topS 11
theorem sc__law_digits : FnScope ["_law_script", "_law_first", "_law_last", "_law_digits_here", "_law_k", "_law_cell_here", "_law_turn", "_law_seed"] ["_law_script", "_law_first", "_law_last"] (defScope s__law_digits) := ⟨rfl, rfl, rfl, by decide +kernel, rfl, by decide +kernel, by decide +kernel⟩
abbrev s__law_draw : Stmt := topS 12
theorem sc__law_draw : FnScope ["_law_box", "_law_many", "_law_at"] ["_law_box", "_law_many"] (defScope s__law_draw) := ⟨rfl, rfl, rfl, by decide +kernel, rfl, by decide +kernel, by decide +kernel⟩
abbrev s__law_same : Stmt := topS 13
theorem sc__law_same : FnScope ["_law_actual", "_law_due", "_law_k"] ["_law_actual", "_law_due"] (defScope s__law_same) := ⟨rfl, rfl, rfl, by decide +kernel, rfl, by decide +kernel, by decide +kernel⟩
abbrev s__law_run : Stmt := topS 14
theorem sc__law_run : FnScope ["_law_box", "_law_many", "_law_chars", "_law_text", "_law_k"] ["_law_box", "_law_many", "_law_chars"] (defScope s__law_run) := ⟨rfl, rfl, rfl, by decide +kernel, rfl, by decide +kernel, by decide +kernel⟩
abbrev s__law_token : Stmt := topS 15
theorem sc__law_token : FnScope ["_law_box", "_law_kind", "_law_text"] ["_law_box"] (defScope s__law_token) := ⟨rfl, rfl, rfl, by decide +kernel, rfl, by decide +kernel, by decide +kernel⟩
abbrev s__law_sort : Stmt := topS 16
theorem sc__law_sort : FnScope ["_law_text"] ["_law_text"] (defScope s__law_sort) := ⟨rfl, rfl, rfl, by decide +kernel, rfl, by decide +kernel, by decide +kernel⟩
abbrev s_law : Stmt := topS 17
theorem sc_law : FnScope ["_law_script", "_law_box", "_law_due", "_law_text", "_law_k", "_law_token_here", "_law_spaces"] ["_law_script"] (defScope s_law) := ⟨rfl, rfl, rfl, by decide +kernel, rfl, by decide +kernel, by decide +kernel⟩
section
variable {P : Program} {w : World} {K : PySem.W.Frag} {mg : Str → Option Value} {base : Heap}
theorem ok__run_end (T : Tp K mg) {fa : Addr} {fd : FuncData} (F : L2.Fun K "_run_end" "_run_end" s__run_end fa fd) : FnOk P w K mg base (L2.CX P w) (0 + 1) fa fd ["line", "at", "chars"] (spF ⟨K, mg⟩ 3 f__run_end) := by
  rw [f__run_end_eq]; exact fn_ok F sc__run_end fun cdv A outer s H E hr =>
    (ss_cons (ss_set (i := 3) sc__run_end.nd rfl (.inl rfl) (s_fz (i := 1) rfl (.inl rfl)))
    (ss_cons (ss_while (passes_of rfl) (st_pw (sw_and (st_cmp cb_lt (s_nm (i := 3) rfl (.inl rfl)) (s_len rfl T.n_len (s_nm (i := 0) rfl (.inl rfl))) (nomark _)) (sw_and1 (st_cmp (cb_in (hu65 hr)) (s_at (s_nm (i := 0) rfl (.inl rfl)) (s_nm (i := 3) rfl (.inl rfl))) (s_nm (i := 2) rfl (.inl rfl)) rfl)))) (ss_one (ss_aug (i := 3) sc__run_end.nd rfl (.inl rfl) s_int)))
    (ss_one (ss_ret (s_mv (i := 3) rfl (.inl rfl))))))
theorem ok__token (T : Tp K mg) (H__run_end : Kp P w K mg base 1 "_run_end" 3 f__run_end) {fa : Addr} {fd : FuncData} (F : L2.Fun K "_token" "_token" s__token fa fd) : FnOk P w K mg base (L2.CX P w) (1 + 1) fa fd ["line", "at"] (spF ⟨K, mg⟩ 2 f__token) := by
  rw [f__token_eq]; exact fn_ok F sc__token fun cdv A outer s H E hr =>
    (ss_cons (ss_set (i := 2) sc__token.nd rfl (.inl rfl) (s_at (s_nm (i := 0) rfl (.inl rfl)) (s_nm (i := 1) rfl (.inl rfl))))
    (ss_cons (ss_if (st_cmp (cb_in (hu65 hr)) (s_nm (i := 2) rfl (.inl rfl)) (s_cst rfl T.c_LETTERS) rfl) (ss_cons (ss_set (i := 3) sc__token.nd rfl (.inl rfl) (s_sl11 (s_nm (i := 0) rfl (.inl rfl)) (s_nm (i := 1) rfl (.inl rfl)) (s_call (H__run_end.mono (by decide)) hr rfl (takes_of rfl rfl rfl rfl) (b_v (s_fz (i := 0) rfl (.inl rfl)) (b_v (s_fz (i := 1) rfl (.inl rfl)) (b_v (s_cst rfl T.c_LETTERS) b_nil))))))
    (ss_cons (ss_if (st_cmp cb_gt (s_len rfl T.n_len (s_nm (i := 3) rfl (.inl rfl))) (s_cst rfl T.c_NAME_LENGTH) (nomark _)) (ss_one (ss_ret (s_tup (a_cons (s_str (by decide +kernel) (by decide +kernel)) (a_cons (s_fz (i := 3) rfl (.inl rfl)) a_nil))))) ss_nil)
    (ss_one (ss_ret (s_tup (a_cons (s_str (by decide +kernel) (by decide +kernel)) (a_cons (s_fz (i := 3) rfl (.inl rfl)) a_nil))))))) ss_nil)
    (ss_cons (ss_if (st_cmp (cb_in (hu65 hr)) (s_nm (i := 2) rfl (.inl rfl)) (s_cst rfl T.c_DIGITS) rfl) (ss_cons (ss_set (i := 3) sc__token.nd rfl (.inl rfl) (s_sl11 (s_nm (i := 0) rfl (.inl rfl)) (s_nm (i := 1) rfl (.inl rfl)) (s_call (H__run_end.mono (by decide)) hr rfl (takes_of rfl rfl rfl rfl) (b_v (s_fz (i := 0) rfl (.inl rfl)) (b_v (s_fz (i := 1) rfl (.inl rfl)) (b_v (s_cst rfl T.c_DIGITS) b_nil))))))
    (ss_cons (ss_if (st_pw (sw_or (st_cmp cb_gt (s_len rfl T.n_len (s_nm (i := 3) rfl (.inl rfl))) (s_cst rfl T.c_NUMBER_LENGTH) (nomark _)) (sw_or1 (st_pw (sw_and (st_cmp cb_gt (s_len rfl T.n_len (s_nm (i := 3) rfl (.inl rfl))) s_int (nomark _)) (sw_and1 (st_cmp (cb_eq hr.units) (s_at (s_nm (i := 3) rfl (.inl rfl)) s_int) (s_str (by decide +kernel) (by decide +kernel)) (nomark _)))))))) (ss_one (ss_ret (s_tup (a_cons (s_str (by decide +kernel) (by decide +kernel)) (a_cons (s_fz (i := 3) rfl (.inl rfl)) a_nil))))) ss_nil)
    (ss_one (ss_ret (s_tup (a_cons (s_str (by decide +kernel) (by decide +kernel)) (a_cons (s_fz (i := 3) rfl (.inl rfl)) a_nil))))))) ss_nil)
    (ss_cons (ss_if (st_cmp (cb_in (hu65 hr)) (s_nm (i := 2) rfl (.inl rfl)) (s_cst rfl T.c_SIGNS) rfl) (ss_one (ss_ret (s_tup (a_cons (s_str (by decide +kernel) (by decide +kernel)) (a_cons (s_fz (i := 2) rfl (.inl rfl)) a_nil))))) ss_nil)
    (ss_one (ss_ret (s_tup (a_cons (s_str (by decide +kernel) (by decide +kernel)) (a_cons (s_fz (i := 2) rfl (.inl rfl)) a_nil)))))))))
theorem ok_tokens (T : Tp K mg) (H__token : Kp P w K mg base 2 "_token" 2 f__token) {fa : Addr} {fd : FuncData} (F : L2.Fun K "tokens" "tokens" s_tokens fa fd) : FnOk P w K mg base (L2.CX P w) (2 + 1) fa fd ["line"] (spF ⟨K, mg⟩ 1 f_tokens) := by
  rw [f_tokens_eq]; exact fn_ok F sc_tokens fun cdv A outer s H E hr =>
    (ss_cons (ss_set (i := 1) sc_tokens.nd rfl (.inl rfl) (s_lst a_nil))
    (ss_cons (ss_set (i := 2) sc_tokens.nd rfl (.inl rfl) s_int)
    (ss_cons (ss_while (passes_of rfl) (st_cmp cb_lt (s_nm (i := 2) rfl (.inl rfl)) (s_len rfl T.n_len (s_nm (i := 0) rfl (.inl rfl))) (nomark _)) (ss_one (ss_if (st_cmp (cb_eq hr.units) (s_at (s_nm (i := 0) rfl (.inl rfl)) (s_nm (i := 2) rfl (.inl rfl))) (s_str (by decide +kernel) (by decide +kernel)) (nomark _)) (ss_one (ss_aug (i := 2) sc_tokens.nd rfl (.inl rfl) s_int)) (ss_cons (ss_set (i := 3) sc_tokens.nd rfl (.inl rfl) (s_call (H__token.mono (by decide)) hr rfl (takes_of rfl rfl rfl rfl) (b_v (s_fz (i := 0) rfl (.inl rfl)) (b_v (s_fz (i := 2) rfl (.inl rfl)) b_nil))))
    (ss_cons (ss_expr (s_append (i := 1) rfl (.inl rfl) (s_fz (i := 3) rfl (.inl rfl))))
    (ss_one (ss_aug (i := 2) sc_tokens.nd rfl (.inl rfl) (s_len rfl T.n_len (s_at (s_nm (i := 3) rfl (.inl rfl)) s_int)))))))))
    (ss_one (ss_ret (s_mv (i := 1) rfl (.inl rfl)))))))
theorem ok__law_cell (T : Tp K mg) {fa : Addr} {fd : FuncData} (F : L2.Fun K "_law_cell" "_law_cell" s__law_cell fa fd) : FnOk P w K mg base (L2.CX P w) (0 + 1) fa fd ["_law_script", "_law_k"] (spF ⟨K, mg⟩ 2 f__law_cell) := by
  rw [f__law_cell_eq]; exact fn_ok F sc__law_cell fun cdv A outer s H E hr =>
    (ss_cons (ss_if (st_cmp cb_lt (s_nm (i := 1) rfl (.inl rfl)) (s_len rfl T.n_len (s_nm (i := 0) rfl (.inl rfl))) (nomark _)) (ss_one (ss_ret (s_at (s_nm (i := 0) rfl (.inl rfl)) (s_nm (i := 1) rfl (.inl rfl))))) ss_nil)
    (ss_one (ss_ret s_int)))
theorem ok__law_digits (T : Tp K mg) (H__law_cell : Kp P w K mg base 1 "_law_cell" 2 f__law_cell) {fa : Addr} {fd : FuncData} (F : L2.Fun K "_law_digits" "_law_digits" s__law_digits fa fd) : FnOk P w K mg base (L2.CX P w) (1 + 1) fa fd ["_law_script", "_law_first", "_law_last"] (spF ⟨K, mg⟩ 3 f__law_digits) := by
  rw [f__law_digits_eq]; exact fn_ok F sc__law_digits fun cdv A outer s H E hr =>
    (ss_cons (ss_set (i := 3) sc__law_digits.nd rfl (.inl rfl) (s_lst a_nil))
    (ss_cons (ss_for (passes_of rfl) rfl (si_rg2 rfl T.n_range (s_nm (i := 1) rfl (.inl rfl)) (s_nm (i := 2) rfl (.inl rfl))) (sg_nm (i := 4) sc__law_digits.nd rfl (.inl rfl)) (ss_cons (ss_set (i := 5) sc__law_digits.nd rfl (.inl rfl) (s_call (H__law_cell.mono (by decide)) hr rfl (takes_of rfl rfl rfl rfl) (b_v (s_fz (i := 0) rfl (.inl rfl)) (b_v (s_fz (i := 4) rfl (.inl rfl)) b_nil))))
    (ss_cons (ss_if (st_cmp cb_lt (s_nm (i := 5) rfl (.inl rfl)) s_int (nomark _)) (ss_one (ss_set (i := 5) sc__law_digits.nd rfl (.inl rfl) (s_sub s_int (s_mul s_int (s_nm (i := 5) rfl (.inl rfl)))))) ss_nil)
    (ss_one (ss_if (st_cmp cb_ge (s_nm (i := 5) rfl (.inl rfl)) (s_pow s_int s_int) (nomark _)) (ss_one (ss_for (passes_of rfl) rfl (si_rg1 rfl T.n_range s_int) (sg_nm (i := 6) sc__law_digits.nd rfl (.inl rfl)) (ss_one (ss_if (st_cmp cb_gt (s_nm (i := 5) rfl (.inl rfl)) s_int (nomark _)) (ss_cons (ss_expr (s_append (i := 3) rfl (.inl rfl) (s_mod (s_int1 rfl T.n_int (s_nm (i := 5) rfl (.inl rfl))) s_int)))
    (ss_one (ss_set (i := 5) sc__law_digits.nd rfl (.inl rfl) (s_div (s_nm (i := 5) rfl (.inl rfl)) s_int)))) ss_nil)))) (ss_cons (ss_set (i := 7) sc__law_digits.nd rfl (.inl rfl) (s_mod (s_int1 rfl T.n_int (s_add (s_add (s_mul (s_nm (i := 5) rfl (.inl rfl)) s_int) (s_mul (s_nm (i := 4) rfl (.inl rfl)) s_int)) s_int)) s_int))
    (ss_one (ss_for (passes_of rfl) rfl (si_rg1 rfl T.n_range s_int) (sg_nm (i := 6) sc__law_digits.nd rfl (.inl rfl)) (ss_cons (ss_set (i := 7) sc__law_digits.nd rfl (.inl rfl) (s_mod (s_int1 rfl T.n_int (s_add (s_add (s_mul (s_nm (i := 7) rfl (.inl rfl)) s_int) (s_mul s_int (s_nm (i := 6) rfl (.inl rfl)))) s_int)) s_int))
    (ss_one (ss_expr (s_append (i := 3) rfl (.inl rfl) (s_mod (s_int1 rfl T.n_int (s_div (s_nm (i := 7) rfl (.inl rfl)) s_int)) s_int)))))))))))))
    (ss_one (ss_ret (s_mv (i := 3) rfl (.inl rfl))))))
theorem ok__law_draw (T : Tp K mg) {fa : Addr} {fd : FuncData} (F : L2.Fun K "_law_draw" "_law_draw" s__law_draw fa fd) : FnOk P w K mg base (L2.CX P w) (0 + 1) fa fd ["_law_box", "_law_many"] (spF ⟨K, mg⟩ 2 f__law_draw) := by
  rw [f__law_draw_eq]; exact fn_ok F sc__law_draw fun cdv A outer s H E hr =>
    (ss_cons (ss_set (i := 2) sc__law_draw.nd rfl (.inl rfl) (s_at (s_nm (i := 0) rfl (.inl rfl)) s_int))
    (ss_cons (ss_put (i := 0) rfl (.inl rfl) (s_add (s_nm (i := 2) rfl (.inl rfl)) s_int) s_int)
    (ss_cons (ss_if (st_cmp cb_lt (s_nm (i := 2) rfl (.inl rfl)) (s_len rfl T.n_len (s_at (s_nm (i := 0) rfl (.inl rfl)) s_int)) (nomark _)) (ss_one (ss_ret (s_mod (s_int1 rfl T.n_int (s_at (s_at (s_nm (i := 0) rfl (.inl rfl)) s_int) (s_nm (i := 2) rfl (.inl rfl)))) (s_nm (i := 1) rfl (.inl rfl))))) ss_nil)
    (ss_one (ss_ret s_int)))))
theorem okk__law_same (T : Tp K mg) {fa : Addr} {fd : FuncData} (F : L2.Fun K "_law_same" "_law_same" s__law_same fa fd) (bb : Binds K fd ["_law_actual", "_law_due"] []) (ga : mg "_law_same" = some (.ref fa)) : ∀ n : Nat, FnOk P w K mg base (L2.CX P w) (0 + n) fa fd ["_law_actual", "_law_due"] (spF ⟨K, mg⟩ 2 (k__law_same n))
  | 0 => fn_no
  | n + 1 =>
    have G__law_same : Kp P w K mg base (0 + n) "_law_same" 2 (k__law_same n) := ⟨_, _, _, okk__law_same T  F bb ga n, bb, ga, F.kp⟩
    fn_ok F sc__law_same fun cdv A outer s H E hr =>
    (ss_cons (ss_if (st_pw (sw_or (st_val (s_isi (T := "list") (by decide) rfl T.n_isinstance rfl T.n_list (by decide +kernel) (s_nm (i := 1) rfl (.inl rfl)))) (sw_or1 (st_val (s_isi (T := "tuple") (by decide) rfl T.n_isinstance rfl T.n_tuple (by decide +kernel) (s_nm (i := 1) rfl (.inl rfl))))))) (ss_cons (ss_if (st_pw (sw_or (st_cmp (cb_ne hr.units) (s_isi (T := "list") (by decide) rfl T.n_isinstance rfl T.n_list (by decide +kernel) (s_nm (i := 1) rfl (.inl rfl))) (s_isi (T := "list") (by decide) rfl T.n_isinstance rfl T.n_list (by decide +kernel) (s_nm (i := 0) rfl (.inl rfl))) (nomark _)) (sw_or1 (st_cmp (cb_ne hr.units) (s_isi (T := "tuple") (by decide) rfl T.n_isinstance rfl T.n_tuple (by decide +kernel) (s_nm (i := 1) rfl (.inl rfl))) (s_isi (T := "tuple") (by decide) rfl T.n_isinstance rfl T.n_tuple (by decide +kernel) (s_nm (i := 0) rfl (.inl rfl))) (nomark _))))) (ss_one (ss_ret s_bl)) ss_nil)
    (ss_cons (ss_if (st_cmp (cb_ne hr.units) (s_len rfl T.n_len (s_nm (i := 0) rfl (.inl rfl))) (s_len rfl T.n_len (s_nm (i := 1) rfl (.inl rfl))) (nomark _)) (ss_one (ss_ret s_bl)) ss_nil)
    (ss_cons (ss_for (passes_of rfl) rfl (si_rg1 rfl T.n_range (s_len rfl T.n_len (s_nm (i := 1) rfl (.inl rfl)))) (sg_nm (i := 2) sc__law_same.nd rfl (.inl rfl)) (ss_one (ss_if (st_not (st_val (s_call G__law_same hr rfl (takes_of rfl rfl rfl rfl) (b_v (s_at (s_nm (i := 0) rfl (.inl rfl)) (s_nm (i := 2) rfl (.inl rfl))) (b_v (s_at (s_nm (i := 1) rfl (.inl rfl)) (s_nm (i := 2) rfl (.inl rfl))) b_nil))))) (ss_one (ss_ret s_bl)) ss_nil)))
    (ss_one (ss_ret s_bl))))) ss_nil)
    (ss_cons (ss_if (st_cmp cb_isN (s_nm (i := 1) rfl (.inl rfl)) s_non (nomark _)) (ss_one (ss_ret (s_isN (s_nm (i := 0) rfl (.inl rfl)) s_non))) ss_nil)
    (ss_cons (ss_if (st_val (s_isi (T := "bool") (by decide) rfl T.n_isinstance rfl T.n_bool (by decide +kernel) (s_nm (i := 1) rfl (.inl rfl)))) (ss_one (ss_ret (s_and (s_isi (T := "bool") (by decide) rfl T.n_isinstance rfl T.n_bool (by decide +kernel) (s_nm (i := 0) rfl (.inl rfl))) (s_and1 (s_eq hr.units (s_nm (i := 0) rfl (.inl rfl)) (s_nm (i := 1) rfl (.inl rfl))))))) ss_nil)
    (ss_cons (ss_if (st_val (s_isi (T := "str") (by decide) rfl T.n_isinstance rfl T.n_str (by decide +kernel) (s_nm (i := 1) rfl (.inl rfl)))) (ss_one (ss_ret (s_and (s_isi (T := "str") (by decide) rfl T.n_isinstance rfl T.n_str (by decide +kernel) (s_nm (i := 0) rfl (.inl rfl))) (s_and1 (s_eq hr.units (s_nm (i := 0) rfl (.inl rfl)) (s_nm (i := 1) rfl (.inl rfl))))))) ss_nil)
    (ss_one (ss_ret (s_and (s_isi (T := "int") (by decide) rfl T.n_isinstance rfl T.n_int (by decide +kernel) (s_nm (i := 0) rfl (.inl rfl))) (s_and (s_not (s_isi (T := "bool") (by decide) rfl T.n_isinstance rfl T.n_bool (by decide +kernel) (s_nm (i := 0) rfl (.inl rfl)))) (s_and1 (s_eq hr.units (s_nm (i := 0) rfl (.inl rfl)) (s_nm (i := 1) rfl (.inl rfl))))))))))))
theorem ok__law_run (T : Tp K mg) (H__law_draw : Kp P w K mg base 1 "_law_draw" 2 f__law_draw) {fa : Addr} {fd : FuncData} (F : L2.Fun K "_law_run" "_law_run" s__law_run fa fd) : FnOk P w K mg base (L2.CX P w) (1 + 1) fa fd ["_law_box", "_law_many", "_law_chars"] (spF ⟨K, mg⟩ 3 f__law_run) := by
  rw [f__law_run_eq]; exact fn_ok F sc__law_run fun cdv A outer s H E hr =>
    (ss_cons (ss_set (i := 3) sc__law_run.nd rfl (.inl rfl) (s_str (by decide +kernel) (by decide +kernel)))
    (ss_cons (ss_for (passes_of rfl) rfl (si_rg1 rfl T.n_range (s_nm (i := 1) rfl (.inl rfl))) (sg_nm (i := 4) sc__law_run.nd rfl (.inl rfl)) (ss_one (ss_set (i := 3) sc__law_run.nd rfl (.inl rfl) (s_add (s_nm (i := 3) rfl (.inl rfl)) (s_at (s_nm (i := 2) rfl (.inl rfl)) (s_call (H__law_draw.mono (by decide)) hr rfl (takes_of rfl rfl rfl rfl) (b_b (i := 0) rfl (.inl rfl) (b_v (s_len rfl T.n_len (s_nm (i := 2) rfl (.inl rfl))) b_nil))))))))
    (ss_one (ss_ret (s_mv (i := 3) rfl (.inl rfl))))))
theorem ok__law_token (T : Tp K mg) (H__law_draw : Kp P w K mg base 1 "_law_draw" 2 f__law_draw) (H__law_run : Kp P w K mg base 2 "_law_run" 3 f__law_run) {fa : Addr} {fd : FuncData} (F : L2.Fun K "_law_token" "_law_token" s__law_token fa fd) : FnOk P w K mg base (L2.CX P w) (2 + 1) fa fd ["_law_box"] (spF ⟨K, mg⟩ 1 f__law_token) := by
  rw [f__law_token_eq]; exact fn_ok F sc__law_token fun cdv A outer s H E hr =>
    (ss_cons (ss_set (i := 1) sc__law_token.nd rfl (.inl rfl) (s_call (H__law_draw.mono (by decide)) hr rfl (takes_of rfl rfl rfl rfl) (b_b (i := 0) rfl (.inl rfl) (b_v s_int b_nil))))
    (ss_cons (ss_if (st_cmp cb_lt (s_nm (i := 1) rfl (.inl rfl)) s_int (nomark _)) (ss_cons (ss_set (i := 2) sc__law_token.nd rfl (.inl rfl) (s_call (H__law_run.mono (by decide)) hr rfl (takes_of rfl rfl rfl rfl) (b_b (i := 0) rfl (.inl rfl) (b_v (s_add s_int (s_call (H__law_draw.mono (by decide)) hr rfl (takes_of rfl rfl rfl rfl) (b_b (i := 0) rfl (.inl rfl) (b_v (s_at (s_lst (a_cons s_int (a_cons s_int a_nil))) (s_call (H__law_draw.mono (by decide)) hr rfl (takes_of rfl rfl rfl rfl) (b_b (i := 0) rfl (.inl rfl) (b_v s_int b_nil)))) b_nil)))) (b_v (s_str (by decide +kernel) (by decide +kernel)) b_nil)))))
    (ss_one (ss_ret (s_lst (a_cons (s_at (s_lst (a_cons (s_str (by decide +kernel) (by decide +kernel)) (a_cons (s_str (by decide +kernel) (by decide +kernel)) a_nil))) (s_int1 rfl T.n_int (s_gt (s_len rfl T.n_len (s_nm (i := 2) rfl (.inl rfl))) s_int))) (a_cons (s_fz (i := 2) rfl (.inl rfl)) a_nil)))))) ss_nil)
    (ss_cons (ss_if (st_cmp (cb_eq hr.units) (s_nm (i := 1) rfl (.inl rfl)) s_int (nomark _)) (ss_cons (ss_set (i := 2) sc__law_token.nd rfl (.inl rfl) (s_call (H__law_run.mono (by decide)) hr rfl (takes_of rfl rfl rfl rfl) (b_b (i := 0) rfl (.inl rfl) (b_v (s_add s_int (s_call (H__law_draw.mono (by decide)) hr rfl (takes_of rfl rfl rfl rfl) (b_b (i := 0) rfl (.inl rfl) (b_v s_int b_nil)))) (b_v (s_str (by decide +kernel) (by decide +kernel)) b_nil)))))
    (ss_one (ss_ret (s_lst (a_cons (s_at (s_lst (a_cons (s_str (by decide +kernel) (by decide +kernel)) (a_cons (s_str (by decide +kernel) (by decide +kernel)) a_nil))) (s_int1 rfl T.n_int (s_or (s_gt (s_len rfl T.n_len (s_nm (i := 2) rfl (.inl rfl))) s_int) (s_and1 (s_and (s_gt (s_len rfl T.n_len (s_nm (i := 2) rfl (.inl rfl))) s_int) (s_and1 (s_eq hr.units (s_at (s_nm (i := 2) rfl (.inl rfl)) s_int) (s_str (by decide +kernel) (by decide +kernel))))))))) (a_cons (s_fz (i := 2) rfl (.inl rfl)) a_nil)))))) ss_nil)
    (ss_cons (ss_if (st_cmp (cb_eq hr.units) (s_nm (i := 1) rfl (.inl rfl)) s_int (nomark _)) (ss_one (ss_ret (s_lst (a_cons (s_str (by decide +kernel) (by decide +kernel)) (a_cons (s_at (s_str (by decide +kernel) (by decide +kernel)) (s_call (H__law_draw.mono (by decide)) hr rfl (takes_of rfl rfl rfl rfl) (b_b (i := 0) rfl (.inl rfl) (b_v s_int b_nil)))) a_nil))))) ss_nil)
    (ss_one (ss_ret (s_lst (a_cons (s_str (by decide +kernel) (by decide +kernel)) (a_cons (s_at (s_str (by decide +kernel) (by decide +kernel)) (s_call (H__law_draw.mono (by decide)) hr rfl (takes_of rfl rfl rfl rfl) (b_b (i := 0) rfl (.inl rfl) (b_v s_int b_nil)))) a_nil)))))))))
theorem ok__law_sort (T : Tp K mg) {fa : Addr} {fd : FuncData} (F : L2.Fun K "_law_sort" "_law_sort" s__law_sort fa fd) : FnOk P w K mg base (L2.CX P w) (0 + 1) fa fd ["_law_text"] (spF ⟨K, mg⟩ 1 f__law_sort) := by
  rw [f__law_sort_eq]; exact fn_ok F sc__law_sort fun cdv A outer s H E hr =>
    (ss_cons (ss_if (st_cmp (cb_in (hu65 hr)) (s_at (s_nm (i := 0) rfl (.inl rfl)) s_int) (s_str (by decide +kernel) (by decide +kernel)) rfl) (ss_one (ss_ret s_int)) ss_nil)
    (ss_one (ss_ret (s_mul s_int (s_int1 rfl T.n_int (s_in (hu65 hr) (s_at (s_nm (i := 0) rfl (.inl rfl)) s_int) (s_str (by decide +kernel) (by decide +kernel)) rfl))))))
theorem ok_law (T : Tp K mg) (H__law_digits : Kp P w K mg base 2 "_law_digits" 3 f__law_digits) (H__law_draw : Kp P w K mg base 1 "_law_draw" 2 f__law_draw) (H__law_same : Kp P w K mg base 60 "_law_same" 2 f__law_same) (H__law_sort : Kp P w K mg base 1 "_law_sort" 1 f__law_sort) (H__law_token : Kp P w K mg base 3 "_law_token" 1 f__law_token) (H_tokens : Kp P w K mg base 3 "tokens" 1 f_tokens) {fa : Addr} {fd : FuncData} (F : L2.Fun K "law" "law" s_law fa fd) : FnOk P w K mg base (L2.CX P w) (60 + 1) fa fd ["_law_script"] (spF ⟨K, mg⟩ 1 f_law_k01) := by
  rw [f_law_k01_eq]; exact fn_ok F sc_law fun cdv A outer s H E hr =>
    (ss_cons (ss_set (i := 1) sc_law.nd rfl (.inl rfl) (s_lst (a_cons (s_call (H__law_digits.mono (by decide)) hr rfl (takes_of rfl rfl rfl rfl) (b_v (s_fz (i := 0) rfl (.inl rfl)) (b_v s_int (b_v s_int b_nil)))) (a_cons s_int a_nil))))
    (ss_cons (ss_set (i := 2) sc_law.nd rfl (.inl rfl) (s_lst a_nil))
    (ss_cons (ss_set (i := 3) sc_law.nd rfl (.inl rfl) (s_mul (s_str (by decide +kernel) (by decide +kernel)) (s_call (H__law_draw.mono (by decide)) hr rfl (takes_of rfl rfl rfl rfl) (b_b (i := 1) rfl (.inl rfl) (b_v s_int b_nil)))))
    (ss_cons (ss_for (passes_of rfl) rfl (si_rg1 rfl T.n_range (s_call (H__law_draw.mono (by decide)) hr rfl (takes_of rfl rfl rfl rfl) (b_b (i := 1) rfl (.inl rfl) (b_v s_int b_nil)))) (sg_nm (i := 4) sc_law.nd rfl (.inl rfl)) (ss_cons (ss_set (i := 5) sc_law.nd rfl (.inl rfl) (s_call (H__law_token.mono (by decide)) hr rfl (takes_of rfl rfl rfl rfl) (b_b (i := 1) rfl (.inl rfl) b_nil)))
    (ss_cons (ss_set (i := 6) sc_law.nd rfl (.inl rfl) (s_div (s_call (H__law_draw.mono (by decide)) hr rfl (takes_of rfl rfl rfl rfl) (b_b (i := 1) rfl (.inl rfl) (b_v s_int b_nil))) s_int))
    (ss_cons (ss_if (st_pw (sw_and (st_cmp cb_gt (s_len rfl T.n_len (s_nm (i := 2) rfl (.inl rfl))) s_int (nomark _)) (sw_and (st_cmp cb_gt (s_call (H__law_sort.mono (by decide)) hr rfl (takes_of rfl rfl rfl rfl) (b_v (s_at (s_nm (i := 5) rfl (.inl rfl)) s_int) b_nil)) s_int (nomark _)) (sw_and1 (st_cmp (cb_eq hr.units) (s_call (H__law_sort.mono (by decide)) hr rfl (takes_of rfl rfl rfl rfl) (b_v (s_at (s_nm (i := 5) rfl (.inl rfl)) s_int) b_nil)) (s_call (H__law_sort.mono (by decide)) hr rfl (takes_of rfl rfl rfl rfl) (b_v (s_at (s_at (s_nm (i := 2) rfl (.inl rfl)) (s_neg s_int)) s_int) b_nil)) (nomark _)))))) (ss_one (ss_set (i := 6) sc_law.nd rfl (.inl rfl) (s_max2 rfl rfl T.n_max s_int (s_nm (i := 6) rfl (.inl rfl))))) ss_nil)
    (ss_cons (ss_expr (s_append (i := 2) rfl (.inl rfl) (s_tup (a_cons (s_at (s_nm (i := 5) rfl (.inl rfl)) s_int) (a_cons (s_at (s_nm (i := 5) rfl (.inl rfl)) s_int) a_nil)))))
    (ss_one (ss_set (i := 3) sc_law.nd rfl (.inl rfl) (s_add (s_add (s_nm (i := 3) rfl (.inl rfl)) (s_mul (s_str (by decide +kernel) (by decide +kernel)) (s_nm (i := 6) rfl (.inl rfl)))) (s_at (s_nm (i := 5) rfl (.inl rfl)) s_int)))))))))
    (ss_one (ss_ret (s_call (H__law_same.mono (by decide)) hr rfl (takes_of rfl rfl rfl rfl) (b_v (s_call (H_tokens.mono (by decide)) hr rfl (takes_of rfl rfl rfl rfl) (b_v (s_add (s_nm (i := 3) rfl (.inl rfl)) (s_mul (s_str (by decide +kernel) (by decide +kernel)) (s_call (H__law_draw.mono (by decide)) hr rfl (takes_of rfl rfl rfl rfl) (b_b (i := 1) rfl (.inl rfl) (b_v s_int b_nil))))) b_nil)) (b_v (s_fz (i := 2) rfl (.inl rfl)) b_nil)))))))))
end
theorem all_mk {l : PySem.W.OpenLaw} {w : World} {K : PySem.W.Frag} {h : Heap} {mg : Str → Option Value} {fa : Addr} (X : K.In h) (G : h.Ns mainGlobals mg) (hfa : mg "law" = some (.ref fa))
    {f0 : Addr} {od0 an0 : Option Addr} {sl0 : Array (Option Value)} {oc0 kV0 dc0 pm0 cd0 ct0 : Value} (a0 : PySem.W.nsIn K mainGlobals "_run_end" = some (some (.ref f0))) (l0 : K.lookup f0 = some ⟨oc0, od0, .func (PySem.W.fnOf "_run_end" "_run_end" (defArgs s__run_end) (defBody s__run_end) (defScope s__run_end) .none kV0 dc0 pm0 an0 cd0 ct0), sl0⟩) (c0 : PySem.W.codeIn K cd0 "_run_end" = true) (k0 : PySem.W.keepIn K (.ref f0) = true)
    {f1 : Addr} {od1 an1 : Option Addr} {sl1 : Array (Option Value)} {oc1 kV1 dc1 pm1 cd1 ct1 : Value} (a1 : PySem.W.nsIn K mainGlobals "_token" = some (some (.ref f1))) (l1 : K.lookup f1 = some ⟨oc1, od1, .func (PySem.W.fnOf "_token" "_token" (defArgs s__token) (defBody s__token) (defScope s__token) .none kV1 dc1 pm1 an1 cd1 ct1), sl1⟩) (c1 : PySem.W.codeIn K cd1 "_token" = true) (k1 : PySem.W.keepIn K (.ref f1) = true)
    {f2 : Addr} {od2 an2 : Option Addr} {sl2 : Array (Option Value)} {oc2 kV2 dc2 pm2 cd2 ct2 : Value} (a2 : PySem.W.nsIn K mainGlobals "tokens" = some (some (.ref f2))) (l2 : K.lookup f2 = some ⟨oc2, od2, .func (PySem.W.fnOf "tokens" "tokens" (defArgs s_tokens) (defBody s_tokens) (defScope s_tokens) .none kV2 dc2 pm2 an2 cd2 ct2), sl2⟩) (c2 : PySem.W.codeIn K cd2 "tokens" = true) (k2 : PySem.W.keepIn K (.ref f2) = true)
    {f3 : Addr} {od3 an3 : Option Addr} {sl3 : Array (Option Value)} {oc3 kV3 dc3 pm3 cd3 ct3 : Value} (a3 : PySem.W.nsIn K mainGlobals "_law_cell" = some (some (.ref f3))) (l3 : K.lookup f3 = some ⟨oc3, od3, .func (PySem.W.fnOf "_law_cell" "_law_cell" (defArgs s__law_cell) (defBody s__law_cell) (defScope s__law_cell) .none kV3 dc3 pm3 an3 cd3 ct3), sl3⟩) (c3 : PySem.W.codeIn K cd3 "_law_cell" = true) (k3 : PySem.W.keepIn K (.ref f3) = true)
    {f4 : Addr} {od4 an4 : Option Addr} {sl4 : Array (Option Value)} {oc4 kV4 dc4 pm4 cd4 ct4 : Value} (a4 : PySem.W.nsIn K mainGlobals "_law_digits" = some (some (.ref f4))) (l4 : K.lookup f4 = some ⟨oc4, od4, .func (PySem.W.fnOf "_law_digits" "_law_digits" (defArgs s__law_digits) (defBody s__law_digits) (defScope s__law_digits) .none kV4 dc4 pm4 an4 cd4 ct4), sl4⟩) (c4 : PySem.W.codeIn K cd4 "_law_digits" = true) (k4 : PySem.W.keepIn K (.ref f4) = true)
    {f5 : Addr} {od5 an5 : Option Addr} {sl5 : Array (Option Value)} {oc5 kV5 dc5 pm5 cd5 ct5 : Value} (a5 : PySem.W.nsIn K mainGlobals "_law_draw" = some (some (.ref f5))) (l5 : K.lookup f5 = some ⟨oc5, od5, .func (PySem.W.fnOf "_law_draw" "_law_draw" (defArgs s__law_draw) (defBody s__law_draw) (defScope s__law_draw) .none kV5 dc5 pm5 an5 cd5 ct5), sl5⟩) (c5 : PySem.W.codeIn K cd5 "_law_draw" = true) (k5 : PySem.W.keepIn K (.ref f5) = true)
    {f6 : Addr} {od6 an6 : Option Addr} {sl6 : Array (Option Value)} {oc6 kV6 dc6 pm6 cd6 ct6 : Value} (a6 : PySem.W.nsIn K mainGlobals "_law_same" = some (some (.ref f6))) (l6 : K.lookup f6 = some ⟨oc6, od6, .func (PySem.W.fnOf "_law_same" "_law_same" (defArgs s__law_same) (defBody s__law_same) (defScope s__law_same) .none kV6 dc6 pm6 an6 cd6 ct6), sl6⟩) (c6 : PySem.W.codeIn K cd6 "_law_same" = true) (k6 : PySem.W.keepIn K (.ref f6) = true)
    {f7 : Addr} {od7 an7 : Option Addr} {sl7 : Array (Option Value)} {oc7 kV7 dc7 pm7 cd7 ct7 : Value} (a7 : PySem.W.nsIn K mainGlobals "_law_run" = some (some (.ref f7))) (l7 : K.lookup f7 = some ⟨oc7, od7, .func (PySem.W.fnOf "_law_run" "_law_run" (defArgs s__law_run) (defBody s__law_run) (defScope s__law_run) .none kV7 dc7 pm7 an7 cd7 ct7), sl7⟩) (c7 : PySem.W.codeIn K cd7 "_law_run" = true) (k7 : PySem.W.keepIn K (.ref f7) = true)
    {f8 : Addr} {od8 an8 : Option Addr} {sl8 : Array (Option Value)} {oc8 kV8 dc8 pm8 cd8 ct8 : Value} (a8 : PySem.W.nsIn K mainGlobals "_law_token" = some (some (.ref f8))) (l8 : K.lookup f8 = some ⟨oc8, od8, .func (PySem.W.fnOf "_law_token" "_law_token" (defArgs s__law_token) (defBody s__law_token) (defScope s__law_token) .none kV8 dc8 pm8 an8 cd8 ct8), sl8⟩) (c8 : PySem.W.codeIn K cd8 "_law_token" = true) (k8 : PySem.W.keepIn K (.ref f8) = true)
    {f9 : Addr} {od9 an9 : Option Addr} {sl9 : Array (Option Value)} {oc9 kV9 dc9 pm9 cd9 ct9 : Value} (a9 : PySem.W.nsIn K mainGlobals "_law_sort" = some (some (.ref f9))) (l9 : K.lookup f9 = some ⟨oc9, od9, .func (PySem.W.fnOf "_law_sort" "_law_sort" (defArgs s__law_sort) (defBody s__law_sort) (defScope s__law_sort) .none kV9 dc9 pm9 an9 cd9 ct9), sl9⟩) (c9 : PySem.W.codeIn K cd9 "_law_sort" = true) (k9 : PySem.W.keepIn K (.ref f9) = true)
    {f10 : Addr} {od10 an10 : Option Addr} {sl10 : Array (Option Value)} {oc10 kV10 dc10 pm10 cd10 ct10 : Value} (a10 : PySem.W.nsIn K mainGlobals "law" = some (some (.ref f10))) (l10 : K.lookup f10 = some ⟨oc10, od10, .func (PySem.W.fnOf "law" "law" (defArgs s_law) (defBody s_law) (defScope s_law) .none kV10 dc10 pm10 an10 cd10 ct10), sl10⟩) (c10 : PySem.W.codeIn K cd10 "law" = true) (k10 : PySem.W.keepIn K (.ref f10) = true)
    (z_bool : PySem.W.nsIn K mainGlobals "bool" = some none)
    (z_int : PySem.W.nsIn K mainGlobals "int" = some none)
    (z_isinstance : PySem.W.nsIn K mainGlobals "isinstance" = some none)
    (z_len : PySem.W.nsIn K mainGlobals "len" = some none)
    (z_list : PySem.W.nsIn K mainGlobals "list" = some none)
    (z_max : PySem.W.nsIn K mainGlobals "max" = some none)
    (z_range : PySem.W.nsIn K mainGlobals "range" = some none)
    (z_str : PySem.W.nsIn K mainGlobals "str" = some none)
    (z_tuple : PySem.W.nsIn K mainGlobals "tuple" = some none)
    {t_DIGITS : Tok} (y_DIGITS : PySem.W.nsIn K mainGlobals "DIGITS" = some (some (.str ("0123456789" : Str) t_DIGITS)))
    {t_LETTERS : Tok} (y_LETTERS : PySem.W.nsIn K mainGlobals "LETTERS" = some (some (.str ("abcdefghijklmnopqrstuvwxyz" : Str) t_LETTERS)))
    {t_NAME_LENGTH : Tok} (y_NAME_LENGTH : PySem.W.nsIn K mainGlobals "NAME_LENGTH" = some (some (.int 12 t_NAME_LENGTH)))
    {t_NUMBER_LENGTH : Tok} (y_NUMBER_LENGTH : PySem.W.nsIn K mainGlobals "NUMBER_LENGTH" = some (some (.int 4 t_NUMBER_LENGTH)))
    {t_SIGNS : Tok} (y_SIGNS : PySem.W.nsIn K mainGlobals "SIGNS" = some (some (.str (":,;" : Str) t_SIGNS)))
    (law : ∀ ns : List Int, ns.length ≤ 63 → ∃ as, f_law_k01 [.shr (.lst (ns.map D.int))] = .ok (.d (.bl true)) as) :
    ∃ fd : FuncData, (∀ (s : Shared) (v : Value), BindsTo s fd ⟨[v], []⟩ [("_law_script", v)]) ∧ ∀ base : Heap, K.In base → base.Ns mainGlobals mg → FnOk l.prog w K mg base (L2.CX l.prog w) 61 fa fd ["_law_script"] (spLaw K) := by
  have e := hfa.symm.trans (PySem.W.mg_of X G a10)
  cases e
  have T : Tp K mg := ⟨PySem.W.mg_none_of X G z_bool, PySem.W.mg_none_of X G z_int, PySem.W.mg_none_of X G z_isinstance, PySem.W.mg_none_of X G z_len, PySem.W.mg_none_of X G z_list, PySem.W.mg_none_of X G z_max, PySem.W.mg_none_of X G z_range, PySem.W.mg_none_of X G z_str, PySem.W.mg_none_of X G z_tuple, Cst.str (PySem.W.mg_of X G y_DIGITS) (by decide +kernel) (by decide +kernel), Cst.str (PySem.W.mg_of X G y_LETTERS) (by decide +kernel) (by decide +kernel), Cst.int (PySem.W.mg_of X G y_NAME_LENGTH), Cst.int (PySem.W.mg_of X G y_NUMBER_LENGTH), Cst.str (PySem.W.mg_of X G y_SIGNS) (by decide +kernel) (by decide +kernel)⟩
  have F0 := fun_mk (st := s__run_end) l0 c0 k0
  have b0 := F0.binds (ps := ["line", "at", "chars"]) fun _ _ _ _ _ _ us hl => match us, hl with | [_, _, _], _ => rfl
  have F1 := fun_mk (st := s__token) l1 c1 k1
  have b1 := F1.binds (ps := ["line", "at"]) fun _ _ _ _ _ _ us hl => match us, hl with | [_, _], _ => rfl
  have F2 := fun_mk (st := s_tokens) l2 c2 k2
  have b2 := F2.binds (ps := ["line"]) fun _ _ _ _ _ _ us hl => match us, hl with | [_], _ => rfl
  have F3 := fun_mk (st := s__law_cell) l3 c3 k3
  have b3 := F3.binds (ps := ["_law_script", "_law_k"]) fun _ _ _ _ _ _ us hl => match us, hl with | [_, _], _ => rfl
  have F4 := fun_mk (st := s__law_digits) l4 c4 k4
  have b4 := F4.binds (ps := ["_law_script", "_law_first", "_law_last"]) fun _ _ _ _ _ _ us hl => match us, hl with | [_, _, _], _ => rfl
  have F5 := fun_mk (st := s__law_draw) l5 c5 k5
  have b5 := F5.binds (ps := ["_law_box", "_law_many"]) fun _ _ _ _ _ _ us hl => match us, hl with | [_, _], _ => rfl
  have F6 := fun_mk (st := s__law_same) l6 c6 k6
  have b6 := F6.binds (ps := ["_law_actual", "_law_due"]) fun _ _ _ _ _ _ us hl => match us, hl with | [_, _], _ => rfl
  have F7 := fun_mk (st := s__law_run) l7 c7 k7
  have b7 := F7.binds (ps := ["_law_box", "_law_many", "_law_chars"]) fun _ _ _ _ _ _ us hl => match us, hl with | [_, _, _], _ => rfl
  have F8 := fun_mk (st := s__law_token) l8 c8 k8
  have b8 := F8.binds (ps := ["_law_box"]) fun _ _ _ _ _ _ us hl => match us, hl with | [_], _ => rfl
  have F9 := fun_mk (st := s__law_sort) l9 c9 k9
  have b9 := F9.binds (ps := ["_law_text"]) fun _ _ _ _ _ _ us hl => match us, hl with | [_], _ => rfl
  have F10 := fun_mk (st := s_law) l10 c10 k10
  have b10 := F10.binds (ps := ["_law_script"]) fun _ _ _ _ _ _ us hl => match us, hl with | [_], _ => rfl
  refine ⟨PySem.W.fnOf "law" "law" (defArgs s_law) (defBody s_law) (defScope s_law) .none kV10 dc10 pm10 an10 cd10 ct10, fun s v => .of_eq rfl, fun base _ _ => ?_⟩
  have H__run_end : Kp l.prog w K mg base 1 "_run_end" 3 f__run_end := ⟨_, _, _, (ok__run_end T  F0), b0, PySem.W.mg_of X G a0, k0⟩
  have H__token : Kp l.prog w K mg base 2 "_token" 2 f__token := ⟨_, _, _, (ok__token T H__run_end F1), b1, PySem.W.mg_of X G a1, k1⟩
  have H_tokens : Kp l.prog w K mg base 3 "tokens" 1 f_tokens := ⟨_, _, _, (ok_tokens T H__token F2), b2, PySem.W.mg_of X G a2, k2⟩
  have H__law_cell : Kp l.prog w K mg base 1 "_law_cell" 2 f__law_cell := ⟨_, _, _, (ok__law_cell T  F3), b3, PySem.W.mg_of X G a3, k3⟩
  have H__law_digits : Kp l.prog w K mg base 2 "_law_digits" 3 f__law_digits := ⟨_, _, _, (ok__law_digits T H__law_cell F4), b4, PySem.W.mg_of X G a4, k4⟩
  have H__law_draw : Kp l.prog w K mg base 1 "_law_draw" 2 f__law_draw := ⟨_, _, _, (ok__law_draw T  F5), b5, PySem.W.mg_of X G a5, k5⟩
  have H__law_same : Kp l.prog w K mg base 60 "_law_same" 2 f__law_same := ⟨_, _, _, (by rw [f__law_same_eq]; exact okk__law_same T  F6 b6 (PySem.W.mg_of X G a6) 60), b6, PySem.W.mg_of X G a6, k6⟩
  have H__law_run : Kp l.prog w K mg base 2 "_law_run" 3 f__law_run := ⟨_, _, _, (ok__law_run T H__law_draw F7), b7, PySem.W.mg_of X G a7, k7⟩
  have H__law_token : Kp l.prog w K mg base 3 "_law_token" 1 f__law_token := ⟨_, _, _, (ok__law_token T H__law_draw H__law_run F8), b8, PySem.W.mg_of X G a8, k8⟩
  have H__law_sort : Kp l.prog w K mg base 1 "_law_sort" 1 f__law_sort := ⟨_, _, _, (ok__law_sort T  F9), b9, PySem.W.mg_of X G a9, k9⟩
  exact fn_law (ok_law T H__law_digits H__law_draw H__law_same H__law_sort H__law_token H_tokens F10) law
end Mw.K01
open PySem PySem.W PyProof.Rows
set_option maxHeartbeats 0 in
theorem PySem.Challenge.cw_latestart_k01_tokens_of_lines_holds : PySem.Challenge.rw_latestart_k01_tokens_of_lines.Holds := by
  w_on; o_law; k_head; (case hw => w_witness2)
  k_fill
  refine L2.walk_of (l := PySem.Challenge.rw_latestart_k01_tokens_of_lines) (n := 63) (k := 61) (x := "_law_script") (CX := fun w => L2.CX PySem.Challenge.rw_latestart_k01_tokens_of_lines.prog w) (sp := fun w => Mw.spLaw _) rfl (by decide) rfl ⟨rfl, by decide, by decide⟩ (fun w h Y => PySem.W.kIn_of Y) ?F (fun _ _ a ns hl _ hS => ⟨a, ns, rfl, hS, hl, fun _ => rfl⟩) (fun _ _ _ _ _ h => by obtain ⟨_, _, _, _, _, _, _, _, _, _, _, _, z⟩ := h; exact z)
  case F =>
    intro w mg fa h KX G hmg
    refine' Mw.K01.all_mk KX G hmg ?a0 ?l0 ?c0 ?k0 ?a1 ?l1 ?c1 ?k1 ?a2 ?l2 ?c2 ?k2 ?a3 ?l3 ?c3 ?k3 ?a4 ?l4 ?c4 ?k4 ?a5 ?l5 ?c5 ?k5 ?a6 ?l6 ?c6 ?k6 ?a7 ?l7 ?c7 ?k7 ?a8 ?l8 ?c8 ?k8 ?a9 ?l9 ?c9 ?k9 ?a10 ?l10 ?c10 ?k10 ?z_bool ?z_int ?z_isinstance ?z_len ?z_list ?z_max ?z_range ?z_str ?z_tuple ?y_DIGITS ?y_LETTERS ?y_NAME_LENGTH ?y_NUMBER_LENGTH ?y_SIGNS Mw.K01.law_true
    (case a0 => k_is)
    (case l0 => k_is)
    (case c0 => k_is)
    (case k0 => k_is)
    (case a1 => k_is)
    (case l1 => k_is)
    (case c1 => k_is)
    (case k1 => k_is)
    (case a2 => k_is)
    (case l2 => k_is)
    (case c2 => k_is)
    (case k2 => k_is)
    (case a3 => k_is)
    (case l3 => k_is)
    (case c3 => k_is)
    (case k3 => k_is)
    (case a4 => k_is)
    (case l4 => k_is)
    (case c4 => k_is)
    (case k4 => k_is)
    (case a5 => k_is)
    (case l5 => k_is)
    (case c5 => k_is)
    (case k5 => k_is)
    (case a6 => k_is)
    (case l6 => k_is)
    (case c6 => k_is)
    (case k6 => k_is)
    (case a7 => k_is)
    (case l7 => k_is)
    (case c7 => k_is)
    (case k7 => k_is)
    (case a8 => k_is)
    (case l8 => k_is)
    (case c8 => k_is)
    (case k8 => k_is)
    (case a9 => k_is)
    (case l9 => k_is)
    (case c9 => k_is)
    (case k9 => k_is)
    (case a10 => k_is)
    (case l10 => k_is)
    (case c10 => k_is)
    (case k10 => k_is)
    (case z_bool => k_is)
    (case z_int => k_is)
    (case z_isinstance => k_is)
    (case z_len => k_is)
    (case z_list => k_is)
    (case z_max => k_is)
    (case z_range => k_is)
    (case z_str => k_is)
    (case z_tuple => k_is)
    (case y_DIGITS => k_is)
    (case y_LETTERS => k_is)
    (case y_NAME_LENGTH => k_is)
    (case y_NUMBER_LENGTH => k_is)
    (case y_SIGNS => k_is)
