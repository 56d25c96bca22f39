import PyProof.Rows.All
import Wide.All
import OpenK.AllK
import Wide.FinOn
import HandS.ForMost
import HandS.ForExc
import HandS.IsInst
import HandS.TupAny
import HandS.CallSlots
import HandS.Deep
import PyProof.ListOps
import PyProof.Walk
import PyProof.WalkLemmas
import HandS.List
import HandS.Walk
import HandS.Comp
import HandS.SortInts
import HandS.Style
import HandS.Iter
import HandS.Conv
import HandS.SortRule
import HandS.Dict
import HandS.More
import PySem.Challenge.RW_latestart_k10_shortages
set_option Elab.async false
set_option linter.all false
set_option maxRecDepth 100000
namespace Mw
open PySem PySem.Spec PyProof.Rows L2

/-! ## data -/
structure Wd where
  K : PySem.W.Frag
  mg : Str → Option Value

inductive D where
  | non | bl (b : Bool) | int (i : Int) | str (s : List Nat)
  | tup (xs : List D) | lst (xs : List D)
  | obj (c : Str) (ns : List Str) (xs : List D)

inductive O where
  | d (x : D) | lst (xs : List O) | dct (ks : List D) (xs : List O) | obj (c : Str) (ns : List Str) (xs : List O)

mutual
def O.toD : O → D
  | .d x => x
  | .lst xs => .lst (toDs xs)
  | .dct _ _ => .non
  | .obj c ns xs => .obj c ns (toDs xs)
def toDs : List O → List D
  | [] => []
  | x :: xs => x.toD :: toDs xs
end
mutual
def O.fz : O → Bool
  | .d _ => true
  | .lst xs => fzs xs
  | .dct _ _ => false
  | .obj _ _ xs => fzs xs
def fzs : List O → Bool
  | [] => true
  | x :: xs => x.fz && fzs xs
end
/-- a list whose items are plain -/
abbrev O.l (ds : List D) : O := .lst (ds.map O.d)
theorem toDs_d : ∀ ds : List D, toDs (ds.map O.d) = ds
  | [] => rfl
  | d :: ds => by show d :: toDs (ds.map O.d) = _; rw [toDs_d ds]
theorem fzs_d : ∀ ds : List D, fzs (ds.map O.d) = true
  | [] => rfl
  | d :: ds => by show (true && fzs (ds.map O.d)) = true; rw [fzs_d ds]; rfl

def keyD : Key → D
  | .inl i => .int i
  | .inr s => .str s.cps.toList

mutual
inductive Rep (g : Wd) (F : Hp) : V → D → Prop
  | non : Rep g F .non .non
  | bl (b : Bool) : Rep g F (.bl b) (.bl b)
  | int (i : Int) : Rep g F (.int i) (.int i)
  | str {s : List Nat} (h : s.length ≤ sizeLine) : Rep g F (.str ⟨s.toArray⟩) (.str s)
  | tup {a : Addr} {vs : List V} {ds : List D} (h : F a = some (.tup vs)) (hl : vs.length ≤ sizeLine) (r : Reps g F vs ds) : Rep g F (.ref a) (.tup ds)
  | lst {a : Addr} {vs : List V} {ds : List D} (h : SqL g.K F a vs) (hl : vs.length ≤ sizeLine) (r : Reps g F vs ds) : Rep g F (.ref a) (.lst ds)
  | obj {a C dx : Addr} {fs : List (Str × V)} {c : Str} {ns : List Str} {ds : List D} (hc : g.mg c = some (.ref C)) (h : F a = some (.ins C dx fs)) (hd : F dx = some (.own a))
      (hn : fs.map (·.1) = ns) (r : Reps g F (fs.map (·.2)) ds) : Rep g F (.ref a) (.obj c ns ds)
inductive Reps (g : Wd) (F : Hp) : List V → List D → Prop
  | nil : Reps g F [] []
  | cons {v : V} {vs : List V} {d : D} {ds : List D} (h : Rep g F v d) (t : Reps g F vs ds) : Reps g F (v :: vs) (d :: ds)
end
mutual
inductive RepO (g : Wd) (F H : Hp) : V → O → List Addr → Prop
  | d {v : V} {x : D} (r : Rep g F v x) : RepO g F H v (.d x) []
  | lst {a : Addr} {vs : List V} {os : List O} {fp : List Addr} (h : H a = some (.lst vs)) (hl : vs.length ≤ sizeLine) (r : RepOs g F H vs os fp) : RepO g F H (.ref a) (.lst os) (a :: fp)
  | obj {a C dx : Addr} {fs : List (Str × V)} {c : Str} {ns : List Str} {os : List O} {fp : List Addr} (hc : g.mg c = some (.ref C)) (h : H a = some (.ins C dx fs)) (hd : H dx = some (.own a))
      (hn : fs.map (·.1) = ns) (r : RepOs g F H (fs.map (·.2)) os fp) : RepO g F H (.ref a) (.obj c ns os) (a :: dx :: fp)
  | dk {a : Addr} {kvs : List (Key × V)} {ks : List D} {os : List O} {fp : List Addr} (h : H a = some (.dK kvs)) (hk : kvs.map (fun p => keyD p.1) = ks) (r : RepOs g F H (kvs.map (·.2)) os fp) : RepO g F H (.ref a) (.dct ks os) (a :: fp)
  | dt {a : Addr} {kvs : List (List Key × V)} {ks : List D} {os : List O} {fp : List Addr} (h : H a = some (.dT kvs)) (hk : D.non :: kvs.map (fun p => D.tup (p.1.map keyD)) = ks) (r : RepOs g F H (kvs.map (·.2)) os fp) : RepO g F H (.ref a) (.dct ks os) (a :: fp)
inductive RepOs (g : Wd) (F H : Hp) : List V → List O → List Addr → Prop
  | nil : RepOs g F H [] [] []
  | cons {v : V} {vs : List V} {o : O} {os : List O} {f fp : List Addr} (h : RepO g F H v o f) (t : RepOs g F H vs os fp) : RepOs g F H (v :: vs) (o :: os) (f ++ fp)
end

def Ext (F F' : Hp) : Prop := ∀ a o, F a = some o → F' a = some o
theorem Ext.refl (F : Hp) : Ext F F := fun _ _ h => h
theorem Ext.trans {A B C : Hp} (x : Ext A B) (y : Ext B C) : Ext A C := fun a o h => y a o (x a o h)
theorem Ext.rd {F F' : Hp} {a : Addr} {u : HO} (e : Ext F F') (h : Rd F a u) : Rd F' a u := by
  rcases h with h | ⟨o, h⟩
  · exact .inl (e _ _ h)
  · exact .inr ⟨o, e _ _ h⟩
theorem Ext.sqT {K : PySem.W.Frag} {F F' : Hp} {a : Addr} {vs : List V} (e : Ext F F') (h : SqT K F a vs) : SqT K F' a vs := h.imp e.rd id
theorem Ext.sqL {K : PySem.W.Frag} {F F' : Hp} {a : Addr} {vs : List V} (e : Ext F F') (h : SqL K F a vs) : SqL K F' a vs := h.imp e.rd id
mutual
theorem Rep.mono {g : Wd} {F F' : Hp} (e : Ext F F') : ∀ {v : V} {d : D}, Rep g F v d → Rep g F' v d
  | _, _, .non => .non
  | _, _, .bl b => .bl b
  | _, _, .int i => .int i
  | _, _, .str h => .str h
  | _, _, .tup h hl r => .tup (e _ _ h) hl (Reps.mono e r)
  | _, _, .lst h hl r => .lst (e.sqL h) hl (Reps.mono e r)
  | _, _, .obj hc h hd hn r => .obj hc (e _ _ h) (e _ _ hd) hn (Reps.mono e r)
theorem Reps.mono {g : Wd} {F F' : Hp} (e : Ext F F') : ∀ {vs : List V} {ds : List D}, Reps g F vs ds → Reps g F' vs ds
  | _, _, .nil => .nil
  | _, _, .cons h t => .cons (Rep.mono e h) (Reps.mono e t)
end
mutual
theorem RepO.mono {g : Wd} {F F' H H' : Hp} (e : Ext F F') : ∀ {v : V} {o : O} {fp : List Addr}, RepO g F H v o fp → (∀ a ∈ fp, ∀ u, H a = some u → H' a = some u) → RepO g F' H' v o fp
  | _, _, _, .d r, _ => .d (r.mono e)
  | _, _, _, .lst h hl r, k => .lst (k _ (by simp) _ h) hl (RepOs.mono e r fun a ha => k a (by simp [ha]))
  | _, _, _, .obj hc h hd hn r, k => .obj hc (k _ (by simp) _ h) (k _ (by simp) _ hd) hn (RepOs.mono e r fun a ha => k a (by simp [ha]))
  | _, _, _, .dk h hk r, k => .dk (k _ (by simp) _ h) hk (RepOs.mono e r fun a ha => k a (by simp [ha]))
  | _, _, _, .dt h hk r, k => .dt (k _ (by simp) _ h) hk (RepOs.mono e r fun a ha => k a (by simp [ha]))
theorem RepOs.mono {g : Wd} {F F' H H' : Hp} (e : Ext F F') : ∀ {vs : List V} {os : List O} {fp : List Addr}, RepOs g F H vs os fp → (∀ a ∈ fp, ∀ u, H a = some u → H' a = some u) → RepOs g F' H' vs os fp
  | _, _, _, .nil, _ => .nil
  | _, _, _, .cons h t, k => .cons (RepO.mono e h fun a ha => k a (by simp [ha])) (RepOs.mono e t fun a ha => k a (by simp [ha]))
end
mutual
theorem RepO.there {g : Wd} {F H : Hp} : ∀ {v : V} {o : O} {fp : List Addr}, RepO g F H v o fp → ∀ a ∈ fp, H a ≠ none
  | _, _, _, .d r, _, h => by cases h
  | _, _, _, .lst h hl r, a, ha => by
    rcases List.mem_cons.mp ha with rfl | ha
    · rw [h]; simp
    · exact RepOs.there r a ha
  | _, _, _, .obj hc h hd hn r, a, ha => by
    rcases List.mem_cons.mp ha with rfl | ha
    · rw [h]; simp
    · rcases List.mem_cons.mp ha with rfl | ha
      · rw [hd]; simp
      · exact RepOs.there r a ha
  | _, _, _, .dk h hk r, a, ha => by
    rcases List.mem_cons.mp ha with rfl | ha
    · rw [h]; simp
    · exact RepOs.there r a ha
  | _, _, _, .dt h hk r, a, ha => by
    rcases List.mem_cons.mp ha with rfl | ha
    · rw [h]; simp
    · exact RepOs.there r a ha
theorem RepOs.there {g : Wd} {F H : Hp} : ∀ {vs : List V} {os : List O} {fp : List Addr}, RepOs g F H vs os fp → ∀ a ∈ fp, H a ≠ none
  | _, _, _, .nil, _, h => by cases h
  | _, _, _, .cons h t, a, ha => by
    rcases List.mem_append.mp ha with ha | ha
    · exact RepO.there h a ha
    · exact RepOs.there t a ha
end
/-- free to be frozen: not there yet, or a tuple -/
def Fr (H : Hp) (a : Addr) : Prop := H a = none ∨ ∃ xs, H a = some (.tup xs)
mutual
theorem RepO.ntup {g : Wd} {F H : Hp} : ∀ {v : V} {o : O} {fp : List Addr}, RepO g F H v o fp → ∀ a ∈ fp, ¬ Fr H a
  | _, _, _, .d r, _, h => by cases h
  | _, _, _, .lst h hl r, a, ha => by
    rcases List.mem_cons.mp ha with rfl | ha
    · rintro (z | ⟨xs, z⟩) <;> rw [h] at z <;> cases z
    · exact RepOs.ntup r a ha
  | _, _, _, .obj hc h hd hn r, a, ha => by
    rcases List.mem_cons.mp ha with rfl | ha
    · rintro (z | ⟨xs, z⟩) <;> rw [h] at z <;> cases z
    · rcases List.mem_cons.mp ha with rfl | ha
      · rintro (z | ⟨xs, z⟩) <;> rw [hd] at z <;> cases z
      · exact RepOs.ntup r a ha
  | _, _, _, .dk h hk r, a, ha => by
    rcases List.mem_cons.mp ha with rfl | ha
    · rintro (z | ⟨xs, z⟩) <;> rw [h] at z <;> cases z
    · exact RepOs.ntup r a ha
  | _, _, _, .dt h hk r, a, ha => by
    rcases List.mem_cons.mp ha with rfl | ha
    · rintro (z | ⟨xs, z⟩) <;> rw [h] at z <;> cases z
    · exact RepOs.ntup r a ha
theorem RepOs.ntup {g : Wd} {F H : Hp} : ∀ {vs : List V} {os : List O} {fp : List Addr}, RepOs g F H vs os fp → ∀ a ∈ fp, ¬ Fr H a
  | _, _, _, .nil, _, h => by cases h
  | _, _, _, .cons h t, a, ha => by
    rcases List.mem_append.mp ha with ha | ha
    · exact RepO.ntup h a ha
    · exact RepOs.ntup t a ha
end
mutual
/-- what is owned is frozen: F' knows all of its footprint -/
theorem RepO.freeze {g : Wd} {F F' H : Hp} (e : Ext F F') : ∀ {v : V} {o : O} {fp : List Addr}, RepO g F H v o fp → o.fz = true → (∀ a ∈ fp, ∀ u, H a = some u → F' a = some u) → Rep g F' v o.toD
  | _, _, _, .d r, _, _ => r.mono e
  | _, _, _, .lst h hl r, z, k => .lst (.inl (.inl (k _ (by simp) _ h))) hl (RepOs.freeze e r z fun a ha => k a (by simp [ha]))
  | _, _, _, .obj hc h hd hn r, z, k => .obj hc (k _ (by simp) _ h) (k _ (by simp) _ hd) hn (RepOs.freeze e r z fun a ha => k a (by simp [ha]))
  | _, _, _, .dk h hk r, z, _ => nomatch z
  | _, _, _, .dt h hk r, z, _ => nomatch z
theorem RepOs.freeze {g : Wd} {F F' H : Hp} (e : Ext F F') : ∀ {vs : List V} {os : List O} {fp : List Addr}, RepOs g F H vs os fp → fzs os = true → (∀ a ∈ fp, ∀ u, H a = some u → F' a = some u) → Reps g F' vs (toDs os)
  | _, _, _, .nil, _, _ => .nil
  | _, _, _, .cons h t, z, k => by
    have z := Bool.and_eq_true_iff.mp (show (_ && _) = true from z)
    exact .cons (RepO.freeze e h z.1 fun a ha => k a (by simp [ha])) (RepOs.freeze e t z.2 fun a ha => k a (by simp [ha]))
end
theorem Reps.length {g : Wd} {F : Hp} : ∀ {vs : List V} {ds : List D}, Reps g F vs ds → vs.length = ds.length
  | _, _, .nil => rfl
  | _, _, .cons h t => by simp [Reps.length t]
theorem RepOs.length {g : Wd} {F H : Hp} : ∀ {vs : List V} {os : List O} {fp}, RepOs g F H vs os fp → vs.length = os.length
  | _, _, _, .nil => rfl
  | _, _, _, .cons h t => by simp [RepOs.length t]
theorem Reps.get {g : Wd} {F : Hp} : ∀ {vs : List V} {ds : List D} {i : Nat} {d : D}, Reps g F vs ds → ds[i]? = some d → ∃ v, vs[i]? = some v ∧ Rep g F v d
  | _, _, _, _, .nil, h => by simp at h
  | _, _, 0, _, .cons h t, e => by simp at e; subst e; exact ⟨_, rfl, h⟩
  | _, _, i + 1, _, .cons h t, e => by simpa using Reps.get (i := i) t (by simpa using e)
theorem Reps.getV {g : Wd} {F : Hp} : ∀ {vs : List V} {ds : List D} {i : Nat} {v : V}, Reps g F vs ds → vs[i]? = some v → ∃ d, ds[i]? = some d ∧ Rep g F v d
  | _, _, _, _, .nil, h => by simp at h
  | _, _, 0, _, .cons h t, e => by simp at e; subst e; exact ⟨_, rfl, h⟩
  | _, _, i + 1, _, .cons h t, e => by simpa using Reps.getV (i := i) t (by simpa using e)
theorem Reps.app {g : Wd} {F : Hp} : ∀ {vs ws : List V} {ds es : List D}, Reps g F vs ds → Reps g F ws es → Reps g F (vs ++ ws) (ds ++ es)
  | _, _, _, _, .nil, s => s
  | _, _, _, _, .cons h t, s => .cons h (Reps.app t s)
theorem Reps.take {g : Wd} {F : Hp} : ∀ {vs : List V} {ds : List D} (n : Nat), Reps g F vs ds → Reps g F (vs.take n) (ds.take n)
  | _, _, 0, _ => .nil
  | _, _, _ + 1, .nil => .nil
  | _, _, n + 1, .cons r t => .cons r (Reps.take n t)
theorem Reps.drop {g : Wd} {F : Hp} : ∀ {vs : List V} {ds : List D} (n : Nat), Reps g F vs ds → Reps g F (vs.drop n) (ds.drop n)
  | _, _, 0, r => r
  | _, _, _ + 1, .nil => .nil
  | _, _, n + 1, .cons _ t => Reps.drop n t
/-- plain items of an owned list -/
theorem RepOs.ofReps {g : Wd} {F H : Hp} : ∀ {vs : List V} {ds : List D}, Reps g F vs ds → RepOs g F H vs (ds.map O.d) []
  | _, _, .nil => .nil
  | _, _, .cons h t => .cons (f := []) (fp := []) (.d h) (RepOs.ofReps t)
theorem RepOs.toReps {g : Wd} {F H : Hp} : ∀ {vs : List V} {ds : List D} {fp}, RepOs g F H vs (ds.map O.d) fp → Reps g F vs ds ∧ fp = []
  | _, [], _, .nil => ⟨.nil, rfl⟩
  | _, _ :: ds, _, .cons (.d h) t => by
    obtain ⟨r, rfl⟩ := RepOs.toReps (ds := ds) t
    exact ⟨.cons h r, rfl⟩
end Mw

set_option Elab.async false
set_option linter.all false
set_option maxRecDepth 100000
set_option autoImplicit false
namespace Mw
open PySem PySem.Spec PyProof.Rows L2

/-! ## environments, results -/
inductive Slo where
  | un | shr (d : D) | mu (b : Bool) (o : O)
abbrev Ro := List Slo
inductive R where
  | d (x : D) | own (o : O) | pk (o : O)
structure Exc where
  c : Str
  ns : List Str
  ds : List D
inductive Res (α : Type) where
  | ok (a : α) (ρ : Ro) (q : Bool) | ex (x : Exc) (ρ : Ro) | no
def Res.bind {α β : Type} : Res α → (α → Ro → Bool → Res β) → Res β
  | .ok a ρ q, k => k a ρ q
  | .ex x ρ, _ => .ex x ρ
  | .no, _ => .no
@[simp] theorem Res.bind_ok {α β : Type} (a : α) (ρ : Ro) (q : Bool) (k : α → Ro → Bool → Res β) : (Res.ok a ρ q).bind k = k a ρ q := rfl
@[simp] theorem Res.bind_ex {α β : Type} (x : Exc) (ρ : Ro) (k : α → Ro → Bool → Res β) : (Res.ex x ρ : Res α).bind k = .ex x ρ := rfl
@[simp] theorem Res.bind_no {α β : Type} (k : α → Ro → Bool → Res β) : (Res.no : Res α).bind k = .no := rfl
theorem Res.bind_assoc {α β γ : Type} (r : Res α) (k : α → Ro → Bool → Res β) (l : β → Ro → Bool → Res γ) : (r.bind k).bind l = r.bind fun a ρ q => (k a ρ q).bind l := by cases r <;> rfl
abbrev M := Ro → Res R
abbrev MB := Ro → Res Bool
def R.isPk : R → Bool
  | .pk _ => true
  | _ => false

/-! ## the state -/
structure Stt (g : Wd) (F H : Hp) (σ : L2.St) (ρ : Ro) (fp : Nat → List Addr) : Prop where
  sub : Ext F H
  len : σ.length = ρ.length
  un : ∀ (i : Nat), (∀ (b : Bool) (o : O), ρ[i]? ≠ some (.mu b o)) → fp i = []
  shr : ∀ (i : Nat) (d : D), ρ[i]? = some (.shr d) → ∃ v, σ[i]? = some (some v) ∧ Rep g F v d
  mu : ∀ (i : Nat) (b : Bool) (o : O), ρ[i]? = some (.mu b o) → ∃ v, σ[i]? = some (some v) ∧ RepO g F H v o (fp i)
  nd : ∀ i, (fp i).Nodup
  dis : ∀ i j a, a ∈ fp i → a ∈ fp j → i = j
  fre : ∀ i a, a ∈ fp i → F a = none
def Own (fp : Nat → List Addr) : Addr → Prop := fun a => ∃ i, a ∈ fp i
def Plus (S : Addr → Prop) (fr : List Addr) : Addr → Prop := fun a => S a ∨ a ∈ fr
structure Step (F H : Hp) (S : Addr → Prop) (F' H' : Hp) (S' : Addr → Prop) : Prop where
  ext : Ext F F'
  keep : ∀ a o, ¬ S a → H a = some o → H' a = some o
  new : ∀ a o, F' a = some o → F a = some o ∨ S a ∨ Fr H a
  fre : ∀ a, S' a → S a ∨ H a = none
theorem Step.refl (F H : Hp) (S : Addr → Prop) : Step F H S F H S := ⟨.refl F, fun _ _ _ h => h, fun _ _ h => .inl h, fun _ h => .inl h⟩
theorem Step.trans {F H F1 H1 F2 H2 : Hp} {S S1 S2 : Addr → Prop} (a : Step F H S F1 H1 S1) (b : Step F1 H1 S1 F2 H2 S2) : Step F H S F2 H2 S2 := by
  have back : ∀ x, Fr H1 x → S x ∨ Fr H x := fun x h => by
    by_cases hs : S x
    · exact .inl hs
    · cases q : H x with
      | none => exact .inr (.inl q)
      | some o =>
        have q1 := a.keep x o hs q
        rcases h with h | ⟨xs, h⟩
        · rw [h] at q1; cases q1
        · rw [h] at q1; cases q1; exact .inr (.inr ⟨xs, q⟩)
  have backN : ∀ x, H1 x = none → S x ∨ H x = none := fun x h => by
    by_cases hs : S x
    · exact .inl hs
    · cases q : H x with
      | none => exact .inr rfl
      | some o => rw [a.keep x o hs q] at h; cases h
  refine ⟨a.ext.trans b.ext, fun x o hs h => b.keep x o (fun z => ?_) (a.keep x o hs h), fun x o h => ?_, fun x h => ?_⟩
  · rcases a.fre x z with z | z
    · exact hs z
    · rw [h] at z; cases z
  · rcases b.new x o h with h | h | h
    · exact a.new x o h
    · exact .inr ((a.fre x h).imp id .inl)
    · exact .inr (back x h)
  · rcases b.fre x h with h | h
    · exact a.fre x h
    · exact backN x h
theorem Step.frame {F H F' H' : Hp} {S S' : Addr → Prop} (a : Step F H S F' H' S') (fr : List Addr) : Step F H (Plus S fr) F' H' (Plus S' fr) :=
  ⟨a.ext, fun x o hs h => a.keep x o (fun z => hs (.inl z)) h, fun x o h => (a.new x o h).imp id (fun z => z.imp .inl id), fun x h => by
    rcases h with h | h
    · exact (a.fre x h).imp .inl id
    · exact .inl (.inr h)⟩
theorem Step.weak {F H F' H' : Hp} {S S' S'' : Addr → Prop} (a : Step F H S F' H' S') (h : ∀ x, S'' x → S' x) : Step F H S F' H' S'' := ⟨a.ext, a.keep, a.new, fun x z => a.fre x (h x z)⟩

def RepR (g : Wd) (F H : Hp) (S : Addr → Prop) (v : V) (r : R) (fr : List Addr) : Prop := match r with
  | .d x => Rep g F v x ∧ fr = []
  | .own o => RepO g F H v o fr ∧ ∀ a ∈ fr, F a = none ∧ ¬ S a
  | .pk o => fr = [] ∧ ∃ fp, RepO g F H v o fp
inductive RepRs (g : Wd) (F H : Hp) (S : Addr → Prop) : List V → List R → List Addr → Prop
  | nil : RepRs g F H S [] [] []
  | cons {v : V} {vs : List V} {r : R} {rs : List R} {f fr : List Addr} (h : RepR g F H S v r f) (t : RepRs g F H S vs rs fr) : RepRs g F H S (v :: vs) (r :: rs) (f ++ fr)
def RepX (g : Wd) (F : Hp) (cls : Value) (d : Option Addr) (x : Exc) : Prop :=
  ∃ C, cls = .ref C ∧ g.mg x.c = some (.ref C) ∧ ((d = none ∧ x.ns = [] ∧ x.ds = []) ∨ ∃ dx fs, d = some dx ∧ F dx = some (.xd fs) ∧ fs.map (·.1) = x.ns ∧ Reps g F (fs.map (·.2)) x.ds)

theorem RepR.out {g : Wd} {F H : Hp} {S : Addr → Prop} {v : V} {r : R} {fr : List Addr} (h : RepR g F H S v r fr) : ∀ a ∈ fr, F a = none ∧ ¬ S a ∧ H a ≠ none := by
  cases r with
  | d x => obtain ⟨_, rfl⟩ := h; intro a ha; cases ha
  | own o => exact fun a ha => ⟨(h.2 a ha).1, (h.2 a ha).2, h.1.there a ha⟩
  | pk o => obtain ⟨rfl, _⟩ := h; intro a ha; cases ha
theorem RepRs.out {g : Wd} {F H : Hp} {S : Addr → Prop} {vs : List V} {rs : List R} {fr : List Addr} (h : RepRs g F H S vs rs fr) : ∀ a ∈ fr, F a = none ∧ ¬ S a ∧ H a ≠ none := by
  induction h with
  | nil => intro a ha; cases ha
  | cons h t ih =>
    intro a ha
    rcases List.mem_append.mp ha with ha | ha
    · exact h.out a ha
    · exact ih a ha
theorem RepR.outN {g : Wd} {F H : Hp} {S : Addr → Prop} {v : V} {r : R} {fr : List Addr} (h : RepR g F H S v r fr) : ∀ a ∈ fr, ¬ Fr H a := by
  cases r with
  | d x => obtain ⟨_, rfl⟩ := h; intro a ha; cases ha
  | own o => exact h.1.ntup
  | pk o => obtain ⟨rfl, _⟩ := h; intro a ha; cases ha
/-- a result that waits while other parts run -/
theorem RepR.keep {g : Wd} {F H F' H' : Hp} {S S' : Addr → Prop} {v : V} {r : R} {fr : List Addr} (h : RepR g F H S v r fr) (s : Step F H S F' H' S') (q : r.isPk = true → Ext H H') : RepR g F' H' S' v r fr := by
  cases r with
  | d x => exact ⟨h.1.mono s.ext, h.2⟩
  | own o =>
    have o' := RepR.out (r := .own o) h
    refine ⟨h.1.mono s.ext fun a ha u e => s.keep a u (o' a ha).2.1 e, fun a ha => ⟨?_, fun z => ?_⟩⟩
    · cases e : F' a with
      | none => rfl
      | some u =>
        rcases s.new a u e with e | e | e
        · rw [(o' a ha).1] at e; cases e
        · exact absurd e (o' a ha).2.1
        · exact absurd e (RepR.outN (r := .own o) h a ha)
    · rcases s.fre a z with z | z
      · exact (o' a ha).2.1 z
      · exact (o' a ha).2.2 z
  | pk o => exact ⟨h.1, h.2.imp fun fp r => r.mono s.ext fun a _ u e => q rfl a u e⟩

/-! ## obligations -/
abbrev VRel (α β : Type) := Hp → Hp → (Addr → Prop) → β → α → List Addr → Prop
def Ob {α β : Type} (g : Wd) (W : WX) (σ : L2.St) (F H : Hp) (S : Addr → Prop) (Z : Bool → Hp → Ro → Prop) (RR : VRel α β) (res : Res α) (Q : β → Hp → Prop) : Prop :=
  res ≠ .no ∧
  (∀ r ρ' q, res = .ok r ρ' q → ∀ v F' H' fp' fr, Step F H S F' H' (Plus (Own fp') fr) → Stt g F' H' σ ρ' fp' → RR F' H' (Own fp') v r fr → fr.Nodup → Z q H' ρ' → Q v H') ∧
  (∀ x ρ', res = .ex x ρ' → ∀ cls d F' H' fp', Step F H S F' H' (Own fp') → Stt g F' H' σ ρ' fp' → RepX g F' cls d x → Z false H' ρ' → W cls d σ H')
/-- a borrowed place stays borrowed -/
def Kb (ρ ρ' : Ro) : Prop := ∀ (k : Nat) (o : O), ρ[k]? = some (.mu true o) → ∃ o', ρ'[k]? = some (.mu true o')
theorem Kb.refl (ρ : Ro) : Kb ρ ρ := fun _ o h => ⟨o, h⟩
theorem Kb.trans {a b c : Ro} (x : Kb a b) (y : Kb b c) : Kb a c := fun k o h => by
  obtain ⟨o', h⟩ := x k o h
  exact y k o' h
def Zq (H : Hp) (ρ : Ro) : Bool → Hp → Ro → Prop := fun q H' ρ' => Kb ρ ρ' ∧ (q = true → Ext H H' ∧ ρ' = ρ)
def tR {α β : Type} (g : Wd) (W : WX) (RR : VRel α β) (m : Ro → Res α) : L2.St → Hp → (β → Hp → Prop) → Prop := fun σ H Q =>
  ∃ F ρ fp, Stt g F H σ ρ fp ∧ Ob g W σ F H (Own fp) (Zq H ρ) RR (m ρ) Q
abbrev tM (g : Wd) (W : WX) (m : M) : TE := tR g W (RepR g) m
def mArgs : List M → Ro → Res (List R)
  | [], ρ => .ok [] ρ true
  | m :: ms, ρ => (m ρ).bind fun r ρ1 q1 => (mArgs ms ρ1).bind fun rs ρ2 q2 => if (r.isPk && !q2) = true then .no else .ok (r :: rs) ρ2 (q1 && q2)
abbrev tA (g : Wd) (W : WX) (ms : List M) : TA := tR g W (RepRs g) (mArgs ms)

theorem Ob.imp {α β : Type} {g : Wd} {W : WX} {σ : L2.St} {F H : Hp} {S : Addr → Prop} {Z : Bool → Hp → Ro → Prop} {RR : VRel α β} {res : Res α} {Q Q' : β → Hp → Prop} (h : Ob g W σ F H S Z RR res Q) (i : ∀ v H, Q v H → Q' v H) : Ob g W σ F H S Z RR res Q' :=
  ⟨h.1, fun r ρ' q e v F' H' fp' fr a b c d z => i _ _ (h.2.1 r ρ' q e v F' H' fp' fr a b c d z), h.2.2⟩
theorem tR.imp {α β : Type} {g : Wd} {W : WX} {RR : VRel α β} {m : Ro → Res α} {σ : L2.St} {H : Hp} {Q Q' : β → Hp → Prop} (h : tR g W RR m σ H Q) (i : ∀ v H, Q v H → Q' v H) : tR g W RR m σ H Q' := by
  obtain ⟨F, ρ, fp, st, ob⟩ := h
  exact ⟨F, ρ, fp, st, ob.imp i⟩
/-- after a first part -/
theorem Ob.after {α β : Type} {g : Wd} {W : WX} {σ : L2.St} {F H F1 H1 : Hp} {S S1 : Addr → Prop} {Z : Bool → Hp → Ro → Prop} {RR : VRel α β} {res : Res α} {Q : β → Hp → Prop} (h : Ob g W σ F H S Z RR res Q) (s : Step F H S F1 H1 S1) : Ob g W σ F1 H1 S1 Z RR res Q :=
  ⟨h.1, fun r ρ' q e v F' H' fp' fr a b c d z => h.2.1 r ρ' q e v F' H' fp' fr (s.trans a) b c d z, fun x ρ' e cls d F' H' fp' a b c z => h.2.2 x ρ' e cls d F' H' fp' (s.trans a) b c z⟩
/-- one part, then the rest: what the first one is to reach -/
theorem Ob.bind {α β γ δ : Type} {g : Wd} {W : WX} {σ : L2.St} {F H : Hp} {S : Addr → Prop} {Z Z1 : Bool → Hp → Ro → Prop} {RR : VRel α β} {RR1 : VRel γ δ} {res : Res γ} {k : γ → Ro → Bool → Res α} {Q : β → Hp → Prop} {Q1 : δ → Hp → Prop}
    (h : Ob g W σ F H S Z RR (res.bind k) Q)
    (i : ∀ r ρ1 q1, res = .ok r ρ1 q1 → ∀ v F1 H1 fp1 fr1, Step F H S F1 H1 (Plus (Own fp1) fr1) → Stt g F1 H1 σ ρ1 fp1 → RR1 F1 H1 (Own fp1) v r fr1 → fr1.Nodup → Z1 q1 H1 ρ1 → Ob g W σ F1 H1 (Plus (Own fp1) fr1) Z RR (k r ρ1 q1) Q → Q1 v H1)
    (hz : ∀ H' ρ', Z1 false H' ρ' → Z false H' ρ') : Ob g W σ F H S Z1 RR1 res Q1 := by
  refine ⟨fun e => ?_, fun r ρ1 q1 e v F1 H1 fp1 fr1 a b c d z => ?_, fun x ρ' e => ?_⟩
  · subst e; exact h.1 rfl
  · subst e; exact i r ρ1 q1 rfl v F1 H1 fp1 fr1 a b c d z (Ob.after h a)
  · subst e; exact fun cls d F' H' fp' a b c z => h.2.2 x ρ' rfl cls d F' H' fp' a b c (hz _ _ z)
theorem tR.bind {α β γ δ : Type} {g : Wd} {W : WX} {RR : VRel α β} {RR1 : VRel γ δ} {m : Ro → Res γ} {k : γ → Ro → Bool → Res α} {σ : L2.St} {H : Hp} {Q : β → Hp → Prop} {Q1 : δ → Hp → Prop}
    (h : tR g W RR (fun ρ => (m ρ).bind k) σ H Q)
    (i : ∀ F ρ fp, Stt g F H σ ρ fp → ∀ r ρ1 q1, m ρ = .ok r ρ1 q1 → ∀ v F1 H1 fp1 fr1, Step F H (Own fp) F1 H1 (Plus (Own fp1) fr1) → Stt g F1 H1 σ ρ1 fp1 → RR1 F1 H1 (Own fp1) v r fr1 → fr1.Nodup → Zq H ρ q1 H1 ρ1 → Ob g W σ F1 H1 (Plus (Own fp1) fr1) (Zq H ρ) RR (k r ρ1 q1) Q → Q1 v H1) :
    tR g W RR1 m σ H Q1 := by
  obtain ⟨F, ρ, fp, st, ob⟩ := h
  exact ⟨F, ρ, fp, st, ob.bind (i F ρ fp st) fun _ _ z => z⟩
theorem tA_nil {g : Wd} {W : WX} {σ : L2.St} {H : Hp} {Q : List V → Hp → Prop} (h : tA g W [] σ H Q) : Q [] H := by
  obtain ⟨F, ρ, fp, st, ob⟩ := h
  exact ob.2.1 [] ρ true rfl [] F H fp [] ⟨.refl F, fun _ _ _ h => h, fun _ _ h => .inl h, fun a h => .inl (h.elim id fun z => nomatch z)⟩ st .nil List.nodup_nil ⟨.refl ρ, fun _ => ⟨.refl H, rfl⟩⟩
theorem tA_cons {g : Wd} {W : WX} {m : M} {ms : List M} {σ : L2.St} {H : Hp} {Q : List V → Hp → Prop} (h : tA g W (m :: ms) σ H Q) : tM g W m σ H fun x H1 => tA g W ms σ H1 fun xs H2 => Q (x :: xs) H2 := by
  refine tR.bind h fun F ρ fp st r ρ1 q1 e1 v F1 H1 fp1 fr1 s1 st1 r1 n1 z1 ob => ⟨F1, ρ1, fp1, st1, ?_⟩
  refine ⟨fun e => ob.1 (by rw [e]; rfl), fun rs ρ2 q2 e vs F2 H2 fp2 fr2 s2 st2 r2 n2 z2 => ?_, fun x ρ' e cls d F' H' fp' a b c z => ?_⟩
  · rw [e] at ob
    by_cases hp : (r.isPk && !q2) = true
    · exact absurd (if_pos hp) ob.1
    · have hq : r.isPk = true → Ext H1 H2 := fun hk => (z2.2 (by cases q2 <;> simp_all)).1
      have o1 := r1.out
      have r1' := r1.keep s2 hq
      have o1' := r1'.out
      refine ob.2.1 (r :: rs) ρ2 (q1 && q2) (if_neg hp) (v :: vs) F2 H2 fp2 (fr1 ++ fr2) ((s2.frame fr1).weak fun x hx => ?_) st2 (.cons (r1.keep (s2.weak fun x hx => .inl hx) hq) r2) ?_ ⟨z1.1.trans z2.1, fun hz => ?_⟩
      · rcases hx with hx | hx
        · exact .inl (.inl hx)
        · rcases List.mem_append.mp hx with hx | hx
          · exact .inr hx
          · exact .inl (.inr hx)
      · exact List.nodup_append.mpr ⟨n1, n2, fun a ha b hb e => (o1' a ha).2.1 (.inr (e ▸ hb))⟩
      · have hz := Bool.and_eq_true_iff.mp hz
        exact ⟨(z1.2 hz.1).1.trans (z2.2 hz.2).1, (z2.2 hz.2).2.trans (z1.2 hz.1).2⟩
  · rw [e] at ob
    exact ob.2.2 x ρ' rfl cls d F' H' fp' ((a.frame fr1).weak fun x hx => .inl hx) b c ⟨z1.1.trans z.1, fun z => nomatch z⟩

/-! ## operations on results -/
structure LStep (F H : Hp) (fr : List Addr) (F' H' : Hp) (fr' : List Addr) : Prop where
  ext : Ext F F'
  exh : Ext H H'
  sub : Ext F' H'
  new : ∀ a o, F' a = some o → F a = some o ∨ a ∈ fr ∨ Fr H a
  fre : ∀ a ∈ fr', a ∈ fr ∨ H a = none
def LeafG (g : Wd) (leaf : List R → Option R) (vs : List V) (H : Hp) (Q : VK) : Prop :=
  ∃ F S rs fr rr, Ext F H ∧ (∀ a, S a → H a ≠ none ∧ F a = none) ∧ RepRs g F H S vs rs fr ∧ fr.Nodup ∧ leaf rs = some rr ∧
    ∀ v F' H' fr', LStep F H fr F' H' fr' → RepR g F' H' S v rr fr' → fr'.Nodup → Q v H'
def mOps (ms : List M) (leaf : List R → Option R) : M := fun ρ => (mArgs ms ρ).bind fun rs ρ' q => match leaf rs with
  | some r => .ok r ρ' q
  | none => .no
theorem Stt.grown {g : Wd} {F H F' H' : Hp} {σ : L2.St} {ρ : Ro} {fp : Nat → List Addr} (s : Stt g F H σ ρ fp) (e : Ext F F') (eh : Ext H H') (sub : Ext F' H') (n : ∀ a, Own fp a → F' a = none) : Stt g F' H' σ ρ fp :=
  ⟨sub, s.len, s.un, fun i d h => (s.shr i d h).imp fun v h => ⟨h.1, h.2.mono e⟩, fun i b o h => (s.mu i b o h).imp fun v h => ⟨h.1, h.2.mono e fun a _ u => eh a u⟩, s.nd, s.dis, fun i a h => n a ⟨i, h⟩⟩
theorem Stt.there {g : Wd} {F H : Hp} {σ : L2.St} {ρ : Ro} {fp : Nat → List Addr} (s : Stt g F H σ ρ fp) {a : Addr} (h : Own fp a) : H a ≠ none ∧ F a = none := by
  obtain ⟨i, h⟩ := h
  refine ⟨?_, s.fre i a h⟩
  cases e : ρ[i]? with
  | none => rw [s.un i fun b o z => by rw [e] at z; cases z] at h; cases h
  | some x =>
    cases x with
    | un => rw [s.un i fun b o z => by rw [e] at z; cases z] at h; cases h
    | shr d => rw [s.un i fun b o z => by rw [e] at z; cases z] at h; cases h
    | mu b o =>
      obtain ⟨v, _, r⟩ := s.mu i b o e
      exact r.there a h
theorem Stt.thereN {g : Wd} {F H : Hp} {σ : L2.St} {ρ : Ro} {fp : Nat → List Addr} (s : Stt g F H σ ρ fp) {a : Addr} (h : Own fp a) : ¬ Fr H a := by
  obtain ⟨i, h⟩ := h
  cases e : ρ[i]? with
  | none => rw [s.un i fun b o z => by rw [e] at z; cases z] at h; cases h
  | some x =>
    cases x with
    | un => rw [s.un i fun b o z => by rw [e] at z; cases z] at h; cases h
    | shr d => rw [s.un i fun b o z => by rw [e] at z; cases z] at h; cases h
    | mu b o =>
      obtain ⟨v, _, r⟩ := s.mu i b o e
      exact r.ntup a h
theorem tM_ops {g : Wd} {W : WX} {ms : List M} {leaf : List R → Option R} {σ : L2.St} {H : Hp} {Q : VK} (h : tM g W (mOps ms leaf) σ H Q) : tA g W ms σ H fun vs H1 => LeafG g leaf vs H1 Q := by
  refine tR.bind h fun F ρ fp st rs ρ1 q1 e1 vs F1 H1 fp1 fr1 s1 st1 r1 n1 z1 ob => ?_
  cases e : leaf rs with
  | none => rw [e] at ob; exact absurd rfl ob.1
  | some rr =>
    rw [e] at ob
    have o1 := r1.out
    refine ⟨F1, Own fp1, rs, fr1, rr, st1.sub, fun a ha => st1.there ha, r1, n1, e, fun v F' H' fr' l r' n' => ?_⟩
    refine ob.2.1 rr ρ1 q1 rfl v F' H' fp1 fr' ⟨l.ext, fun a o _ h => l.exh a o h, fun a o h => ?_, fun a h => ?_⟩ (st1.grown l.ext l.exh l.sub fun a ha => ?_) r' n' ⟨z1.1, fun z => ⟨(z1.2 z).1.trans l.exh, (z1.2 z).2⟩⟩
    · rcases l.new a o h with h | h | h
      · exact .inl h
      · exact .inr (.inl (.inr h))
      · exact .inr (.inr h)
    · rcases h with h | h
      · exact .inl (.inl h)
      · exact (l.fre a h).imp .inr id
    · cases q : F' a with
      | none => rfl
      | some u =>
        rcases l.new a u q with q | q | q
        · rw [(st1.there ha).2] at q; cases q
        · exact absurd ha (o1 a q).2.1
        · exact absurd q (st1.thereN ha)
end Mw

set_option Elab.async false
set_option linter.all false
set_option maxRecDepth 100000
set_option autoImplicit false
namespace Mw
open PySem PySem.Spec PyProof.Rows L2
noncomputable section

/-! ## bounds; what the kernel is not to run -/
def hide {α : Type} (a : α) : α := Classical.choose (⟨a, rfl⟩ : ∃ x, x = a)
theorem hide_eq {α : Type} (a : α) : hide a = a := Classical.choose_spec (⟨a, rfl⟩ : ∃ x, x = a)
theorem hide_dec {p : Prop} [Decidable p] (h : hide (decide p) = true) : p := by rw [hide_eq] at h; exact of_decide_eq_true h
theorem dec_hide {p : Prop} [Decidable p] (h : p) : hide (decide p) = true := by rw [hide_eq]; exact decide_eq_true h
def lenOk (n : Nat) : Bool := hide (decide (n ≤ 16777216))
theorem lenOk_le {n : Nat} (h : lenOk n = true) : n ≤ 16777216 := hide_dec h
theorem lenOk_of {n : Nat} (h : n ≤ 1000000) : lenOk n = true := dec_hide (by omega)
def mulOk (i j : Int) : Bool := hide (decide ((-18446744073709551616 < i ∧ i < 18446744073709551616) ∨ (-18446744073709551616 < j ∧ j < 18446744073709551616)))
theorem mulOk_iff {i j : Int} (h : mulOk i j = true) : (-18446744073709551616 < i ∧ i < 18446744073709551616) ∨ (-18446744073709551616 < j ∧ j < 18446744073709551616) := hide_dec h
theorem mulOk_l {i j : Int} (h0 : -1000000000 ≤ i) (h : i ≤ 1000000000) : mulOk i j = true := dec_hide (by omega)
theorem mulOk_r {i j : Int} (h0 : -1000000000 ≤ j) (h : j ≤ 1000000000) : mulOk i j = true := dec_hide (by omega)
def repOk (n : Int) (l : Nat) : Bool := hide (decide (0 ≤ n ∧ n ≤ 1000 ∧ l ≤ 1000))
theorem repOk_iff {n : Int} {l : Nat} (h : repOk n l = true) : 0 ≤ n ∧ n ≤ 1000 ∧ l ≤ 1000 := hide_dec h
theorem repOk_of {n : Int} {l : Nat} (h0 : 0 ≤ n) (h : n ≤ 1000) (hl : l ≤ 1000) : repOk n l = true := dec_hide ⟨h0, h, hl⟩
def rgOk (j : Int) : Bool := hide (decide (-4611686018427387904 ≤ j ∧ j < 4611686018427387904))
theorem rgOk_iff {j : Int} (h : rgOk j = true) : -4611686018427387904 ≤ j ∧ j < 4611686018427387904 := hide_dec h
theorem rgOk_of {j : Int} (h0 : -1000000 ≤ j) (h : j ≤ 1000000) : rgOk j = true := dec_hide (by omega)
def powOk (i j : Int) : Bool := hide (decide (0 ≤ j ∧ j ≤ 1000 ∧ i.natAbs < 1000000))
theorem powOk_iff {i j : Int} (h : powOk i j = true) : 0 ≤ j ∧ j ≤ 1000 ∧ i.natAbs < 1000000 := hide_dec h
theorem powOk_of {i j : Int} (h0 : 0 ≤ j) (h : j ≤ 1000) (h1 : 0 ≤ i) (h2 : i < 1000000) : powOk i j = true := dec_hide ⟨h0, h, by omega⟩
def divOk (j : Int) : Bool := hide (decide (0 < j ∧ j < 1073741824))
theorem divOk_iff {j : Int} (h : divOk j = true) : 0 < j ∧ j < 1073741824 := hide_dec h
theorem divOk_of {j : Int} (h0 : 0 < j) (h : j < 1000000000) : divOk j = true := dec_hide (by omega)
def modOk (j : Int) : Bool := hide (decide (0 < j))
theorem modOk_iff {j : Int} (h : modOk j = true) : 0 < j := hide_dec h
theorem modOk_of {j : Int} (h0 : 0 < j) : modOk j = true := dec_hide h0
/-! ## plain readings of results -/
def undO : List O → Option (List D)
  | [] => some []
  | .d x :: r => (undO r).map (x :: ·)
  | _ :: _ => none
def O.plain : O → Option D
  | .d x => some x
  | .lst os => (undO os).map D.lst
  | _ => none
def R.pl : R → Option D
  | .d x => some x
  | .own o => o.plain
  | .pk o => o.plain
/-- the items of an owned plain list -/
def R.ol : R → Option (List D)
  | .own (.lst os) => undO os
  | .pk (.lst os) => undO os
  | _ => none
@[simp] theorem undO_map (ds : List D) : undO (ds.map O.d) = some ds := by
  induction ds with
  | nil => rfl
  | cons d ds ih => simp [undO, ih]
@[simp] theorem undO_nil : undO [] = some [] := rfl
@[simp] theorem undO_cons (x : D) (r : List O) : undO (.d x :: r) = (undO r).map (x :: ·) := rfl
@[simp] theorem undO_app (ds : List D) (r : List O) : undO (ds.map O.d ++ r) = (undO r).map (ds ++ ·) := by
  induction ds with
  | nil => simp [undO]
  | cons d ds ih => simp [undO, ih, Option.map_map, Function.comp_def]
theorem undO_eq {os : List O} {ds : List D} (h : undO os = some ds) : os = ds.map O.d := by
  induction os generalizing ds with
  | nil => cases h; rfl
  | cons o os ih =>
    cases o with
    | d x =>
      rw [undO_cons] at h
      cases e : undO os with
      | none => rw [e] at h; cases h
      | some es => rw [e] at h; cases h; rw [ih e]; rfl
    | lst xs => cases h
    | dct ks xs => cases h
    | obj c ns xs => cases h
@[simp] theorem R.pl_d (x : D) : (R.d x).pl = some x := rfl
@[simp] theorem R.pl_own (ds : List D) : (R.own (.lst (ds.map O.d))).pl = some (.lst ds) := by simp [R.pl, O.plain]
@[simp] theorem R.pl_pk (ds : List D) : (R.pk (.lst (ds.map O.d))).pl = some (.lst ds) := by simp [R.pl, O.plain]
@[simp] theorem R.ol_own (ds : List D) : (R.own (.lst (ds.map O.d))).ol = some ds := by simp [R.ol]
@[simp] theorem R.ol_pk (ds : List D) : (R.pk (.lst (ds.map O.d))).ol = some ds := by simp [R.ol]
@[simp] theorem R.isPk_d (x : D) : (R.d x).isPk = false := rfl
@[simp] theorem R.isPk_own (o : O) : (R.own o).isPk = false := rfl
@[simp] theorem R.isPk_pk (o : O) : (R.pk o).isPk = true := rfl

section
variable {g : Wd} {F H : Hp} {S : Addr → Prop} {v : V} {r : R} {fr : List Addr}
theorem RepR.ofOl (h : RepR g F H S v r fr) {ds : List D} (e : r.ol = some ds) : ∃ a vs, v = .ref a ∧ H a = some (.lst vs) ∧ vs.length ≤ sizeLine ∧ Reps g F vs ds := by
  have key : ∀ {o : O} {fp}, RepO g F H v o fp → ∀ os, o = .lst os → undO os = some ds → ∃ a vs, v = .ref a ∧ H a = some (.lst vs) ∧ vs.length ≤ sizeLine ∧ Reps g F vs ds := by
    intro o fp hr os e1 e2
    subst e1
    rw [undO_eq e2] at hr
    cases hr with
    | lst h1 hl r => exact ⟨_, _, rfl, h1, hl, r.toReps.1⟩
  cases r with
  | d x => cases e
  | own o =>
    cases o with
    | lst os => exact key h.1 os rfl e
    | d _ => cases e
    | dct _ _ => cases e
    | obj _ _ _ => cases e
  | pk o =>
    cases o with
    | lst os => obtain ⟨_, fp, hr⟩ := h; exact key hr os rfl e
    | d _ => cases e
    | dct _ _ => cases e
    | obj _ _ _ => cases e
theorem plain_lst {o : O} {x : D} (e : o.plain = some x) : o = .d x ∨ ∃ os ds, o = .lst os ∧ undO os = some ds ∧ x = .lst ds := by
  cases o with
  | d y => cases e; exact .inl rfl
  | lst os =>
    right
    have e : (undO os).map D.lst = some x := e
    cases q : undO os with
    | none => rw [q] at e; cases e
    | some ds => rw [q] at e; cases e; exact ⟨os, ds, rfl, q, rfl⟩
  | dct _ _ => cases e
  | obj _ _ _ => cases e
/-- data, or an owned plain list -/
theorem RepR.ofPl (h : RepR g F H S v r fr) {x : D} (e : r.pl = some x) : Rep g F v x ∨ ∃ a vs ds, x = .lst ds ∧ v = .ref a ∧ H a = some (.lst vs) ∧ vs.length ≤ sizeLine ∧ Reps g F vs ds := by
  cases r with
  | d y => cases e; exact .inl h.1
  | own o =>
    rcases plain_lst e with rfl | ⟨os, ds, rfl, q, rfl⟩
    · cases h.1; exact .inl (by assumption)
    · obtain ⟨a, vs, e1, e2, e3, e4⟩ := RepR.ofOl (r := .own (.lst os)) h q
      exact .inr ⟨a, vs, ds, rfl, e1, e2, e3, e4⟩
  | pk o =>
    rcases plain_lst e with rfl | ⟨os, ds, rfl, q, rfl⟩
    · obtain ⟨_, fp, hr⟩ := h; cases hr; exact .inl (by assumption)
    · obtain ⟨a, vs, e1, e2, e3, e4⟩ := RepR.ofOl (r := .pk (.lst os)) h q
      exact .inr ⟨a, vs, ds, rfl, e1, e2, e3, e4⟩
theorem RepR.int (h : RepR g F H S v r fr) {i : Int} (e : r.pl = some (.int i)) : v = .int i := by
  rcases h.ofPl e with h | ⟨_, _, _, z, _⟩
  · cases h; rfl
  · cases z
theorem RepR.bl (h : RepR g F H S v r fr) {i : Bool} (e : r.pl = some (.bl i)) : v = .bl i := by
  rcases h.ofPl e with h | ⟨_, _, _, z, _⟩
  · cases h; rfl
  · cases z
theorem RepR.non (h : RepR g F H S v r fr) (e : r.pl = some .non) : v = .non := by
  rcases h.ofPl e with h | ⟨_, _, _, z, _⟩
  · cases h; rfl
  · cases z
theorem RepR.str (h : RepR g F H S v r fr) {s : List Nat} (e : r.pl = some (.str s)) : v = .str ⟨s.toArray⟩ ∧ s.length ≤ sizeLine := by
  rcases h.ofPl e with h | ⟨_, _, _, z, _⟩
  · cases h with | str h1 => exact ⟨rfl, h1⟩
  · cases z
theorem RepR.tup (h : RepR g F H S v r fr) {ds : List D} (e : r.pl = some (.tup ds)) : ∃ a vs, v = .ref a ∧ SqT g.K F a vs ∧ vs.length ≤ sizeLine ∧ Reps g F vs ds := by
  rcases h.ofPl e with h | ⟨_, _, _, z, _⟩
  · cases h with | tup h1 hl r => exact ⟨_, _, rfl, .inl (.inl h1), hl, r⟩
  · cases z
theorem RepR.tupF (h : RepR g F H S v r fr) {ds : List D} (e : r.pl = some (.tup ds)) : ∃ a vs, v = .ref a ∧ F a = some (.tup vs) ∧ vs.length ≤ sizeLine ∧ Reps g F vs ds := by
  rcases h.ofPl e with h | ⟨_, _, _, z, _⟩
  · cases h with | tup h1 hl r => exact ⟨_, _, rfl, h1, hl, r⟩
  · cases z
theorem RepR.lst (h : RepR g F H S v r fr) (sub : Ext F H) {ds : List D} (e : r.pl = some (.lst ds)) : ∃ a vs, v = .ref a ∧ SqL g.K H a vs ∧ vs.length ≤ sizeLine ∧ Reps g F vs ds := by
  rcases h.ofPl e with h | ⟨a, vs, _, z, e1, e2, e3, e4⟩
  · cases h with | lst h1 hl r => exact ⟨_, _, rfl, sub.sqL h1, hl, r⟩
  · cases z; exact ⟨a, vs, e1, .inl (.inl e2), e3, e4⟩
/-- read in the whole heap -/
theorem RepR.whole (h : RepR g F H S v r fr) (sub : Ext F H) {x : D} (e : r.pl = some x) : Rep g H v x := by
  rcases h.ofPl e with h | ⟨a, vs, ds, rfl, rfl, e2, e3, e4⟩
  · exact h.mono sub
  · exact .lst (.inl (.inl e2)) e3 (e4.mono sub)
end
theorem RepRs.one {g : Wd} {F H : Hp} {S : Addr → Prop} {vs : List V} {r : R} {fr : List Addr} (h : RepRs g F H S vs [r] fr) : ∃ v, vs = [v] ∧ RepR g F H S v r fr := by
  cases h with
  | cons h t => cases t; exact ⟨_, rfl, by simpa using h⟩
theorem RepRs.two {g : Wd} {F H : Hp} {S : Addr → Prop} {vs : List V} {r q : R} {fr : List Addr} (h : RepRs g F H S vs [r, q] fr) : ∃ v w f1 f2, vs = [v, w] ∧ fr = f1 ++ f2 ∧ RepR g F H S v r f1 ∧ RepR g F H S w q f2 := by
  cases h with
  | cons h t =>
    obtain ⟨w, rfl, h2⟩ := t.one
    exact ⟨_, _, _, _, rfl, rfl, h, h2⟩

/-! ## leaves: what an operation on values gives -/
theorem LStep.refl {F H : Hp} {fr : List Addr} (s : Ext F H) : LStep F H fr F H [] := ⟨.refl F, .refl H, s, fun _ _ h => .inl h, fun _ h => nomatch h⟩
/-- the value is plain data that stands already -/
theorem leaf_d {g : Wd} {F H : Hp} {S : Addr → Prop} {fr : List Addr} {d : D} {Q : VK} (s : Ext F H) (k : ∀ v F' H' fr', LStep F H fr F' H' fr' → RepR g F' H' S v (.d d) fr' → fr'.Nodup → Q v H') {v : V} (h : Rep g F v d) : Q v H :=
  k v F H [] (.refl s) ⟨h, rfl⟩ List.nodup_nil
theorem ext_upd {H : Hp} {p : Addr} {o : HO} (h : H p = none) : Ext H (upd H p o) := fun a u e => by
  rw [upd_ne (ne_of_none e h)]; exact e
theorem ext_upd2 {F H : Hp} {p : Addr} {o : HO} (s : Ext F H) : Ext F H → Ext (upd F p o) (upd H p o) := fun _ a u e => by
  unfold upd at e ⊢
  split at e
  · next z => rw [if_pos z]; exact e
  · next z => rw [if_neg z]; exact s a u e
theorem fnone {F H : Hp} {p : Addr} (s : Ext F H) (h : H p = none) : F p = none := by
  cases e : F p with
  | none => rfl
  | some o => rw [s p o e] at h; cases h
/-- a new tuple of data -/
theorem leaf_tup {g : Wd} {F H : Hp} {S : Addr → Prop} {fr : List Addr} {ds : List D} {Q : VK} (s : Ext F H) (k : ∀ v F' H' fr', LStep F H fr F' H' fr' → RepR g F' H' S v (.d (.tup ds)) fr' → fr'.Nodup → Q v H')
    {vs : List V} (h : Reps g F vs ds) (hl : vs.length ≤ sizeLine) {p : Addr} (hp : H p = none) : Q (.ref p) (upd H p (.tup vs)) := by
  have fp := fnone s hp
  refine k (.ref p) (upd F p (.tup vs)) (upd H p (.tup vs)) [] ⟨ext_upd fp, ext_upd hp, ext_upd2 s s, fun a o e => ?_, fun _ h => nomatch h⟩ ⟨.tup upd_same hl (h.mono (ext_upd fp)), rfl⟩ List.nodup_nil
  by_cases z : a = p
  · subst z; exact .inr (.inr (.inl hp))
  · rw [upd_ne z] at e; exact .inl e
/-- a new list of data -/
theorem leaf_lst {g : Wd} {F H : Hp} {S : Addr → Prop} {fr : List Addr} {ds : List D} {Q : VK} (s : Ext F H) (hS : ∀ a, S a → H a ≠ none ∧ F a = none) (k : ∀ v F' H' fr', LStep F H fr F' H' fr' → RepR g F' H' S v (.own (O.l ds)) fr' → fr'.Nodup → Q v H')
    {vs : List V} (h : Reps g F vs ds) (hl : vs.length ≤ sizeLine) {p : Addr} (hp : H p = none) : Q (.ref p) (upd H p (.lst vs)) := by
  have fp := fnone s hp
  refine k (.ref p) F (upd H p (.lst vs)) [p] ⟨.refl F, ext_upd hp, s.trans (ext_upd hp), fun a o e => .inl e, fun a h => ?_⟩ ⟨.lst upd_same hl (.ofReps h), fun a h => ?_⟩ (by simp)
  · rw [List.mem_singleton] at h; subst h; exact .inr hp
  · rw [List.mem_singleton] at h; subst h; exact ⟨fp, fun z => (hS a z).1 hp⟩
/-- what is handed over is frozen -/
theorem freezeF (F H : Hp) (fr : List Addr) : ∃ F', F' = (fun a => if a ∈ fr then H a else F a) := ⟨_, rfl⟩
def frz (F H : Hp) (fr : List Addr) : Hp := fun a => if a ∈ fr then H a else F a
theorem frz_ext {F H : Hp} {fr : List Addr} (s : Ext F H) : Ext F (frz F H fr) := fun a o e => by
  unfold frz; split
  · exact s a o e
  · exact e
theorem frz_sub {F H : Hp} {fr : List Addr} (s : Ext F H) : Ext (frz F H fr) H := fun a o e => by
  unfold frz at e; split at e
  · exact e
  · exact s a o e
theorem frz_mem {F H : Hp} {fr : List Addr} {a : Addr} (h : a ∈ fr) : frz F H fr a = H a := if_pos h
theorem frz_new {F H : Hp} {fr : List Addr} {a : Addr} {o : HO} (e : frz F H fr a = some o) : F a = some o ∨ a ∈ fr := by
  unfold frz at e; split at e
  · exact .inr (by assumption)
  · exact .inl e
/-- a result that is stored: data -/
def R.st : R → Option D
  | .d x => some x
  | .own o => if o.fz = true then some o.toD else none
  | .pk (.d x) => some x
  | .pk _ => none
@[simp] theorem R.st_d (x : D) : (R.d x).st = some x := rfl
@[simp] theorem R.st_own (ds : List D) : (R.own (.lst (ds.map O.d))).st = some (.lst ds) := by
  show (if (O.lst (ds.map O.d)).fz = true then some (O.lst (ds.map O.d)).toD else none) = _
  rw [show (O.lst (ds.map O.d)).fz = true from fzs_d ds, if_pos rfl, show (O.lst (ds.map O.d)).toD = .lst (toDs (ds.map O.d)) from rfl, toDs_d]
def sts : List R → Option (List D)
  | [] => some []
  | r :: rs => match r.st, sts rs with
    | some x, some xs => some (x :: xs)
    | _, _ => none
theorem RepR.st {g : Wd} {F H F' : Hp} {S : Addr → Prop} {v : V} {r : R} {fr : List Addr} (h : RepR g F H S v r fr) {x : D} (e : r.st = some x) (ex : Ext F F') (k : ∀ a ∈ fr, F' a = H a) : Rep g F' v x := by
  cases r with
  | d y => cases e; exact h.1.mono ex
  | own o =>
    unfold R.st at e
    dsimp only at e
    split at e
    · next z => cases e; exact h.1.freeze ex z fun a ha u q => (k a ha).trans q
    · cases e
  | pk o =>
    cases o with
    | d y =>
      cases e
      obtain ⟨_, fp, hr⟩ := h
      cases hr with
      | d r => exact r.mono ex
    | lst _ => cases e
    | dct _ _ => cases e
    | obj _ _ _ => cases e
theorem RepRs.sts {g : Wd} {F H F' : Hp} {S : Addr → Prop} {vs : List V} {rs : List R} {fr : List Addr} (h : RepRs g F H S vs rs fr) {xs : List D} (e : sts rs = some xs) (ex : Ext F F') (k : ∀ a ∈ fr, F' a = H a) : Reps g F' vs xs := by
  induction h generalizing xs with
  | nil => cases e; exact .nil
  | @cons v vs r rs f fr h t ih =>
    unfold Mw.sts at e
    split at e
    · next x' xs' e1 e2 =>
      cases e
      exact .cons (h.st e1 ex fun a ha => k a (by simp [ha])) (ih e2 fun a ha => k a (by simp [ha]))
    · cases e
theorem lstep_frz {F H : Hp} {fr : List Addr} (s : Ext F H) : LStep F H fr (frz F H fr) H [] :=
  ⟨frz_ext s, .refl H, frz_sub s, fun a o e => (frz_new e).imp id .inl, fun _ h => nomatch h⟩
theorem LStep.thn {F H F1 H1 F2 H2 : Hp} {fr f2 : List Addr} (a : LStep F H fr F1 H1 []) (b : LStep F1 H1 [] F2 H2 f2) : LStep F H fr F2 H2 f2 :=
  ⟨a.ext.trans b.ext, a.exh.trans b.exh, b.sub, fun x o e => by
    rcases b.new x o e with e | e | e
    · exact a.new x o e
    · cases e
    · cases q : H x with
      | none => exact .inr (.inr (.inl q))
      | some u =>
        have q1 := a.exh x u q
        rcases e with e | ⟨xs, e⟩
        · rw [e] at q1; cases q1
        · rw [e] at q1; cases q1; exact .inr (.inr (.inr ⟨xs, q⟩)), fun x h => by
    rcases b.fre x h with h | h
    · cases h
    · cases q : H x with
      | none => exact .inr rfl
      | some u => exact absurd (a.exh x u q) (by rw [h]; simp)⟩

/-! ## judgements -/
abbrev gOf (X : Cx) : Wd := ⟨X.K, X.mg⟩
abbrev SE (X : Cx) (W : WX) (e : Expr) (m : M) : Prop := PE X e (tM (gOf X) W m)
abbrev SA (X : Cx) (W : WX) (es : List Expr) (ms : List M) : Prop := PA X es (tA (gOf X) W ms)
theorem PE.wk {X : Cx} {e : Expr} {t t' : TE} (h : PE X e t) (i : ∀ σ H Q, t' σ H Q → t σ H Q) : PE X e t' := ⟨fun pins s σ H Q I q => h.run pins s σ H Q I (i σ H Q q)⟩
theorem PA.wk {X : Cx} {e : List Expr} {t t' : TA} (h : PA X e t) (i : ∀ σ H Q, t' σ H Q → t σ H Q) : PA X e t' := ⟨fun po pins s σ H Q I q => h.run po pins s σ H Q I (i σ H Q q)⟩
theorem PT.wk {X : Cx} {e : Expr} {t t' : TT} (h : PT X e t) (i : ∀ σ H Q, t' σ H Q → t σ H Q) : PT X e t' := ⟨fun pins s σ H Q I q => h.run pins s σ H Q I (i σ H Q q)⟩
theorem PW.wk {X : Cx} {e : Expr} {t t' : TT} (h : PW X e t) (i : ∀ σ H Q, t' σ H Q → t σ H Q) : PW X e t' := ⟨fun wh pins s σ H Q I q => h.run wh pins s σ H Q I (i σ H Q q)⟩
theorem PS.wk {X : Cx} {e : Stmt} {t t' : TS} (h : PS X e t) (i : ∀ D σ H, t' D σ H → t D σ H) : PS X e t' := ⟨fun pins s σ H D I q => h.run pins s σ H D I (i D σ H q)⟩
theorem PSs.wk {X : Cx} {e : List Stmt} {t t' : TS} (h : PSs X e t) (i : ∀ D σ H, t' D σ H → t D σ H) : PSs X e t' := ⟨fun pins s σ H D I q => h.run pins s σ H D I (i D σ H q)⟩

section
variable {X : Cx} {W : WX} {pos : Pos} {a b c : Expr} {es : List Expr} {ma mb mc : M} {ms : List M}
theorem a_nil : SA X W [] [] := PA.wk pa_nil fun σ H Q h => tA_nil h
theorem a_cons (ha : SE X W a ma) (hr : SA X W es ms) (hs : starEach (a :: es) X.env = (false, eval a X.env) :: starEach es X.env := by rfl) : SA X W (a :: es) (ma :: ms) := PA.wk (pa_cons ha hr hs) fun σ H Q h => tA_cons h

/-! ### names, constants -/
def nm (i : Nat) : M := fun ρ => match ρ[i]? with
  | some (.shr d) => .ok (.d d) ρ true
  | some (.mu _ o) => .ok (.pk o) ρ true
  | _ => .no
theorem tR.ret {α β : Type} {g : Wd} {W : WX} {RR : VRel α β} {m : Ro → Res α} {σ : L2.St} {H : Hp} {Q : β → Hp → Prop} (h : tR g W RR m σ H Q)
    (i : ∀ F ρ fp, Stt g F H σ ρ fp → Ob g W σ F H (Own fp) (Zq H ρ) RR (m ρ) Q → ∃ v r, m ρ = .ok r ρ true ∧ RR F H (Own fp) v r []) : ∃ v, ∃ F ρ fp r, Stt g F H σ ρ fp ∧ m ρ = .ok r ρ true ∧ RR F H (Own fp) v r [] ∧ Q v H := by
  obtain ⟨F, ρ, fp, st, ob⟩ := h
  obtain ⟨v, r, e, rr⟩ := i F ρ fp st ob
  exact ⟨v, F, ρ, fp, r, st, e, rr, ob.2.1 r ρ true e v F H fp [] ⟨.refl F, fun _ _ _ h => h, fun _ _ h => .inl h, fun x h => .inl (h.elim id fun z => nomatch z)⟩ st rr List.nodup_nil ⟨.refl ρ, fun _ => ⟨.refl H, rfl⟩⟩⟩
theorem tM_nm {g : Wd} {i : Nat} {σ : L2.St} {H : Hp} {Q : VK} (h : tM g W (nm i) σ H Q) : tVar i σ H Q := by
  obtain ⟨F, ρ, fp, st, ob⟩ := h
  have fin : ∀ {v : V} {r : R}, σ[i]? = some (some v) → nm i ρ = .ok r ρ true → RepR g F H (Own fp) v r [] → tVar i σ H Q := fun {v r} e1 e2 rr =>
    ⟨v, e1, ob.2.1 r ρ true e2 v F H fp [] ⟨.refl F, fun _ _ _ h => h, fun _ _ h => .inl h, fun x h => .inl (h.elim id fun z => nomatch z)⟩ st rr List.nodup_nil ⟨.refl ρ, fun _ => ⟨.refl H, rfl⟩⟩⟩
  cases e : ρ[i]? with
  | none => exact absurd (by unfold nm; rw [e]) ob.1
  | some x =>
    cases x with
    | un => exact absurd (by unfold nm; rw [e]) ob.1
    | shr d =>
      obtain ⟨v, e1, r⟩ := st.shr i d e
      exact fin (r := .d d) e1 (by unfold nm; rw [e]) ⟨r, rfl⟩
    | mu b o =>
      obtain ⟨v, e1, r⟩ := st.mu i b o e
      exact fin (r := .pk o) e1 (by unfold nm; rw [e]) ⟨rfl, _, r⟩
theorem s_nm {i : Nat} {x : Str} (hN : X.N[i]? = some x) (hv : Vis X.env.scope x) (hd : (x == ("__debug__" : Str)) = false := by decide) (hcd : (x == ("__classdict__" : Str)) = false := by decide) : SE X W (.Name x pos) (nm i) :=
  PE.wk (pe_var hN hv hd hcd) fun σ H Q h => tM_nm h
def mC (d : D) : M := fun ρ => .ok (.d d) ρ true
theorem tM_C {g : Wd} {d : D} {v : V} {σ : L2.St} {H : Hp} {Q : VK} (h : tM g W (mC d) σ H Q) (r : ∀ F, Rep g F v d) : tC v σ H Q := by
  obtain ⟨F, ρ, fp, st, ob⟩ := h
  exact ob.2.1 (.d d) ρ true rfl v F H fp [] ⟨.refl F, fun _ _ _ h => h, fun _ _ h => .inl h, fun x h => .inl (h.elim id fun z => nomatch z)⟩ st ⟨r F, rfl⟩ List.nodup_nil ⟨.refl ρ, fun _ => ⟨.refl H, rfl⟩⟩
theorem s_int {i : Int} {j : Nat} : SE X W (.Constant (.int i) j pos) (mC (.int i)) := PE.wk pe_int fun σ H Q h => tM_C h fun F => .int i
theorem s_bl {i : Bool} {j : Nat} : SE X W (.Constant (.bool i) j pos) (mC (.bl i)) := PE.wk pe_bl fun σ H Q h => tM_C h fun F => .bl i
theorem s_non {j : Nat} : SE X W (.Constant .none j pos) (mC .non) := PE.wk pe_non fun σ H Q h => tM_C h fun F => .non
theorem rep_str {g : Wd} {F : Hp} {x : Str} {s : List Nat} (e : x.cps.toList = s) (hl : s.length ≤ sizeLine) : Rep g F (.str x) (.str s) := by
  subst e
  obtain ⟨c⟩ := x
  have := Rep.str (g := g) (F := F) (s := c.toList) hl
  simpa using this
theorem s_str {x : Str} {s : List Nat} {j : Nat} (e : x.cps.toList = s := by rfl) (hl : s.length ≤ sizeLine := by decide) : SE X W (.Constant (.str x) j pos) (mC (.str s)) := PE.wk pe_str fun σ H Q h => tM_C h fun F => rep_str e hl
theorem s_glob {x : Str} {v : V} {u : Value} {d : D} (hg : Gl X x) (hm : X.mg x = some u) (r : RelV v u) (hr : ∀ F, Rep (gOf X) F v d) (hd : (x == ("__debug__" : Str)) = false := by decide) : SE X W (.Name x pos) (mC d) :=
  PE.wk (pe_glob hg hm r hd) fun σ H Q h => tM_C h hr
end
end
end Mw

set_option Elab.async false
set_option linter.all false
set_option maxRecDepth 100000
set_option autoImplicit false
namespace Mw
open PySem PySem.Spec PyProof.Rows L2
noncomputable section

/-! ### list + list, whatever holds them -/
theorem ladd (l : Addr) (items : Array Value) (n : Nat) (sl1 : Array (Option Value)) (b : Addr) (items2 : Array Value) (n2 : Nat) (sl2 : Array (Option Value)) (hc0 : items.size + items2.size ≤ sizeLine) :
    Meets (Builtin.«list.__add__» ⟨[.ref l, .ref b], []⟩) (fun _ R s => s.heap.get? l = some { cls := .type "list", dict := none, data := .seq items n, slots := sl1 } ∧ s.heap.get? b = some { cls := .type "list", dict := none, data := .seq items2 n2, slots := sl2 } ∧ R (.ok (.ret (Value.ref s.heap.objs.size))) { s with heap := s.heap.push { cls := Value.type "list", data := Data.seq (items ++ items2) }, toks := s.toks }) :=
  .of_wp fun prog w A R s h => by obtain ⟨hp, g, d, tk, os⟩ := s; obtain ⟨hl, hb, h⟩ := h; have f1 := AutoSeq1.idx_int; have f2 := AutoSeq1.sub_tuple_tuple; have f3 := AutoSeq1.sub_list_list; have f4 := AutoSeq1.sub_tuple_list; have f5 := AutoSeq1.sub_list_tuple; wp_walk using AutoSeq1.wpAny_loadPart' hl, AutoSeq1.wpAny_loadPart' hb; exact ⟨_, rfl, h⟩
section
variable {X : Cx}
def rCatL (K : PySem.W.Frag) : R2 := fun x y H Q => ∃ l b xs zs, x = .ref l ∧ y = .ref b ∧ SqL K H l xs ∧ SqL K H b zs ∧ xs.length + zs.length ≤ sizeLine ∧ ∀ p, H p = none → Q (.ref p) (upd H p (.lst (xs ++ zs)))
theorem op_catL : OpR X (binaryOp .Add) (rCatL X.K) := by
  intro pins s σ H x y v u Q I rx ry h
  obtain ⟨l, b, xs, zs, rfl, rfl, hH, hB, hz, q⟩ := h
  cases rx
  cases ry
  obtain ⟨its, r, ⟨⟨cls, dd, data, sl⟩, n, ho, hc, hdn, hd⟩, hlen⟩ := I.list hH
  obtain ⟨its2, r2, ⟨⟨cls2, dd2, data2, sl2⟩, n2, ho2, hc2, hdn2, hd2⟩, hlen2⟩ := I.list hB
  simp only at hc hd hdn hc2 hd2 hdn2
  subst hc hd hdn hc2 hd2 hdn2
  have e1 := r.length
  have e2 := r2.length
  refine concat_meets ⟨_, ho, rfl⟩ ⟨_, ho2, rfl⟩ noFill_list_add seq_list_add F.slot_list_add F.entry_list_add (F.args_list_add_2 _ _) (ladd l its.toArray n _ b its2.toArray n2 _ (by rw [List.size_toArray, List.size_toArray]; omega)) ⟨ho, ho2, ?_⟩
  have ea : its.toArray ++ its2.toArray = (its ++ its2).toArray := by simp
  rw [ea]
  exact ⟨.ref _, _, I.lnew (t' := s.toks) (r.append r2) (by rw [List.length_append]; omega), rfl, q _ I.fresh⟩
end
section
variable {X : Cx} {W : WX} {pos : Pos} {a b c : Expr} {es : List Expr} {ma mb mc : M} {ms : List M}

/-! ### operators -/
abbrev leaf1 (f : R → Option R) : List R → Option R
  | [x] => f x
  | _ => none
abbrev leaf2 (f : R → R → Option R) : List R → Option R
  | [x, y] => f x y
  | _ => none
/-- what a rule about two values is asked -/
structure LF (g : Wd) (leaf : Option R) (F H : Hp) (S : Addr → Prop) (fr : List Addr) (Q : VK) : Prop where
  sub : Ext F H
  hS : ∀ a, S a → H a ≠ none ∧ F a = none
  nd : fr.Nodup
  go : ∃ rr, leaf = some rr ∧ ∀ v F' H' fr', LStep F H fr F' H' fr' → RepR g F' H' S v rr fr' → fr'.Nodup → Q v H'
theorem LF.val {g : Wd} {leaf : Option R} {F H : Hp} {S : Addr → Prop} {fr : List Addr} {Q : VK} (l : LF g leaf F H S fr Q) {d : D} (e : leaf = some (.d d)) {v : V} (h : Rep g F v d) : Q v H := by
  obtain ⟨rr, e', k⟩ := l.go
  rw [e] at e'; cases e'
  exact leaf_d l.sub k h
theorem LF.tup {g : Wd} {leaf : Option R} {F H : Hp} {S : Addr → Prop} {fr : List Addr} {Q : VK} (l : LF g leaf F H S fr Q) {ds : List D} (e : leaf = some (.d (.tup ds))) {vs : List V} (h : Reps g F vs ds) (hl : vs.length ≤ sizeLine) {p : Addr} (hp : H p = none) : Q (.ref p) (upd H p (.tup vs)) := by
  obtain ⟨rr, e', k⟩ := l.go
  rw [e] at e'; cases e'
  exact leaf_tup l.sub k h hl hp
theorem LF.lst {g : Wd} {leaf : Option R} {F H : Hp} {S : Addr → Prop} {fr : List Addr} {Q : VK} (l : LF g leaf F H S fr Q) {ds : List D} (e : leaf = some (.own (.lst (ds.map O.d)))) {vs : List V} (h : Reps g F vs ds) (hl : vs.length ≤ sizeLine) {p : Addr} (hp : H p = none) : Q (.ref p) (upd H p (.lst vs)) := by
  obtain ⟨rr, e', k⟩ := l.go
  rw [e] at e'; cases e'
  exact leaf_lst l.sub l.hS k h hl hp
theorem LF.has {g : Wd} {leaf : Option R} {F H : Hp} {S : Addr → Prop} {fr : List Addr} {Q : VK} (l : LF g leaf F H S fr Q) : ∃ r, leaf = some r := l.go.imp fun _ h => h.1
/-- a rule by its leaf -/
def LOk1 (g : Wd) (f : R → Option R) (r : V → Hp → VK → Prop) : Prop := ∀ F H S x p fr Q, RepR g F H S x p fr → LF g (f p) F H S fr Q → r x H Q
def LOk2 (g : Wd) (f : R → R → Option R) (r : R2) : Prop := ∀ F H S x y p q f1 f2 Q, RepR g F H S x p f1 → RepR g F H S y q f2 → LF g (f p q) F H S (f1 ++ f2) Q → r x y H Q
theorem LOk2.at {g : Wd} {f : R → R → Option R} {r : R2} (h : LOk2 g f r) {vs : List V} {H : Hp} {Q : VK} (l : LeafG g (leaf2 f) vs H Q) : ∃ x y, vs = [x, y] ∧ r x y H Q := by
  obtain ⟨F, S, rs, fr, rr, sub, hS, rp, nd, e, k⟩ := l
  match rs, e, rp with
  | [p, q], e, rp =>
    obtain ⟨v, w, f1, f2, rfl, rfl, h1, h2⟩ := rp.two
    exact ⟨v, w, rfl, h F H S v w p q f1 f2 Q h1 h2 ⟨sub, hS, nd, rr, e, k⟩⟩
theorem LOk1.at {g : Wd} {f : R → Option R} {r : V → Hp → VK → Prop} (h : LOk1 g f r) {vs : List V} {H : Hp} {Q : VK} (l : LeafG g (leaf1 f) vs H Q) : ∃ x, vs = [x] ∧ r x H Q := by
  obtain ⟨F, S, rs, fr, rr, sub, hS, rp, nd, e, k⟩ := l
  match rs, e, rp with
  | [p], e, rp =>
    obtain ⟨v, rfl, h1⟩ := rp.one
    exact ⟨v, rfl, h F H S v p fr Q h1 ⟨sub, hS, nd, rr, e, k⟩⟩
def m1 (f : R → Option R) (ma : M) : M := mOps [ma] (leaf1 f)
def m2 (f : R → R → Option R) (ma mb : M) : M := mOps [ma, mb] (leaf2 f)
theorem tM_m1 {g : Wd} {f : R → Option R} {r : V → Hp → VK → Prop} (h : LOk1 g f r) {σ : L2.St} {H : Hp} {Q : VK} (t : tM g W (m1 f ma) σ H Q) : tM g W ma σ H fun x H1 => r x H1 Q := by
  refine (tA_cons (tM_ops t)).imp fun x H1 q => ?_
  obtain ⟨y, e, q⟩ := h.at (tA_nil q)
  cases e; exact q
theorem tM_m2 {g : Wd} {f : R → R → Option R} {r : R2} (h : LOk2 g f r) {σ : L2.St} {H : Hp} {Q : VK} (t : tM g W (m2 f ma mb) σ H Q) : tOp r (tM g W ma) (tM g W mb) σ H Q := by
  refine (tA_cons (tM_ops t)).imp fun x H1 q => (tA_cons q).imp fun y H2 q => ?_
  obtain ⟨x', y', e, q⟩ := h.at (tA_nil q)
  cases e; exact q
/-- a op b -/
theorem s_bin {op : Operator} {f : R → R → Option R} {r : R2} (ho : OpR X (binaryOp op) r) (hl : LOk2 (gOf X) f r) (ha : SE X W a ma) (hb : SE X W b mb) : SE X W (.BinOp a op b pos) (m2 f ma mb) :=
  PE.wk (pe_op ho ha hb) fun σ H Q h => tM_m2 hl h
theorem s_un {op : UnaryOp} {f : R → Option R} {r : V → Hp → VK → Prop} (ho : UnR X (unaryOp op) r) (hl : LOk1 (gOf X) f r) (ha : SE X W a ma) : SE X W (.UnaryOp op a pos) (m1 f ma) :=
  PE.wk (pe_un ho ha) fun σ H Q h => tM_m1 hl h
theorem s_cmp {op : CmpOp} {f : R → R → Option R} {r : R2} (ho : OpR X (compareOp op) r) (hl : LOk2 (gOf X) f r) (ha : SE X W a ma) (hb : SE X W b mb) (hm : behindInMarks op b = false) : SE X W (.Compare a [op] [b] pos) (m2 f ma mb) :=
  PE.wk (pe_cmpR ho ha hb hm) fun σ H Q h => tM_m2 hl h
theorem s_ix {f : R → R → Option R} {r : R2} (ho : IxR X r) (hl : LOk2 (gOf X) f r) (ha : SE X W a ma) (hb : SE X W b mb) (hs : PlainIx b) : SE X W (.Subscript a b pos) (m2 f ma mb) :=
  PE.wk (pe_ix ho ha hb hs) fun σ H Q h => tM_m2 hl h
theorem LOk2.or {g : Wd} {f : R → R → Option R} {r r' : R2} (h : ∀ F H S x y p q f1 f2 Q, RepR g F H S x p f1 → RepR g F H S y q f2 → LF g (f p q) F H S (f1 ++ f2) Q → r x y H Q ∨ r' x y H Q) : LOk2 g f (fun x y H Q => r x y H Q ∨ r' x y H Q) := h

/-! + -/
def lAdd (p q : R) : Option R := match p.pl, q.pl with
  | some (.int i), some (.int j) => some (.d (.int (i + j)))
  | some (.str s), some (.str t) => if lenOk (s.length + t.length) = true then some (.d (.str (s ++ t))) else none
  | some (.tup s), some (.tup t) => if lenOk (s.length + t.length) = true then some (.d (.tup (s ++ t))) else none
  | some (.lst s), some (.lst t) => if lenOk (s.length + t.length) = true then some (.own (.lst ((s ++ t).map O.d))) else none
  | _, _ => none
theorem str_app {s t : List Nat} : (⟨s.toArray⟩ : Str) ++ ⟨t.toArray⟩ = ⟨(s ++ t).toArray⟩ := by
  show (⟨s.toArray ++ t.toArray⟩ : Str) = _
  simp
theorem str_len {s : List Nat} : (⟨s.toArray⟩ : Str).length = s.length := by
  show s.toArray.size = _
  simp
theorem op_addA : OpR X (binaryOp .Add) (fun x y H Q => (rI0 fun i j => .int (i + j)) x y H Q ∨ ((fun x y H Q => ∃ i j, x = .str i ∧ y = .str j ∧ i.length + j.length ≤ sizeLine ∧ Q (.str (i ++ j)) H) x y H Q ∨ (rCatA X.K x y H Q ∨ rCatL X.K x y H Q))) :=
  op_add.or (op_add_str.or (op_catA.or op_catL))
theorem l_add : LOk2 (gOf X) lAdd (fun x y H Q => (rI0 fun i j => .int (i + j)) x y H Q ∨ ((fun x y H Q => ∃ i j, x = .str i ∧ y = .str j ∧ i.length + j.length ≤ sizeLine ∧ Q (.str (i ++ j)) H) x y H Q ∨ (rCatA X.K x y H Q ∨ rCatL X.K x y H Q))) := by
  intro F H S x y p q f1 f2 Q rx ry l
  obtain ⟨rr, e⟩ := l.has
  have e0 := e
  unfold lAdd at e
  split at e
  · next i j e1 e2 =>
    cases e
    exact .inl ⟨i, j, rx.int e1, ry.int e2, l.val e0 (.int _)⟩
  · next s t e1 e2 =>
    split at e
    · next hl =>
      have hl := lenOk_le hl
      cases e
      obtain ⟨rfl, h1⟩ := rx.str e1
      obtain ⟨rfl, h2⟩ := ry.str e2
      rw [← sizeLine_eq] at hl
      refine .inr (.inl ⟨_, _, rfl, rfl, by rw [str_len, str_len]; exact hl, ?_⟩)
      rw [str_app]
      exact l.val e0 (.str (by rw [List.length_append]; exact hl))
    · cases e
  · next s t e1 e2 =>
    split at e
    · next hl =>
      have hl := lenOk_le hl
      cases e
      obtain ⟨a1, vs, rfl, k1, n1, r1⟩ := rx.tupF e1
      obtain ⟨a2, ws, rfl, k2, n2, r2⟩ := ry.tupF e2
      rw [← sizeLine_eq] at hl
      have hl' : vs.length + ws.length ≤ sizeLine := by rw [r1.length, r2.length]; exact hl
      refine .inr (.inr (.inl ⟨a1, a2, vs, ws, rfl, rfl, l.sub.sqT (.inl (.inl k1)), l.sub.sqT (.inl (.inl k2)), hl', fun z => ?_, fun _ z => ?_, fun _ _ p hp => ?_⟩))
      · subst z
        have z : s = [] := List.eq_nil_of_length_eq_zero r1.length.symm
        subst z
        exact l.val e0 (.tup k2 n2 (by simpa using r2))
      · subst z
        have z : t = [] := List.eq_nil_of_length_eq_zero r2.length.symm
        subst z
        exact l.val e0 (.tup k1 n1 (by simpa using r1))
      · exact l.tup e0 (r1.app r2) (by rw [List.length_append]; exact hl') hp
    · cases e
  · next s t e1 e2 =>
    split at e
    · next hl =>
      have hl := lenOk_le hl
      cases e
      obtain ⟨a1, vs, rfl, k1, n1, r1⟩ := rx.lst l.sub e1
      obtain ⟨a2, ws, rfl, k2, n2, r2⟩ := ry.lst l.sub e2
      rw [← sizeLine_eq] at hl
      have hl' : vs.length + ws.length ≤ sizeLine := by rw [r1.length, r2.length]; exact hl
      exact .inr (.inr (.inr ⟨a1, a2, vs, ws, rfl, rfl, k1, k2, hl', fun p hp => l.lst e0 (r1.app r2) (by rw [List.length_append]; exact hl') hp⟩))
    · cases e
  · cases e
theorem s_add (ha : SE X W a ma) (hb : SE X W b mb) : SE X W (.BinOp a .Add b pos) (m2 lAdd ma mb) := s_bin op_addA l_add ha hb
/-! ints -/
def lI (f : Int → Int → Option D) (p q : R) : Option R := match p.pl, q.pl with
  | some (.int i), some (.int j) => (f i j).map R.d
  | _, _ => none
theorem lI_some {f : Int → Int → Option D} {p q : R} {rr : R} (e : lI f p q = some rr) : ∃ i j d, p.pl = some (.int i) ∧ q.pl = some (.int j) ∧ f i j = some d ∧ rr = .d d := by
  unfold lI at e
  split at e
  · next i j e1 e2 =>
    cases q' : f i j with
    | none => rw [q'] at e; cases e
    | some d => rw [q'] at e; cases e; exact ⟨i, j, d, e1, e2, q', rfl⟩
  · cases e
theorem l_I {f : Int → Int → Option D} {C : Int → Int → Prop} {h : Int → Int → V} (k : ∀ i j d, f i j = some d → C i j ∧ ∀ F, Rep (gOf X) F (h i j) d) : LOk2 (gOf X) (lI f) (rI C h) := by
  intro F H S x y p q f1 f2 Q rx ry l
  obtain ⟨rr, e⟩ := l.has
  obtain ⟨i, j, d, e1, e2, e3, rfl⟩ := lI_some e
  exact ⟨i, j, rx.int e1, ry.int e2, (k i j d e3).1, l.val e ((k i j d e3).2 F)⟩
theorem l_I0 {f : Int → Int → Option D} {h : Int → Int → V} (k : ∀ i j d, f i j = some d → ∀ F, Rep (gOf X) F (h i j) d) : LOk2 (gOf X) (lI f) (rI0 h) := by
  intro F H S x y p q f1 f2 Q rx ry l
  obtain ⟨rr, e⟩ := l.has
  obtain ⟨i, j, d, e1, e2, e3, rfl⟩ := lI_some e
  exact ⟨i, j, rx.int e1, ry.int e2, l.val e (k i j d e3 F)⟩
abbrev lSub := lI fun i j => some (.int (i - j))
abbrev lMod := lI fun i j => if modOk j = true then some (.int (i % j)) else none
abbrev lDiv := lI fun i j => if divOk j = true then some (.int (i / j)) else none
abbrev lPow := lI fun i j => if powOk i j = true then some (.int (i ^ j.toNat)) else none
abbrev lLt := lI fun i j => some (.bl (decide (i < j)))
abbrev lLe := lI fun i j => some (.bl (decide (i ≤ j)))
abbrev lGt := lI fun i j => some (.bl (decide (j < i)))
abbrev lGe := lI fun i j => some (.bl (decide (j ≤ i)))
theorem s_sub (ha : SE X W a ma) (hb : SE X W b mb) : SE X W (.BinOp a .Sub b pos) (m2 lSub ma mb) := s_bin op_sub (l_I0 fun i j d e F => by cases e; exact .int _) ha hb
theorem s_mod (ha : SE X W a ma) (hb : SE X W b mb) : SE X W (.BinOp a .Mod b pos) (m2 lMod ma mb) := s_bin op_mod (l_I fun i j d e => by
  split at e
  · cases e; exact ⟨modOk_iff (by assumption), fun F => .int _⟩
  · cases e) ha hb
theorem s_div (ha : SE X W a ma) (hb : SE X W b mb) : SE X W (.BinOp a .FloorDiv b pos) (m2 lDiv ma mb) := s_bin op_fdiv (l_I fun i j d e => by
  split at e
  · cases e; exact ⟨divOk_iff (by assumption), fun F => .int _⟩
  · cases e) ha hb
theorem s_pow (ha : SE X W a ma) (hb : SE X W b mb) : SE X W (.BinOp a .Pow b pos) (m2 lPow ma mb) := s_bin op_pow (l_I fun i j d e => by
  split at e
  · next h => have h := powOk_iff h; cases e; exact ⟨⟨h.1, by omega, by have := h.2.2; omega⟩, fun F => .int _⟩
  · cases e) ha hb
theorem s_lt (ha : SE X W a ma) (hb : SE X W b mb) : SE X W (.Compare a [.Lt] [b] pos) (m2 lLt ma mb) := s_cmp op_lt (l_I0 fun i j d e F => by cases e; exact .bl _) ha hb (nomark _)
theorem s_le (ha : SE X W a ma) (hb : SE X W b mb) : SE X W (.Compare a [.LtE] [b] pos) (m2 lLe ma mb) := s_cmp op_le (l_I0 fun i j d e F => by cases e; exact .bl _) ha hb (nomark _)
theorem s_gt (ha : SE X W a ma) (hb : SE X W b mb) : SE X W (.Compare a [.Gt] [b] pos) (m2 lGt ma mb) := s_cmp op_gt (l_I0 fun i j d e F => by cases e; exact .bl _) ha hb (nomark _)
theorem s_ge (ha : SE X W a ma) (hb : SE X W b mb) : SE X W (.Compare a [.GtE] [b] pos) (m2 lGe ma mb) := s_cmp op_ge (l_I0 fun i j d e F => by cases e; exact .bl _) ha hb (nomark _)
abbrev lNeg (p : R) : Option R := match p.pl with
  | some (.int i) => some (.d (.int (-i)))
  | _ => none
theorem s_neg (ha : SE X W a ma) : SE X W (.UnaryOp .USub a pos) (m1 lNeg ma) := s_un un_neg (by
  intro F H S x p fr Q rx l
  obtain ⟨rr, e⟩ := l.has
  have e0 := e
  dsimp only [lNeg] at e
  split at e
  · next i e1 => cases e; exact ⟨i, rx.int e1, l.val e0 (.int _)⟩
  · cases e) ha
end
end
end Mw

set_option Elab.async false
set_option linter.all false
set_option maxRecDepth 100000
set_option autoImplicit false
namespace Mw
open PySem PySem.Spec PyProof.Rows L2
noncomputable section

section
variable {X : Cx} {W : WX} {pos : Pos} {a b c : Expr} {es : List Expr} {ma mb mc : M} {ms : List M}

/-! ### * -/
def rRepS : R2 := fun x y H Q => ∃ s n, x = .str s ∧ y = .int n ∧ 0 ≤ n ∧ n ≤ 1000 ∧ s.length ≤ 1000 ∧ Q (.str ⟨(List.replicate n.toNat s.cps.toList).flatten.toArray⟩) H
theorem size_repS (its : List Nat) : ∀ (m : Nat) (acc : Array Nat), (List.foldl (fun x1 x2 => x1 ++ x2) acc (List.replicate m its.toArray)) = acc ++ (List.replicate m its).flatten.toArray := by
  intro m
  induction m with
  | zero => intro acc; simp
  | succ m ih => intro acc; rw [List.replicate_succ, List.foldl_cons, ih, List.replicate_succ, List.flatten_cons]; simp [Array.append_assoc]
theorem flat_len {α : Type} (m : Nat) (l : List α) : (List.replicate m l).flatten.length = m * l.length := by
  induction m with
  | zero => simp
  | succ m ih => rw [List.replicate_succ, List.flatten_cons, List.length_append, ih, Nat.succ_mul, Nat.add_comm]
theorem op_repS : OpR X (binaryOp .Mult) rRepS := by
  intro pins s σ H x y v u Q I rx ry h
  obtain ⟨z, n, rfl, rfl, h0, h1, hz, q⟩ := h
  obtain ⟨t, rfl⟩ := rx
  obtain ⟨t', rfl⟩ := ry
  obtain ⟨⟨l⟩⟩ := z
  have hz : l.length ≤ 1000 := hz
  have sl : (1000 * 1000 : Nat) ≤ sizeLine := by rw [sizeLine_eq]; decide
  have hm : l.length * n.toNat ≤ 1000 * 1000 := Nat.mul_le_mul hz (by omega)
  have hlen : ((⟨⟨l⟩⟩ : Str)).length = l.length := rfl
  have n1 : ¬ n < -(2 ^ 63 : Int) := by omega
  have n2 : ¬ n ≥ (2 ^ 63 : Int) := by omega
  refine P.mul_str (by rw [decide_eq_false n1, decide_eq_false n2]; rfl) (fun h2 _ => ?_) (fun h2 _ => ?_) ?_
  · rw [hlen]
    have : (1000 : Int) ≤ (2 ^ 63 - 1) / n := by
      have : (2 ^ 63 - 1) / 1000 ≤ (2 ^ 63 - 1) / n := by
        have e1 : (2 ^ 63 - 1 : Int) / 1000 * n ≤ 2 ^ 63 - 1 := by omega
        exact Int.le_ediv_of_mul_le (by omega) e1
      omega
    omega
  · rw [hlen]
    unfold Builtin.Str.tooLong
    exact decide_eq_false (by omega)
  · have fin : ∀ (w : Str), w = ⟨(List.replicate n.toNat l).flatten.toArray⟩ → Q (.str w) H := fun w e => by rw [e]; exact q
    by_cases hn : n < 1
    · rw [if_pos hn]
      have : n = 0 := by omega
      subst this
      exact ⟨by decide, .str _, H, I.tok _, ⟨_, rfl⟩, fin _ rfl⟩
    · rw [if_neg hn]
      by_cases hk : (n == 1 || (⟨⟨l⟩⟩ : Str).length == 0) = true
      · rw [if_pos hk]
        refine ⟨.str ⟨⟨l⟩⟩, H, I, ⟨_, rfl⟩, fin _ ?_⟩
        rcases Bool.or_eq_true_iff.mp hk with hk | hk
        · have : n = 1 := by simpa using hk
          subst this; simp
        · have : l = [] := List.eq_nil_of_length_eq_zero (show l.length = 0 by simpa using (show (l.length == 0) = true from hk))
          subst this; simp
      · rw [if_neg hk]
        have e := size_repS l n.toNat #[]
        simp only [Array.empty_append] at e
        refine ⟨?_, .str _, H, I.tok _, ⟨_, rfl⟩, fin _ (by rw [← e])⟩
        show (List.foldl (fun x1 x2 => x1 ++ x2) #[] (List.replicate n.toNat l.toArray)).size ≤ sizeLine
        rw [e, List.size_toArray, flat_len]
        rw [Nat.mul_comm] at hm
        omega
def lMul (p q : R) : Option R := match p.pl, q.pl with
  | some (.int i), some (.int j) => if mulOk i j = true then some (.d (.int (i * j))) else none
  | some (.str s), some (.int n) => if repOk n s.length = true then some (.d (.str (List.replicate n.toNat s).flatten)) else none
  | some (.lst _), some (.int n) => match p.ol with
    | some s => if repOk n s.length = true then some (.own (.lst ((List.replicate n.toNat s).flatten.map O.d))) else none
    | none => none
  | _, _ => none
theorem Reps.flat {g : Wd} {F : Hp} {vs : List V} {ds : List D} (h : Reps g F vs ds) : ∀ n : Nat, Reps g F (List.replicate n vs).flatten (List.replicate n ds).flatten
  | 0 => .nil
  | n + 1 => by
    rw [List.replicate_succ, List.replicate_succ, List.flatten_cons, List.flatten_cons]
    exact h.app (Reps.flat h n)
theorem op_mulA : OpR X (binaryOp .Mult) (fun x y H Q => (rI CMul fun i j => .int (i * j)) x y H Q ∨ (rRepS x y H Q ∨ rRep x y H Q)) := op_mul.or (op_repS.or op_rep)
theorem l_mul : LOk2 (gOf X) lMul (fun x y H Q => (rI CMul fun i j => .int (i * j)) x y H Q ∨ (rRepS x y H Q ∨ rRep x y H Q)) := by
  intro F H S x y p q f1 f2 Q rx ry l
  obtain ⟨rr, e⟩ := l.has
  have e0 := e
  unfold lMul at e
  split at e
  · next i j e1 e2 =>
    split at e
    · next hc =>
      have hc := mulOk_iff hc
      cases e
      exact .inl ⟨i, j, rx.int e1, ry.int e2, by unfold CMul; omega, l.val e0 (.int _)⟩
    · cases e
  · next s n e1 e2 =>
    split at e
    · next hc =>
      have hc := repOk_iff hc
      cases e
      obtain ⟨rfl, h1⟩ := rx.str e1
      refine .inr (.inl ⟨_, n, rfl, ry.int e2, hc.1, hc.2.1, by rw [str_len]; exact hc.2.2, l.val e0 (.str ?_)⟩)
      show (List.replicate n.toNat s).flatten.length ≤ sizeLine
      rw [flat_len, sizeLine_eq]
      have := Nat.mul_le_mul (show n.toNat ≤ 1000 by omega) hc.2.2
      omega
    · cases e
  · next s' n e1 e2 =>
    split at e
    · next s e3 =>
      split at e
      · next hc =>
        have hc := repOk_iff hc
        cases e
        obtain ⟨a1, vs, rfl, k1, n1, r1⟩ := rx.ofOl e3
        have hz : vs.length * n.toNat ≤ sizeLine := by
          rw [sizeLine_eq, r1.length]
          have := Nat.mul_le_mul hc.2.2 (show n.toNat ≤ 1000 by omega)
          omega
        exact .inr (.inr ⟨a1, n, vs, rfl, ry.int e2, k1, by omega, by omega, hz, fun p hp => l.lst e0 (r1.flat _) (by rw [flat_len, Nat.mul_comm]; exact hz) hp⟩)
      · cases e
    · cases e
  · cases e
theorem s_mul (ha : SE X W a ma) (hb : SE X W b mb) : SE X W (.BinOp a .Mult b pos) (m2 lMul ma mb) := s_bin op_mulA l_mul ha hb

/-! ### is None -/
def D.isNon : D → Bool
  | .non => true
  | _ => false
theorem rep_non {g : Wd} {F : Hp} {v : V} {d : D} (h : Rep g F v d) : decide (v = .non) = d.isNon := by
  cases h <;> first | rfl | exact decide_eq_false (fun z => nomatch z)
def lIsN (p q : R) : Option R := match p.pl, q.pl with
  | some x, some .non => some (.d (.bl x.isNon))
  | _, _ => none
def lNotN (p q : R) : Option R := match p.pl, q.pl with
  | some x, some .non => some (.d (.bl (!x.isNon)))
  | _, _ => none
theorem s_isN (ha : SE X W a ma) (hb : SE X W b mb) : SE X W (.Compare a [.Is] [b] pos) (m2 lIsN ma mb) := s_cmp op_isN (by
  intro F H S x y p q f1 f2 Q rx ry l
  obtain ⟨rr, e⟩ := l.has
  have e0 := e
  unfold lIsN at e
  split at e
  · next i e1 e2 =>
    cases e
    refine ⟨ry.non e2, ?_⟩
    rw [rep_non (rx.whole l.sub e1)]
    exact l.val e0 (.bl _)
  · cases e) ha hb (nomark _)
theorem s_notN (ha : SE X W a ma) (hb : SE X W b mb) : SE X W (.Compare a [.IsNot] [b] pos) (m2 lNotN ma mb) := s_cmp op_notN (by
  intro F H S x y p q f1 f2 Q rx ry l
  obtain ⟨rr, e⟩ := l.has
  have e0 := e
  unfold lNotN at e
  split at e
  · next i e1 e2 =>
    cases e
    refine ⟨ry.non e2, ?_⟩
    rw [rep_non (rx.whole l.sub e1)]
    exact l.val e0 (.bl _)
  · cases e) ha hb (nomark _)

/-! ### data as the library's -/
mutual
def D.py : D → PyData
  | .non => .none
  | .bl b => .bool b
  | .int i => .int i
  | .str s => .str ⟨s.toArray⟩
  | .tup xs => .tuple (pys xs)
  | .lst xs => .list (pys xs)
  | .obj _ _ _ => .dict []
def pys : List D → List PyData
  | [] => []
  | x :: xs => x.py :: pys xs
end
mutual
def D.nob : D → Bool
  | .tup xs => nobs xs
  | .lst xs => nobs xs
  | .obj _ _ _ => false
  | _ => true
def nobs : List D → Bool
  | [] => true
  | x :: xs => x.nob && nobs xs
end
mutual
theorem Rep.dp {g : Wd} {H : Hp} : ∀ {v : V} {d : D}, Rep g H v d → d.nob = true → Dp g.K H v d.py
  | _, _, .non, _ => .non
  | _, _, .bl b, _ => .bl b
  | _, _, .int i, _ => .int i
  | _, _, .str h, _ => .str _
  | _, _, .tup h hl r, n => .tup (.inl (.inl h)) (Reps.dp r n)
  | _, _, .lst h hl r, n => .lst h (Reps.dp r n)
  | _, _, .obj hc h hd hn r, n => nomatch n
theorem Reps.dp {g : Wd} {H : Hp} : ∀ {vs : List V} {ds : List D}, Reps g H vs ds → nobs ds = true → DpAll g.K H vs (pys ds)
  | _, _, .nil, _ => .nil
  | _, _, .cons h t, n => by
    have n := Bool.and_eq_true_iff.mp (show (_ && _) = true from n)
    exact .cons (Rep.dp h n.1) (Reps.dp t n.2)
end
theorem pys_map (ds : List D) : pys ds = ds.map D.py := by
  induction ds with
  | nil => rfl
  | cons d ds ih => show d.py :: pys ds = _; rw [ih]; rfl
/-- of a shape that == can be asked of -/
def D.shp (d : D) : Bool := d.nob && SeqAt.shaped d.py
/-- Python's == -/
def D.eqv (x y : D) : Bool := PyData.eqv x.py y.py
@[simp] theorem eqv_int (i j : Int) : D.eqv (.int i) (.int j) = (i == j) := rfl
@[simp] theorem eqv_bl (i j : Bool) : D.eqv (.bl i) (.bl j) = (i == j) := rfl
@[simp] theorem shp_int (i : Int) : D.shp (.int i) = true := rfl
@[simp] theorem shp_bl (i : Bool) : D.shp (.bl i) = true := rfl
@[simp] theorem shp_non : D.shp .non = true := rfl
def lEq (p q : R) : Option R := match p.pl, q.pl with
  | some (.int i), some (.int j) => some (.d (.bl (decide (i = j))))
  | some (.bl i), some (.bl j) => some (.d (.bl (decide (i = j))))
  | some (.str i), some (.str j) => some (.d (.bl (decide (i = j))))
  | some x, some y => if x.shp = true ∧ y.shp = true then some (.d (.bl (D.eqv x y))) else none
  | _, _ => none
def lNe (p q : R) : Option R := match p.pl, q.pl with
  | some (.int i), some (.int j) => some (.d (.bl (!decide (i = j))))
  | some (.bl i), some (.bl j) => some (.d (.bl (!decide (i = j))))
  | some (.str i), some (.str j) => some (.d (.bl (!decide (i = j))))
  | some x, some y => if x.shp = true ∧ y.shp = true then some (.d (.bl (!D.eqv x y))) else none
  | _, _ => none
theorem shp_dp {g : Wd} {H : Hp} {v : V} {d : D} (h : Rep g H v d) (s : d.shp = true) : Dp g.K H v d.py ∧ SeqAt.shaped d.py = true := by
  have s := Bool.and_eq_true_iff.mp s
  exact ⟨h.dp s.1, s.2⟩
theorem l_eq : LOk2 (gOf X) lEq (fun x y H Q => rEq x y H Q ∨ rEqD X.K x y H Q) := by
  intro F H S x y p q f1 f2 Q rx ry l
  obtain ⟨rr, e⟩ := l.has
  have e0 := e
  unfold lEq at e
  split at e
  · next i j e1 e2 =>
    cases e
    rw [rx.int e1, ry.int e2]
    refine .inl ⟨rfl, ?_⟩
    rw [show decide (V.int i = V.int j) = decide (i = j) from decide_eq_decide.mpr ⟨fun h => V.int.inj h, fun h => by rw [h]⟩]
    exact l.val e0 (.bl _)
  · next i j e1 e2 =>
    cases e
    rw [rx.bl e1, ry.bl e2]
    refine .inl ⟨rfl, ?_⟩
    rw [show decide (V.bl i = V.bl j) = decide (i = j) from decide_eq_decide.mpr ⟨fun h => V.bl.inj h, fun h => by rw [h]⟩]
    exact l.val e0 (.bl _)
  · next i j e1 e2 =>
    cases e
    rw [(rx.str e1).1, (ry.str e2).1]
    refine .inl ⟨rfl, ?_⟩
    rw [show decide (V.str ⟨i.toArray⟩ = V.str ⟨j.toArray⟩) = decide (i = j) from decide_eq_decide.mpr ⟨fun h => by simpa using h, fun h => by rw [h]⟩]
    exact l.val e0 (.bl _)
  · next x' y' _ _ _ e1 e2 =>
    split at e
    · next hs =>
      cases e
      obtain ⟨d1, s1⟩ := shp_dp (rx.whole l.sub e1) hs.1
      obtain ⟨d2, s2⟩ := shp_dp (ry.whole l.sub e2) hs.2
      exact .inr ⟨_, _, d1, d2, s1, s2, l.val e0 (.bl _)⟩
    · cases e
  · cases e
theorem l_ne : LOk2 (gOf X) lNe (fun x y H Q => rNe x y H Q ∨ rNeD X.K x y H Q) := by
  intro F H S x y p q f1 f2 Q rx ry l
  obtain ⟨rr, e⟩ := l.has
  have e0 := e
  unfold lNe at e
  split at e
  · next i j e1 e2 =>
    cases e
    rw [rx.int e1, ry.int e2]
    refine .inl ⟨rfl, ?_⟩
    rw [show decide (V.int i = V.int j) = decide (i = j) from decide_eq_decide.mpr ⟨fun h => V.int.inj h, fun h => by rw [h]⟩]
    exact l.val e0 (.bl _)
  · next i j e1 e2 =>
    cases e
    rw [rx.bl e1, ry.bl e2]
    refine .inl ⟨rfl, ?_⟩
    rw [show decide (V.bl i = V.bl j) = decide (i = j) from decide_eq_decide.mpr ⟨fun h => V.bl.inj h, fun h => by rw [h]⟩]
    exact l.val e0 (.bl _)
  · next i j e1 e2 =>
    cases e
    rw [(rx.str e1).1, (ry.str e2).1]
    refine .inl ⟨rfl, ?_⟩
    rw [show decide (V.str ⟨i.toArray⟩ = V.str ⟨j.toArray⟩) = decide (i = j) from decide_eq_decide.mpr ⟨fun h => by simpa using h, fun h => by rw [h]⟩]
    exact l.val e0 (.bl _)
  · next x' y' _ _ _ e1 e2 =>
    split at e
    · next hs =>
      cases e
      obtain ⟨d1, s1⟩ := shp_dp (rx.whole l.sub e1) hs.1
      obtain ⟨d2, s2⟩ := shp_dp (ry.whole l.sub e2) hs.2
      exact .inr ⟨_, _, d1, d2, s1, s2, l.val e0 (.bl _)⟩
    · cases e
  · cases e
theorem s_eq (hu : X.A.units + 64 < cLine) (ha : SE X W a ma) (hb : SE X W b mb) : SE X W (.Compare a [.Eq] [b] pos) (m2 lEq ma mb) := s_cmp (op_eq.or (op_eqD hu)) l_eq ha hb (nomark _)
theorem s_ne (hu : X.A.units + 64 < cLine) (ha : SE X W a ma) (hb : SE X W b mb) : SE X W (.Compare a [.NotEq] [b] pos) (m2 lNe ma mb) := s_cmp (op_ne.or (op_neD hu)) l_ne ha hb (nomark _)

/-! ### in -/
def D.flat : D → Bool
  | .non | .bl _ | .int _ | .str _ => true
  | _ => false
def flats (ds : List D) : Bool := ds.all D.flat
theorem rep_flat {g : Wd} {F : Hp} {v : V} {d : D} (h : Rep g F v d) (e : d.flat = true) : L2.flatV v = true := by
  cases h <;> first | rfl | cases e
theorem reps_flat {g : Wd} {F : Hp} {vs : List V} {ds : List D} (h : Reps g F vs ds) (e : flats ds = true) : vs.all L2.flatV = true := by
  induction ds generalizing vs with
  | nil => cases h; rfl
  | cons d ds ih =>
    cases h with
    | cons h t =>
      have e := Bool.and_eq_true_iff.mp (show (d.flat && flats ds) = true from e)
      rw [List.all_cons, rep_flat h e.1, ih t e.2]; rfl
theorem eqV_eqv {g : Wd} {F F' : Hp} {v w : V} {d e : D} (h : Rep g F v d) (k : Rep g F' w e) (fd : d.flat = true) (fe : e.flat = true) : L2.eqV v w = D.eqv d e := by
  cases h <;> first | (cases fd; done) | skip
  all_goals (cases k <;> first | (cases fe; done) | rfl)
theorem inV_any {g : Wd} {F F' : Hp} {v : V} {d : D} (h : Rep g F v d) (fd : d.flat = true) : ∀ {vs : List V} {ds : List D}, Reps g F' vs ds → flats ds = true → L2.inV v vs = ds.any fun z => D.eqv z d
  | _, _, .nil, _ => rfl
  | _, _, .cons (d := d') (ds := ds') k t, e => by
    have e := Bool.and_eq_true_iff.mp (show (d'.flat && flats ds') = true from e)
    show (L2.eqV _ v || L2.inV v _) = (D.eqv _ _ || _)
    rw [eqV_eqv k h e.1 fd, inV_any h fd t e.2]
/-- x in c: a sign in a text, a flat thing in a list or tuple of flat things, data in a list -/
def isIn (p q : R) : Option Bool := match p.pl, q.pl with
  | some (.str [n]), some (.str s) => some (decide (n ∈ s))
  | some x, some (.tup ds) => if x.flat = true ∧ flats ds = true then some (ds.any fun z => D.eqv z x) else none
  | some x, some (.lst ds) => if x.flat = true ∧ flats ds = true then some (ds.any fun z => D.eqv z x) else if x.shp = true ∧ (D.lst ds).shp = true then some (ds.any fun z => D.eqv z x) else none
  | _, _ => none
def lIn (p q : R) : Option R := (isIn p q).map fun b => .d (.bl b)
def lNotIn (p q : R) : Option R := (isIn p q).map fun b => .d (.bl (!b))
def rInA (K : PySem.W.Frag) (neg : Bool) : R2 := fun x y H Q => (∃ (c : Nat) (z : Str), x = .str ⟨#[c]⟩ ∧ y = .str z ∧ Q (.bl (if neg then !decide (c ∈ z.cps.toList) else decide (c ∈ z.cps.toList))) H) ∨ (rIn K neg x y H Q ∨
  ∃ d ds, Dp K H x d ∧ Dp K H y (.list ds) ∧ SeqAt.shaped d = true ∧ SeqAt.shaped (.list ds) = true ∧ Q (.bl (if neg then !ds.any fun z => PyData.eqv z d else ds.any fun z => PyData.eqv z d)) H)
theorem l_inA (neg : Bool) : LOk2 (gOf X) (fun p q => (isIn p q).map fun b => .d (.bl (if neg then !b else b))) (rInA X.K neg) := by
  intro F H S x y p q f1 f2 Q rx ry l
  obtain ⟨rr, e⟩ := l.has
  dsimp only at e l
  cases e1 : isIn p q with
  | none => rw [e1] at e; cases e
  | some b =>
    rw [e1] at l
    have fin : Q (.bl (if neg then !b else b)) H := l.val rfl (.bl _)
    unfold isIn at e1
    split at e1
    · next n s h1 h2 =>
      cases e1
      exact .inl ⟨n, _, (rx.str h1).1, (ry.str h2).1, fin⟩
    · next x' ds h1 h2 =>
      split at e1
      · next hc =>
        cases e1
        obtain ⟨a1, vs, rfl, k1, n1, r1⟩ := ry.tup h2
        have rxw := rx.whole l.sub h1
        refine .inr (.inl ⟨a1, vs, rfl, .inr (l.sub.sqT k1), rep_flat rxw hc.1, reps_flat r1 hc.2, ?_⟩)
        rw [inV_any rxw hc.1 r1 hc.2]
        exact fin
      · cases e1
    · next x' ds _ h1 h2 =>
      obtain ⟨a1, vs, rfl, k1, n1, r1⟩ := ry.lst l.sub h2
      have rxw := rx.whole l.sub h1
      split at e1
      · next hc =>
        cases e1
        refine .inr (.inl ⟨a1, vs, rfl, .inl k1, rep_flat rxw hc.1, reps_flat r1 hc.2, ?_⟩)
        rw [inV_any rxw hc.1 r1 hc.2]
        exact fin
      · split at e1
        · next hc =>
          cases e1
          obtain ⟨d1, s1⟩ := shp_dp rxw hc.1
          obtain ⟨d2, s2⟩ := shp_dp (ry.whole l.sub h2) hc.2
          refine .inr (.inr ⟨_, _, d1, d2, s1, s2, ?_⟩)
          rw [pys_map, List.any_map]
          exact fin
        · cases e1
    · cases e1
theorem s_in (hu : X.A.units + 65 < cLine) (ha : SE X W a ma) (hb : SE X W b mb) (hm : behindInMarks .In b = false) : SE X W (.Compare a [.In] [b] pos) (m2 lIn ma mb) :=
  s_cmp (op_in_sign.or (op_in_seq.or (op_inD hu))) (l_inA false) ha hb hm
theorem s_notin (hu : X.A.units + 65 < cLine) (ha : SE X W a ma) (hb : SE X W b mb) (hm : behindInMarks .NotIn b = false) : SE X W (.Compare a [.NotIn] [b] pos) (m2 lNotIn ma mb) :=
  s_cmp (op_notIn_sign.or (op_notIn_seq.or (op_notInD hu))) (l_inA true) ha hb hm
end
end
end Mw

set_option Elab.async false
set_option linter.all false
set_option maxRecDepth 100000
set_option autoImplicit false
namespace Mw
open PySem PySem.Spec PyProof.Rows L2
noncomputable section

section
variable {X : Cx} {W : WX} {pos : Pos} {a b c : Expr} {es : List Expr} {ma mb mc : M} {ms : List M}

/-! ### places -/
theorem ixN_lt {n : Nat} {i : Int} {j : Nat} (h : ixN n i = some j) : j < n := (ixN_seq h).2.1
theorem Reps.atI {g : Wd} {F : Hp} {vs : List V} {ds : List D} (h : Reps g F vs ds) {i : Int} {d : D} (e : L2.atI ds i = some d) : ∃ v, L2.atI vs i = some v ∧ Rep g F v d := by
  unfold L2.atI at e ⊢
  rw [h.length]
  cases q : ixN ds.length i with
  | none => rw [q] at e; cases e
  | some j => rw [q] at e; exact h.get e
theorem RepOs.get {g : Wd} {F H : Hp} : ∀ {vs : List V} {os : List O} {fp : List Addr} {i : Nat} {o : O}, RepOs g F H vs os fp → os[i]? = some o → ∃ v f, vs[i]? = some v ∧ RepO g F H v o f
  | _, _, _, _, _, .nil, h => by simp at h
  | _, _, _, 0, _, .cons h t, e => by simp at e; subst e; exact ⟨_, _, rfl, h⟩
  | _, _, _, i + 1, _, .cons h t, e => by simpa using RepOs.get (i := i) t (by simpa using e)
theorem RepOs.atI {g : Wd} {F H : Hp} {vs : List V} {os : List O} {fp : List Addr} (h : RepOs g F H vs os fp) {i : Int} {o : O} (e : L2.atI os i = some o) : ∃ v f, L2.atI vs i = some v ∧ RepO g F H v o f := by
  unfold L2.atI at e ⊢
  rw [h.length]
  cases q : ixN os.length i with
  | none => rw [q] at e; cases e
  | some j => rw [q] at e; exact h.get e
@[simp] theorem atI_map {α β : Type} (f : α → β) (xs : List α) (i : Int) : L2.atI (xs.map f) i = (L2.atI xs i).map f := by
  unfold L2.atI
  rw [List.length_map]
  cases ixN xs.length i with
  | none => rfl
  | some j => simp
def O.r : O → R
  | .d x => .d x
  | o => .pk o
@[simp] theorem O.r_d (x : D) : (O.d x).r = .d x := rfl
def lIx (p q : R) : Option R := match q.pl with
  | some (.int i) => match p with
    | .d (.lst ds) => (L2.atI ds i).map R.d
    | .d (.tup ds) => (L2.atI ds i).map R.d
    | .d (.str s) => (L2.atI s i).map fun c => .d (.str [c])
    | .own (.lst os) => (L2.atI os i).map O.r
    | .pk (.lst os) => (L2.atI os i).map O.r
    | _ => none
  | _ => none
theorem LF.pk {g : Wd} {leaf : Option R} {F H : Hp} {S : Addr → Prop} {fr : List Addr} {Q : VK} (l : LF g leaf F H S fr Q) {o : O} (e : leaf = some o.r) {v : V} {f : List Addr} (h : RepO g F H v o f) : Q v H := by
  obtain ⟨rr, e', k⟩ := l.go
  rw [e] at e'; cases e'
  refine k v F H [] (.refl l.sub) ?_ List.nodup_nil
  cases o with
  | d x => cases h; exact ⟨by assumption, rfl⟩
  | lst _ => exact ⟨rfl, f, h⟩
  | dct _ _ => exact ⟨rfl, f, h⟩
  | obj _ _ _ => exact ⟨rfl, f, h⟩
theorem l_ix : LOk2 (gOf X) lIx (rIx X.K) := by
  intro F H S x y p q f1 f2 Q rx ry l
  obtain ⟨rr, e⟩ := l.has
  have e0 := e
  unfold lIx at e
  split at e
  · next i e2 =>
    have hy := ry.int e2
    have own : ∀ {o : O} {os : List O} {fp}, RepO (gOf X) F H x o fp → o = .lst os → (L2.atI os i).map O.r = some rr → rIx X.K x y H Q := by
      intro o os fp hr eo e
      subst eo
      cases q' : L2.atI os i with
      | none => rw [q'] at e; cases e
      | some o =>
        rw [q'] at e; cases e
        cases hr with
        | lst h hl r =>
          obtain ⟨v, f, h1, h2⟩ := r.atI q'
          exact .inl ⟨_, _, i, v, rfl, hy, .inl (.inl h), h1, l.pk e0 h2⟩
    split at e
    · next ds =>
      obtain ⟨a1, vs, rfl, k1, n1, r1⟩ := rx.lst l.sub (ds := ds) rfl
      cases q' : L2.atI ds i with
      | none => rw [q'] at e; cases e
      | some d =>
        rw [q'] at e; cases e
        obtain ⟨v, h1, h2⟩ := r1.atI q'
        exact .inl ⟨a1, vs, i, v, rfl, hy, k1, h1, l.val e0 h2⟩
    · next ds =>
      obtain ⟨a1, vs, rfl, k1, n1, r1⟩ := rx.tup (ds := ds) rfl
      cases q' : L2.atI ds i with
      | none => rw [q'] at e; cases e
      | some d =>
        rw [q'] at e; cases e
        obtain ⟨v, h1, h2⟩ := r1.atI q'
        exact .inr (.inl ⟨a1, vs, i, v, rfl, hy, l.sub.sqT k1, h1, l.val e0 h2⟩)
    · next s =>
      obtain ⟨rfl, h1⟩ := rx.str (s := s) rfl
      cases q' : L2.atI s i with
      | none => rw [q'] at e; cases e
      | some d =>
        rw [q'] at e; cases e
        refine .inr (.inr ⟨_, i, d, rfl, hy, by rw [str_len]; exact h1, q', l.val e0 ?_⟩)
        exact .str (s := [d]) (by rw [sizeLine_eq]; show 1 ≤ 16777216; decide)
    · next os => exact own rx.1 rfl e
    · next os =>
      obtain ⟨_, fp, hr⟩ := rx
      exact own hr rfl e
    · cases e
  · cases e
theorem s_at (ha : SE X W a ma) (hb : SE X W b mb) (hs : PlainIx b := by exact fun _ _ => rfl) : SE X W (.Subscript a b pos) (m2 lIx ma mb) := s_ix ix_seq l_ix ha hb hs

/-! ### slices -/
def cutA {α : Type} (xs : List α) (lo hi : Option Int) : List α := (xs.drop (HT.sIx xs.length 0 lo)).take (HT.sIx xs.length xs.length hi - HT.sIx xs.length 0 lo)
theorem cutA_len {α : Type} (xs : List α) (lo hi : Option Int) : (cutA xs lo hi).length ≤ xs.length := by
  unfold cutA; rw [List.length_take, List.length_drop]; omega
theorem Reps.cut {g : Wd} {F : Hp} {vs : List V} {ds : List D} (h : Reps g F vs ds) (lo hi : Option Int) : Reps g F (cutV vs lo hi) (cutA ds lo hi) := by
  unfold cutV cutA
  rw [h.length]
  exact (h.drop _).take _
def lSl (p : R) (lo hi : Option Int) : Option R := match p.pl with
  | some (.str s) => some (.d (.str (cutA s lo hi)))
  | some (.tup ds) => some (.d (.tup (cutA ds lo hi)))
  | some (.lst ds) => some (.own (.lst ((cutA ds lo hi).map O.d)))
  | _ => none
def rSlAll (K : PySem.W.Frag) : V → Option Int → Option Int → Hp → VK → Prop := fun x lo hi H Q => rSlS x lo hi H Q ∨ (rSlA K x lo hi H Q ∨ rSlL K x lo hi H Q)
theorem l_sl {lo hi : Option Int} {F H : Hp} {S : Addr → Prop} {x : V} {p : R} {fr : List Addr} {Q : VK} (rx : RepR (gOf X) F H S x p fr) {fr' : List Addr} (l : LF (gOf X) (lSl p lo hi) F H S fr' Q) : rSlAll X.K x lo hi H Q := by
  obtain ⟨rr, e⟩ := l.has
  have e0 := e
  unfold lSl at e
  split at e
  · next s h1 =>
    cases e
    obtain ⟨rfl, h2⟩ := rx.str h1
    have hh : (cutS ⟨s.toArray⟩ lo hi) = ⟨(cutA s lo hi).toArray⟩ := by
      unfold cutS cutA
      rw [str_len]
    refine .inl ⟨_, rfl, by rw [str_len]; exact h2, ?_⟩
    rw [hh]
    exact l.val e0 (.str (Nat.le_trans (cutA_len _ _ _) h2))
  · next ds h1 =>
    cases e
    obtain ⟨a1, vs, rfl, k1, n1, r1⟩ := rx.tupF h1
    refine .inr (.inl ⟨a1, vs, rfl, l.sub.sqT (.inl (.inl k1)), fun z => ?_, fun _ p hp => l.tup e0 (r1.cut lo hi) (Nat.le_trans (cutV_length _ _ _) n1) hp⟩)
    have : cutA ds lo hi = ds := by
      unfold cutA
      rw [← r1.length, z.1, z.2]
      simp [r1.length]
    rw [this] at e0
    exact l.val e0 (.tup k1 n1 r1)
  · next ds h1 =>
    cases e
    obtain ⟨a1, vs, rfl, k1, n1, r1⟩ := rx.lst l.sub h1
    exact .inr (.inr ⟨a1, vs, rfl, k1, fun p hp => l.lst e0 (r1.cut lo hi) (Nat.le_trans (cutV_length _ _ _) n1) hp⟩)
  · cases e
theorem sl_all : SlR X (rSlAll X.K) := sl_str.or (sl_tupA.or sl_list)
/-- an expression whose value is an int -/
def mInt (m : M) : M := fun ρ => (m ρ).bind fun r ρ' q => match r with
  | .d (.int i) => .ok (.d (.int i)) ρ' q
  | _ => .no
theorem tM_int {g : Wd} {m : M} {σ : L2.St} {H : Hp} {Q : VK} (h : tM g W (mInt m) σ H Q) : tM g W m σ H fun x H1 => ∃ i, x = .int i ∧ Q (.int i) H1 := by
  refine tR.bind h fun F ρ fp st r ρ1 q1 e1 v F1 H1 fp1 fr1 s1 st1 r1 n1 z1 ob => ?_
  cases r with
  | d x =>
    cases x with
    | int i =>
      refine ⟨i, r1.int rfl, ?_⟩
      have := ob.2.1 (.d (.int i)) ρ1 q1 rfl (.int i) F1 H1 fp1 fr1 (.refl _ _ _) st1 ⟨.int i, r1.2⟩ n1 z1
      exact this
    | _ => exact absurd rfl ob.1
  | _ => exact absurd rfl ob.1
def mSl (ma : M) : Option M → Option M → M
  | none, none => mOps [ma] fun rs => match rs with | [p] => lSl p none none | _ => none
  | some ml, none => mOps [ma, mInt ml] fun rs => match rs with | [p, .d (.int i)] => lSl p (some i) none | _ => none
  | none, some mh => mOps [ma, mInt mh] fun rs => match rs with | [p, .d (.int i)] => lSl p none (some i) | _ => none
  | some ml, some mh => mOps [ma, mInt ml, mInt mh] fun rs => match rs with | [p, .d (.int i), .d (.int j)] => lSl p (some i) (some j) | _ => none
variable {p2 : Pos}
theorem s_sl00 (ha : SE X W a ma) : SE X W (.Subscript a (.Slice none none none p2) pos) (mSl ma none none) := PE.wk (pe_slice sl_all ha po_none po_none) fun σ H Q h =>
  (tA_cons (tM_ops h)).imp fun x H1 q => by
    obtain ⟨F, S, rs, fr, rr, sub, hS, rp, nd, e, k⟩ := tA_nil q
    dsimp only at e
    split at e
    · next p =>
      obtain ⟨v, ev, h1⟩ := rp.one
      cases ev
      exact l_sl h1 (fr' := fr) ⟨sub, hS, nd, rr, e, k⟩
    · cases e
theorem s_sl10 (ha : SE X W a ma) (hb : SE X W b mb) : SE X W (.Subscript a (.Slice (some b) none none p2) pos) (mSl ma (some mb) none) := PE.wk (pe_slice sl_all ha (po_some hb) po_none) fun σ H Q h =>
  (tA_cons (tM_ops h)).imp fun x H1 q => (tM_int (tA_cons q)).imp fun y H2 ⟨i, e1, q⟩ => ⟨i, e1, by
    obtain ⟨F, S, rs, fr, rr, sub, hS, rp, nd, e, k⟩ := tA_nil q
    dsimp only at e
    split at e
    · next p j =>
      obtain ⟨v, w, f1, f2, ev, rfl, h1, h2⟩ := rp.two
      cases ev
      cases h2.int rfl
      exact l_sl h1 (fr' := f1 ++ f2) ⟨sub, hS, nd, rr, e, k⟩
    · cases e⟩
theorem s_sl01 (ha : SE X W a ma) (hb : SE X W b mb) : SE X W (.Subscript a (.Slice none (some b) none p2) pos) (mSl ma none (some mb)) := PE.wk (pe_slice sl_all ha po_none (po_some hb)) fun σ H Q h =>
  (tA_cons (tM_ops h)).imp fun x H1 q => (tM_int (tA_cons q)).imp fun y H2 ⟨i, e1, q⟩ => ⟨i, e1, by
    obtain ⟨F, S, rs, fr, rr, sub, hS, rp, nd, e, k⟩ := tA_nil q
    dsimp only at e
    split at e
    · next p j =>
      obtain ⟨v, w, f1, f2, ev, rfl, h1, h2⟩ := rp.two
      cases ev
      cases h2.int rfl
      exact l_sl h1 (fr' := f1 ++ f2) ⟨sub, hS, nd, rr, e, k⟩
    · cases e⟩
theorem RepRs.three {g : Wd} {F H : Hp} {S : Addr → Prop} {vs : List V} {r q t : R} {fr : List Addr} (h : RepRs g F H S vs [r, q, t] fr) : ∃ v w u f1 f2 f3, vs = [v, w, u] ∧ fr = f1 ++ (f2 ++ f3) ∧ RepR g F H S v r f1 ∧ RepR g F H S w q f2 ∧ RepR g F H S u t f3 := by
  cases h with
  | cons h t =>
    obtain ⟨w, u, f2, f3, rfl, rfl, h2, h3⟩ := t.two
    exact ⟨_, _, _, _, _, _, rfl, rfl, h, h2, h3⟩
theorem s_sl11 (ha : SE X W a ma) (hb : SE X W b mb) (hc : SE X W c mc) : SE X W (.Subscript a (.Slice (some b) (some c) none p2) pos) (mSl ma (some mb) (some mc)) := PE.wk (pe_slice sl_all ha (po_some hb) (po_some hc)) fun σ H Q h =>
  (tA_cons (tM_ops h)).imp fun x H1 q => (tM_int (tA_cons q)).imp fun y H2 ⟨i, e1, q⟩ => ⟨i, e1, (tM_int (tA_cons q)).imp fun z H3 ⟨j, e2, q⟩ => ⟨j, e2, by
    obtain ⟨F, S, rs, fr, rr, sub, hS, rp, nd, e, k⟩ := tA_nil q
    dsimp only at e
    split at e
    · next p j =>
      obtain ⟨v, w, u, f1, f2, f3, ev, rfl, h1, h2, h3⟩ := rp.three
      cases ev
      cases h2.int rfl
      cases h3.int rfl
      exact l_sl h1 (fr' := f1 ++ (f2 ++ f3)) ⟨sub, hS, nd, rr, e, k⟩
    · cases e⟩⟩

/-! ### calls of built-in functions -/
variable {x : Str} {p : Pos}
theorem s_blt1 {id : String} {f : R → Option R} {r : List V → Hp → VK → Prop} (ho : CallR X (.builtin id) r) (hl : LOk1 (gOf X) f (fun v H Q => r [v] H Q)) (hg : Gl X x) (hm : X.mg x = none) (hv : bootBuiltins x = some (.builtin id)) (ha : SE X W a ma)
    (he : starEach [a] X.env = (false, eval a X.env) :: starEach [] X.env := by rfl) (hn : x ≠ "__name__" := by decide) (hdb : (x == ("__debug__" : Str)) = false := by decide) : SE X W (.Call (.Name x p) [a] [] pos) (m1 f ma) :=
  PE.wk (pe_callB ho hg hm hv (pa_cons ha pa_nil he) hn hdb he rfl) fun σ H Q h => tM_m1 hl h
theorem s_ty1 {T : String} {f : R → Option R} {r : List V → Hp → VK → Prop} (ho : CallR X (.type T) r) (hl : LOk1 (gOf X) f (fun v H Q => r [v] H Q)) (hg : Gl X x) (hm : X.mg x = none) (hv : bootBuiltins x = some (.type T)) (ha : SE X W a ma)
    (he : starEach [a] X.env = (false, eval a X.env) :: starEach [] X.env := by rfl) (hn : x ≠ "__name__" := by decide) (hdb : (x == ("__debug__" : Str)) = false := by decide) : SE X W (.Call (.Name x p) [a] [] pos) (m1 f ma) :=
  PE.wk (pe_callTy ho hg hm hv (pa_cons ha pa_nil he) hn hdb he rfl) fun σ H Q h => tM_m1 hl h
theorem s_blt2 {id : String} {f : R → R → Option R} {r : List V → Hp → VK → Prop} (ho : CallR X (.builtin id) r) (hl : LOk2 (gOf X) f (fun v w H Q => r [v, w] H Q)) (hg : Gl X x) (hm : X.mg x = none) (hv : bootBuiltins x = some (.builtin id)) (ha : SE X W a ma) (hb : SE X W b mb)
    (he : starEach [a, b] X.env = (false, eval a X.env) :: starEach [b] X.env := by rfl) (hpl : (backTo pos (starEach [b] X.env)).any (·.1) = false := by rfl) (hs : starEach [b] X.env = (false, eval b X.env) :: starEach [] X.env := by rfl)
    (hn : x ≠ "__name__" := by decide) (hdb : (x == ("__debug__" : Str)) = false := by decide) : SE X W (.Call (.Name x p) [a, b] [] pos) (m2 f ma mb) :=
  PE.wk (pe_callB ho hg hm hv (pa_cons ha (pa_cons hb pa_nil hs) he) hn hdb he hpl) fun σ H Q h => tM_m2 hl h
def lLen (p : R) : Option R := match p with
  | .d (.str s) => some (.d (.int s.length))
  | .d (.lst ds) => some (.d (.int ds.length))
  | .d (.tup ds) => some (.d (.int ds.length))
  | .own (.lst os) => some (.d (.int os.length))
  | .pk (.lst os) => some (.d (.int os.length))
  | _ => none
theorem l_len : LOk1 (gOf X) lLen (fun v H Q => (fun xs H Q => ∃ x n, xs = [x] ∧ LenV X.K x H n ∧ Q (.int n) H) [v] H Q) := by
  intro F H S x p fr Q rx l
  obtain ⟨rr, e⟩ := l.has
  have e0 := e
  have own : ∀ {o : O} {os : List O} {fp}, RepO (gOf X) F H x o fp → o = .lst os → LenV X.K x H os.length := by
    intro o os fp hr eo
    subst eo
    cases hr with
    | lst h hl r => exact .inl ⟨_, .inl (.inl h), r.length.symm⟩
  unfold lLen at e
  split at e
  · next s =>
    cases e
    obtain ⟨rfl, h1⟩ := rx.str (s := s) rfl
    exact ⟨_, s.length, rfl, ⟨by rw [str_len]; exact h1, str_len.symm⟩, l.val e0 (.int _)⟩
  · next ds =>
    cases e
    obtain ⟨a1, vs, rfl, k1, n1, r1⟩ := rx.lst l.sub (ds := ds) rfl
    exact ⟨_, ds.length, rfl, .inl ⟨vs, k1, r1.length.symm⟩, l.val e0 (.int _)⟩
  · next ds =>
    cases e
    obtain ⟨a1, vs, rfl, k1, n1, r1⟩ := rx.tup (ds := ds) rfl
    exact ⟨_, ds.length, rfl, .inr ⟨vs, l.sub.sqT k1, r1.length.symm⟩, l.val e0 (.int _)⟩
  · next os => cases e; exact ⟨_, os.length, rfl, own rx.1 rfl, l.val e0 (.int _)⟩
  · next os =>
    cases e
    obtain ⟨_, fp, hr⟩ := rx
    exact ⟨_, os.length, rfl, own hr rfl, l.val e0 (.int _)⟩
  · cases e
theorem s_len (hg : Gl X "len") (hm : X.mg "len" = none) (ha : SE X W a ma) (he : starEach [a] X.env = (false, eval a X.env) :: starEach [] X.env := by rfl) : SE X W (.Call (.Name "len" p) [a] [] pos) (m1 lLen ma) := s_blt1 call_len l_len hg hm PySem.boot_len ha he
def lInt1 (p : R) : Option R := match p.pl with
  | some (.int i) => some (.d (.int i))
  | some (.bl k) => some (.d (.int (if k then 1 else 0)))
  | _ => none
theorem s_int1 (hg : Gl X "int") (hm : X.mg "int" = none) (ha : SE X W a ma) (he : starEach [a] X.env = (false, eval a X.env) :: starEach [] X.env := by rfl) : SE X W (.Call (.Name "int" p) [a] [] pos) (m1 lInt1 ma) := s_ty1 call_int1 (by
  intro F H S x p fr Q rx l
  obtain ⟨rr, e⟩ := l.has
  have e0 := e
  unfold lInt1 at e
  split at e
  · next i h1 => cases e; rw [rx.int h1]; exact .inl ⟨i, rfl, l.val e0 (.int _)⟩
  · next i h1 => cases e; rw [rx.bl h1]; exact .inr ⟨i, rfl, l.val e0 (.int _)⟩
  · cases e) hg hm (by decide +kernel) ha he
abbrev lMax2 := lI fun i j => some (.int (if j > i then j else i))
abbrev lMin2 := lI fun i j => some (.int (if j < i then j else i))
theorem l_I00 {f : Int → Int → Option D} {h : Int → Int → V} (k : ∀ i j d, f i j = some d → ∀ F, Rep (gOf X) F (h i j) d) : LOk2 (gOf X) (lI f) (fun v w H Q => (fun xs H Q => ∃ i j, xs = [.int i, .int j] ∧ Q (h i j) H) [v, w] H Q) := by
  intro F H S x y p q f1 f2 Q rx ry l
  obtain ⟨rr, e⟩ := l.has
  obtain ⟨i, j, d, e1, e2, e3, rfl⟩ := lI_some e
  rw [rx.int e1, ry.int e2]
  exact ⟨i, j, rfl, l.val e (k i j d e3 F)⟩
theorem s_max2 (hc : X.calm = true) (hg : Gl X "max") (hm : X.mg "max" = none) (ha : SE X W a ma) (hb : SE X W b mb) (he : starEach [a, b] X.env = (false, eval a X.env) :: starEach [b] X.env := by rfl) (hpl : (backTo pos (starEach [b] X.env)).any (·.1) = false := by rfl) (hs : starEach [b] X.env = (false, eval b X.env) :: starEach [] X.env := by rfl) : SE X W (.Call (.Name "max" p) [a, b] [] pos) (m2 lMax2 ma mb) :=
  s_blt2 (call_max2 hc) (l_I00 fun i j d e F => by cases e; exact .int _) hg hm (by decide +kernel) ha hb he hpl hs
theorem s_min2 (hc : X.calm = true) (hg : Gl X "min") (hm : X.mg "min" = none) (ha : SE X W a ma) (hb : SE X W b mb) (he : starEach [a, b] X.env = (false, eval a X.env) :: starEach [b] X.env := by rfl) (hpl : (backTo pos (starEach [b] X.env)).any (·.1) = false := by rfl) (hs : starEach [b] X.env = (false, eval b X.env) :: starEach [] X.env := by rfl) : SE X W (.Call (.Name "min" p) [a, b] [] pos) (m2 lMin2 ma mb) :=
  s_blt2 (call_min2 hc) (l_I00 fun i j d e F => by cases e; exact .int _) hg hm (by decide +kernel) ha hb he hpl hs
/-- isinstance(e, T) -/
def D.kind : D → Option String
  | .non => some "NoneType" | .bl _ => some "bool" | .int _ => some "int" | .str _ => some "str" | .tup _ => some "tuple" | .lst _ => some "list" | .obj _ _ _ => none
def isK (T : String) (k : String) : Bool := k == T || (T == "int" && k == "bool")
def lIsi (T : String) (p : R) : Option R := match p.pl with
  | some x => x.kind.map fun k => .d (.bl (isK T k))
  | none => none
theorem rep_ty {K : PySem.W.Frag} {mg : Str → Option Value} {H : Hp} {v : V} {d : D} (h : Rep ⟨K, mg⟩ H v d) {k : String} (e : d.kind = some k) : TyX K H v (.type k) := by
  have tup : ∀ {a : Addr} {vs : List V}, SqT K H a vs → TyX K H (.ref a) (.type "tuple") := by
    intro a vs q
    rcases q with (q | ⟨o, q⟩) | ⟨o, its, n, h1, h2, _⟩
    · exact .base (.tup q)
    · exact .fTuple q
    · exact .kTuple h1 h2
  have lst : ∀ {a : Addr} {vs : List V}, SqL K H a vs → TyX K H (.ref a) (.type "list") := by
    intro a vs q
    rcases q with (q | ⟨o, q⟩) | ⟨o, its, n, h1, h2, _⟩
    · exact .base (.lst q)
    · exact .base (.frz q)
    · exact .kList h1 h2
  cases h with
  | non => cases e; exact .base .non
  | bl b => cases e; exact .base (.bl b)
  | int i => cases e; exact .base (.int i)
  | str h => cases e; exact .base (.str _)
  | tup h hl r => cases e; exact tup (.inl (.inl h))
  | lst h hl r => cases e; exact lst h
  | obj hc h hd hn r => cases e
theorem kit_is {K : PySem.W.Frag} {T k : String} (hT : T = "int" ∨ T = "bool" ∨ T = "str" ∨ T = "list" ∨ T = "tuple") {d : D} (e : d.kind = some k) : PySem.W.kitOne K (.type k) (.type T) = some (isK T k) := by
  have hk : k = "NoneType" ∨ k = "bool" ∨ k = "int" ∨ k = "str" ∨ k = "tuple" ∨ k = "list" := by
    cases d <;> simp [D.kind] at e <;> subst e <;> simp
  rcases hT with rfl | rfl | rfl | rfl | rfl <;> rcases hk with rfl | rfl | rfl | rfl | rfl | rfl <;> exact kit_ty (by decide +kernel)
theorem s_isi {T : String} {xT : Str} {pT : Pos} (hT : T = "int" ∨ T = "bool" ∨ T = "str" ∨ T = "list" ∨ T = "tuple") (hg : Gl X "isinstance") (hm : X.mg "isinstance" = none) (hgT : Gl X xT) (hmT : X.mg xT = none) (hvT : bootBuiltins xT = some (.type T)) (ha : SE X W a ma)
    (he : starEach [a, .Name xT pT] X.env = (false, eval a X.env) :: starEach [.Name xT pT] X.env := by rfl) (hn : xT ≠ "__name__" := by decide) (hdb : (xT == ("__debug__" : Str)) = false := by decide) :
    SE X W (.Call (.Name "isinstance" p) [a, .Name xT pT] [] pos) (m1 (lIsi T) ma) :=
  PE.wk (pe_callB call_isi hg hm (by decide +kernel) (pa_cons ha (pa_cons (pe_bltn hgT hmT hvT (v := .ty T) rfl hn hdb) pa_nil rfl) he) (by decide) (by decide) he rfl) fun σ H Q h => (tA_cons (tM_ops h)).imp fun x H1 q => by
    obtain ⟨F, S, rs, fr, rr, sub, hS, rp, nd, e, k⟩ := tA_nil q
    match rs, e, rp with
    | [p], e, rp =>
      obtain ⟨v, ev, h1⟩ := rp.one
      cases ev
      have l : LF (gOf X) (lIsi T p) F H1 S fr Q := ⟨sub, hS, nd, rr, e, k⟩
      have e : lIsi T p = some rr := e
      have e0 := e
      unfold lIsi at e
      split at e
      · next d h2 =>
        cases h3 : d.kind with
        | none => rw [h3] at e; cases e
        | some kd =>
          rw [h3] at e; cases e
          exact ⟨x, .ty T, .type kd, .type T, isK T kd, rfl, .ty T, rep_ty (h1.whole sub h2) h3, kit_is hT h3, l.val e0 (.bl _)⟩
      · cases e
end
end
end Mw

set_option Elab.async false
set_option linter.all false
set_option maxRecDepth 100000
set_option autoImplicit false
namespace Mw
open PySem PySem.Spec PyProof.Rows L2
noncomputable section

section
variable {X : Cx} {W : WX} {pos : Pos} {a b c : Expr} {es : List Expr} {ma mb mc : M} {ms : List M}
/-! ### displays -/
def mLst (ms : List M) : M := mOps ms fun rs => match sts rs with
  | some ds => if lenOk ds.length = true then some (.own (.lst (ds.map O.d))) else none
  | none => none
def mTup (ms : List M) : M := mOps ms fun rs => match sts rs with
  | some ds => if lenOk ds.length = true then some (.d (.tup ds)) else none
  | none => none
theorem s_lst (h : SA X W es ms) : SE X W (.List es pos) (mLst ms) := PE.wk (pe_lst h) fun σ H Q h => (tM_ops h).imp fun vs H1 q => by
  obtain ⟨F, S, rs, fr, rr, sub, hS, rp, nd, e, k⟩ := q
  dsimp only at e
  split at e
  · next ds e1 =>
    split at e
    · next hl =>
      have hl := lenOk_le hl
      cases e
      have r1 := rp.sts e1 (frz_ext sub) fun a ha => frz_mem ha
      have hl' : vs.length ≤ sizeLine := by rw [r1.length, sizeLine_eq]; exact hl
      refine ⟨hl', fun p hp => leaf_lst (S := S) (fr := []) (frz_sub sub) (fun a ha => ⟨(hS a ha).1, ?_⟩) (fun v F' H' fr' l => k v F' H' fr' ((lstep_frz sub).thn l)) r1 hl' hp⟩
      unfold frz
      rw [if_neg fun z => (rp.out a z).2.1 ha]
      exact (hS a ha).2
    · cases e
  · cases e
theorem s_tup {k0 : Nat} (h : SA X W es ms) : SE X W (.Tuple es k0 pos) (mTup ms) := PE.wk (pe_tup h) fun σ H Q h => (tM_ops h).imp fun vs H1 q => by
  obtain ⟨F, S, rs, fr, rr, sub, hS, rp, nd, e, k⟩ := q
  dsimp only at e
  split at e
  · next ds e1 =>
    split at e
    · next hl =>
      have hl := lenOk_le hl
      cases e
      have r1 := rp.sts e1 (frz_ext sub) fun a ha => frz_mem ha
      have hl' : vs.length ≤ sizeLine := by rw [r1.length, sizeLine_eq]; exact hl
      exact ⟨hl', fun p hp => leaf_tup (S := S) (fr := []) (frz_sub sub) (fun v F' H' fr' l => k v F' H' fr' ((lstep_frz sub).thn l)) r1 hl' hp⟩
    · cases e
  · cases e

/-! ### tests -/
def RepB : VRel Bool Bool := fun _ _ _ v b fr => v = b ∧ fr = []
abbrev tB' (g : Wd) (W : WX) (m : MB) : TT := tR g W RepB m
abbrev ST (X : Cx) (W : WX) (e : Expr) (m : MB) : Prop := PT X e (tB' (gOf X) W m)
abbrev SW (X : Cx) (W : WX) (e : Expr) (m : MB) : Prop := PW X e (tB' (gOf X) W m)
def mTest (m : M) : MB := fun ρ => (m ρ).bind fun r ρ' q => match r with
  | .d (.bl b) => .ok b ρ' q
  | _ => .no
theorem tM_test {g : Wd} {m : M} {σ : L2.St} {H : Hp} {Q : Bool → Hp → Prop} (h : tB' g W (mTest m) σ H Q) : tM g W m σ H fun x H1 => ∃ k, x = .bl k ∧ Q k H1 := by
  refine tR.bind h fun F ρ fp st r ρ1 q1 e1 v F1 H1 fp1 fr1 s1 st1 r1 n1 z1 ob => ?_
  cases r with
  | d x =>
    cases x with
    | bl i => exact ⟨i, r1.bl rfl, ob.2.1 i ρ1 q1 rfl i F1 H1 fp1 fr1 (.refl _ _ _) st1 ⟨rfl, r1.2⟩ n1 z1⟩
    | _ => exact absurd rfl ob.1
  | _ => exact absurd rfl ob.1
theorem st_val (h : SE X W a ma) (he : ∀ whole, isTrue a X.env whole = (do let v ← whole; standAt a.pos; holding [v] (truthy v)) := by intro _; rfl) : ST X W a (mTest ma) :=
  PT.wk (pt_val h he) fun σ H Q h => tM_test h
def mAnd (a b : MB) : MB := fun ρ => (a ρ).bind fun x ρ1 q1 => if x = true then (b ρ1).bind fun y ρ2 q2 => .ok y ρ2 (q1 && q2) else .ok false ρ1 q1
def mOr (a b : MB) : MB := fun ρ => (a ρ).bind fun x ρ1 q1 => if x = true then .ok true ρ1 q1 else (b ρ1).bind fun y ρ2 q2 => .ok y ρ2 (q1 && q2)
def mNot (a : MB) : MB := fun ρ => (a ρ).bind fun x ρ1 q1 => .ok (!x) ρ1 q1
/-- the second part behind a first that has given nothing to hold -/
theorem tR.after {α β : Type} {g : Wd} {RR : VRel α β} {b : Ro → Res α} {σ : L2.St} {H H1 F1 : Hp} {ρ ρ1 : Ro} {q1 : Bool} {fp1 : Nat → List Addr} {Q : β → Hp → Prop} (st1 : Stt g F1 H1 σ ρ1 fp1) (z1 : Zq H ρ q1 H1 ρ1)
    (ob : Ob g W σ F1 H1 (Own fp1) (Zq H ρ) RR ((b ρ1).bind fun y ρ2 q2 => .ok y ρ2 (q1 && q2)) Q) : tR g W RR b σ H1 Q := by
  refine ⟨F1, ρ1, fp1, st1, ?_⟩
  refine Ob.bind ob (fun r ρ2 q2 e2 v F2 H2 fp2 fr2 s2 st2 r2 n2 z2 ob2 => ?_) fun H' ρ' z => ⟨z1.1.trans z.1, fun z => nomatch z⟩
  have hm : ∀ {Z : Bool → Hp → Ro → Prop} {S : Addr → Prop}, Ob g W σ F2 H2 S Z RR (Res.ok r ρ2 (q1 && q2)) Q → Step F2 H2 S F2 H2 (Plus (Own fp2) fr2) → Z (q1 && q2) H2 ρ2 → Q v H2 := fun {Z S} ob s z => ob.2.1 r ρ2 (q1 && q2) rfl v F2 H2 fp2 fr2 s st2 r2 n2 z
  exact hm ob2 (.refl _ _ _) ⟨z1.1.trans z2.1, fun hz => by
    have hz := Bool.and_eq_true_iff.mp hz
    exact ⟨(z1.2 hz.1).1.trans (z2.2 hz.2).1, (z2.2 hz.2).2.trans (z1.2 hz.1).2⟩⟩
theorem plus_nil {S : Addr → Prop} : Plus S [] = S := by
  funext x
  exact propext ⟨fun h => Or.elim h id (fun z => nomatch z), fun h => Or.inl h⟩
theorem tB_and {g : Wd} {ta tb : MB} {σ : L2.St} {H : Hp} {Q : Bool → Hp → Prop} (h : tB' g W (mAnd ta tb) σ H Q) : tAnd (tB' g W ta) (tB' g W tb) σ H Q := by
  refine tR.bind h fun F ρ fp st x ρ1 q1 e1 v F1 H1 fp1 fr1 s1 st1 r1 n1 z1 ob => ?_
  obtain ⟨rfl, rfl⟩ := r1
  cases v with
  | true =>
    rw [if_pos rfl] at ob ⊢
    rw [plus_nil] at ob
    exact tR.after st1 z1 ob
  | false =>
    rw [if_neg (by decide)] at ob ⊢
    exact ob.2.1 false ρ1 q1 rfl false F1 H1 fp1 [] (.refl _ _ _) st1 ⟨rfl, rfl⟩ n1 z1
theorem tB_or {g : Wd} {ta tb : MB} {σ : L2.St} {H : Hp} {Q : Bool → Hp → Prop} (h : tB' g W (mOr ta tb) σ H Q) : tOr (tB' g W ta) (tB' g W tb) σ H Q := by
  refine tR.bind h fun F ρ fp st x ρ1 q1 e1 v F1 H1 fp1 fr1 s1 st1 r1 n1 z1 ob => ?_
  obtain ⟨rfl, rfl⟩ := r1
  cases v with
  | true =>
    rw [if_pos rfl] at ob ⊢
    exact ob.2.1 true ρ1 q1 rfl true F1 H1 fp1 [] (.refl _ _ _) st1 ⟨rfl, rfl⟩ n1 z1
  | false =>
    rw [if_neg (by decide)] at ob ⊢
    rw [plus_nil] at ob
    exact tR.after st1 z1 ob
theorem tB_not {g : Wd} {ta : MB} {σ : L2.St} {H : Hp} {Q : Bool → Hp → Prop} (h : tB' g W (mNot ta) σ H Q) : tNot (tB' g W ta) σ H Q := by
  refine tR.bind h fun F ρ fp st x ρ1 q1 e1 v F1 H1 fp1 fr1 s1 st1 r1 n1 z1 ob => ?_
  obtain ⟨rfl, rfl⟩ := r1
  exact ob.2.1 (!v) ρ1 q1 rfl (!v) F1 H1 fp1 [] (.refl _ _ _) st1 ⟨rfl, rfl⟩ n1 z1
variable {ta tb : MB}
theorem sw_and1 (ha : ST X W a ta) : SW X W (.BoolOp .And [a] pos) ta := pw_and1 ha
theorem sw_or1 (ha : ST X W a ta) : SW X W (.BoolOp .Or [a] pos) ta := pw_or1 ha
theorem sw_and (ha : ST X W a ta) (hb : SW X W (.BoolOp .And (b :: es) pos) tb) : SW X W (.BoolOp .And (a :: b :: es) pos) (mAnd ta tb) := PW.wk (pw_and ha hb) fun σ H Q h => tB_and h
theorem sw_or (ha : ST X W a ta) (hb : SW X W (.BoolOp .Or (b :: es) pos) tb) : SW X W (.BoolOp .Or (a :: b :: es) pos) (mOr ta tb) := PW.wk (pw_or ha hb) fun σ H Q h => tB_or h
theorem st_pw (h : SW X W a ta) : ST X W a ta := PW.pt h
theorem st_not (ha : ST X W a ta) : ST X W (.UnaryOp .Not a pos) (mNot ta) := PT.wk (pt_not ha) fun σ H Q h => tB_not h
/-! values of and, or, not -/
def mAndV (a b : M) : M := fun ρ => (a ρ).bind fun x ρ1 q1 => match x with
  | .d (.bl true) => (b ρ1).bind fun y ρ2 q2 => .ok y ρ2 (q1 && q2)
  | .d (.bl false) => .ok (.d (.bl false)) ρ1 q1
  | _ => .no
def mOrV (a b : M) : M := fun ρ => (a ρ).bind fun x ρ1 q1 => match x with
  | .d (.bl false) => (b ρ1).bind fun y ρ2 q2 => .ok y ρ2 (q1 && q2)
  | .d (.bl true) => .ok (.d (.bl true)) ρ1 q1
  | _ => .no
def lNot (p : R) : Option R := match p.pl with
  | some (.bl b) => some (.d (.bl (!b)))
  | _ => none
theorem s_and1 {op : BoolOp} (ha : SE X W a ma) : SE X W (.BoolOp op [a] pos) ma := pe_one ha
theorem s_and (ha : SE X W a ma) (hb : SE X W (.BoolOp .And (b :: es) pos) mb) : SE X W (.BoolOp .And (a :: b :: es) pos) (mAndV ma mb) := PE.wk (pe_and ha hb) fun σ H Q h => by
  refine tR.bind h fun F ρ fp st x ρ1 q1 e1 v F1 H1 fp1 fr1 s1 st1 r1 n1 z1 ob => ?_
  cases x with
  | d x =>
    cases x with
    | bl i =>
      obtain rfl := r1.2
      refine ⟨i, r1.bl rfl, ?_⟩
      cases i with
      | true => rw [if_pos rfl]; rw [plus_nil] at ob; exact tR.after st1 z1 ob
      | false => rw [if_neg (by decide)]; exact ob.2.1 (.d (.bl false)) ρ1 q1 rfl (.bl false) F1 H1 fp1 [] (.refl _ _ _) st1 ⟨.bl _, rfl⟩ n1 z1
    | _ => exact absurd rfl ob.1
  | _ => exact absurd rfl ob.1
theorem s_or (ha : SE X W a ma) (hb : SE X W (.BoolOp .Or (b :: es) pos) mb) : SE X W (.BoolOp .Or (a :: b :: es) pos) (mOrV ma mb) := PE.wk (pe_or ha hb) fun σ H Q h => by
  refine tR.bind h fun F ρ fp st x ρ1 q1 e1 v F1 H1 fp1 fr1 s1 st1 r1 n1 z1 ob => ?_
  cases x with
  | d x =>
    cases x with
    | bl i =>
      obtain rfl := r1.2
      refine ⟨i, r1.bl rfl, ?_⟩
      cases i with
      | false => rw [if_neg (by decide)]; rw [plus_nil] at ob; exact tR.after st1 z1 ob
      | true => rw [if_pos rfl]; exact ob.2.1 (.d (.bl true)) ρ1 q1 rfl (.bl true) F1 H1 fp1 [] (.refl _ _ _) st1 ⟨.bl _, rfl⟩ n1 z1
    | _ => exact absurd rfl ob.1
  | _ => exact absurd rfl ob.1
theorem s_not (ha : SE X W a ma) : SE X W (.UnaryOp .Not a pos) (m1 lNot ma) := PE.wk (pe_not ha) fun σ H Q h => tM_m1 (r := fun x H Q => ∃ c, x = .bl c ∧ Q (.bl (!c)) H) (by
  intro F H S x p fr Q rx l
  obtain ⟨rr, e⟩ := l.has
  have e0 := e
  unfold lNot at e
  split at e
  · next i h1 => cases e; exact ⟨i, rx.bl h1, l.val e0 (.bl _)⟩
  · cases e) h

/-! ## statements -/
end
inductive SRes where
  | nx (ρ : Ro) | rt (r : R) (ρ : Ro) | bk (ρ : Ro) | ct (ρ : Ro) | ex (x : Exc) (ρ : Ro) | no
abbrev MS := Ro → SRes
def Res.stm {α : Type} : Res α → (α → Ro → SRes) → SRes
  | .ok a ρ _, k => k a ρ
  | .ex x ρ, _ => .ex x ρ
  | .no, _ => .no
@[simp] theorem Res.stm_ok {α : Type} (a : α) (ρ : Ro) (q : Bool) (k : α → Ro → SRes) : (Res.ok a ρ q).stm k = k a ρ := rfl
@[simp] theorem Res.stm_ex {α : Type} (x : Exc) (ρ : Ro) (k : α → Ro → SRes) : (Res.ex x ρ : Res α).stm k = .ex x ρ := rfl
@[simp] theorem Res.stm_no {α : Type} (k : α → Ro → SRes) : (Res.no : Res α).stm k = .no := rfl
def SRes.thn : SRes → (Ro → SRes) → SRes
  | .nx ρ, k => k ρ
  | r, _ => r
@[simp] theorem SRes.thn_nx (ρ : Ro) (k : Ro → SRes) : (SRes.nx ρ).thn k = k ρ := rfl
@[simp] theorem SRes.thn_rt (r : R) (ρ : Ro) (k : Ro → SRes) : (SRes.rt r ρ).thn k = .rt r ρ := rfl
@[simp] theorem SRes.thn_bk (ρ : Ro) (k : Ro → SRes) : (SRes.bk ρ).thn k = .bk ρ := rfl
@[simp] theorem SRes.thn_ct (ρ : Ro) (k : Ro → SRes) : (SRes.ct ρ).thn k = .ct ρ := rfl
@[simp] theorem SRes.thn_ex (x : Exc) (ρ : Ro) (k : Ro → SRes) : (SRes.ex x ρ).thn k = .ex x ρ := rfl
@[simp] theorem SRes.thn_no (k : Ro → SRes) : SRes.no.thn k = .no := rfl
/-- a borrowed place stays, at its address -/
def Kbs (ρ : Ro) (σ : L2.St) (ρ' : Ro) (σ' : L2.St) : Prop := ∀ (k : Nat) (o : O), ρ[k]? = some (.mu true o) → (∃ o', ρ'[k]? = some (.mu true o')) ∧ σ'[k]? = σ[k]?
theorem Kbs.refl (ρ : Ro) (σ : L2.St) : Kbs ρ σ ρ σ := fun _ o h => ⟨⟨o, h⟩, rfl⟩
theorem Kbs.trans {a b c : Ro} {s t u : L2.St} (x : Kbs a s b t) (y : Kbs b t c u) : Kbs a s c u := fun k o h => by
  obtain ⟨⟨o', h1⟩, e1⟩ := x k o h
  obtain ⟨h2, e2⟩ := y k o' h1
  exact ⟨h2, e2.trans e1⟩
theorem Kb.s {a b : Ro} {σ : L2.St} (h : Kb a b) : Kbs a σ b σ := fun k o z => ⟨h k o z, rfl⟩
structure ObS (g : Wd) (W : WX) (ρ : Ro) (σ : L2.St) (F H : Hp) (S : Addr → Prop) (res : SRes) (D : Ends) : Prop where
  no : res ≠ .no
  nx : ∀ ρ', res = .nx ρ' → ∀ σ' F' H' fp', Step F H S F' H' (Own fp') → Stt g F' H' σ' ρ' fp' → Kbs ρ σ ρ' σ' → D.nx σ' H'
  bk : ∀ ρ', res = .bk ρ' → ∀ σ' F' H' fp', Step F H S F' H' (Own fp') → Stt g F' H' σ' ρ' fp' → Kbs ρ σ ρ' σ' → D.bk σ' H'
  ct : ∀ ρ', res = .ct ρ' → ∀ σ' F' H' fp', Step F H S F' H' (Own fp') → Stt g F' H' σ' ρ' fp' → Kbs ρ σ ρ' σ' → D.ct σ' H'
  rt : ∀ r ρ', res = .rt r ρ' → ∀ v σ' F' H' fp' fr, Step F H S F' H' (Plus (Own fp') fr) → Stt g F' H' σ' ρ' fp' → RepR g F' H' (Own fp') v r fr → fr.Nodup → Kbs ρ σ ρ' σ' → D.rt v H'
  ex : ∀ x ρ', res = .ex x ρ' → ∀ cls d σ' F' H' fp', Step F H S F' H' (Own fp') → Stt g F' H' σ' ρ' fp' → RepX g F' cls d x → Kbs ρ σ ρ' σ' → W cls d σ' H'
def tS (g : Wd) (W : WX) (m : MS) : TS := fun D σ H => ∃ F ρ fp, Stt g F H σ ρ fp ∧ ObS g W ρ σ F H (Own fp) (m ρ) D
abbrev SS (X : Cx) (W : WX) (st : Stmt) (m : MS) : Prop := PS X st (tS (gOf X) W m)
abbrev SSs (X : Cx) (W : WX) (st : List Stmt) (m : MS) : Prop := PSs X st (tS (gOf X) W m)
theorem ObS.after {g : Wd} {W : WX} {ρ ρ1 : Ro} {σ σ1 : L2.St} {F H F1 H1 : Hp} {S S1 : Addr → Prop} {res : SRes} {D : Ends} (h : ObS g W ρ σ F H S res D) (s : Step F H S F1 H1 S1) (k : Kbs ρ σ ρ1 σ1) : ObS g W ρ1 σ1 F1 H1 S1 res D :=
  ⟨h.no, fun ρ' e σ' F' H' fp' a b c => h.nx ρ' e σ' F' H' fp' (s.trans a) b (k.trans c), fun ρ' e σ' F' H' fp' a b c => h.bk ρ' e σ' F' H' fp' (s.trans a) b (k.trans c),
   fun ρ' e σ' F' H' fp' a b c => h.ct ρ' e σ' F' H' fp' (s.trans a) b (k.trans c), fun r ρ' e v σ' F' H' fp' fr a b c d f => h.rt r ρ' e v σ' F' H' fp' fr (s.trans a) b c d (k.trans f),
   fun x ρ' e cls d σ' F' H' fp' a b c f => h.ex x ρ' e cls d σ' F' H' fp' (s.trans a) b c (k.trans f)⟩
/-- a statement that begins with an expression -/
theorem tS_of {α β : Type} {g : Wd} {W : WX} {RR : VRel α β} {m : Ro → Res α} {k : α → Ro → SRes} {D : Ends} {σ : L2.St} {H : Hp} {Q : β → Hp → Prop} (h : tS g W (fun ρ => (m ρ).stm k) D σ H)
    (i : ∀ r ρ1 v F1 H1 fp1 fr1, Stt g F1 H1 σ ρ1 fp1 → RR F1 H1 (Own fp1) v r fr1 → fr1.Nodup → ObS g W ρ1 σ F1 H1 (Plus (Own fp1) fr1) (k r ρ1) D → Q v H1) : tR g W RR m σ H Q := by
  obtain ⟨F, ρ, fp, st, ob⟩ := h
  have ob : ObS g W ρ σ F H (Own fp) ((m ρ).stm k) D := ob
  refine ⟨F, ρ, fp, st, fun e => ?_, fun r ρ1 q e v F1 H1 fp1 fr1 s1 st1 r1 n1 z1 => ?_, fun x ρ' e cls d F' H' fp' a b c z => ?_⟩
  · rw [e] at ob; exact ob.no rfl
  · rw [e] at ob; exact i r ρ1 v F1 H1 fp1 fr1 st1 r1 n1 (ob.after s1 z1.1.s)
  · rw [e] at ob; exact ob.ex x ρ' rfl cls d σ F' H' fp' a b c z.1.s

section
variable {X : Cx} {W : WX} {pos : Pos} {a b c : Expr} {es : List Expr} {ma mb mc : M} {ms : List M} {st : Stmt} {sts : List Stmt} {m n : MS} {tc : MB}
def mNx : MS := fun ρ => .nx ρ
def mBk : MS := fun ρ => .bk ρ
def mCt : MS := fun ρ => .ct ρ
def mSeq (m n : MS) : MS := fun ρ => (m ρ).thn n
def mRt (m : M) : MS := fun ρ => (m ρ).stm fun r ρ' => .rt r ρ'
def mRtN : MS := fun ρ => .rt (.d .non) ρ
def mIf (c : MB) (m n : MS) : MS := fun ρ => (c ρ).stm fun b ρ' => if b = true then m ρ' else n ρ'
def mDrop (m : M) : MS := fun ρ => (m ρ).stm fun _ ρ' => .nx ρ'
theorem tS_nx {g : Wd} {D : Ends} {σ : L2.St} {H : Hp} (h : tS g W mNx D σ H) : D.nx σ H := by
  obtain ⟨F, ρ, fp, st, ob⟩ := h
  exact ob.nx ρ rfl σ F H fp (.refl _ _ _) st (.refl _ _)
theorem ss_nil : SSs X W [] mNx := PSs.wk pss_nil fun D σ H h => tS_nx h
theorem ss_cons (h1 : SS X W st m) (h2 : SSs X W sts n) : SSs X W (st :: sts) (mSeq m n) := PSs.wk (pss_cons h1 h2) fun D σ H h => by
  obtain ⟨F, ρ, fp, st, ob⟩ := h
  refine ⟨F, ρ, fp, st, ?_⟩
  have ob : ObS (gOf X) W ρ σ F H (Own fp) ((m ρ).thn n) D := ob
  cases e : m ρ with
  | nx ρ1 =>
    rw [e] at ob
    refine ⟨(fun z => nomatch z), fun ρ' q σ' F' H' fp' s1 st1 k1 => ?_, fun ρ' q => (nomatch q), fun ρ' q => (nomatch q), fun r ρ' q => (nomatch q), fun r ρ' q => (nomatch q)⟩
    cases q
    exact ⟨F', ρ1, fp', st1, ob.after s1 k1⟩
  | rt r ρ1 => rw [e] at ob; exact ⟨ob.no, fun ρ' q => (nomatch q), ob.bk, ob.ct, ob.rt, ob.ex⟩
  | bk ρ1 => rw [e] at ob; exact ⟨ob.no, fun ρ' q => (nomatch q), ob.bk, ob.ct, ob.rt, ob.ex⟩
  | ct ρ1 => rw [e] at ob; exact ⟨ob.no, fun ρ' q => (nomatch q), ob.bk, ob.ct, ob.rt, ob.ex⟩
  | ex x ρ1 => rw [e] at ob; exact ⟨ob.no, fun ρ' q => (nomatch q), ob.bk, ob.ct, ob.rt, ob.ex⟩
  | no => rw [e] at ob; exact absurd rfl ob.no
theorem ss_one (h1 : SS X W st m) : SSs X W [st] m := pss_one h1
theorem ss_pass : SS X W (.Pass pos) mNx := PS.wk ps_pass fun D σ H h => tS_nx h
theorem ss_doc {x : Str} {j : Nat} {pos' : Pos} : SS X W (.Expr (.Constant (.str x) j pos) pos') mNx := PS.wk ps_doc fun D σ H h => tS_nx h
theorem ss_break : SS X W (.Break pos) mBk := PS.wk ps_break fun D σ H ⟨F, ρ, fp, st, ob⟩ => ob.bk ρ rfl σ F H fp (.refl _ _ _) st (.refl _ _)
theorem ss_continue : SS X W (.Continue pos) mCt := PS.wk ps_continue fun D σ H ⟨F, ρ, fp, st, ob⟩ => ob.ct ρ rfl σ F H fp (.refl _ _ _) st (.refl _ _)
theorem ss_ret (h : SE X W a ma) : SS X W (.Return (some a) pos) (mRt ma) := PS.wk (ps_ret h) fun D σ H h =>
  tS_of h fun r ρ1 v F1 H1 fp1 fr1 st1 r1 n1 ob => ob.rt r ρ1 rfl v σ F1 H1 fp1 fr1 (.refl _ _ _) st1 r1 n1 (.refl _ _)
theorem ss_retN : SS X W (.Return none pos) mRtN := PS.wk ps_retN fun D σ H ⟨F, ρ, fp, st, ob⟩ => ob.rt (.d .non) ρ rfl .non σ F H fp [] (by rw [plus_nil]; exact .refl _ _ _) st ⟨.non, rfl⟩ List.nodup_nil (.refl _ _)
theorem ss_if {sa sb : List Stmt} (hc : ST X W a tc) (h1 : SSs X W sa m) (h2 : SSs X W sb n) : SS X W (.If a sa sb pos) (mIf tc m n) := PS.wk (ps_if hc h1 h2) fun D σ H h =>
  tS_of h fun r ρ1 v F1 H1 fp1 fr1 st1 r1 n1 ob => by
    obtain ⟨rfl, rfl⟩ := r1
    rw [plus_nil] at ob
    cases v with
    | true => rw [if_pos rfl] at ob ⊢; exact ⟨F1, ρ1, fp1, st1, ob⟩
    | false => rw [if_neg (by decide)] at ob ⊢; exact ⟨F1, ρ1, fp1, st1, ob⟩
theorem ss_expr (h : SE X W a ma) (hs : swapsWith a none pos.line X.env = pure false := by rfl) : SS X W (.Expr a pos) (mDrop ma) := PS.wk (ps_expr h hs) fun D σ H h =>
  tS_of h fun r ρ1 v F1 H1 fp1 fr1 st1 r1 n1 ob => ob.nx ρ1 rfl σ F1 H1 fp1 ((Step.refl _ _ _).weak fun x z => .inl z) st1 (.refl _ _)
end
end
end Mw

set_option Elab.async false
set_option linter.all false
set_option maxRecDepth 100000
set_option autoImplicit false
namespace Mw
open PySem PySem.Spec PyProof.Rows L2
noncomputable section

/-! ### storing into a place -/
def SlOk (g : Wd) (F H : Hp) (v : V) (s : Slo) (f : List Addr) : Prop := match s with
  | .un => f = []
  | .shr d => Rep g F v d ∧ f = []
  | .mu _ o => RepO g F H v o f
theorem set_get {α : Type} {l : List α} {i j : Nat} {x y : α} (h : (l.set i x)[j]? = some y) : (i = j ∧ y = x ∧ i < l.length) ∨ (i ≠ j ∧ l[j]? = some y) := by
  rw [List.getElem?_set] at h
  split at h
  · next e =>
    split at h
    · cases h; exact .inl ⟨e, rfl, by omega⟩
    · cases h
  · next e => exact .inr ⟨e, h⟩
theorem Stt.put {g : Wd} {F H : Hp} {σ : L2.St} {ρ : Ro} {fp : Nat → List Addr} (st : Stt g F H σ ρ fp) {v : V} {s : Slo} {f : List Addr} (i : Nat) (h : SlOk g F H v s f) (nd : f.Nodup) (out : ∀ a ∈ f, F a = none ∧ ¬ Own fp a) :
    ∃ fp', Stt g F H (σ.set i (some v)) (ρ.set i s) fp' ∧ ∀ a, Own fp' a → Plus (Own fp) f a := by
  by_cases hi : i < ρ.length
  · have hi' : i < σ.length := by rw [st.len]; exact hi
    have hs : ∀ {w : Option V}, (σ.set i w)[i]? = some w := fun {w} => by rw [List.getElem?_set]; simp [hi']
    have hn : ∀ {j : Nat} {w : Option V}, i ≠ j → (σ.set i w)[j]? = σ[j]? := fun {j w} e => by rw [List.getElem?_set, if_neg e]
    have sl : ∀ b o, s = .mu b o → RepO g F H v o f := fun b o e => by subst e; exact h
    refine ⟨fun k => if k = i then f else fp k, ⟨st.sub, by simp [st.len], fun j hj => ?_, fun j d hd => ?_, fun j b o ho => ?_, fun j => ?_, fun j k a ha hb => ?_, fun j a ha => ?_⟩, fun a ⟨j, ha⟩ => ?_⟩
    · try dsimp only
      split
      · next e =>
        subst e
        cases s with
        | un => exact h
        | shr d => exact h.2
        | mu b o => exact absurd (by rw [List.getElem?_set]; simp [hi]) (hj b o)
      · next e => exact st.un j fun b o z => hj b o (by rw [List.getElem?_set, if_neg fun z => e z.symm]; exact z)
    · rcases set_get hd with ⟨rfl, rfl, _⟩ | ⟨ne, hd⟩
      · exact ⟨v, hs, h.1⟩
      · rw [hn ne]; exact st.shr j d hd
    · rcases set_get ho with ⟨rfl, e, _⟩ | ⟨ne, ho⟩
      · (try dsimp only); rw [if_pos rfl]; exact ⟨v, hs, sl b o e.symm⟩
      · (try dsimp only); rw [if_neg fun z => ne z.symm, hn ne]; exact st.mu j b o ho
    · (try dsimp only); split
      · exact nd
      · exact st.nd j
    · try dsimp only at ha hb
      split at ha <;> split at hb
      · next e1 e2 => exact e1.trans e2.symm
      · exact absurd ⟨k, hb⟩ (out a ha).2
      · exact absurd ⟨j, ha⟩ (out a hb).2
      · exact st.dis j k a ha hb
    · try dsimp only at ha
      split at ha
      · exact (out a ha).1
      · exact st.fre j a ha
    · try dsimp only at ha
      split at ha
      · exact .inr ha
      · exact .inl ⟨j, ha⟩
  · have e1 : ρ.set i s = ρ := List.set_eq_of_length_le (by omega)
    have e2 : σ.set i (some v) = σ := List.set_eq_of_length_le (by rw [st.len]; omega)
    rw [e1, e2]
    exact ⟨fp, st, fun a h => .inl h⟩
/-- a place is given up -/
theorem Stt.drop {g : Wd} {F H : Hp} {σ : L2.St} {ρ : Ro} {fp : Nat → List Addr} (st : Stt g F H σ ρ fp) (i : Nat) :
    ∃ fp', Stt g F H σ (ρ.set i .un) fp' ∧ (∀ a, Own fp' a → Own fp a) ∧ (i < ρ.length → ∀ a ∈ fp i, ¬ Own fp' a) := by
  refine ⟨fun k => if k = i then [] else fp k, ⟨st.sub, by simp [st.len], fun j hj => ?_, fun j d hd => ?_, fun j b o ho => ?_, fun j => ?_, fun j k a ha hb => ?_, fun j a ha => ?_⟩, fun a ⟨j, ha⟩ => ?_, fun hi a ha ⟨j, hb⟩ => ?_⟩
  · try dsimp only
    split
    · rfl
    · next e => exact st.un j fun b o z => hj b o (by rw [List.getElem?_set, if_neg fun z => e z.symm]; exact z)
  · rcases set_get hd with ⟨rfl, z, _⟩ | ⟨ne, hd⟩
    · cases z
    · exact st.shr j d hd
  · rcases set_get ho with ⟨rfl, e, _⟩ | ⟨ne, ho⟩
    · cases e
    · (try dsimp only); rw [if_neg fun z => ne z.symm]; exact st.mu j b o ho
  · (try dsimp only); split
    · exact List.nodup_nil
    · exact st.nd j
  · try dsimp only at ha hb
    split at ha <;> split at hb
    · cases ha
    · cases ha
    · cases hb
    · exact st.dis j k a ha hb
  · try dsimp only at ha
    split at ha
    · cases ha
    · exact st.fre j a ha
  · try dsimp only at ha
    split at ha
    · cases ha
    · exact ⟨j, ha⟩
  · try dsimp only at hb
    split at hb
    · cases hb
    · next e => exact e (st.dis j i a hb ha)
/-- the place i holds a borrowed thing -/
def isBor (ρ : Ro) (i : Nat) : Bool := match ρ[i]? with
  | some (.mu true _) => true
  | _ => false
theorem Kbs.set {ρ : Ro} {σ : L2.St} {i : Nat} (h : isBor ρ i = false) (s : Slo) (w : Option V) : Kbs ρ σ (ρ.set i s) (σ.set i w) := fun k o e => by
  by_cases hk : i = k
  · subst hk
    unfold isBor at h
    rw [e] at h; cases h
  · exact ⟨⟨o, by rw [List.getElem?_set, if_neg hk]; exact e⟩, by rw [List.getElem?_set, if_neg hk]⟩
theorem Kb.set {ρ : Ro} {i : Nat} (h : isBor ρ i = false) (s : Slo) : Kb ρ (ρ.set i s) := fun k o e => by
  by_cases hk : i = k
  · subst hk
    unfold isBor at h
    rw [e] at h; cases h
  · exact ⟨o, by rw [List.getElem?_set, if_neg hk]; exact e⟩
def R.slo : R → Option Slo
  | .d x => some (.shr x)
  | .own o => some (.mu false o)
  | .pk _ => none
@[simp] theorem R.slo_d (x : D) : (R.d x).slo = some (.shr x) := rfl
@[simp] theorem R.slo_own (o : O) : (R.own o).slo = some (.mu false o) := rfl
theorem RepR.slo {g : Wd} {F H : Hp} {S : Addr → Prop} {v : V} {r : R} {fr : List Addr} (h : RepR g F H S v r fr) {s : Slo} (e : r.slo = some s) : SlOk g F H v s fr := by
  cases r with
  | d x => cases e; exact h
  | own o => cases e; exact h.1
  | pk o => cases e
/-- name = e -/
def mSet (i : Nat) (m : M) : MS := fun ρ => (m ρ).stm fun r ρ' => if isBor ρ' i = true then .no else match r.slo with
  | some s => .nx (ρ'.set i s)
  | none => .no
theorem tS_set {g : Wd} {W : WX} {i : Nat} {m : M} {D : Ends} {σ : L2.St} {H : Hp} (h : tS g W (mSet i m) D σ H) : tM g W m σ H fun x H1 => D.nx (σ.set i (some x)) H1 := by
  refine tS_of h fun r ρ1 v F1 H1 fp1 fr1 st1 r1 n1 ob => ?_
  by_cases hb : isBor ρ1 i = true
  · rw [if_pos hb] at ob; exact absurd rfl ob.no
  · rw [if_neg hb] at ob
    cases e : r.slo with
    | none => rw [e] at ob; exact absurd rfl ob.no
    | some s =>
      rw [e] at ob
      obtain ⟨fp', st', k⟩ := st1.put i (r1.slo e) n1 fun a ha => ⟨(r1.out a ha).1, (r1.out a ha).2.1⟩
      exact ob.nx _ rfl _ F1 H1 fp' ((Step.refl _ _ _).weak k) st' (.set (by simpa using hb) _ _)
section
variable {X : Cx} {W : WX} {pos : Pos} {a b c tg : Expr} {es : List Expr} {ma mb mc : M} {ms : List M} {st : Stmt} {sts : List Stmt} {m n : MS} {tc : MB}
theorem ss_set {i : Nat} {x : Str} {pos' : Pos} (hN : X.N.Nodup) (hi : X.N[i]? = some x) (hx : Loc X.env.scope x) (ha : SE X W a ma) (hs : swapsWith a (some (.Name x pos')) pos.line X.env = pure false := by rfl) (hf : X.fn x = true ∨ X.env.scope.names.lookup x = some .local := by first | exact .inl rfl | exact .inr rfl) :
    SS X W (.Assign [.Name x pos'] a pos) (mSet i ma) := PS.wk (ps_set hN hi hx ha hs hf) fun D σ H h => tS_set h
/-- name += e -/
def lAddP (p q : R) : Option R := match p.pl, q.pl with
  | some (.int i), some (.int j) => some (.d (.int (i + j)))
  | some (.str s), some (.str t) => if lenOk (s.length + t.length) = true then some (.d (.str (s ++ t))) else none
  | _, _ => none
def rAddP : R2 := fun x y H Q => (rI0 fun i j => .int (i + j)) x y H Q ∨ (fun x y H Q => ∃ i j, x = .str i ∧ y = .str j ∧ i.length + j.length ≤ sizeLine ∧ Q (.str (i ++ j)) H) x y H Q
theorem l_addP : LOk2 (gOf X) lAddP rAddP := by
  intro F H S x y p q f1 f2 Q rx ry l
  obtain ⟨rr, e⟩ := l.has
  have e0 := e
  unfold lAddP at e
  split at e
  · next i j e1 e2 => cases e; exact .inl ⟨i, j, rx.int e1, ry.int e2, l.val e0 (.int _)⟩
  · next s t e1 e2 =>
    split at e
    · next hl =>
      have hl := lenOk_le hl
      cases e
      obtain ⟨rfl, h1⟩ := rx.str e1
      obtain ⟨rfl, h2⟩ := ry.str e2
      rw [← sizeLine_eq] at hl
      refine .inr ⟨_, _, rfl, rfl, by rw [str_len, str_len]; exact hl, ?_⟩
      rw [str_app]
      exact l.val e0 (.str (by rw [List.length_append]; exact hl))
    · cases e
  · cases e
def mAug (i : Nat) (m : M) : MS := mSet i (m2 lAddP (nm i) m)
theorem ss_aug {i : Nat} {x : Str} {pos' : Pos} (hN : X.N.Nodup) (hi : X.N[i]? = some x) (hx : Loc X.env.scope x) (ha : SE X W a ma) (hf : X.fn x = true ∨ X.env.scope.names.lookup x = some .local := by first | exact .inl rfl | exact .inr rfl) :
    SS X W (.AugAssign (.Name x pos') .Add a pos) (mAug i ma) := PS.wk (ps_aug (ti := rAddP) hN hi hx ha (fun pins s σ H x y v u Q I rx ry q => (iop_add.or iop_add_str) pins s σ H x y v u Q I rx ry q) hf) fun D σ H h => tM_nm (tM_m2 l_addP (tS_set h))

/-! ### targets -/
end
inductive Tg where
  | nm (i : Nat) | tup (ts : List Tg)
mutual
def asg : Tg → D → Ro → Option Ro
  | .nm i, x, ρ => if isBor ρ i = true then none else some (ρ.set i (.shr x))
  | .tup ts, .tup xs, ρ => asgs ts xs ρ
  | .tup _, _, _ => none
def asgs : List Tg → List D → Ro → Option Ro
  | [], [], ρ => some ρ
  | t :: ts, x :: xs, ρ => match asg t x ρ with
    | some ρ' => asgs ts xs ρ'
    | none => none
  | _, _, _ => none
end
theorem asgs_len : ∀ {ts : List Tg} {xs : List D} {ρ ρ' : Ro}, asgs ts xs ρ = some ρ' → ts.length = xs.length
  | [], [], _, _, _ => rfl
  | t :: ts, x :: xs, ρ, ρ', h => by
    unfold asgs at h
    split at h
    · rw [List.length_cons, List.length_cons, asgs_len h]
    · cases h
  | [], _ :: _, _, _, h => by simp [asgs] at h
  | _ :: _, [], _, _, h => by simp [asgs] at h
mutual
def Tg.slots : Tg → List Nat
  | .nm i => [i]
  | .tup ts => slotsL ts
def slotsL : List Tg → List Nat
  | [] => []
  | t :: ts => t.slots ++ slotsL ts
end
def Onl (l : List Nat) (σ σ' : L2.St) : Prop := σ'.length = σ.length ∧ ∀ j, j ∉ l → σ'[j]? = σ[j]?
theorem Onl.refl (l : List Nat) (σ : L2.St) : Onl l σ σ := ⟨rfl, fun _ _ => rfl⟩
theorem Onl.trans {l l' : List Nat} {a b c : L2.St} (x : Onl l a b) (y : Onl l' b c) : Onl (l ++ l') a c := ⟨y.1.trans x.1, fun j h => (y.2 j fun z => h (List.mem_append_right _ z)).trans (x.2 j fun z => h (List.mem_append_left _ z))⟩
def tG (g : Wd) (t : Tg) : TG := fun v σ H Q => ∃ F ρ fp x ρ', Stt g F H σ ρ fp ∧ Rep g F v x ∧ asg t x ρ = some ρ' ∧ ∀ σ' fp', Stt g F H σ' ρ' fp' → (∀ a, Own fp' a → Own fp a) → Kbs ρ σ ρ' σ' → Onl t.slots σ σ' → Q σ' H
def tGs (g : Wd) (ts : List Tg) : TGs := fun vs σ H Q => ∃ F ρ fp xs ρ', Stt g F H σ ρ fp ∧ Reps g F vs xs ∧ asgs ts xs ρ = some ρ' ∧ ∀ σ' fp', Stt g F H σ' ρ' fp' → (∀ a, Own fp' a → Own fp a) → Kbs ρ σ ρ' σ' → Onl (slotsL ts) σ σ' → Q σ' H
abbrev SG (X : Cx) (e : Expr) (t : Tg) : Prop := PG X e (tG (gOf X) t)
abbrev SGs (X : Cx) (e : List Expr) (ts : List Tg) : Prop := PGs X e (tGs (gOf X) ts)
theorem PG.wk {X : Cx} {e : Expr} {t t' : TG} (h : PG X e t) (i : ∀ v σ H Q, t' v σ H Q → t v σ H Q) : PG X e t' := ⟨fun pins s σ H v u Q I r q => h.run pins s σ H v u Q I r (i v σ H Q q)⟩
theorem PGs.wk {X : Cx} {e : List Expr} {t t' : TGs} (h : PGs X e t) (i : ∀ v σ H Q, t' v σ H Q → t v σ H Q) : PGs X e t' := ⟨fun pins s σ H v u Q I r q => h.run pins s σ H v u Q I r (i v σ H Q q)⟩
section
variable {X : Cx} {W : WX} {pos : Pos} {a b c tg : Expr} {es : List Expr} {ma mb mc : M} {ms : List M} {st : Stmt} {sts : List Stmt} {m n : MS} {tc : MB} {t : Tg} {ts : List Tg}
theorem sg_nm {i : Nat} {x : Str} (hN : X.N.Nodup) (hi : X.N[i]? = some x) (hx : Loc X.env.scope x) (hf : X.fn x = true ∨ X.env.scope.names.lookup x = some .local := by first | exact .inl rfl | exact .inr rfl) : SG X (.Name x pos) (.nm i) :=
  PG.wk (pg_name hN hi hx hf) fun v σ H Q h => by
    obtain ⟨F, ρ, fp, x, ρ', st, r, e, k⟩ := h
    unfold asg at e
    split at e
    · cases e
    · next hb =>
      cases e
      obtain ⟨fp', st', k'⟩ := st.put i (s := .shr x) (f := []) ⟨r, rfl⟩ List.nodup_nil fun a ha => nomatch ha
      exact k _ fp' st' (fun a ha => (k' a ha).elim id fun z => nomatch z) (.set (by simpa using hb) _ _) ⟨by simp, fun j hj => by rw [List.getElem?_set, if_neg fun z => hj (by simp [Tg.slots, z])]⟩
theorem sgs_nil : SGs X [] [] := PGs.wk pgs_nil fun v σ H Q h => by
  obtain ⟨F, ρ, fp, xs, ρ', st, r, e, k⟩ := h
  cases r with
  | nil => simp [asgs] at e; subst e; exact ⟨rfl, k σ fp st (fun _ h => h) (.refl _ _) (.refl _ _)⟩
  | cons => simp [asgs] at e
theorem sgs_cons (h1 : SG X a t) (h2 : SGs X es ts) (hs : (assignEach (a :: es) X.env).map (·.2) = assign a X.env :: (assignEach es X.env).map (·.2) := by rfl) : SGs X (a :: es) (t :: ts) := PGs.wk (pgs_cons h1 h2 hs) fun v σ H Q h => by
  obtain ⟨F, ρ, fp, xs, ρ', st, r, e, k⟩ := h
  cases r with
  | nil => simp [asgs] at e
  | @cons v vs d ds r rs =>
    unfold asgs at e
    split at e
    · next ρ1 e1 => exact ⟨v, vs, rfl, F, ρ, fp, d, ρ1, st, r, e1, fun σ1 fp1 st1 o1 k1 n1 => ⟨F, ρ1, fp1, ds, ρ', st1, rs, e, fun σ' fp' st' o' k' n' => k σ' fp' st' (fun a h => o1 a (o' a h)) (k1.trans k') (n1.trans n')⟩⟩
    · cases e
theorem sg_tup {k : Nat} {n : Nat} (hc : X.calm = true) (h : SGs X es ts) (hn : (assignEach es X.env).length = n := by rfl) (hst : (assignEach es X.env).findIdx? (·.1) = none := by rfl) (hl : ts.length = n := by rfl) : SG X (.Tuple es k pos) (.tup ts) :=
  PG.wk (pg_tup hc h hn hst) fun v σ H Q h => by
    obtain ⟨F, ρ, fp, x, ρ', st, r, e, q⟩ := h
    cases x with
    | tup xs =>
      cases r with
      | tup h1 hl1 rs =>
        have e : asgs ts xs ρ = some ρ' := by unfold asg at e; exact e
        exact ⟨_, _, rfl, st.sub.sqT (.inl (.inl h1)), by rw [rs.length, ← asgs_len e]; exact hl, F, ρ, fp, xs, ρ', st, rs, e, q⟩
    | _ => simp [asg] at e
/-- target = e -/
def mAsg (t : Tg) (m : M) : MS := fun ρ => (m ρ).stm fun r ρ' => match r with
  | .d x => match asg t x ρ' with
    | some ρ2 => .nx ρ2
    | none => .no
  | _ => .no
theorem ss_asg (ha : SE X W a ma) (hg : SG X tg t) (hs : swapsWithSole [tg] a pos.line X.env = pure false := by rfl) (hw : swappedStores [tg] a X.env = pure none := by rfl) (h1 : (assignEach [tg] X.env).map (·.2) = [assign tg X.env] := by rfl) : SS X W (.Assign [tg] a pos) (mAsg t ma) :=
  PS.wk (ps_asg ha hg hs hw h1) fun D σ H h => tS_of h fun r ρ1 v F1 H1 fp1 fr1 st1 r1 n1 ob => by
    cases r with
    | d x =>
      obtain ⟨r1, rfl⟩ := r1
      rw [plus_nil] at ob
      dsimp only at ob
      cases e : asg t x ρ1 with
      | none => rw [e] at ob; exact absurd rfl ob.no
      | some ρ2 =>
        rw [e] at ob
        exact ⟨F1, ρ1, fp1, x, ρ2, st1, r1, e, fun σ' fp' st' o' k' _ => ob.nx ρ2 rfl σ' F1 H1 fp' ((Step.refl _ _ _).weak o') st' k'⟩
    | _ => exact absurd rfl ob.no

/-! ### what a loop walks -/
end
def Yields (g : Wd) (F : Hp) (J : It) (xs : List D) : Prop := ∀ (i : Nat) (F2 H2 : Hp), Ext F F2 → Ext F2 H2 → (i = xs.length → J.stop i H2) ∧ (∀ d, xs[i]? = some d → J.go i H2 ∧ ∀ x H3, J.yld i H2 x H3 → ∃ F3, Ext F3 H3 ∧ Ext F2 F3 ∧ Ext H2 H3 ∧ (∀ a o, F3 a = some o → F2 a = some o ∨ H2 a = none) ∧ Rep g F3 x d)
theorem Yields.mono {g : Wd} {F F' : Hp} {J : It} {xs : List D} (y : Yields g F J xs) (e : Ext F F') : Yields g F' J xs := fun i F2 H2 e1 e2 => y i F2 H2 (e.trans e1) e2
def RepI (g : Wd) : VRel (List D) It := fun F H S J xs fr => Yields g F J xs ∧ fr = []
abbrev MI := Ro → Res (List D)
abbrev tI (g : Wd) (W : WX) (m : MI) : TI := tR g W (RepI g) m
abbrev SI (X : Cx) (W : WX) (tg e : Expr) (m : MI) : Prop := PI X tg e (tI (gOf X) W m)
theorem PI.wk {X : Cx} {tg e : Expr} {t t' : TI} (h : PI X tg e t) (i : ∀ σ H Q, t' σ H Q → t σ H Q) : PI X tg e t' := ⟨fun pins s σ H Q I q => h.run pins s σ H Q I (i σ H Q q)⟩
def forGoR (t : Tg) (b : MS) : List D → MS
  | [], ρ => .nx ρ
  | x :: xs, ρ => match asg t x ρ with
    | none => .no
    | some ρ1 => match b ρ1 with
      | .nx ρ2 => forGoR t b xs ρ2
      | .ct ρ2 => forGoR t b xs ρ2
      | .bk ρ2 => .nx ρ2
      | r => r
def forGo : Tg → MS → List D → MS := hide forGoR
theorem forGo_nil (t : Tg) (b : MS) (ρ : Ro) : forGo t b [] ρ = .nx ρ := by unfold forGo; rw [hide_eq]; rfl
theorem forGo_cons (t : Tg) (b : MS) (x : D) (xs : List D) (ρ : Ro) : forGo t b (x :: xs) ρ = match asg t x ρ with
    | none => .no
    | some ρ1 => (match b ρ1 with
      | .nx ρ2 => forGo t b xs ρ2
      | .ct ρ2 => forGo t b xs ρ2
      | .bk ρ2 => .nx ρ2
      | r => r) := by unfold forGo; rw [hide_eq]; rfl
def mFor (it : MI) (t : Tg) (b : MS) : MS := fun ρ => (it ρ).stm fun xs ρ' => forGo t b xs ρ'
def whGo (c : MB) (b : MS) : Nat → MS
  | 0, _ => .no
  | n + 1, ρ => (c ρ).stm fun x ρ1 => if x = true then (match b ρ1 with
      | .nx ρ2 => whGo c b n ρ2
      | .ct ρ2 => whGo c b n ρ2
      | .bk ρ2 => .nx ρ2
      | r => r) else .nx ρ1
open Classical in
def mWhile (c : MB) (b : MS) : MS := fun ρ => if h : ∃ n, whGo c b n ρ ≠ .no then whGo c b (Classical.choose h) ρ else .no
theorem whGo_more (c : MB) (b : MS) : ∀ (n : Nat) (ρ : Ro), whGo c b n ρ ≠ .no → whGo c b (n + 1) ρ = whGo c b n ρ
  | 0, ρ, h => absurd rfl h
  | n + 1, ρ, h => by
    rw [whGo] at h
    rw [whGo, whGo]
    cases e : c ρ with
    | no => rfl
    | ex x ρ1 => rfl
    | ok x ρ1 q =>
      rw [e] at h
      simp only [Res.stm_ok] at h ⊢
      cases x with
      | false => rfl
      | true =>
        rw [if_pos rfl] at h ⊢
        rw [if_pos rfl]
        cases e2 : b ρ1 with
        | nx ρ2 => rw [e2] at h; exact whGo_more c b n ρ2 h
        | ct ρ2 => rw [e2] at h; exact whGo_more c b n ρ2 h
        | _ => rfl
theorem whGo_le (c : MB) (b : MS) {n k : Nat} {ρ : Ro} (h : whGo c b n ρ ≠ .no) : whGo c b (n + k) ρ = whGo c b n ρ := by
  induction k with
  | zero => rfl
  | succ k ih => rw [← Nat.add_assoc, whGo_more c b (n + k) ρ (by rw [ih]; exact h), ih]
theorem mWhile_eq {c : MB} {b : MS} {n : Nat} {ρ : Ro} {r : SRes} (e : whGo c b n ρ = r) (h : r ≠ .no) : mWhile c b ρ = r := by
  have hx : ∃ n, whGo c b n ρ ≠ .no := ⟨n, by rw [e]; exact h⟩
  unfold mWhile
  rw [dif_pos hx]
  have h2 := Classical.choose_spec hx
  have a1 := whGo_le c b (k := Classical.choose hx) (n := n) (ρ := ρ) (by rw [e]; exact h)
  have a2 := whGo_le c b (k := n) h2
  rw [Nat.add_comm] at a2
  rw [← a2, a1, e]
section
variable {X : Cx} {W : WX} {pos : Pos} {a b c tg : Expr} {es : List Expr} {ma mb mc : M} {ms : List M} {st : Stmt} {sts : List Stmt} {m n : MS} {tc : MB} {t : Tg} {ts : List Tg} {mi : MI}
theorem ss_for (hp : PassesOwn (model X.prog X.w) X.A X.env X.xe) (hc : X.calm = true) (hi : SI X W tg a mi) (hg : SG X tg t) (hb : SSs X W sts m) (hs : ∀ x, foldedSetIterable a X.env x = pure x := by intro _; rfl) : SS X W (.For tg a sts [] pos) (mFor mi t m) :=
  PS.wk (ps_for hp hc hi hg hb hs) fun D σ H h => tS_of h fun xs ρ1 J F1 H1 fp1 fr1 st1 r1 n1 ob => by
    obtain ⟨yl, rfl⟩ := r1
    rw [plus_nil] at ob
    refine ⟨fun i k σ' H' => i ≤ xs.length ∧ k = xs.length - i ∧ ∃ F ρ fp, Stt (gOf X) F H' σ' ρ fp ∧ Ext F1 F ∧ ObS (gOf X) W ρ σ' F H' (Own fp) (forGo t m (xs.drop i) ρ) D, ⟨xs.length, Nat.zero_le _, rfl, F1, ρ1, fp1, st1, .refl _, ob⟩, fun i k σ2 H2 hw => ?_⟩
    obtain ⟨hi, rfl, F, ρ, fp, stt, ex, ob2⟩ := hw
    have Y := yl i F H2 ex stt.sub
    by_cases hl : i < xs.length
    · obtain ⟨d, hd⟩ : ∃ d, xs[i]? = some d := ⟨xs[i], List.getElem?_eq_getElem hl⟩
      have hdr : xs.drop i = d :: xs.drop (i + 1) := by
        rw [List.getElem?_eq_getElem hl] at hd
        cases hd
        exact (List.drop_eq_getElem_cons hl)
      rw [hdr] at ob2
      obtain ⟨go, yy⟩ := Y.2 d hd
      refine .inr ⟨go, fun σ' H' => i + 1 ≤ xs.length ∧ ∃ F ρ fp, Stt (gOf X) F H' σ' ρ fp ∧ Ext F1 F ∧ ObS (gOf X) W ρ σ' F H' (Own fp) (forGo t m (xs.drop (i + 1)) ρ) D, fun σ' H' hN => ⟨xs.length - (i + 1), by omega, hN.1, rfl, hN.2⟩, fun x H3 hy => ?_⟩
      obtain ⟨F3, s3, e3, eh3, n3, r3⟩ := yy x H3 hy
      have own3 : ∀ a, Own fp a → F3 a = none := fun a ha => by
        cases q : F3 a with
        | none => rfl
        | some u =>
          rcases n3 a u q with z | z
          · rw [(stt.there ha).2] at z; cases z
          · exact absurd z (stt.there ha).1
      have st3 := stt.grown e3 eh3 s3 own3
      have step3 : Step F H2 (Own fp) F3 H3 (Own fp) := ⟨e3, fun a o _ h => eh3 a o h, fun a o h => (n3 a o h).imp id fun z => .inr (.inl z), fun a h => .inl h⟩
      have ob3 := ob2.after step3 (.refl ρ σ2)
      cases e : asg t d ρ with
      | none => rw [forGo_cons, e] at ob3; exact absurd rfl ob3.no
      | some ρ4 =>
        rw [forGo_cons, e] at ob3
        dsimp only at ob3
        refine ⟨F3, ρ, fp, d, ρ4, st3, r3, e, fun σ4 fp4 st4 o4 k4 _ => ⟨F3, ρ4, fp4, st4, ?_⟩⟩
        have ob4 := ob3.after ((Step.refl F3 H3 (Own fp)).weak o4) k4
        have next : ∀ ρ5 σ5 F5 H5 fp5, ObS (gOf X) W ρ4 σ4 F3 H3 (Own fp4) (forGo t m (xs.drop (i + 1)) ρ5) D → Step F3 H3 (Own fp4) F5 H5 (Own fp5) → Stt (gOf X) F5 H5 σ5 ρ5 fp5 → Kbs ρ4 σ4 ρ5 σ5 → i + 1 ≤ xs.length ∧ ∃ F ρ fp, Stt (gOf X) F H5 σ5 ρ fp ∧ Ext F1 F ∧ ObS (gOf X) W ρ σ5 F H5 (Own fp) (forGo t m (xs.drop (i + 1)) ρ) D :=
          fun ρ5 σ5 F5 H5 fp5 o s st5 k => ⟨hl, F5, ρ5, fp5, st5, (ex.trans e3).trans s.ext, o.after s k⟩
        cases e5 : m ρ4 with
        | nx ρ5 =>
          rw [e5] at ob4
          exact ⟨fun z => (nomatch z), fun ρ' q σ' F' H' fp' s' st' k' => by cases q; exact next _ _ _ _ _ ob4 s' st' k', fun ρ' q => (nomatch q), fun ρ' q => (nomatch q), fun r ρ' q => (nomatch q), fun r ρ' q => (nomatch q)⟩
        | ct ρ5 =>
          rw [e5] at ob4
          exact ⟨fun z => (nomatch z), fun ρ' q => (nomatch q), fun ρ' q => (nomatch q), fun ρ' q σ' F' H' fp' s' st' k' => by cases q; exact next _ _ _ _ _ ob4 s' st' k', fun r ρ' q => (nomatch q), fun r ρ' q => (nomatch q)⟩
        | bk ρ5 =>
          rw [e5] at ob4
          exact ⟨fun z => (nomatch z), fun ρ' q => (nomatch q), fun ρ' q σ' F' H' fp' s' st' k' => by cases q; exact ob4.nx _ rfl σ' F' H' fp' s' st' k', fun ρ' q => (nomatch q), fun r ρ' q => (nomatch q), fun r ρ' q => (nomatch q)⟩
        | rt r ρ5 => rw [e5] at ob4; exact ⟨fun z => (nomatch z), fun ρ' q => (nomatch q), fun ρ' q => (nomatch q), fun ρ' q => (nomatch q), ob4.rt, ob4.ex⟩
        | ex x ρ5 => rw [e5] at ob4; exact ⟨fun z => (nomatch z), fun ρ' q => (nomatch q), fun ρ' q => (nomatch q), fun ρ' q => (nomatch q), ob4.rt, ob4.ex⟩
        | no => rw [e5] at ob4; exact absurd rfl ob4.no
    · have e : i = xs.length := by omega
      subst e
      refine .inl ⟨Y.1 rfl, ?_⟩
      rw [List.drop_length, forGo_nil] at ob2
      exact ob2.nx ρ rfl σ2 F H2 fp (.refl _ _ _) stt (.refl _ _)
theorem ss_while (hp : PassesOwn (model X.prog X.w) X.A X.env X.xe) (hc : ST X W a tc) (hb : SSs X W sts m) : SS X W (.While a sts [] pos) (mWhile tc m) :=
  PS.wk (ps_while hp hc hb) fun D σ H h => by
    obtain ⟨F, ρ, fp, st, ob⟩ := h
    have hx : ∃ n, whGo tc m n ρ ≠ .no := by
      by_cases hx : ∃ n, whGo tc m n ρ ≠ .no
      · exact hx
      · exact absurd (show mWhile tc m ρ = .no by unfold mWhile; rw [dif_neg hx]) ob.no
    obtain ⟨N, hN⟩ := hx
    rw [mWhile_eq (n := N) rfl hN] at ob
    refine ⟨fun k σ' H' => ∃ F ρ fp, Stt (gOf X) F H' σ' ρ fp ∧ ObS (gOf X) W ρ σ' F H' (Own fp) (whGo tc m k ρ) D, ⟨N, F, ρ, fp, st, ob⟩, fun k σ2 H2 hw => ?_⟩
    obtain ⟨F, ρ, fp, stt, ob2⟩ := hw
    cases k with
    | zero => exact absurd rfl ob2.no
    | succ k =>
      refine tS_of (D := D) (m := tc) (k := fun x ρ1 => if x = true then (match m ρ1 with
        | .nx ρ2 => whGo tc m k ρ2
        | .ct ρ2 => whGo tc m k ρ2
        | .bk ρ2 => .nx ρ2
        | r => r) else .nx ρ1) ⟨F, ρ, fp, stt, ob2⟩ fun x ρ3 v F3 H3 fp3 fr3 st3 r3 n3 ob3 => ?_
      obtain ⟨rfl, rfl⟩ := r3
      rw [plus_nil] at ob3
      cases v with
      | false =>
        rw [if_neg (by decide)] at ob3 ⊢
        exact ob3.nx ρ3 rfl σ2 F3 H3 fp3 (.refl _ _ _) st3 (.refl _ _)
      | true =>
        rw [if_pos rfl] at ob3 ⊢
        refine ⟨fun σ' H' => ∃ F ρ fp, Stt (gOf X) F H' σ' ρ fp ∧ ObS (gOf X) W ρ σ' F H' (Own fp) (whGo tc m k ρ) D, fun σ' H' hN => ⟨k, Nat.lt_succ_self k, hN⟩, F3, ρ3, fp3, st3, ?_⟩
        cases e5 : m ρ3 with
        | nx ρ5 =>
          rw [e5] at ob3
          exact ⟨fun z => (nomatch z), fun ρ' q σ' F' H' fp' s' st' k' => by cases q; exact ⟨F', ρ5, fp', st', ob3.after s' k'⟩, fun ρ' q => (nomatch q), fun ρ' q => (nomatch q), fun r ρ' q => (nomatch q), fun r ρ' q => (nomatch q)⟩
        | ct ρ5 =>
          rw [e5] at ob3
          exact ⟨fun z => (nomatch z), fun ρ' q => (nomatch q), fun ρ' q => (nomatch q), fun ρ' q σ' F' H' fp' s' st' k' => by cases q; exact ⟨F', ρ5, fp', st', ob3.after s' k'⟩, fun r ρ' q => (nomatch q), fun r ρ' q => (nomatch q)⟩
        | bk ρ5 =>
          rw [e5] at ob3
          exact ⟨fun z => (nomatch z), fun ρ' q => (nomatch q), fun ρ' q σ' F' H' fp' s' st' k' => by cases q; exact ob3.nx _ rfl σ' F' H' fp' s' st' k', fun ρ' q => (nomatch q), fun r ρ' q => (nomatch q), fun r ρ' q => (nomatch q)⟩
        | rt r ρ5 => rw [e5] at ob3; exact ⟨fun z => (nomatch z), fun ρ' q => (nomatch q), fun ρ' q => (nomatch q), fun ρ' q => (nomatch q), ob3.rt, ob3.ex⟩
        | ex x ρ5 => rw [e5] at ob3; exact ⟨fun z => (nomatch z), fun ρ' q => (nomatch q), fun ρ' q => (nomatch q), fun ρ' q => (nomatch q), ob3.rt, ob3.ex⟩
        | no => rw [e5] at ob3; exact absurd rfl ob3.no
end
end
end Mw

set_option Elab.async false
set_option linter.all false
set_option maxRecDepth 100000
set_option autoImplicit false
namespace Mw
open PySem PySem.Spec PyProof.Rows L2
noncomputable section

section
variable {X : Cx} {W : WX} {pos : Pos} {a b c tg : Expr} {es : List Expr} {ma mb mc : M} {ms : List M} {st : Stmt} {sts : List Stmt} {m n : MS} {tc : MB} {t : Tg} {ts : List Tg} {mi : MI}
/-! ### walked things -/
theorem pi_seq {tl : TE} (hl : PE X a tl) : PI X tg a (fun σ H R => tl σ H fun x H1 => (∃ p xs, x = .ref p ∧ SqL X.K H1 p xs ∧ R (Itl X.K p) H1) ∨ (∃ p xs, x = .ref p ∧ SqT X.K H1 p xs ∧ R (Itt X.K p) H1) ∨ ∃ z, x = .str z ∧ R (Its z) H1) := by
  refine ⟨fun pins s σ H R I h => ?_⟩
  refine thn (hl.run pins s σ H _ I h) fun v s1 ⟨x, H1, I1, r1, q1⟩ => ?_
  rcases q1 with ⟨p, xs, e, hq, q⟩ | ⟨p, xs, e, hq, q⟩ | ⟨z, e, q⟩
  · subst e
    cases r1
    obtain ⟨its, rv, pl, hz⟩ := I1.list hq
    refine wpAny_pyIter_list pl.isList ?_
    refine ⟨s1.heap.objs.size, [s1.heap.objs.size], _, _, H1, rfl, I1.kept (t' := s1.toks) fun b o e => Heap.get?_push_of_some _ e, turn_list p _, ⟨_, Heap.get?_push_size _ rfl, rfl, rfl⟩, fun b hb => ?_, q⟩
    have e : b = s1.heap.objs.size := by simpa using hb
    subst e
    exact I1.fpOk (Nat.le_refl _) (I1.hok.fresh (Nat.le_refl _))
  · subst e
    cases r1
    obtain ⟨its, rv, pl, hz⟩ := I1.tuple hq
    refine wpAny_pyIter_tuple (show s1.heap.IsTuple p its.toArray from pl) ?_
    refine ⟨s1.heap.objs.size, [s1.heap.objs.size], _, _, H1, rfl, I1.kept (t' := s1.toks) fun b o e => Heap.get?_push_of_some _ e, turn_tuple p _, ⟨_, Heap.get?_push_size _ rfl, rfl, rfl⟩, fun b hb => ?_, q⟩
    have e : b = s1.heap.objs.size := by simpa using hb
    subst e
    exact I1.fpOk (Nat.le_refl _) (I1.hok.fresh (Nat.le_refl _))
  · subst e
    obtain ⟨t, rfl⟩ := r1
    cases ha : z.cps.all (· < 128)
    · exact wpAny_pyIter_wide ha (pi_one (tk := s1.toks) I1 _ (turn_str _ z t "str_iterator" (.inr rfl)) ⟨_, Heap.get?_push_size _ rfl, rfl, rfl⟩ q)
    · exact wpAny_pyIter_ascii ha (pi_one (tk := s1.toks) I1 _ (turn_str _ z t "str_ascii_iterator" (.inl rfl)) ⟨_, Heap.get?_push_size _ rfl, rfl, rfl⟩ q)
/-- what is plain: its items -/
def R.its : R → Option (List D)
  | .d (.lst ds) => some ds
  | .d (.tup ds) => some ds
  | .d (.str s) => some (s.map fun c => .str [c])
  | .own (.lst os) => undO os
  | _ => none
@[simp] theorem R.its_l (ds : List D) : (R.d (.lst ds)).its = some ds := rfl
@[simp] theorem R.its_t (ds : List D) : (R.d (.tup ds)).its = some ds := rfl
@[simp] theorem R.its_o (ds : List D) : (R.own (.lst (ds.map O.d))).its = some ds := by simp [R.its]
def mIt (m : M) : MI := fun ρ => (m ρ).bind fun r ρ' q => match r.its with
  | some ds => .ok ds ρ' q
  | none => .no
theorem yields_list {g : Wd} {F : Hp} {p : Addr} {vs : List V} {ds : List D} (h : SqL g.K F p vs) (r : Reps g F vs ds) : Yields g F (Itl g.K p) ds := by
  intro i F2 H2 e1 e2
  have h2 := e2.sqL (e1.sqL h)
  refine ⟨fun e => ⟨vs, h2, by rw [e, r.length]; exact Nat.le_refl _⟩, fun d hd => ?_⟩
  obtain ⟨v, hv, rv⟩ := r.get hd
  refine ⟨⟨vs, v, h2, hv⟩, fun x H3 hy => ?_⟩
  obtain ⟨rfl, hy⟩ := hy
  have := hy vs h2
  rw [hv] at this; cases this
  exact ⟨F2, e2, .refl _, .refl _, fun a o h => .inl h, rv.mono e1⟩
theorem yields_tup {g : Wd} {F : Hp} {p : Addr} {vs : List V} {ds : List D} (h : SqT g.K F p vs) (r : Reps g F vs ds) : Yields g F (Itt g.K p) ds := by
  intro i F2 H2 e1 e2
  have h2 := e2.sqT (e1.sqT h)
  refine ⟨fun e => ⟨vs, h2, by rw [e, r.length]; exact Nat.le_refl _⟩, fun d hd => ?_⟩
  obtain ⟨v, hv, rv⟩ := r.get hd
  refine ⟨⟨vs, v, h2, hv⟩, fun x H3 hy => ?_⟩
  obtain ⟨rfl, hy⟩ := hy
  have := hy vs h2
  rw [hv] at this; cases this
  exact ⟨F2, e2, .refl _, .refl _, fun a o h => .inl h, rv.mono e1⟩
theorem yields_str {g : Wd} {F : Hp} {s : List Nat} : Yields g F (Its ⟨s.toArray⟩) (s.map fun c => .str [c]) := by
  have w := walk_str (z := ⟨s.toArray⟩)
  intro i F2 H2 e1 e2
  refine ⟨fun e => ?_, fun d hd => ?_⟩
  · have := w.stops H2 trivial
    rw [e, List.length_map]
    simpa using this
  · rw [List.getElem?_map] at hd
    cases hc : s[i]? with
    | none => rw [hc] at hd; cases hd
    | some c =>
      rw [hc] at hd; cases hd
      have hi : i < (⟨s.toArray⟩ : Str).cps.size := by
        have := (List.getElem?_eq_some_iff.mp hc).1
        simpa using this
      refine ⟨w.goes i H2 hi trivial, fun x H3 hy => ?_⟩
      obtain ⟨rfl, c', hc', rfl⟩ := w.yields i H2 x H3 hi trivial hy
      have : c' = c := by
        have h2 : s[i]? = some c' := by simpa using hc'
        rw [hc] at h2; cases h2; rfl
      subst this
      exact ⟨F2, e2, .refl _, .refl _, fun a o h => .inl h, .str (s := [c']) (by rw [sizeLine_eq]; show 1 ≤ 16777216; decide)⟩
theorem si_seq (ha : SE X W a ma) : SI X W tg a (mIt ma) := PI.wk (pi_seq ha) fun σ H R h => by
  refine tR.bind h fun F ρ fp st r ρ1 q1 e1 v F1 H1 fp1 fr1 s1 st1 r1 n1 z1 ob => ?_
  cases e : r.its with
  | none => rw [e] at ob; exact absurd rfl ob.1
  | some ds =>
    rw [e] at ob
    have fin : ∀ (J : It), fr1 = [] → Yields (gOf X) F1 J ds → R J H1 := fun J hf y => by
      subst hf
      exact ob.2.1 ds ρ1 q1 rfl J F1 H1 fp1 [] (by rw [plus_nil]; exact .refl _ _ _) st1 ⟨y, rfl⟩ n1 z1
    cases r with
    | d x =>
      cases x with
      | lst es =>
        cases e
        obtain ⟨hr, hf⟩ := r1
        cases hr with
        | lst h hl rr => exact .inl ⟨_, _, rfl, st1.sub.sqL h, fin _ hf (yields_list h rr)⟩
      | tup es =>
        cases e
        obtain ⟨hr, hf⟩ := r1
        cases hr with
        | tup h hl rr => exact .inr (.inl ⟨_, _, rfl, st1.sub.sqT (.inl (.inl h)), fin _ hf (yields_tup (.inl (.inl h)) rr)⟩)
      | str s =>
        cases e
        obtain ⟨hr, hf⟩ := r1
        cases hr with
        | str h => exact .inr (.inr ⟨_, rfl, fin _ hf yields_str⟩)
      | _ => cases e
    | own o =>
      cases o with
      | lst os =>
        have o1 := RepR.out (r := .own (.lst os)) r1
        obtain ⟨p, vs, rfl, hp, hl, rr⟩ := RepR.ofOl (r := .own (.lst os)) r1 (ds := ds) e
        obtain ⟨hr, ho⟩ := r1
        cases hr with
        | @lst _ vs' _ fp' h hl' r' =>
          have hpm : p ∈ p :: fp' := by simp
          have st2 : Stt (gOf X) (frz F1 H1 (p :: fp')) H1 σ ρ1 fp1 := st1.grown (frz_ext st1.sub) (.refl _) (frz_sub st1.sub) fun a ha => by
            unfold frz
            rw [if_neg fun z => (o1 a z).2.1 ha]
            exact (st1.there ha).2
          refine .inl ⟨p, vs, rfl, .inl (.inl hp), ?_⟩
          refine ob.2.1 ds ρ1 q1 rfl _ (frz F1 H1 (p :: fp')) H1 fp1 [] ?_ st2 ⟨yields_list (.inl (.inl ((frz_mem hpm).trans hp))) (rr.mono (frz_ext st1.sub)), rfl⟩ List.nodup_nil z1
          rw [plus_nil]
          exact ⟨frz_ext st1.sub, fun a o _ h => h, fun a o h => (frz_new h).imp id fun z => .inl (.inr z), fun a h => .inl (.inl h)⟩
      | _ => cases e
    | pk o => cases e
variable {p : Pos}
def mRg1 (m : M) : MI := fun ρ => (m ρ).bind fun r ρ' q => match r with
  | .d (.int j) => if rgOk j = true then .ok ((List.range j.toNat).map fun (k : Nat) => D.int k) ρ' q else .no
  | _ => .no
theorem yields_rng {g : Wd} {F : Hp} {lo : Int} {n : Nat} : Yields g F (Itr lo n) ((List.range n).map fun (k : Nat) => D.int (lo + k)) := by
  intro i F2 H2 e1 e2
  refine ⟨fun e => by rw [e, List.length_map, List.length_range]; exact Nat.le_refl _, fun d hd => ?_⟩
  rw [List.getElem?_map] at hd
  cases hc : (List.range n)[i]? with
  | none => rw [hc] at hd; cases hd
  | some c =>
    rw [hc] at hd; cases hd
    obtain ⟨hi, e⟩ := List.getElem?_eq_some_iff.mp hc
    rw [List.length_range] at hi
    rw [List.getElem_range] at e
    subst e
    refine ⟨hi, fun x H3 hy => ?_⟩
    obtain ⟨rfl, rfl⟩ := hy
    exact ⟨F2, e2, .refl _, .refl _, fun a o h => .inl h, .int _⟩
theorem si_rg1 (hg : Gl X "range") (hm : X.mg "range" = none) (ha : SE X W a ma) (he : starEach [a] X.env = (false, eval a X.env) :: starEach [] X.env := by rfl) : SI X W tg (.Call (.Name "range" p) [a] [] pos) (mRg1 ma) := PI.wk (pi_range1 hg hm (pa_cons ha pa_nil he) he) fun σ H R h => by
  refine tR.bind h fun F ρ fp st r ρ1 q1 e1 v F1 H1 fp1 fr1 s1 st1 r1 n1 z1 ob => ?_
  show ∃ j : Int, [v] = [.int j] ∧ -(2 ^ 62) ≤ j ∧ j < 2 ^ 62 ∧ R (Itr 0 j.toNat) H1
  cases r with
  | d x =>
    cases x with
    | int j =>
      dsimp only at ob
      split at ob
      · next hj =>
        have hj := rgOk_iff hj
        obtain ⟨hr, rfl⟩ := r1
        cases hr
        refine ⟨j, rfl, by omega, by omega, ?_⟩
        have y := yields_rng (g := gOf X) (F := F1) (lo := 0) (n := j.toNat)
        simp only [Int.zero_add] at y
        exact ob.2.1 _ ρ1 q1 rfl _ F1 H1 fp1 [] (by rw [plus_nil]; exact .refl _ _ _) st1 ⟨y, rfl⟩ n1 z1
      · exact absurd rfl ob.1
    | _ => exact absurd rfl ob.1
  | _ => exact absurd rfl ob.1
def mRg2 (ma mb : M) : MI := fun ρ => (mArgs [ma, mb] ρ).bind fun rs ρ' q => match rs with
  | [.d (.int i), .d (.int j)] => if (rgOk i && rgOk j) = true then .ok ((List.range (j - i).toNat).map fun (k : Nat) => D.int (i + k)) ρ' q else .no
  | _ => .no
theorem si_rg2 (hg : Gl X "range") (hm : X.mg "range" = none) (ha : SE X W a ma) (hb : SE X W b mb) (he : starEach [a, b] X.env = [(false, eval a X.env), (false, eval b X.env)] := by rfl) (hs2 : starEach [b] X.env = [(false, eval b X.env)] := by rfl) :
    SI X W tg (.Call (.Name "range" p) [a, b] [] pos) (mRg2 ma mb) := PI.wk (pi_range2 hg hm (a_cons ha (a_cons hb a_nil hs2) (he.trans (by rw [hs2]))) he hs2) fun σ H R h => by
  refine tR.bind h fun F ρ fp st rs ρ1 q1 e1 vs F1 H1 fp1 fr1 s1 st1 r1 n1 z1 ob => ?_
  have key : ∀ i j, rs = [.d (.int i), .d (.int j)] → ∃ i j : Int, vs = [.int i, .int j] ∧ (-(2 ^ 62) ≤ i ∧ i < 2 ^ 62 ∧ -(2 ^ 62) ≤ j ∧ j < 2 ^ 62) ∧ R (Itr i (j - i).toNat) H1 := fun i j e => by
    subst e
    dsimp only at ob
    split at ob
    · next hj =>
      have hj := Bool.and_eq_true_iff.mp hj
      have hi := rgOk_iff hj.1
      have hj := rgOk_iff hj.2
      obtain ⟨v, w, f1, f2, rfl, rfl, h1, h2⟩ := r1.two
      obtain ⟨h1, rfl⟩ := h1
      obtain ⟨h2, rfl⟩ := h2
      cases h1; cases h2
      refine ⟨i, j, rfl, by omega, ?_⟩
      exact ob.2.1 _ ρ1 q1 rfl _ F1 H1 fp1 [] (by rw [plus_nil]; exact (Step.refl _ _ _).weak fun x h => .inl h) st1 ⟨yields_rng, rfl⟩ n1 z1
    · exact absurd rfl ob.1
  match rs with
  | [.d (.int i), .d (.int j)] => exact key i j rfl
  | [] => exact absurd rfl ob.1
  | [.d (.int i)] => exact absurd rfl ob.1
  | .d (.int i) :: .d (.int j) :: _ :: _ => exact absurd rfl ob.1
  | .d (.int i) :: .d .non :: _ => exact absurd rfl ob.1
  | .d (.int i) :: .d (.bl _) :: _ => exact absurd rfl ob.1
  | .d (.int i) :: .d (.str _) :: _ => exact absurd rfl ob.1
  | .d (.int i) :: .d (.tup _) :: _ => exact absurd rfl ob.1
  | .d (.int i) :: .d (.lst _) :: _ => exact absurd rfl ob.1
  | .d (.int i) :: .d (.obj _ _ _) :: _ => exact absurd rfl ob.1
  | .d (.int i) :: .own _ :: _ => exact absurd rfl ob.1
  | .d (.int i) :: .pk _ :: _ => exact absurd rfl ob.1
  | .d .non :: _ => exact absurd rfl ob.1
  | .d (.bl _) :: _ => exact absurd rfl ob.1
  | .d (.str _) :: _ => exact absurd rfl ob.1
  | .d (.tup _) :: _ => exact absurd rfl ob.1
  | .d (.lst _) :: _ => exact absurd rfl ob.1
  | .d (.obj _ _ _) :: _ => exact absurd rfl ob.1
  | .own _ :: _ => exact absurd rfl ob.1
  | .pk _ :: _ => exact absurd rfl ob.1

/-! ### an own name handed over, or frozen -/
def mv (i : Nat) : M := fun ρ => match ρ[i]? with
  | some (.shr d) => .ok (.d d) ρ true
  | some (.mu false o) => .ok (.own o) (ρ.set i .un) false
  | _ => .no
def fz (i : Nat) : M := fun ρ => match ρ[i]? with
  | some (.shr d) => .ok (.d d) ρ true
  | some (.mu false o) => if o.fz = true then .ok (.d o.toD) (ρ.set i (.shr o.toD)) false else .no
  | _ => .no
theorem tM_mv {g : Wd} {i : Nat} {σ : L2.St} {H : Hp} {Q : VK} (h : tM g W (mv i) σ H Q) : tVar i σ H Q := by
  obtain ⟨F, ρ, fp, st, ob⟩ := h
  cases e : ρ[i]? with
  | none => exact absurd (by unfold mv; rw [e]) ob.1
  | some x =>
    have hi : i < ρ.length := (List.getElem?_eq_some_iff.mp e).1
    cases x with
    | un => exact absurd (by unfold mv; rw [e]) ob.1
    | shr d =>
      obtain ⟨v, e1, r⟩ := st.shr i d e
      exact ⟨v, e1, ob.2.1 (.d d) ρ true (by unfold mv; rw [e]) v F H fp [] (by rw [plus_nil]; exact .refl _ _ _) st ⟨r, rfl⟩ List.nodup_nil ⟨.refl ρ, fun _ => ⟨.refl H, rfl⟩⟩⟩
    | mu b o =>
      cases b with
      | true => exact absurd (by unfold mv; rw [e]) ob.1
      | false =>
        obtain ⟨v, e1, r⟩ := st.mu i false o e
        obtain ⟨fp', st', k1, k2⟩ := st.drop i
        refine ⟨v, e1, ob.2.1 (.own o) (ρ.set i .un) false (by unfold mv; rw [e]) v F H fp' (fp i) ⟨.refl F, fun a o _ h => h, fun a o h => .inl h, fun a h => .inl (h.elim (k1 a) fun z => ⟨i, z⟩)⟩ st' ⟨r, fun a ha => ⟨st.fre i a ha, k2 hi a ha⟩⟩ (st.nd i) ⟨.set (by unfold isBor; rw [e]) _, fun z => nomatch z⟩⟩
theorem tM_fz {g : Wd} {i : Nat} {σ : L2.St} {H : Hp} {Q : VK} (h : tM g W (fz i) σ H Q) : tVar i σ H Q := by
  obtain ⟨F, ρ, fp, st, ob⟩ := h
  cases e : ρ[i]? with
  | none => exact absurd (by unfold fz; rw [e]) ob.1
  | some x =>
    have hi : i < ρ.length := (List.getElem?_eq_some_iff.mp e).1
    cases x with
    | un => exact absurd (by unfold fz; rw [e]) ob.1
    | shr d =>
      obtain ⟨v, e1, r⟩ := st.shr i d e
      exact ⟨v, e1, ob.2.1 (.d d) ρ true (by unfold fz; rw [e]) v F H fp [] (by rw [plus_nil]; exact .refl _ _ _) st ⟨r, rfl⟩ List.nodup_nil ⟨.refl ρ, fun _ => ⟨.refl H, rfl⟩⟩⟩
    | mu b o =>
      cases b with
      | true => exact absurd (by unfold fz; rw [e]) ob.1
      | false =>
        have he : fz i ρ = if o.fz = true then .ok (.d o.toD) (ρ.set i (.shr o.toD)) false else .no := by unfold fz; rw [e]
        by_cases hz : o.fz = true
        · rw [if_pos hz] at he
          obtain ⟨v, e1, r⟩ := st.mu i false o e
          obtain ⟨fp1, st1, k1, k2⟩ := st.drop i
          have r' : Rep g (frz F H (fp i)) v o.toD := r.freeze (frz_ext st.sub) hz fun a ha u q => (frz_mem ha).trans q
          have st2 : Stt g (frz F H (fp i)) H σ (ρ.set i .un) fp1 := st1.grown (frz_ext st.sub) (.refl _) (frz_sub st.sub) fun a ha => by
            unfold frz
            rw [if_neg fun z => k2 hi a z ha]
            exact (st1.there ha).2
          obtain ⟨fp3, st3, k3⟩ := st2.put i (s := .shr o.toD) (f := []) (v := v) ⟨r', rfl⟩ List.nodup_nil fun a ha => nomatch ha
          have es : (σ.set i (some v)) = σ := by
            apply List.ext_getElem?
            intro j
            rw [List.getElem?_set]
            split
            · next z =>
              subst z
              split
              · exact e1.symm
              · rw [List.getElem?_eq_none (by omega)]
            · rfl
          rw [es, List.set_set] at st3
          refine ⟨v, e1, ob.2.1 _ _ false he v (frz F H (fp i)) H fp3 [] ?_ st3 ⟨r', rfl⟩ List.nodup_nil ⟨.set (by unfold isBor; rw [e]) _, fun z => nomatch z⟩⟩
          rw [plus_nil]
          exact ⟨frz_ext st.sub, fun a o _ h => h, fun a o h => (frz_new h).imp id fun z => .inl ⟨i, z⟩, fun a h => .inl (k1 a ((k3 a h).elim id fun z => nomatch z))⟩
        · rw [if_neg hz] at he
          exact absurd he ob.1
theorem s_mv {i : Nat} {x : Str} (hN : X.N[i]? = some x) (hv : Vis X.env.scope x) (hd : (x == ("__debug__" : Str)) = false := by decide) (hcd : (x == ("__classdict__" : Str)) = false := by decide) : SE X W (.Name x pos) (mv i) :=
  PE.wk (pe_var hN hv hd hcd) fun σ H Q h => tM_mv h
theorem s_fz {i : Nat} {x : Str} (hN : X.N[i]? = some x) (hv : Vis X.env.scope x) (hd : (x == ("__debug__" : Str)) = false := by decide) (hcd : (x == ("__classdict__" : Str)) = false := by decide) : SE X W (.Name x pos) (fz i) :=
  PE.wk (pe_var hN hv hd hcd) fun σ H Q h => tM_fz h

/-! ### a list at a name is changed -/
end
/-- the object at an own place is changed in place -/
theorem Stt.chg {g : Wd} {F H H' : Hp} {σ : L2.St} {ρ : Ro} {fp : Nat → List Addr} (st : Stt g F H σ ρ fp) {i : Nat} {b : Bool} {o o' : O} (e : ρ[i]? = some (.mu b o)) {v : V} (ev : σ[i]? = some (some v)) {f : List Addr}
    (keep : ∀ a u, a ∉ fp i → H a = some u → H' a = some u) (r : RepO g F H' v o' f) (nd : f.Nodup) (fr : ∀ a ∈ f, a ∈ fp i ∨ H a = none) :
    ∃ fp', Stt g F H' σ (ρ.set i (.mu b o')) fp' ∧ Step F H (Own fp) F H' (Own fp') := by
  have hi : i < ρ.length := (List.getElem?_eq_some_iff.mp e).1
  have nf : ∀ a ∈ f, F a = none := fun a ha => by
    rcases fr a ha with z | z
    · exact st.fre i a z
    · exact fnone st.sub z
  have nj : ∀ j, j ≠ i → ∀ a ∈ f, a ∉ fp j := fun j hj a ha hb => by
    rcases fr a ha with z | z
    · exact hj (st.dis j i a hb z)
    · exact (st.there ⟨j, hb⟩).1 z
  have sub' : Ext F H' := fun a u h => keep a u (fun z => by rw [st.fre i a z] at h; cases h) (st.sub a u h)
  refine ⟨fun k => if k = i then f else fp k, ⟨sub', by simp [st.len], fun j hj => ?_, fun j d hd => ?_, fun j b' o1 ho => ?_, fun j => ?_, fun j k a ha hb => ?_, fun j a ha => ?_⟩, ⟨.refl F, fun a u hs h => keep a u (fun z => hs ⟨i, z⟩) h, fun a o h => .inl h, fun a ⟨j, ha⟩ => ?_⟩⟩
  · try dsimp only
    split
    · next z => subst z; exact absurd (by rw [List.getElem?_set]; simp [hi]) (hj b o')
    · next z => exact st.un j fun b o q => hj b o (by rw [List.getElem?_set, if_neg fun y => z y.symm]; exact q)
  · rcases set_get hd with ⟨rfl, z, _⟩ | ⟨ne, hd⟩
    · cases z
    · exact st.shr j d hd
  · rcases set_get ho with ⟨rfl, z, _⟩ | ⟨ne, ho⟩
    · cases z
      (try dsimp only); rw [if_pos rfl]; exact ⟨v, ev, r⟩
    · (try dsimp only); rw [if_neg fun z => ne z.symm]
      obtain ⟨w, ew, rw'⟩ := st.mu j b' o1 ho
      exact ⟨w, ew, rw'.mono (.refl F) fun a ha u h => keep a u (fun z => ne (st.dis i j a z ha)) h⟩
  · (try dsimp only); split
    · exact nd
    · exact st.nd j
  · try dsimp only at ha hb
    split at ha <;> split at hb
    · next e1 e2 => exact e1.trans e2.symm
    · next e1 e2 => exact absurd hb (nj k e2 a ha)
    · next e1 e2 => exact absurd ha (nj j e1 a hb)
    · exact st.dis j k a ha hb
  · try dsimp only at ha
    split at ha
    · exact nf a ha
    · exact st.fre j a ha
  · try dsimp only at ha
    split at ha
    · exact (fr a ha).imp (fun z => ⟨i, z⟩) id
    · exact .inl ⟨j, ha⟩
theorem Kb.chg {ρ : Ro} {i : Nat} {b : Bool} {o o' : O} (e : ρ[i]? = some (.mu b o)) : Kb ρ (ρ.set i (.mu b o')) := fun k u h => by
  by_cases hk : i = k
  · subst hk
    rw [e] at h; cases h
    exact ⟨o', by rw [List.getElem?_set]; simp [(List.getElem?_eq_some_iff.mp e).1]⟩
  · exact ⟨u, by rw [List.getElem?_set, if_neg hk]; exact h⟩
theorem Step.frz {F H : Hp} {S : Addr → Prop} {fr : List Addr} (s : Ext F H) : Step F H (Plus S fr) (frz F H fr) H S :=
  ⟨frz_ext s, fun a o _ h => h, fun a o h => (frz_new h).imp id fun z => .inl (.inr z), fun a h => .inl (.inl h)⟩
theorem Stt.frzd {g : Wd} {F H : Hp} {σ : L2.St} {ρ : Ro} {fp : Nat → List Addr} {fr : List Addr} (st : Stt g F H σ ρ fp) (h : ∀ a ∈ fr, ¬ Own fp a) : Stt g (frz F H fr) H σ ρ fp :=
  st.grown (frz_ext st.sub) (.refl _) (frz_sub st.sub) fun a ha => by
    unfold Mw.frz
    rw [if_neg fun z => h a z ha]
    exact (st.there ha).2
theorem RepOs.app1 {g : Wd} {F H : Hp} : ∀ {vs : List V} {os : List O} {fp : List Addr} {v : V} {x : D}, RepOs g F H vs os fp → Rep g F v x → RepOs g F H (vs ++ [v]) (os ++ [.d x]) fp
  | _, _, _, v, x, .nil, r => .cons (f := []) (fp := []) (.d r) .nil
  | _, _, _, v, x, .cons h t, r => .cons h (RepOs.app1 t r)
theorem RepOs.set1 {g : Wd} {F H : Hp} : ∀ {vs : List V} {os : List O} {fp : List Addr} {v : V} {x : D} (j : Nat), RepOs g F H vs os fp → Rep g F v x → ∃ fp', RepOs g F H (vs.set j v) (os.set j (.d x)) fp' ∧ List.Sublist fp' fp
  | _, _, _, v, x, j, .nil, r => ⟨[], .nil, List.Sublist.refl _⟩
  | _, _, _, v, x, 0, .cons (f := f) (fp := fp) h t, r => ⟨[] ++ fp, .cons (.d r) t, List.sublist_append_right f fp⟩
  | _, _, _, v, x, j + 1, .cons (f := f) (fp := fp) h t, r => by
    obtain ⟨fp', r', s⟩ := RepOs.set1 j t r
    exact ⟨f ++ fp', .cons h r', (List.Sublist.refl f).append s⟩
def isLst (ρ : Ro) (i : Nat) : Bool := match ρ[i]? with
  | some (.mu _ (.lst _)) => true
  | _ => false
/-- name.append(e): the place, a list, gets one more item -/
def pushAt (ρ : Ro) (i : Nat) (x : D) : Option Ro := match ρ[i]? with
  | some (.mu b (.lst os)) => if lenOk (os.length + 1) = true then some (ρ.set i (.mu b (.lst (os ++ [.d x])))) else none
  | _ => none
def mApp (i : Nat) (m : M) : M := fun ρ => if isLst ρ i = true then (m ρ).bind fun r ρ' _ => match r.st with
  | some x => match pushAt ρ' i x with
    | some ρ2 => .ok (.d .non) ρ2 false
    | none => .no
  | none => .no
  else .no
section
variable {X : Cx} {W : WX} {pos : Pos} {a b c tg : Expr} {es : List Expr} {ma mb mc : M} {ms : List M} {st : Stmt} {sts : List Stmt} {m n : MS} {tc : MB} {t : Tg} {ts : List Tg} {mi : MI} {p : Pos}
theorem s_append {i : Nat} {x : Str} {apos : Pos} (hN : X.N[i]? = some x) (hv : Vis X.env.scope x) (ha : SE X W a ma) (hd : (x == ("__debug__" : Str)) = false := by decide) (hcd : (x == ("__classdict__" : Str)) = false := by decide)
    (hbase : attributeBase (.Name x p) "append" X.env (eval (.Name x p) X.env) = eval (.Name x p) X.env := by rfl)
    (hfew : ((backTo pos (starEach (a :: []) X.env)).all (fun x => !x.1) && (backToKw pos (keywordEach [] X.env)).all (fun x => x.1.isSome)
      && decide ((a :: ([] : List Expr)).length + ([] : List Keyword).length + (if ([] : List Keyword).isEmpty then 0 else 1) < 30)) = true := by rfl)
    (hline : (apos.endLine == pos.line) = true := by rfl) (hs : starEach (a :: []) X.env = (false, eval a X.env) :: starEach [] X.env := by rfl) :
    SE X W (.Call (.Attribute (.Name x p) "append" apos) [a] [] pos) (mApp i ma) :=
  PE.wk (pe_bm PySem.F.plainAttrs_list PySem.F.slot_list_append PySem.F.type_list_append mt_append (pe_var hN hv hd hcd) (pa_cons ha pa_nil hs) hbase hfew hline hs rfl) fun σ H Q h => by
    obtain ⟨F, ρ, fp, st, ob⟩ := h
    have ob : Ob (gOf X) W σ F H (Own fp) (Zq H ρ) (RepR (gOf X)) (if isLst ρ i = true then _ else _) Q := ob
    by_cases hl : isLst ρ i = true
    · rw [if_pos hl] at ob
      obtain ⟨b, os, e⟩ : ∃ b os, ρ[i]? = some (.mu b (.lst os)) := by
        unfold isLst at hl
        split at hl
        · next b os e => exact ⟨b, os, e⟩
        · cases hl
      obtain ⟨v, ev, r⟩ := st.mu i b _ e
      obtain ⟨f0, hf0⟩ : ∃ f, f = fp i := ⟨_, rfl⟩
      rw [← hf0] at r
      refine ⟨v, ev, ?_, ?_⟩
      · cases r with
        | lst h hl r => exact .inl ⟨rfl, _, .inl (.inl h)⟩
      · show tM (gOf X) W ma σ H fun y H2 => rAppend v [y] H2 Q
        refine tR.bind (m := ma) (k := fun r ρ' _ => match r.st with
          | some x => match pushAt ρ' i x with
            | some ρ2 => .ok (.d .non) ρ2 false
            | none => .no
          | none => .no) (RR := RepR (gOf X)) (Q := Q) ⟨F, ρ, fp, st, ob⟩ fun F0 ρ0 fp0 st0 r0 ρ1 q1 e1 y F1 H1 fp1 fr1 s1 st1 r1 n1 z1 ob1 => ?_
        cases ex : r0.st with
        | none => rw [ex] at ob1; exact absurd rfl ob1.1
        | some x =>
          rw [ex] at ob1
          dsimp only at ob1
          unfold pushAt at ob1
          split at ob1
          · next ρ2 e2 =>
            split at e2
            · next b2 os2 e3 =>
              split at e2
              · next hlen =>
                have hlen := lenOk_le hlen
                cases e2
                obtain ⟨v2, ev2, r2⟩ := st1.mu i b2 _ e3
                rw [ev] at ev2; cases ev2
                obtain ⟨f1, hf1⟩ : ∃ f, f = fp1 i := ⟨_, rfl⟩
                have nd1 := st1.nd i
                rw [← hf1] at r2 nd1
                cases r2 with
                | @lst l vs2 _ fe h2 hl2 rs2 =>
                  have hne : ∀ a ∈ fe, a ≠ l := fun a ha z => (List.nodup_cons.mp nd1).1 (z ▸ ha)
                  have hlt : vs2.length < sizeLine := by rw [rs2.length, sizeLine_eq]; omega
                  have st2 := st1.frzd fun a ha => (r1.out a ha).2.1
                  have ry : Rep (gOf X) (frz F1 H1 fr1) y x := r1.st ex (frz_ext st1.sub) fun a ha => frz_mem ha
                  obtain ⟨fp3, st3, sp3⟩ := st2.chg (H' := upd H1 l (.lst (vs2 ++ [y]))) e3 ev (o' := .lst (os2 ++ [.d x])) (f := l :: fe) (fun a u ha hu => by
                    rw [upd_ne fun z => ha (by rw [← hf1, z]; simp)]; exact hu)
                    (.lst upd_same (by rw [List.length_append]; exact hlt) (RepOs.app1 (rs2.mono (frz_ext st1.sub) fun a ha u hu => by rw [upd_ne (hne a ha)]; exact hu) ry)) nd1 fun a ha => .inl (by rw [← hf1]; exact ha)
                  refine ⟨l, vs2, y, rfl, rfl, h2, hlt, ob1.2.1 (.d .non) _ false rfl .non _ _ fp3 [] ?_ st3 ⟨.non, rfl⟩ List.nodup_nil ⟨z1.1.trans (.chg e3), fun z => nomatch z⟩⟩
                  rw [plus_nil]
                  exact (Step.frz st1.sub).trans sp3
              · cases e2
            · cases e2
          · exact absurd rfl ob1.1
    · rw [if_neg hl] at ob; exact absurd rfl ob.1
/-- name[k] = e -/
def putAt (ρ : Ro) (i : Nat) (k : Int) (x : D) : Option Ro := match ρ[i]? with
  | some (.mu b (.lst os)) => match ixN os.length k with
    | some j => some (ρ.set i (.mu b (.lst (os.set j (.d x)))))
    | none => none
  | _ => none
def mPut (i : Nat) (mk me : M) : MS := fun ρ => if isLst ρ i = true then (mArgs [me, mInt mk] ρ).stm fun rs ρ' => match rs with
  | [r, .d (.int k)] => match r.st with
    | some x => match putAt ρ' i k x with
      | some ρ2 => .nx ρ2
      | none => .no
    | none => .no
  | _ => .no
  else .no
theorem Kbs.chg {ρ : Ro} {σ : L2.St} {i : Nat} {b : Bool} {o o' : O} (e : ρ[i]? = some (.mu b o)) : Kbs ρ σ (ρ.set i (.mu b o')) σ := fun k u h => ⟨Kb.chg e k u h, rfl⟩
theorem ss_put {i : Nat} {x : Str} {spos : Pos} (hN : X.N[i]? = some x) (hv : Vis X.env.scope x) (ha : SE X W a ma) (hb : SE X W b mb) (hd : (x == ("__debug__" : Str)) = false := by decide) (hcd : (x == ("__classdict__" : Str)) = false := by decide)
    (hA : ∀ v, assign (.Subscript (.Name x p) b spos) X.env v = (do
      let ov ← holding [v] (eval (.Name x p) X.env)
      let iv ← holding [v, ov] (eval b X.env)
      standAt spos
      holding [v, ov, iv] (setItem ov iv v)
      release [v, ov, iv] []) := by intro _; rfl)
    (hs : swapsWithSole [.Subscript (.Name x p) b spos] a pos.line X.env = pure false := by rfl) (hw : swappedStores [.Subscript (.Name x p) b spos] a X.env = pure none := by rfl) (h1 : (assignEach [.Subscript (.Name x p) b spos] X.env).map (·.2) = [assign (.Subscript (.Name x p) b spos) X.env] := by rfl) :
    SS X W (.Assign [.Subscript (.Name x p) b spos] a pos) (mPut i mb ma) :=
  PS.wk (ps_asg ha (pg_sub (pe_var hN hv hd hcd) hb set_list hA) hs hw h1) fun D σ H h => by
    obtain ⟨F, ρ, fp, st, ob⟩ := h
    have ob : ObS (gOf X) W ρ σ F H (Own fp) (if isLst ρ i = true then _ else _) D := ob
    by_cases hl : isLst ρ i = true
    · rw [if_pos hl] at ob
      obtain ⟨b, os, e⟩ : ∃ b os, ρ[i]? = some (.mu b (.lst os)) := by
        unfold isLst at hl
        split at hl
        · next b os e => exact ⟨b, os, e⟩
        · cases hl
      obtain ⟨v, ev, _⟩ := st.mu i b _ e
      have h2 : tA (gOf X) W [ma, mInt mb] σ H fun vs H2 => ∃ y k, vs = [y, .int k] ∧ rSetL v (.int k) y H2 fun H4 => D.nx σ H4 := by
        refine tS_of (m := mArgs [ma, mInt mb]) (k := fun rs ρ' => match rs with
          | [r, .d (.int k)] => match r.st with
            | some x => match putAt ρ' i k x with
              | some ρ2 => .nx ρ2
              | none => .no
            | none => .no
          | _ => .no) (D := D) ⟨F, ρ, fp, st, ob⟩ fun rs ρ1 vs F1 H1 fp1 fr1 st1 r1 n1 ob1 => ?_
        split at ob1
        · next r k =>
          obtain ⟨y, w, fa, fb, rfl, rfl, ra, rb⟩ := r1.two
          obtain ⟨rb, rfl⟩ := rb
          cases rb
          rw [List.append_nil] at ob1 n1
          refine ⟨y, k, rfl, ?_⟩
          split at ob1
          · next x ex =>
            unfold putAt at ob1
            split at ob1
            · next ρ2 e2 =>
              split at e2
              · next b2 os2 e3 =>
                split at e2
                · next j hj =>
                  cases e2
                  obtain ⟨v2, ev2, r2⟩ := st1.mu i b2 _ e3
                  rw [ev] at ev2; cases ev2
                  obtain ⟨f1, hf1⟩ : ∃ f, f = fp1 i := ⟨_, rfl⟩
                  have nd1 := st1.nd i
                  rw [← hf1] at r2 nd1
                  cases r2 with
                  | @lst l vs2 _ fe h2 hl2 rs2 =>
                    have hne : ∀ a ∈ fe, a ≠ l := fun a ha z => (List.nodup_cons.mp nd1).1 (z ▸ ha)
                    have st2 := st1.frzd fun a ha => (ra.out a ha).2.1
                    have ry : Rep (gOf X) (frz F1 H1 fa) y x := ra.st ex (frz_ext st1.sub) fun a ha => frz_mem ha
                    obtain ⟨fe', re', sb⟩ := RepOs.set1 j (rs2.mono (frz_ext st1.sub) (F' := frz F1 H1 fa) (H' := upd H1 l (.lst (vs2.set j y))) fun a ha u hu => by rw [upd_ne (hne a ha)]; exact hu) ry
                    obtain ⟨fp3, st3, sp3⟩ := st2.chg (H' := upd H1 l (.lst (vs2.set j y))) e3 ev (o' := .lst (os2.set j (.d x))) (f := l :: fe') (fun a u ha hu => by
                      rw [upd_ne fun z => ha (by rw [← hf1, z]; simp)]; exact hu)
                      (.lst upd_same (by rw [List.length_set]; exact hl2) re') (List.nodup_cons.mpr ⟨fun z => (List.nodup_cons.mp nd1).1 (sb.subset z), (List.nodup_cons.mp nd1).2.sublist sb⟩) fun a ha => .inl (by
                        rw [← hf1]
                        rcases List.mem_cons.mp ha with z | z
                        · rw [z]; simp
                        · exact List.mem_cons_of_mem _ (sb.subset z))
                    refine ⟨l, vs2, k, j, rfl, rfl, h2, by rw [rs2.length]; exact hj, ob1.nx _ rfl σ _ _ fp3 ?_ st3 (.chg e3)⟩
                    exact (Step.frz st1.sub).trans sp3
                · cases e2
              · cases e2
            · exact absurd rfl ob1.no
          · exact absurd rfl ob1.no
        · exact absurd rfl ob1.no
      refine (tA_cons h2).imp fun y H1 q => ⟨v, ev, (tM_int (tA_cons q)).imp fun z H2 ⟨k, e1, q⟩ => ?_⟩
      obtain ⟨y', k', e2, q⟩ := tA_nil q
      cases e2
      rw [e1]
      exact q
    · rw [if_neg hl] at ob; exact absurd rfl ob.no
end
end
end Mw

set_option Elab.async false
set_option linter.all false
set_option maxRecDepth 100000
set_option autoImplicit false
namespace Mw
open PySem PySem.Spec PyProof.Rows L2
noncomputable section

/-! ## defs -/
inductive FRes where
  | ok (r : R) (as : List Slo) | ex (x : Exc) (as : List Slo) | no
abbrev Fn := List Slo → FRes
def spF (g : Wd) (n : Nat) (f : Fn) : Sp := fun vs H Q E => vs.length = n ∧ ∃ F as fp, Stt g F H (vs.map some) as fp ∧ f as ≠ .no ∧
  (∀ r as', f as = .ok r as' → ∀ v F' H' fp' fr, Step F H (Own fp) F' H' (Plus (Own fp') fr) → Stt g F' H' (vs.map some) as' fp' → RepR g F' H' (Own fp') v r fr → fr.Nodup → r.isPk = false → Kb as as' → Q v H') ∧
  (∀ x as', f as = .ex x as' → ∀ cls d F' H' fp', Step F H (Own fp) F' H' (Own fp') → Stt g F' H' (vs.map some) as' fp' → RepX g F' cls d x → Kb as as' → E cls d H')
def keep : List Slo → Ro → List Slo
  | [], _ => []
  | .mu true _ :: as, s :: ρ => s :: keep as ρ
  | _ :: as, _ :: ρ => .un :: keep as ρ
  | _ :: as, [] => .un :: keep as []
def mkFn (n : Nat) (b : MS) : Fn := fun as => match b (as ++ List.replicate (n - as.length) .un) with
  | .nx ρ => .ok (.d .non) (keep as ρ)
  | .rt r ρ => if r.isPk = true then .no else .ok r (keep as ρ)
  | .ex x ρ => .ex x (keep as ρ)
  | _ => .no
theorem keep_len : ∀ (as : List Slo) (ρ : Ro), (keep as ρ).length = as.length
  | [], _ => rfl
  | .mu true _ :: as, s :: ρ => by simp [keep, keep_len as ρ]
  | .mu false _ :: as, s :: ρ => by simp [keep, keep_len as ρ]
  | .un :: as, s :: ρ => by simp [keep, keep_len as ρ]
  | .shr _ :: as, s :: ρ => by simp [keep, keep_len as ρ]
  | .mu true _ :: as, [] => by simp [keep, keep_len as []]
  | .mu false _ :: as, [] => by simp [keep, keep_len as []]
  | .un :: as, [] => by simp [keep, keep_len as []]
  | .shr _ :: as, [] => by simp [keep, keep_len as []]
theorem keep_get : ∀ (as : List Slo) (ρ : Ro) (k : Nat), (keep as ρ)[k]? = if isBor as k = true then some (ρ[k]?.getD .un) else if k < as.length then some .un else none
  | [], ρ, k => by simp [keep, isBor]
  | a :: as, [], 0 => by
    cases a with
    | mu b o => cases b <;> simp [keep, isBor]
    | un => simp [keep, isBor]
    | shr d => simp [keep, isBor]
  | a :: as, s :: ρ, 0 => by
    cases a with
    | mu b o => cases b <;> simp [keep, isBor]
    | un => simp [keep, isBor]
    | shr d => simp [keep, isBor]
  | a :: as, [], k + 1 => by
    have ih := keep_get as [] k
    have e : isBor (a :: as) (k + 1) = isBor as k := by unfold isBor; simp
    have e2 : (keep (a :: as) [])[k + 1]? = (keep as [])[k]? := by
      cases a with
      | mu b o => cases b <;> simp [keep]
      | un => simp [keep]
      | shr d => simp [keep]
    rw [e2, ih, e]
    simp
  | a :: as, s :: ρ, k + 1 => by
    have ih := keep_get as ρ k
    have e : isBor (a :: as) (k + 1) = isBor as k := by unfold isBor; simp
    have e2 : (keep (a :: as) (s :: ρ))[k + 1]? = (keep as ρ)[k]? := by
      cases a with
      | mu b o => cases b <;> simp [keep]
      | un => simp [keep]
      | shr d => simp [keep]
    rw [e2, ih, e]
    simp
theorem isBor_iff {ρ : Ro} {k : Nat} : isBor ρ k = true ↔ ∃ o, ρ[k]? = some (.mu true o) := by
  unfold isBor
  constructor
  · intro h
    split at h
    · next o e => exact ⟨o, e⟩
    · cases h
  · rintro ⟨o, e⟩; rw [e]
/-- the parameters behind the body -/
theorem Stt.keeps {g : Wd} {F H : Hp} {σ : L2.St} {ρ : Ro} {as : List Slo} {vs : List V} {fp : Nat → List Addr} (st : Stt g F H σ ρ fp) (hl : vs.length = as.length)
    (h0 : ∀ (k : Nat) (o : O), as[k]? = some (.mu true o) → (∃ o', ρ[k]? = some (.mu true o')) ∧ σ[k]? = (vs.map some)[k]?) :
    ∃ fp', Stt g F H (vs.map some) (keep as ρ) fp' ∧ (∀ a, Own fp' a → Own fp a) ∧ Kb as (keep as ρ) := by
  have kg := fun k => keep_get as ρ k
  have bor : ∀ {k : Nat} {s : Slo}, (keep as ρ)[k]? = some s → s ≠ .un → isBor as k = true ∧ ρ[k]? = some s := by
    intro k s h hs
    rw [kg] at h
    split at h
    · next hb =>
      obtain ⟨o, e⟩ := isBor_iff.mp hb
      obtain ⟨⟨o', e'⟩, _⟩ := h0 k o e
      rw [e'] at h ⊢
      exact ⟨hb, h⟩
    · split at h
      · cases h; exact absurd rfl hs
      · cases h
  refine ⟨fun k => if isBor as k = true then fp k else [], ⟨st.sub, by simp [keep_len, hl], fun k hk => ?_, fun k d hd => ?_, fun k b o ho => ?_, fun k => ?_, fun j k a ha hb => ?_, fun k a ha => ?_⟩, fun a ⟨k, ha⟩ => ?_, fun k o e => ?_⟩
  · (try dsimp only); split
    · next hb =>
      obtain ⟨o, e⟩ := isBor_iff.mp hb
      obtain ⟨⟨o', e'⟩, _⟩ := h0 k o e
      exact absurd (by rw [kg, if_pos hb, e']; rfl) (hk true o')
    · rfl
  · obtain ⟨hb, e⟩ := bor hd (by simp)
    obtain ⟨o, e1⟩ := isBor_iff.mp hb
    obtain ⟨⟨o', e'⟩, _⟩ := h0 k o e1
    rw [e] at e'; cases e'
  · obtain ⟨hb, e⟩ := bor ho (by simp)
    (try dsimp only); rw [if_pos hb]
    obtain ⟨o1, e1⟩ := isBor_iff.mp hb
    obtain ⟨_, e2⟩ := h0 k o1 e1
    rw [← e2]
    exact st.mu k b o e
  · (try dsimp only); split
    · exact st.nd k
    · exact List.nodup_nil
  · (try dsimp only at ha hb)
    split at ha
    · split at hb
      · exact st.dis j k a ha hb
      · cases hb
    · cases ha
  · (try dsimp only at ha)
    split at ha
    · exact st.fre k a ha
    · cases ha
  · (try dsimp only at ha)
    split at ha
    · exact ⟨k, ha⟩
    · cases ha
  · obtain ⟨⟨o', e'⟩, _⟩ := h0 k o e
    exact ⟨o', by rw [kg, if_pos (isBor_iff.mpr ⟨o, e⟩), e']; rfl⟩
theorem Stt.pad {g : Wd} {F H : Hp} {σ : L2.St} {ρ : Ro} {fp : Nat → List Addr} (st : Stt g F H σ ρ fp) (n : Nat) : Stt g F H (σ ++ List.replicate n none) (ρ ++ List.replicate n .un) fp := by
  have key : ∀ {i : Nat} {s : Slo}, (ρ ++ List.replicate n .un)[i]? = some s → s ≠ .un → ρ[i]? = some s := by
    intro i s h hs
    by_cases hi : i < ρ.length
    · rw [List.getElem?_append_left hi] at h; exact h
    · rw [List.getElem?_append_right (by omega), List.getElem?_replicate] at h
      split at h
      · cases h; exact absurd rfl hs
      · cases h
  have ks : ∀ {i : Nat} {w : Option V}, σ[i]? = some w → (σ ++ List.replicate n none)[i]? = some w := by
    intro i w h
    rw [List.getElem?_append_left (List.getElem?_eq_some_iff.mp h).1]; exact h
  refine ⟨st.sub, by simp [st.len], fun i h => st.un i fun b o e => h b o ?_, fun i d h => ?_, fun i b o h => ?_, st.nd, st.dis, st.fre⟩
  · rw [List.getElem?_append_left (List.getElem?_eq_some_iff.mp e).1]; exact e
  · exact (st.shr i d (key h (by simp))).imp fun v h => ⟨ks h.1, h.2⟩
  · exact (st.mu i b o (key h (by simp))).imp fun v h => ⟨ks h.1, h.2⟩
/-- A DEF KEEPS THE PROMISE OF ITS MEANING -/
theorem fn_ok {P : Program} {w : World} {K : PySem.W.Frag} {mg : Str → Option Value} {base : Heap} {x qual : Str} {st : Stmt} {f : Addr} {fd : FuncData} {N ps : List Str} {k : Nat} {b : MS} (F : L2.Fun K x qual st f fd) (S : FnScope N ps (defScope st))
    (hbody : ∀ (cdv : Value) (A : Around) (outer : List Env) (s : Shared) (H : Hp) (E : XK), Room k (A.deeper (envOfC qual (defScope st) s.heap.objs.size f cdv)) →
      SSs (cxOf (L2.CX P w) P w K mg base N qual (defScope st) f cdv A outer s H E) (fun c d _ H => E c d H) (defBody st) b) :
    FnOk P w K mg base (L2.CX P w) (k + 1) f fd ps (spF ⟨K, mg⟩ ps.length (mkFn N.length b)) := by
  have hpn : ps.length ≤ N.length := by have := congrArg List.length S.pre; rw [List.length_take] at this; omega
  refine Fun.okX F S (fun vs H Q E h => h.1) fun cdv A outer s H vs Q E hr h => ?_
  obtain ⟨hlen, F0, as, fp, stt, hno, hok, hex⟩ := h
  have hal : vs.length = as.length := by have := stt.len; simpa using this
  have hst : L2.start N vs = vs.map some ++ List.replicate (N.length - vs.length) none := rfl
  refine ⟨_, hbody cdv A outer s H E hr, F0, as ++ List.replicate (N.length - as.length) .un, fp, ?_, ?_⟩
  · rw [hst, hal]; exact stt.pad _
  · have fin : ∀ (ρ' : Ro) (σ' : L2.St) (F' H' : Hp) (fp' : Nat → List Addr), Stt ⟨K, mg⟩ F' H' σ' ρ' fp' → Kbs (as ++ List.replicate (N.length - as.length) .un) (L2.start N vs) ρ' σ' →
        ∃ fp2, Stt ⟨K, mg⟩ F' H' (vs.map some) (keep as ρ') fp2 ∧ (∀ a, Own fp2 a → Own fp' a) ∧ Kb as (keep as ρ') := by
      intro ρ' σ' F' H' fp' st' kb
      refine st'.keeps hal fun k o e => ?_
      have hk := (List.getElem?_eq_some_iff.mp e).1
      obtain ⟨h1, h2⟩ := kb k o (by rw [List.getElem?_append_left hk]; exact e)
      refine ⟨h1, h2.trans ?_⟩
      rw [hst, List.getElem?_append_left (by rw [List.length_map, hal]; exact hk)]
    unfold mkFn at hno hok hex
    refine ⟨fun e => hno (by rw [e]), fun ρ' e σ' F' H' fp' s' st' k' => ?_, fun ρ' e => absurd (by rw [e]) hno, fun ρ' e => absurd (by rw [e]) hno, fun r ρ' e v σ' F' H' fp' fr s' st' r' n' k' => ?_, fun x ρ' e cls d σ' F' H' fp' s' st' r' k' => ?_⟩
    all_goals rw [e] at hno hok hex
    · obtain ⟨fp2, h1, h2, h3⟩ := fin ρ' σ' F' H' fp' st' k'
      exact hok _ _ rfl .non F' H' fp2 [] (by rw [plus_nil]; exact s'.weak h2) h1 ⟨.non, rfl⟩ List.nodup_nil rfl h3
    · obtain ⟨fp2, h1, h2, h3⟩ := fin ρ' σ' F' H' fp' st' k'
      dsimp only at hno hok
      by_cases hp : r.isPk = true
      · rw [if_pos hp] at hno; exact absurd rfl hno
      · rw [if_neg hp] at hok
        refine hok _ _ rfl v F' H' fp2 fr (s'.weak fun x hx => hx.imp (h2 x) id) h1 ?_ n' (by simpa using hp) h3
        cases r with
        | d x => exact r'
        | own o => exact ⟨r'.1, fun a ha => ⟨(r'.2 a ha).1, fun z => (r'.2 a ha).2 (h2 a z)⟩⟩
        | pk o => exact r'
    · obtain ⟨fp2, h1, h2, h3⟩ := fin ρ' σ' F' H' fp' st' k'
      exact hex _ _ rfl cls d F' H' fp2 (s'.weak h2) h1 r' h3
end
end Mw

set_option Elab.async false
set_option linter.all false
set_option maxRecDepth 100000
set_option autoImplicit false
namespace Mw
open PySem PySem.Spec PyProof.Rows L2
noncomputable section

/-! ## calls of defs -/
theorem Stt.cons {g : Wd} {F H : Hp} {σ : L2.St} {ρ : Ro} {fp : Nat → List Addr} (st : Stt g F H σ ρ fp) {v : V} {s : Slo} {f : List Addr} (h : SlOk g F H v s f) (nd : f.Nodup) (out : ∀ a ∈ f, F a = none ∧ ¬ Own fp a) :
    ∃ fp', Stt g F H (some v :: σ) (s :: ρ) fp' ∧ (∀ a, Own fp' a ↔ Own fp a ∨ a ∈ f) := by
  refine ⟨fun k => match k with | 0 => f | k + 1 => fp k, ⟨st.sub, by simp [st.len], fun k hk => ?_, fun k d hd => ?_, fun k b o ho => ?_, fun k => ?_, fun j k a ha hb => ?_, fun k a ha => ?_⟩, fun a => ⟨fun ⟨k, ha⟩ => ?_, fun ha => ?_⟩⟩
  · cases k with
    | zero =>
      cases s with
      | un => exact h
      | shr d => exact h.2
      | mu b o => exact absurd rfl (hk b o)
    | succ k => exact st.un k fun b o e => hk b o (by simpa using e)
  · cases k with
    | zero => simp at hd; subst hd; exact ⟨v, rfl, h.1⟩
    | succ k => simpa using st.shr k d (by simpa using hd)
  · cases k with
    | zero => simp at ho; subst ho; exact ⟨v, rfl, h⟩
    | succ k => simpa using st.mu k b o (by simpa using ho)
  · cases k with
    | zero => exact nd
    | succ k => exact st.nd k
  · cases j with
    | zero =>
      cases k with
      | zero => rfl
      | succ k => exact absurd ⟨k, hb⟩ (out a ha).2
    | succ j =>
      cases k with
      | zero => exact absurd ⟨j, ha⟩ (out a hb).2
      | succ k => exact congrArg (· + 1) (st.dis j k a ha hb)
  · cases k with
    | zero => exact (out a ha).1
    | succ k => exact st.fre k a ha
  · cases k with
    | zero => exact .inr ha
    | succ k => exact .inl ⟨k, ha⟩
  · rcases ha with ⟨k, ha⟩ | ha
    · exact ⟨k + 1, ha⟩
    · exact ⟨0, ha⟩
theorem Stt.tail {g : Wd} {F H : Hp} {σ : L2.St} {ρ : Ro} {v : V} {s : Slo} {fp : Nat → List Addr} (st : Stt g F H (some v :: σ) (s :: ρ) fp) :
    SlOk g F H v s (fp 0) ∧ Stt g F H σ ρ (fun k => fp (k + 1)) ∧ (∀ a ∈ fp 0, ¬ Own (fun k => fp (k + 1)) a) := by
  refine ⟨?_, ⟨st.sub, by simpa using st.len, fun k hk => st.un (k + 1) fun b o e => hk b o (by simpa using e), fun k d hd => ?_, fun k b o ho => ?_, fun k => st.nd (k + 1), fun j k a ha hb => by simpa using st.dis (j + 1) (k + 1) a ha hb, fun k a ha => st.fre (k + 1) a ha⟩, fun a ha ⟨k, hb⟩ => ?_⟩
  · cases s with
    | un => exact st.un 0 fun b o e => by simp at e
    | shr d =>
      obtain ⟨w, e, r⟩ := st.shr 0 d rfl
      simp at e; subst e
      exact ⟨r, st.un 0 fun b o e => by simp at e⟩
    | mu b o =>
      obtain ⟨w, e, r⟩ := st.mu 0 b o rfl
      simp at e; subst e
      exact r
  · simpa using st.shr (k + 1) d (by simpa using hd)
  · simpa using st.mu (k + 1) b o (by simpa using ho)
  · have := st.dis 0 (k + 1) a ha hb
    omega

inductive Ar where
  | v (m : M) | b (i : Nat)
inductive Av where
  | r (r : R) | b (i : Nat)
def live (ρ : Ro) (i : Nat) : Bool := match ρ[i]? with
  | some (.mu _ _) => true
  | some (.shr _) => true
  | _ => false
def mArgB : List Ar → Ro → Res (List Av)
  | [], ρ => .ok [] ρ true
  | .v m :: as, ρ => (m ρ).bind fun r ρ1 q1 => (mArgB as ρ1).bind fun rs ρ2 q2 => if r.isPk = true then .no else .ok (.r r :: rs) ρ2 (q1 && q2)
  | .b i :: as, ρ => if live ρ i = true then (mArgB as ρ).bind fun rs ρ2 q2 => .ok (.b i :: rs) ρ2 q2 else .no
inductive RepAs (g : Wd) (σ : L2.St) (F H : Hp) (S : Addr → Prop) : List V → List Av → List Addr → Prop
  | nil : RepAs g σ F H S [] [] []
  | r {v : V} {vs : List V} {r : R} {rs : List Av} {f fr : List Addr} (h : RepR g F H S v r f) (hp : r.isPk = false) (t : RepAs g σ F H S vs rs fr) : RepAs g σ F H S (v :: vs) (.r r :: rs) (f ++ fr)
  | b {v : V} {vs : List V} {i : Nat} {rs : List Av} {fr : List Addr} (h : σ[i]? = some (some v)) (t : RepAs g σ F H S vs rs fr) : RepAs g σ F H S (v :: vs) (.b i :: rs) fr
def tB (g : Wd) (W : WX) (as : List Ar) : TA := fun σ H Q => tR g W (fun F H S vs rs fr => RepAs g σ F H S vs rs fr) (mArgB as) σ H Q
theorem RepAs.out {g : Wd} {σ : L2.St} {F H : Hp} {S : Addr → Prop} {vs : List V} {rs : List Av} {fr : List Addr} (h : RepAs g σ F H S vs rs fr) : ∀ a ∈ fr, F a = none ∧ ¬ S a ∧ H a ≠ none := by
  induction h with
  | nil => intro a ha; cases ha
  | r h hp t ih =>
    intro a ha
    rcases List.mem_append.mp ha with ha | ha
    · exact h.out a ha
    · exact ih a ha
  | b h t ih => exact ih
theorem tB_nil {g : Wd} {W : WX} {σ : L2.St} {H : Hp} {Q : List V → Hp → Prop} (h : tB g W [] σ H Q) : Q [] H := by
  obtain ⟨F, ρ, fp, st, ob⟩ := h
  exact ob.2.1 [] ρ true rfl [] F H fp [] (by rw [plus_nil]; exact .refl _ _ _) st .nil List.nodup_nil ⟨.refl ρ, fun _ => ⟨.refl H, rfl⟩⟩
theorem tB_v {g : Wd} {W : WX} {m : M} {as : List Ar} {σ : L2.St} {H : Hp} {Q : List V → Hp → Prop} (h : tB g W (.v m :: as) σ H Q) : tM g W m σ H fun x H1 => tB g W as σ H1 fun xs H2 => Q (x :: xs) H2 := by
  refine tR.bind h fun F ρ fp st r ρ1 q1 e1 v F1 H1 fp1 fr1 s1 st1 r1 n1 z1 ob => ⟨F1, ρ1, fp1, st1, ?_⟩
  refine ⟨fun e => ob.1 (by rw [e]; rfl), fun rs ρ2 q2 e vs F2 H2 fp2 fr2 s2 st2 r2 n2 z2 => ?_, fun x ρ' e cls d F' H' fp' a b c z => ?_⟩
  · rw [e] at ob
    by_cases hp : r.isPk = true
    · exact absurd (if_pos hp) ob.1
    · have hp' : r.isPk = false := by simpa using hp
      have hq : r.isPk = true → Ext H1 H2 := fun hk => absurd hk hp
      have o1' := (r1.keep s2 hq).out
      refine ob.2.1 (.r r :: rs) ρ2 (q1 && q2) (if_neg hp) (v :: vs) F2 H2 fp2 (fr1 ++ fr2) ((s2.frame fr1).weak fun x hx => ?_) st2 (.r (r1.keep (s2.weak fun x hx => .inl hx) hq) hp' r2) ?_ ⟨z1.1.trans z2.1, fun hz => ?_⟩
      · rcases hx with hx | hx
        · exact .inl (.inl hx)
        · rcases List.mem_append.mp hx with hx | hx
          · exact .inr hx
          · exact .inl (.inr hx)
      · exact List.nodup_append.mpr ⟨n1, n2, fun a ha b hb e => (o1' a ha).2.1 (.inr (e ▸ hb))⟩
      · have hz := Bool.and_eq_true_iff.mp hz
        exact ⟨(z1.2 hz.1).1.trans (z2.2 hz.2).1, (z2.2 hz.2).2.trans (z1.2 hz.1).2⟩
  · rw [e] at ob
    exact ob.2.2 x ρ' rfl cls d F' H' fp' ((a.frame fr1).weak fun x hx => .inl hx) b c ⟨z1.1.trans z.1, fun z => nomatch z⟩
theorem tB_b {g : Wd} {W : WX} {i : Nat} {as : List Ar} {σ : L2.St} {H : Hp} {Q : List V → Hp → Prop} (h : tB g W (.b i :: as) σ H Q) : tVar i σ H fun x H1 => tB g W as σ H1 fun xs H2 => Q (x :: xs) H2 := by
  obtain ⟨F, ρ, fp, st, ob⟩ := h
  have ob : Ob g W σ F H (Own fp) (Zq H ρ) _ (if live ρ i = true then (mArgB as ρ).bind fun rs ρ2 q2 => .ok (.b i :: rs) ρ2 q2 else .no) Q := ob
  by_cases hl : live ρ i = true
  · rw [if_pos hl] at ob
    obtain ⟨v, ev⟩ : ∃ v, σ[i]? = some (some v) := by
      unfold live at hl
      split at hl
      · next b o e => exact (st.mu i b o e).imp fun _ h => h.1
      · next d e => exact (st.shr i d e).imp fun _ h => h.1
      · cases hl
    refine ⟨v, ev, F, ρ, fp, st, ?_⟩
    refine ⟨fun e => ob.1 (by rw [e]; rfl), fun rs ρ2 q2 e vs F2 H2 fp2 fr2 s2 st2 r2 n2 z2 => ?_, fun x ρ' e cls d F' H' fp' a b c z => ?_⟩
    · rw [e] at ob
      exact ob.2.1 (.b i :: rs) ρ2 q2 rfl (v :: vs) F2 H2 fp2 fr2 s2 st2 (.b ev r2) n2 z2
    · rw [e] at ob
      exact ob.2.2 x ρ' rfl cls d F' H' fp' a b c z
  · rw [if_neg hl] at ob; exact absurd rfl ob.1
abbrev Loan := Option (Nat × Bool)
def lend : List Av → Ro → Option (List Slo × List Loan × Ro)
  | [], ρ => some ([], [], ρ)
  | .r r :: rs, ρ => match r.st, lend rs ρ with
    | some x, some (as, ls, ρ') => some (.shr x :: as, none :: ls, ρ')
    | _, _ => none
  | .b i :: rs, ρ => match ρ[i]? with
    | some (.shr d) => match lend rs ρ with
      | some (as, ls, ρ') => some (.shr d :: as, none :: ls, ρ')
      | none => none
    | some (.mu b o) => match lend rs (ρ.set i .un) with
      | some (as, ls, ρ') => some (.mu true o :: as, some (i, b) :: ls, ρ')
      | none => none
    | _ => none
def back : List Loan → List Slo → Ro → Ro
  | some (i, b) :: ls, .mu true o :: as, ρ => back ls as (ρ.set i (.mu b o))
  | _ :: ls, _ :: as, ρ => back ls as ρ
  | _, _, ρ => ρ
/-- loans: the places that were lent hold the values -/
inductive Lent (σ : L2.St) : List V → List Slo → List Loan → Prop
  | nil : Lent σ [] [] []
  | no {v : V} {vs : List V} {s : Slo} {as : List Slo} {ls : List Loan} (t : Lent σ vs as ls) : Lent σ (v :: vs) (s :: as) (none :: ls)
  | yes {v : V} {vs : List V} {o : O} {as : List Slo} {ls : List Loan} {i : Nat} {b : Bool} (h : σ[i]? = some (some v)) (t : Lent σ vs as ls) : Lent σ (v :: vs) (.mu true o :: as) (some (i, b) :: ls)
inductive RepAf (g : Wd) (σ : L2.St) (F : Hp) : List V → List Av → Prop
  | nil : RepAf g σ F [] []
  | r {v : V} {vs : List V} {r : R} {rs : List Av} (h : ∀ x, r.st = some x → Rep g F v x) (t : RepAf g σ F vs rs) : RepAf g σ F (v :: vs) (.r r :: rs)
  | b {v : V} {vs : List V} {i : Nat} {rs : List Av} (h : σ[i]? = some (some v)) (t : RepAf g σ F vs rs) : RepAf g σ F (v :: vs) (.b i :: rs)
theorem RepAs.frz {g : Wd} {σ : L2.St} {F H : Hp} {S : Addr → Prop} {vs : List V} {rs : List Av} {fr : List Addr} (h : RepAs g σ F H S vs rs fr) {F' : Hp} (e : Ext F F') (k : ∀ a ∈ fr, F' a = H a) : RepAf g σ F' vs rs := by
  induction h with
  | nil => exact .nil
  | r h hp t ih => exact .r (fun x ex => h.st ex e fun a ha => k a (by simp [ha])) (ih fun a ha => k a (by simp [ha]))
  | b h t ih => exact .b h (ih k)
theorem set_self {σ : L2.St} {i : Nat} {v : V} (e : σ[i]? = some (some v)) : σ.set i (some v) = σ := by
  apply List.ext_getElem?
  intro j
  rw [List.getElem?_set]
  split
  · next z =>
    subst z
    rw [if_pos (List.getElem?_eq_some_iff.mp e).1, e]
  · rfl
def lix (ls : List Loan) : List Nat := ls.filterMap fun l => l.map (·.1)
theorem mem_lix {ls : List Loan} {j : Nat} : j ∈ lix ls ↔ ∃ b, some (j, b) ∈ ls := by
  unfold lix
  rw [List.mem_filterMap]
  constructor
  · rintro ⟨l, h, e⟩
    cases l with
    | none => cases e
    | some p => cases e; exact ⟨p.2, h⟩
  · rintro ⟨b, h⟩; exact ⟨_, h, rfl⟩
theorem lend_ok {g : Wd} {σ : L2.St} {F H : Hp} : ∀ {rs : List Av} {vs : List V} {ρ : Ro} {fp : Nat → List Addr} {as : List Slo} {ls : List Loan} {ρu : Ro}, Stt g F H σ ρ fp → RepAf g σ F vs rs → lend rs ρ = some (as, ls, ρu) →
    ∃ fpc fpu, Stt g F H (vs.map some) as fpc ∧ Stt g F H σ ρu fpu ∧ (∀ a, Own fpu a → Own fp a) ∧ (∀ a, Own fpc a → Own fp a) ∧ (∀ a, Own fpu a → ¬ Own fpc a) ∧ Lent σ vs as ls ∧
      (ls.all Option.isNone = true → ρu = ρ ∧ ∀ a, ¬ Own fpc a) ∧ (∀ (j : Nat) (o : O), ρ[j]? = some (.mu true o) → ρu[j]? = some (.mu true o) ∨ some (j, true) ∈ ls) ∧ (lix ls).Nodup ∧ (∀ (i : Nat) (b : Bool), some (i, b) ∈ ls → ∃ o, ρ[i]? = some (.mu b o))
  | [], _, ρ, fp, _, _, _, st, .nil, e => by
    cases e
    refine ⟨fun _ => [], fp, ⟨st.sub, rfl, fun _ _ => rfl, fun i d h => by simp at h, fun i b o h => by simp at h, fun _ => List.nodup_nil, (fun _ _ _ h => nomatch h), (fun _ _ h => nomatch h)⟩, st, fun _ h => h, (fun a ⟨_, h⟩ => nomatch h), (fun a _ ⟨_, h⟩ => nomatch h), .nil, (fun _ => ⟨rfl, (fun a ⟨_, h⟩ => nomatch h)⟩), (fun j o h => .inl h), List.nodup_nil, (fun i b h => nomatch h)⟩
  | .r r :: rs, _, ρ, fp, _, _, _, st, .r (v := v) (vs := vs) h t, e => by
    unfold lend at e
    split at e
    · next x as ls ρ' e1 e2 =>
      cases e
      obtain ⟨fpc, fpu, c1, c2, c3, c4, c5, c6, c7, c8, c9, c10⟩ := lend_ok st t e2
      obtain ⟨fpc', d1, d2⟩ := c1.cons (s := .shr x) (f := []) ⟨h x e1, rfl⟩ List.nodup_nil fun a ha => nomatch ha
      have d3 : ∀ a, Own fpc' a → Own fpc a := fun a ha => ((d2 a).mp ha).elim id fun z => nomatch z
      exact ⟨fpc', fpu, d1, c2, c3, fun a ha => c4 a (d3 a ha), fun a ha hb => c5 a ha (d3 a hb), .no c6, fun hn => ⟨(c7 (by simpa using hn)).1, fun a ha => (c7 (by simpa using hn)).2 a (d3 a ha)⟩, fun j o h => (c8 j o h).imp id fun z => List.mem_cons_of_mem _ z, c9, fun i b h => c10 i b (by simpa using h)⟩
    · cases e
  | .b i :: rs, _, ρ, fp, _, _, _, st, .b (v := v) (vs := vs) h t, e => by
    unfold lend at e
    split at e
    · next d e1 =>
      split at e
      · next as ls ρ' e2 =>
        cases e
        obtain ⟨fpc, fpu, c1, c2, c3, c4, c5, c6, c7, c8, c9, c10⟩ := lend_ok st t e2
        obtain ⟨w, ew, rw'⟩ := st.shr i d e1
        rw [h] at ew; cases ew
        obtain ⟨fpc', d1, d2⟩ := c1.cons (s := .shr d) (f := []) ⟨rw', rfl⟩ List.nodup_nil fun a ha => nomatch ha
        have d3 : ∀ a, Own fpc' a → Own fpc a := fun a ha => ((d2 a).mp ha).elim id fun z => nomatch z
        exact ⟨fpc', fpu, d1, c2, c3, fun a ha => c4 a (d3 a ha), fun a ha hb => c5 a ha (d3 a hb), .no c6, fun hn => ⟨(c7 (by simpa using hn)).1, fun a ha => (c7 (by simpa using hn)).2 a (d3 a ha)⟩, fun j o h => (c8 j o h).imp id fun z => List.mem_cons_of_mem _ z, c9, fun i b h => c10 i b (by simpa using h)⟩
      · cases e
    · next b o e1 =>
      split at e
      · next as ls ρ' e2 =>
        cases e
        have hi : i < ρ.length := (List.getElem?_eq_some_iff.mp e1).1
        obtain ⟨w, ew, rw'⟩ := st.mu i b o e1
        rw [h] at ew; cases ew
        obtain ⟨fp1, st1, k1, k2⟩ := st.drop i
        obtain ⟨fpc, fpu, c1, c2, c3, c4, c5, c6, c7, c8, c9, c10⟩ := lend_ok st1 t e2
        obtain ⟨fpc', d1, d2⟩ := c1.cons (s := .mu true o) (f := fp i) rw' (st.nd i) fun a ha => ⟨st.fre i a ha, fun z => k2 hi a ha (c4 a z)⟩
        refine ⟨fpc', fpu, d1, c2, fun a ha => k1 a (c3 a ha), fun a ha => ?_, fun a ha hb => ?_, .yes h c6, fun hn => absurd hn (by simp), fun j o' h' => ?_, ?_, fun j b' h' => ?_⟩
        · rcases (d2 a).mp ha with z | z
          · exact k1 a (c4 a z)
          · exact ⟨i, z⟩
        · rcases (d2 a).mp hb with z | z
          · exact c5 a ha z
          · exact k2 hi a z (c3 a ha)
        · by_cases hj : i = j
          · subst hj
            rw [e1] at h'; cases h'
            exact .inr (by simp)
          · exact (c8 j o' (by rw [List.getElem?_set, if_neg hj]; exact h')).imp id fun z => List.mem_cons_of_mem _ z
        · show (i :: lix ls).Nodup
          refine List.nodup_cons.mpr ⟨fun z => ?_, c9⟩
          obtain ⟨b', z⟩ := mem_lix.mp z
          obtain ⟨o', z⟩ := c10 i b' z
          rw [List.getElem?_set] at z
          simp [hi] at z
        · rcases List.mem_cons.mp h' with z | z
          · cases z; exact ⟨o, e1⟩
          · obtain ⟨o', q⟩ := c10 j b' z
            rw [List.getElem?_set] at q
            split at q
            · first
                | cases q; done
                | (split at q <;> cases q)
            · exact ⟨o', q⟩
      · cases e
    · cases e
theorem back_ok {g : Wd} {σ : L2.St} {F H : Hp} : ∀ {vs : List V} {as as' : List Slo} {ls : List Loan} {ρu : Ro} {fpu fpc : Nat → List Addr}, Lent σ vs as ls → Stt g F H σ ρu fpu → Stt g F H (vs.map some) as' fpc → (∀ a, Own fpu a → ¬ Own fpc a) → Kb as as' → (lix ls).Nodup →
    (∃ fp2, Stt g F H σ (back ls as' ρu) fp2 ∧ (∀ a, Own fp2 a → Own fpu a ∨ Own fpc a)) ∧ (∀ (j : Nat), j ∉ lix ls → (back ls as' ρu)[j]? = ρu[j]?) ∧ (∀ (j : Nat), j < ρu.length → some (j, true) ∈ ls → ∃ o, (back ls as' ρu)[j]? = some (.mu true o))
  | _, _, as', _, ρu, fpu, fpc, .nil, st, sc, dj, kb, nd => ⟨⟨fpu, by cases as' <;> exact st, fun a h => .inl h⟩, fun j h => by cases as' <;> rfl, (fun j _ h => nomatch h)⟩
  | _, _, [], _, ρu, fpu, fpc, .no t, st, sc, dj, kb, nd => by have := sc.len; simp at this
  | _, _, [], _, ρu, fpu, fpc, .yes h t, st, sc, dj, kb, nd => by have := sc.len; simp at this
  | _, _, s' :: as', _, ρu, fpu, fpc, .no (as := as) (ls := ls) t, st, sc, dj, kb, nd => by
    obtain ⟨h1, h2, h3⟩ := Stt.tail sc
    have e : back (none :: ls) (s' :: as') ρu = back ls as' ρu := by cases s' <;> rfl
    rw [e]
    have ih := back_ok t st h2 (fun a ha ⟨k, hb⟩ => dj a ha ⟨k + 1, hb⟩) (fun k o q => by simpa using kb (k + 1) o (by simpa using q)) nd
    obtain ⟨⟨fp2, a1, a2⟩, a3, a4⟩ := ih
    exact ⟨⟨fp2, a1, fun a ha => (a2 a ha).imp id fun ⟨k, z⟩ => ⟨k + 1, z⟩⟩, a3, fun j hj hm => a4 j hj (by simpa using hm)⟩
  | _, _, s' :: as', _, ρu, fpu, fpc, .yes (as := as) (ls := ls) (i := i) (b := b) h t, st, sc, dj, kb, nd => by
    obtain ⟨o', eo⟩ := kb 0 _ rfl
    simp at eo
    subst eo
    have nd : (i :: lix ls).Nodup := nd
    obtain ⟨h1, h2, h3⟩ := Stt.tail sc
    obtain ⟨fp1, st1, k1⟩ := st.put (v := _) i (s := .mu b o') (f := fpc 0) h1 (sc.nd 0) fun a ha => ⟨sc.fre 0 a ha, fun z => dj a z ⟨0, ha⟩⟩
    rw [set_self h] at st1
    have dj1 : ∀ a, Own fp1 a → ¬ Own (fun k => fpc (k + 1)) a := fun a ha ⟨k, hb⟩ => by
      rcases k1 a ha with z | z
      · exact dj a z ⟨k + 1, hb⟩
      · exact h3 a z ⟨k, hb⟩
    have ih := back_ok t st1 h2 dj1 (fun k o q => by simpa using kb (k + 1) o (by simpa using q)) (List.nodup_cons.mp nd).2
    obtain ⟨⟨fp2, a1, a2⟩, a3, a4⟩ := ih
    have hi : i < ρu.length := by rw [← st.len]; exact (List.getElem?_eq_some_iff.mp h).1
    refine ⟨⟨fp2, a1, fun a ha => ?_⟩, fun j hj => ?_, fun j hj hm => ?_⟩
    · rcases a2 a ha with z | ⟨k, z⟩
      · rcases k1 a z with z | z
        · exact .inl z
        · exact .inr ⟨0, z⟩
      · exact .inr ⟨k + 1, z⟩
    · have hj : j ∉ i :: lix ls := hj
      have := a3 j fun z => hj (List.mem_cons_of_mem _ z)
      refine this.trans ?_
      rw [List.getElem?_set, if_neg fun z => hj (by simp [z])]
    · rcases List.mem_cons.mp hm with z | z
      · cases z
        exact ⟨o', (a3 i (List.nodup_cons.mp nd).1).trans (by rw [List.getElem?_set]; simp [hi])⟩
      · exact a4 j (by simpa using hj) z

def mCall (f : Fn) (args : List Ar) : M := fun ρ => (mArgB args ρ).bind fun rs ρ1 q => match lend rs ρ1 with
  | none => .no
  | some (as, ls, ρu) => match f as with
    | .ok r as' => .ok r (back ls as' ρu) (q && ls.all Option.isNone)
    | .ex x as' => .ex x (back ls as' ρu)
    | .no => .no
theorem Stt.framed {g : Wd} {F H F' H' : Hp} {σ : L2.St} {ρ : Ro} {fp : Nat → List Addr} {S S' : Addr → Prop} (st : Stt g F H σ ρ fp) (s : Step F H S F' H' S') (sub : Ext F' H') (d : ∀ a, Own fp a → ¬ S a) : Stt g F' H' σ ρ fp :=
  ⟨sub, st.len, st.un, fun i x h => (st.shr i x h).imp fun v h => ⟨h.1, h.2.mono s.ext⟩, fun i b o h => (st.mu i b o h).imp fun v h => ⟨h.1, h.2.mono s.ext fun a ha u e => s.keep a u (d a ⟨i, ha⟩) e⟩, st.nd, st.dis, fun i a ha => by
    cases q : F' a with
    | none => rfl
    | some u =>
      rcases s.new a u q with z | z | z
      · rw [st.fre i a ha] at z; cases z
      · exact absurd z (d a ⟨i, ha⟩)
      · exact absurd z (st.thereN ⟨i, ha⟩)⟩
theorem tM_call {g : Wd} {W : WX} {n : Nat} {f : Fn} {args : List Ar} {σ : L2.St} {H : Hp} {Q : VK} (hn : args.length = n) (h : tM g W (mCall f args) σ H Q) : tB g W args σ H fun vs H1 => spF g n f vs H1 Q (WE W σ) := by
  have alen : ∀ (as : List Ar) (ρ : Ro) {rs : List Av} {ρ1 : Ro} {q : Bool}, mArgB as ρ = .ok rs ρ1 q → rs.length = as.length := by
    intro as
    induction as with
    | nil => intro ρ rs ρ1 q e; cases e; rfl
    | cons a as ih =>
      intro ρ rs ρ1 q e
      cases a with
      | v m =>
        unfold mArgB at e
        cases e1 : m ρ with
        | no => rw [e1] at e; cases e
        | ex x ρ' => rw [e1] at e; cases e
        | ok r ρ' q' =>
          rw [e1] at e
          simp only [Res.bind_ok] at e
          cases e2 : mArgB as ρ' with
          | no => rw [e2] at e; cases e
          | ex x ρ'' => rw [e2] at e; cases e
          | ok rs' ρ'' q'' =>
            rw [e2] at e
            simp only [Res.bind_ok] at e
            split at e
            · cases e
            · cases e; simp [ih _ e2]
      | b i =>
        unfold mArgB at e
        split at e
        · cases e2 : mArgB as ρ with
          | no => rw [e2] at e; cases e
          | ex x ρ'' => rw [e2] at e; cases e
          | ok rs' ρ'' q'' => rw [e2] at e; cases e; simp [ih _ e2]
        · cases e
  have vlen : ∀ {F H : Hp} {S : Addr → Prop} {vs : List V} {rs : List Av} {fr : List Addr}, RepAs g σ F H S vs rs fr → vs.length = rs.length := by
    intro F H S vs rs fr h
    induction h with
    | nil => rfl
    | r h hp t ih => simp [ih]
    | b h t ih => simp [ih]
  refine tR.bind h fun F ρ fp st rs ρ1 q1 e1 vs F1 H1 fp1 fr1 s1 st1 r1 n1 z1 ob => ?_
  refine ⟨(vlen r1).trans ((alen _ _ e1).trans hn), ?_⟩
  cases el : lend rs ρ1 with
  | none => rw [el] at ob; exact absurd rfl ob.1
  | some p =>
    obtain ⟨as, ls, ρu⟩ := p
    rw [el] at ob
    dsimp only at ob
    have st2 := st1.frzd fun a ha => (r1.out a ha).2.1
    obtain ⟨fpc, fpu, c1, c2, c3, c4, c5, c6, c7, c8, c9, c10⟩ := lend_ok st2 (r1.frz (frz_ext st1.sub) fun a ha => frz_mem ha) el
    have after : ∀ {as' : List Slo} {F' H' : Hp} {fp' : Nat → List Addr} {fr : List Addr}, Step (frz F1 H1 fr1) H1 (Own fpc) F' H' (Plus (Own fp') fr) → Stt g F' H' (vs.map some) as' fp' → Kb as as' →
        ∃ fp2, Stt g F' H' σ (back ls as' ρu) fp2 ∧ (∀ a, Own fp2 a → Own fpu a ∨ Own fp' a) ∧ Kb ρ1 (back ls as' ρu) ∧ Step F1 H1 (Plus (Own fp1) fr1) F' H' (Plus (Own fp2) fr) := by
      intro as' F' H' fp' fr s' sc' kb
      have su := c2.framed s' sc'.sub c5
      obtain ⟨⟨fp2, a1, a2⟩, a3, a4⟩ := back_ok c6 su sc' (fun a ha hb => by
        rcases s'.fre a (.inl hb) with z | z
        · exact c5 a ha z
        · exact (c2.there ha).1 z) kb c9
      refine ⟨fp2, a1, a2, fun j o h => ?_, ?_⟩
      · have hj : j < ρu.length := by rw [← c2.len, st1.len]; exact (List.getElem?_eq_some_iff.mp h).1
        by_cases hm : j ∈ lix ls
        · obtain ⟨b, hb⟩ := mem_lix.mp hm
          obtain ⟨o', ho'⟩ := c10 j b hb
          rw [h] at ho'; cases ho'
          exact a4 j hj hb
        · rcases c8 j o h with z | z
          · exact ⟨o, (a3 j hm).trans z⟩
          · exact a4 j hj z
      · refine (Step.frz st1.sub).trans ⟨s'.ext, fun a u hs hh => s'.keep a u (fun z => hs (c4 a z)) hh, fun a u hh => (s'.new a u hh).imp id fun z => z.imp (c4 a) id, fun a hh => ?_⟩
        rcases hh with hh | hh
        · rcases a2 a hh with z | z
          · exact .inl (c3 a z)
          · exact (s'.fre a (.inl z)).imp (c4 a) id
        · exact (s'.fre a (.inr hh)).imp (c4 a) id
    refine ⟨frz F1 H1 fr1, as, fpc, c1, fun e => ob.1 (by rw [e]), fun r as' e v F' H' fp' fr s' sc' r' n' hp kb => ?_, fun x as' e cls d F' H' fp' s' sc' r' kb => ?_⟩
    · rw [e] at ob
      obtain ⟨fp2, b1, b2, b3, b4⟩ := after s' sc' kb
      refine ob.2.1 r _ _ rfl v F' H' fp2 fr b4 b1 ?_ n' ⟨z1.1.trans b3, fun hq => ?_⟩
      · cases r with
        | d x => exact r'
        | own o =>
          refine ⟨r'.1, fun a ha => ⟨(r'.2 a ha).1, fun z => ?_⟩⟩
          rcases b2 a z with w | w
          · rcases s'.fre a (.inr ha) with y | y
            · exact c5 a w y
            · exact (c2.there w).1 y
          · exact (r'.2 a ha).2 w
        | pk o => exact r'
      · have hq := Bool.and_eq_true_iff.mp hq
        obtain ⟨h1, h2⟩ := c7 hq.2
        refine ⟨(z1.2 hq.1).1.trans fun a u hh => s'.keep a u (h2 a) hh, ?_⟩
        have hb : ∀ (ls : List Loan) (as' : List Slo) (ρ : Ro), ls.all Option.isNone = true → back ls as' ρ = ρ := by
          intro ls
          induction ls with
          | nil => intro as' ρ _; cases as' <;> rfl
          | cons l ls ih =>
            intro as' ρ hl
            cases l with
            | some p => simp at hl
            | none =>
              cases as' with
              | nil => rfl
              | cons s as' => rw [show back (none :: ls) (s :: as') ρ = back ls as' ρ by cases s <;> rfl]; exact ih as' ρ (by simpa using hl)
        rw [hb ls as' ρu hq.2, h1]
        exact (z1.2 hq.1).2
    · rw [e] at ob
      obtain ⟨fp2, b1, b2, b3, b4⟩ := after (fr := []) (by rw [plus_nil]; exact s') sc' kb
      rw [plus_nil] at b4
      exact ob.2.2 x _ rfl cls d F' H' fp2 b4 b1 r' ⟨z1.1.trans b3, fun z => nomatch z⟩

section
variable {X : Cx} {W : WX} {pos : Pos} {a b c : Expr} {es : List Expr} {ma mb mc : M} {as : List Ar} {x : Str} {p : Pos}
abbrev SB (X : Cx) (W : WX) (es : List Expr) (as : List Ar) : Prop := PA X es (tB (gOf X) W as)
theorem b_nil : SB X W [] [] := PA.wk pa_nil fun σ H Q h => tB_nil h
theorem b_v (ha : SE X W a ma) (hr : SB X W es as) (hs : starEach (a :: es) X.env = (false, eval a X.env) :: starEach es X.env := by rfl) : SB X W (a :: es) (.v ma :: as) := PA.wk (pa_cons ha hr hs) fun σ H Q h => tB_v h
theorem b_b {i : Nat} (hN : X.N[i]? = some x) (hv : Vis X.env.scope x) (hr : SB X W es as) (hs : starEach (.Name x p :: es) X.env = (false, eval (.Name x p) X.env) :: starEach es X.env := by rfl) (hd : (x == ("__debug__" : Str)) = false := by decide) (hcd : (x == ("__classdict__" : Str)) = false := by decide) :
    SB X W (.Name x p :: es) (.b i :: as) := PA.wk (pa_cons (pe_var hN hv hd hcd) hr hs) fun σ H Q h => tB_b h
/-- a def that stands at a name of the module and keeps a meaning's promise -/
structure Kp (P : Program) (w : World) (K : PySem.W.Frag) (mg : Str → Option Value) (base : Heap) (k : Nat) (x : Str) (n : Nat) (f : Fn) : Prop where
  ex : ∃ fa fd ps, FnOk P w K mg base (L2.CX P w) k fa fd ps (spF ⟨K, mg⟩ n f) ∧ Binds K fd ps [] ∧ mg x = some (.ref fa) ∧ PySem.W.keepIn K (.ref fa) = true
theorem Kp.mono {P : Program} {w : World} {K : PySem.W.Frag} {mg : Str → Option Value} {base : Heap} {j k : Nat} {x : Str} {n : Nat} {f : Fn} (h : Kp P w K mg base j x n f) (l : j ≤ k) : Kp P w K mg base k x n f := by
  obtain ⟨fa, fd, ps, h1, h2⟩ := h.ex
  exact ⟨fa, fd, ps, h1.mono l, h2⟩
theorem s_call {k n : Nat} {f : Fn} (G : Kp X.prog X.w X.K X.mg X.base k x n f) (hr : Room k X.A) (hg : Gl X x) (tk : Takes X W) (ha : SB X W (a :: es) as) (hn : as.length = n := by rfl)
    (hdb : (x == ("__debug__" : Str)) = false := by decide) (he : starEach (a :: es) X.env = (false, eval a X.env) :: starEach es X.env := by rfl) (hpl : (backTo pos (starEach es X.env)).any (·.1) = false := by rfl) :
    SE X W (.Call (.Name x p) (a :: es) [] pos) (mCall f as) := by
  obtain ⟨fa, fd, ps, h1, h2, h3, h4⟩ := G.ex
  exact PE.wk (pe_callSD (E := WE W) (dvs := []) (ds := []) h1 hr hg h3 h4 h2 .nil (fun σ => passAt tk σ) ha hdb he hpl) fun σ H Q h => (tM_call hn h).imp fun vs H1 q => by rw [List.append_nil]; exact q
end
end
end Mw

set_option Elab.async false
set_option linter.all false
set_option maxRecDepth 100000
set_option autoImplicit false
namespace Mw
open PySem PySem.Spec PyProof.Rows L2
noncomputable section
/-! ## comparisons as tests -/
def CmpB (X : Cx) (op : CmpOp) (f : R → R → Option R) : Prop := ∃ r, OpR X (compareOp op) r ∧ LOk2 (gOf X) f r
section
variable {X : Cx} {W : WX} {pos : Pos} {a b : Expr} {ma mb : M} {op : CmpOp} {f : R → R → Option R}
theorem st_cmp (h : CmpB X op f) (ha : SE X W a ma) (hb : SE X W b mb) (hm : behindInMarks op b = false) : ST X W (.Compare a [op] [b] pos) (mTest (m2 f ma mb)) := by
  obtain ⟨r, h1, h2⟩ := h
  exact PT.wk (pt_cmpR h1 ha hb hm) fun σ H Q h => tM_m2 h2 (tM_test h)
theorem cb_lt : CmpB X .Lt lLt := ⟨_, op_lt, l_I0 fun i j d e F => by cases e; exact .bl _⟩
theorem cb_le : CmpB X .LtE lLe := ⟨_, op_le, l_I0 fun i j d e F => by cases e; exact .bl _⟩
theorem cb_gt : CmpB X .Gt lGt := ⟨_, op_gt, l_I0 fun i j d e F => by cases e; exact .bl _⟩
theorem cb_ge : CmpB X .GtE lGe := ⟨_, op_ge, l_I0 fun i j d e F => by cases e; exact .bl _⟩
theorem cb_eq (hu : X.A.units + 64 < cLine) : CmpB X .Eq lEq := ⟨_, op_eq.or (op_eqD hu), l_eq⟩
theorem cb_ne (hu : X.A.units + 64 < cLine) : CmpB X .NotEq lNe := ⟨_, op_ne.or (op_neD hu), l_ne⟩
theorem cb_in (hu : X.A.units + 65 < cLine) : CmpB X .In lIn := ⟨_, op_in_sign.or (op_in_seq.or (op_inD hu)), l_inA false⟩
theorem cb_notin (hu : X.A.units + 65 < cLine) : CmpB X .NotIn lNotIn := ⟨_, op_notIn_sign.or (op_notIn_seq.or (op_notInD hu)), l_inA true⟩
theorem cb_isN : CmpB X .Is lIsN := ⟨_, op_isN, by
  intro F H S x y p q f1 f2 Q rx ry l
  obtain ⟨rr, e⟩ := l.has
  have e0 := e
  unfold lIsN at e
  split at e
  · next i e1 e2 =>
    cases e
    refine ⟨ry.non e2, ?_⟩
    rw [rep_non (rx.whole l.sub e1)]
    exact l.val e0 (.bl _)
  · cases e⟩
theorem cb_notN : CmpB X .IsNot lNotN := ⟨_, op_notN, by
  intro F H S x y p q f1 f2 Q rx ry l
  obtain ⟨rr, e⟩ := l.has
  have e0 := e
  unfold lNotN at e
  split at e
  · next i e1 e2 =>
    cases e
    refine ⟨ry.non e2, ?_⟩
    rw [rep_non (rx.whole l.sub e1)]
    exact l.val e0 (.bl _)
  · cases e⟩
end
/-! ## the ends -/
structure Cst (K : PySem.W.Frag) (mg : Str → Option Value) (x : Str) (d : D) : Prop where
  ex : ∃ v u, mg x = some u ∧ RelV v u ∧ ∀ F, Rep ⟨K, mg⟩ F v d
theorem Cst.int {K : PySem.W.Frag} {mg : Str → Option Value} {x : Str} {i : Int} {t : Tok} (h : mg x = some (.int i t)) : Cst K mg x (.int i) := ⟨⟨.int i, _, h, ⟨_, rfl⟩, fun F => .int i⟩⟩
theorem Cst.str {K : PySem.W.Frag} {mg : Str → Option Value} {x : Str} {z : Str} {t : Tok} {s : List Nat} (h : mg x = some (.str z t)) (e : z.cps.toList = s) (hl : s.length ≤ sizeLine) : Cst K mg x (.str s) :=
  ⟨⟨.str z, _, h, ⟨_, rfl⟩, fun F => rep_str e hl⟩⟩
section
variable {X : Cx} {W : WX} {pos : Pos} {x : Str} {d : D}
theorem s_cst (hg : Gl X x) (h : Cst X.K X.mg x d) (hd : (x == ("__debug__" : Str)) = false := by decide) : SE X W (.Name x pos) (mC d) := by
  obtain ⟨v, u, h1, h2, h3⟩ := h.ex
  exact s_glob hg h1 h2 h3 hd
theorem hu65 {A : Around} {k : Nat} (hr : Room k A) : A.units + 65 < cLine := by have := hr.un; omega
end
theorem fn_no {P : Program} {w : World} {K : PySem.W.Frag} {mg : Str → Option Value} {base : Heap} {k : Nat} {f : Addr} {fd : FuncData} {ps : List Str} : FnOk P w K mg base (L2.CX P w) k f fd ps (spF ⟨K, mg⟩ ps.length fun _ => .no) :=
  ⟨fun vs H Q E h => h.1, fun A outer s H args us vs Q E hr e0 hb r h => by
    obtain ⟨_, F, as, fp, st, hno, _⟩ := h
    exact absurd rfl hno⟩
/-- the law's own end -/
def spLaw (K : PySem.W.Frag) : Sp := fun vs H Q E => ∃ (a : Addr) (ns : List Int), vs = [.ref a] ∧ SqL K H a (ns.map V.int) ∧ ns.length ≤ 63 ∧ ∀ H', Q (.bl true) H'
theorem Reps.ints {g : Wd} {F : Hp} : ∀ ns : List Int, Reps g F (ns.map V.int) (ns.map D.int)
  | [] => .nil
  | n :: ns => .cons (.int n) (Reps.ints ns)
theorem fn_law {P : Program} {w : World} {K : PySem.W.Frag} {mg : Str → Option Value} {base : Heap} {k : Nat} {fa : Addr} {fd : FuncData} {p : Str} {f : Fn} (h : FnOk P w K mg base (L2.CX P w) k fa fd [p] (spF ⟨K, mg⟩ 1 f))
    (law : ∀ ns : List Int, ns.length ≤ 63 → ∃ as, f [.shr (.lst (ns.map D.int))] = .ok (.d (.bl true)) as) : FnOk P w K mg base (L2.CX P w) k fa fd [p] (spLaw K) :=
  h.imp (fun vs H Q E ⟨a, ns, e, hs, hl, q⟩ => by
    subst e
    obtain ⟨as', e⟩ := law ns hl
    refine ⟨rfl, fun b => if b = a then H a else none, [.shr (.lst (ns.map D.int))], fun _ => [], ⟨fun b o h => ?_, rfl, fun _ _ => rfl, fun i d h => ?_, fun i b o h => ?_, fun _ => List.nodup_nil, (fun _ _ _ h => nomatch h), (fun _ _ h => nomatch h)⟩, ?_, fun r as2 e2 v F' H' fp' fr s st' rr nd hp kb => ?_, fun x as2 e2 => ?_⟩
    · split at h
      · next z => subst z; exact h
      · cases h
    · cases i with
      | zero =>
        simp at h; subst h
        refine ⟨.ref a, rfl, .lst (vs := ns.map V.int) ?_ (by rw [List.length_map]; exact Nat.le_trans hl (by rw [sizeLine_eq]; decide)) (Reps.ints ns)⟩
        rcases hs with (hs | ⟨o, hs⟩) | hs
        · exact .inl (.inl ((if_pos rfl).trans hs))
        · exact .inl (.inr ⟨o, (if_pos rfl).trans hs⟩)
        · exact .inr hs
      | succ i => simp at h
    · cases i with
      | zero => simp at h
      | succ i => simp at h
    · rw [e]; simp
    · rw [e] at e2; cases e2
      obtain ⟨rr, _⟩ := rr
      cases rr
      exact q H'
    · rw [e] at e2; cases e2)
end
end Mw

set_option Elab.async false
set_option linter.all false
set_option maxRecDepth 100000
set_option autoImplicit false
namespace Mw
open PySem PySem.Spec PyProof.Rows L2
noncomputable section
/-! ### list comprehensions -/
def wipeR (ρ : Ro) : List Nat → Ro
  | [] => ρ
  | v :: vs => (wipeR ρ vs).set v .un
def keepS (ρ : Ro) (v : Nat) : Slo := match ρ[v]? with
  | some (.shr d) => .shr d
  | _ => .un
def unwipe (ρ0 ρ : Ro) : List Nat → Ro
  | [] => ρ
  | v :: vs => (unwipe ρ0 ρ vs).set v (keepS ρ0 v)
def noMu (ρ : Ro) : List Nat → Bool
  | [] => true
  | v :: vs => (match ρ[v]? with | some (.mu _ _) => false | _ => true) && noMu ρ vs
def lcR (t : Tg) (c : MB) (e : M) (vs : List Nat) : List D → Ro → Bool → List D → Option (List D × Ro × Bool)
  | [], ρ, q, ys => some (ys, ρ, q)
  | x :: xs, ρ, q, ys => match asg t x ρ with
    | none => none
    | some ρ1 => match c ρ1 with
      | .ok b ρ2 q1 => if b = true then (match e ρ2 with
          | .ok r ρ3 q2 => (match r.st with
            | some y => lcR t c e vs xs (wipeR ρ3 vs) (q && q1 && q2) (ys ++ [y])
            | none => none)
          | _ => none)
        else lcR t c e vs xs (wipeR ρ2 vs) (q && q1) ys
      | _ => none
def lcGo : Tg → MB → M → List Nat → List D → Ro → Bool → List D → Option (List D × Ro × Bool) := hide lcR
theorem lcGo_nil (t : Tg) (c : MB) (e : M) (vs : List Nat) (ρ : Ro) (q : Bool) (ys : List D) : lcGo t c e vs [] ρ q ys = some (ys, ρ, q) := by unfold lcGo; rw [hide_eq]; rfl
theorem lcGo_cons (t : Tg) (c : MB) (e : M) (vs : List Nat) (x : D) (xs : List D) (ρ : Ro) (q : Bool) (ys : List D) : lcGo t c e vs (x :: xs) ρ q ys = match asg t x ρ with
    | none => none
    | some ρ1 => (match c ρ1 with
      | .ok b ρ2 q1 => if b = true then (match e ρ2 with
          | .ok r ρ3 q2 => (match r.st with
            | some y => lcGo t c e vs xs (wipeR ρ3 vs) (q && q1 && q2) (ys ++ [y])
            | none => none)
          | _ => none)
        else lcGo t c e vs xs (wipeR ρ2 vs) (q && q1) ys
      | _ => none) := by unfold lcGo; rw [hide_eq]; rfl
def mLc (it : MI) (t : Tg) (c : MB) (e : M) (vs : List Nat) : M := fun ρ => (it ρ).bind fun xs ρ1 q1 => if (lenOk xs.length && noMu ρ1 vs) = true then (match lcGo t c e vs xs (wipeR ρ1 vs) true [] with
  | some (ys, ρ2, q) => .ok (.own (.lst (ys.map O.d))) (unwipe ρ1 ρ2 vs) (q1 && q)
  | none => .no) else .no
def mYes : MB := fun ρ => .ok true ρ true

theorem wipeR_len (ρ : Ro) : ∀ vs : List Nat, (wipeR ρ vs).length = ρ.length
  | [] => rfl
  | v :: vs => by unfold wipeR; rw [List.length_set, wipeR_len ρ vs]
theorem wipeR_get (ρ : Ro) (j : Nat) : ∀ vs : List Nat, (wipeR ρ vs)[j]? = if j ∈ vs then (if j < ρ.length then some .un else none) else ρ[j]?
  | [] => by simp [wipeR]
  | v :: vs => by
    unfold wipeR
    rw [List.getElem?_set, wipeR_get ρ j vs, wipeR_len]
    by_cases h : v = j
    · subst h; simp
    · rw [if_neg h]
      by_cases h2 : j ∈ vs
      · rw [if_pos h2, if_pos (List.mem_cons_of_mem _ h2)]
      · rw [if_neg h2, if_neg fun z => (List.mem_cons.mp z).elim (fun z => h z.symm) h2]
theorem unwipe_len (ρ0 ρ : Ro) : ∀ vs : List Nat, (unwipe ρ0 ρ vs).length = ρ.length
  | [] => rfl
  | v :: vs => by unfold unwipe; rw [List.length_set, unwipe_len ρ0 ρ vs]
theorem unwipe_get (ρ0 ρ : Ro) (j : Nat) : ∀ vs : List Nat, (unwipe ρ0 ρ vs)[j]? = if j ∈ vs then (if j < ρ.length then some (keepS ρ0 j) else none) else ρ[j]?
  | [] => by simp [unwipe]
  | v :: vs => by
    unfold unwipe
    rw [List.getElem?_set, unwipe_get ρ0 ρ j vs, unwipe_len]
    by_cases h : v = j
    · subst h; simp
    · rw [if_neg h]
      by_cases h2 : j ∈ vs
      · rw [if_pos h2, if_pos (List.mem_cons_of_mem _ h2)]
      · rw [if_neg h2, if_neg fun z => (List.mem_cons.mp z).elim (fun z => h z.symm) h2]
theorem wipe_get (σ : L2.St) (j : Nat) : ∀ vs : List Nat, (wipe σ vs)[j]? = if j ∈ vs then (if j < σ.length then some none else none) else σ[j]?
  | [] => by simp [wipe]
  | v :: vs => by
    unfold wipe
    rw [List.getElem?_set, wipe_get σ j vs, wipe_length]
    by_cases h : v = j
    · subst h; simp
    · rw [if_neg h]
      by_cases h2 : j ∈ vs
      · rw [if_pos h2, if_pos (List.mem_cons_of_mem _ h2)]
      · rw [if_neg h2, if_neg fun z => (List.mem_cons.mp z).elim (fun z => h z.symm) h2]
theorem noMu_get {ρ : Ro} {j : Nat} : ∀ {vs : List Nat}, noMu ρ vs = true → j ∈ vs → ∀ b o, ρ[j]? ≠ some (.mu b o)
  | v :: vs, h, hj => by
    unfold noMu at h
    have h := Bool.and_eq_true_iff.mp h
    rcases List.mem_cons.mp hj with rfl | hj
    · intro b o e
      rw [e] at h; cases h.1
    · exact noMu_get h.2 hj
mutual
theorem asg_get : ∀ {t : Tg} {x : D} {ρ ρ' : Ro}, asg t x ρ = some ρ' → ρ'.length = ρ.length ∧ ∀ j, j ∉ t.slots → ρ'[j]? = ρ[j]?
  | .nm i, x, ρ, ρ', h => by
    unfold asg at h
    split at h
    · cases h
    · cases h
      exact ⟨by simp, fun j hj => by rw [List.getElem?_set, if_neg fun z => hj (by simp [Tg.slots, z])]⟩
  | .tup ts, .tup xs, ρ, ρ', h => by
    have h : asgs ts xs ρ = some ρ' := by unfold asg at h; exact h
    exact asgs_get h
  | .tup ts, .non, ρ, ρ', h => by simp [asg] at h
  | .tup ts, .bl _, ρ, ρ', h => by simp [asg] at h
  | .tup ts, .int _, ρ, ρ', h => by simp [asg] at h
  | .tup ts, .str _, ρ, ρ', h => by simp [asg] at h
  | .tup ts, .lst _, ρ, ρ', h => by simp [asg] at h
  | .tup ts, .obj _ _ _, ρ, ρ', h => by simp [asg] at h
theorem asgs_get : ∀ {ts : List Tg} {xs : List D} {ρ ρ' : Ro}, asgs ts xs ρ = some ρ' → ρ'.length = ρ.length ∧ ∀ j, j ∉ slotsL ts → ρ'[j]? = ρ[j]?
  | [], [], ρ, ρ', h => by simp [asgs] at h; subst h; exact ⟨rfl, fun _ _ => rfl⟩
  | [], _ :: _, ρ, ρ', h => by simp [asgs] at h
  | _ :: _, [], ρ, ρ', h => by simp [asgs] at h
  | t :: ts, x :: xs, ρ, ρ', h => by
    unfold asgs at h
    split at h
    · next ρ1 e1 =>
      have a := asg_get e1
      have b := asgs_get h
      refine ⟨b.1.trans a.1, fun j hj => ?_⟩
      unfold slotsL at hj
      rw [List.mem_append, not_or] at hj
      exact (b.2 j hj.2).trans (a.2 j hj.1)
    · cases h
end
theorem wipeR_eq {ρ ρ' : Ro} {vs l : List Nat} (hl : ρ'.length = ρ.length) (h : ∀ j, j ∉ l → ρ'[j]? = ρ[j]?) (hs : ∀ j ∈ l, j ∈ vs) : wipeR ρ' vs = wipeR ρ vs := by
  apply List.ext_getElem?
  intro j
  rw [wipeR_get, wipeR_get, hl]
  split
  · rfl
  · next z => exact h j fun y => z (hs j y)
theorem wipeR_idem (ρ : Ro) (vs : List Nat) : wipeR (wipeR ρ vs) vs = wipeR ρ vs := by
  apply List.ext_getElem?
  intro j
  rw [wipeR_get, wipeR_get, wipeR_len]
  split
  · rfl
  · rfl
theorem unwipe_wipeR {ρ : Ro} {vs : List Nat} (h : noMu ρ vs = true) : unwipe ρ (wipeR ρ vs) vs = ρ := by
  apply List.ext_getElem?
  intro j
  rw [unwipe_get, wipeR_get, wipeR_len]
  split
  · next z =>
    split
    · next y =>
      unfold keepS
      cases e : ρ[j]? with
      | none => exact absurd y (by have := List.getElem?_eq_none_iff.mp e; omega)
      | some s =>
        cases s with
        | un => rfl
        | shr d => rfl
        | mu b o => exact absurd e (noMu_get h z b o)
    · next y => exact (List.getElem?_eq_none (by omega)).symm
  · rfl
theorem Stt.wiped {g : Wd} {F H : Hp} {σ : L2.St} {ρ : Ro} {fp : Nat → List Addr} (st : Stt g F H σ ρ fp) (vs : List Nat) : ∃ fp', Stt g F H (wipe σ vs) (wipeR ρ vs) fp' ∧ ∀ a, Own fp' a → Own fp a := by
  refine ⟨fun j => if j ∈ vs then [] else fp j, ⟨st.sub, by rw [wipe_length, wipeR_len, st.len], fun j hj => ?_, fun j d hd => ?_, fun j b o ho => ?_, fun j => ?_, fun j k a ha hb => ?_, fun j a ha => ?_⟩, fun a ⟨j, ha⟩ => ?_⟩
  · try dsimp only
    split
    · rfl
    · next z => exact st.un j fun b o e => hj b o (by rw [wipeR_get, if_neg z]; exact e)
  · rw [wipeR_get] at hd
    split at hd
    · split at hd <;> cases hd
    · next z => rw [wipe_get, if_neg z]; exact st.shr j d hd
  · rw [wipeR_get] at ho
    split at ho
    · split at ho <;> cases ho
    · next z => rw [wipe_get, if_neg z]; (try dsimp only); rw [if_neg z]; exact st.mu j b o ho
  · (try dsimp only); split
    · exact List.nodup_nil
    · exact st.nd j
  · try dsimp only at ha hb
    split at ha
    · cases ha
    · split at hb
      · cases hb
      · exact st.dis j k a ha hb
  · try dsimp only at ha
    split at ha
    · cases ha
    · exact st.fre j a ha
  · try dsimp only at ha
    split at ha
    · cases ha
    · exact ⟨j, ha⟩
theorem Stt.unwiped {g : Wd} {F H F1 H1 : Hp} {σ : L2.St} {ρ ρ1 : Ro} {fp fp1 : Nat → List Addr} {vs : List Nat} (st : Stt g F H (wipe σ vs) ρ fp) (hw : wipeR ρ vs = ρ) (st1 : Stt g F1 H1 σ ρ1 fp1) (ex : Ext F1 F) : Stt g F H σ (unwipe ρ1 ρ vs) fp := by
  have hv : ∀ {j : Nat}, j ∈ vs → ∀ b o, ρ[j]? ≠ some (.mu b o) := fun {j} hj b o e => by
    rw [← hw, wipeR_get, if_pos hj] at e
    split at e <;> cases e
  refine ⟨st.sub, by rw [unwipe_len, ← st.len, wipe_length], fun j hj => ?_, fun j d hd => ?_, fun j b o ho => ?_, st.nd, st.dis, st.fre⟩
  · refine st.un j fun b o e => ?_
    by_cases z : j ∈ vs
    · exact hv z b o e
    · exact hj b o (by rw [unwipe_get, if_neg z]; exact e)
  · rw [unwipe_get] at hd
    split at hd
    · split at hd
      · unfold keepS at hd
        split at hd
        · next d' e =>
          cases hd
          exact (st1.shr j _ e).imp fun v h => ⟨h.1, h.2.mono ex⟩
        · cases hd
      · cases hd
    · next z =>
      obtain ⟨v, e, r⟩ := st.shr j d hd
      rw [wipe_get, if_neg z] at e
      exact ⟨v, e, r⟩
  · rw [unwipe_get] at ho
    split at ho
    · split at ho
      · unfold keepS at ho
        split at ho <;> cases ho
      · cases ho
    · next z =>
      obtain ⟨v, e, r⟩ := st.mu j b o ho
      rw [wipe_get, if_neg z] at e
      exact ⟨v, e, r⟩
theorem Stt.moved {g : Wd} {F H F' H' : Hp} {σ : L2.St} {ρ : Ro} {fp : Nat → List Addr} (s : Stt g F H σ ρ fp) (e : Ext F F') (eh : ∀ a o, Own fp a → H a = some o → H' a = some o) (sub : Ext F' H') (n : ∀ a, Own fp a → F' a = none) : Stt g F' H' σ ρ fp :=
  ⟨sub, s.len, s.un, fun i d h => (s.shr i d h).imp fun v h => ⟨h.1, h.2.mono e⟩, fun i b o h => (s.mu i b o h).imp fun v h => ⟨h.1, h.2.mono e fun a m u => eh a u ⟨i, m⟩⟩, s.nd, s.dis, fun i a h => n a ⟨i, h⟩⟩
abbrev W0 : WX := fun _ _ _ _ => False
/-- where the block stands ahead of a turn -/
structure LcI (g : Wd) (σ : L2.St) (F1 H1 : Hp) (S1 : Addr → Prop) (ρ1 : Ro) (vs : List Nat) (L : Addr) (i : Nat) (q : Bool) (F H : Hp) (ρ : Ro) (fp : Nat → List Addr) (acc : List V) (ys : List D) : Prop where
  st : Stt g F H (wipe σ vs) ρ fp
  wd : wipeR ρ vs = ρ
  hd : H L = some (.lst acc)
  fd : F L = none
  od : ¬ Own fp L
  rp : Reps g F acc ys
  le : ys.length ≤ i
  sp : Step F1 H1 S1 F H (Plus (Own fp) [L])
  kb : Kb (wipeR ρ1 vs) ρ
  qt : q = true → Ext H1 H ∧ ρ = wipeR ρ1 vs
theorem kbs_kb {ρ ρ' : Ro} {σ σ' : L2.St} (h : Kbs ρ σ ρ' σ') : Kb ρ ρ' := fun k o e => (h k o e).1
theorem Kb.wiped {ρ0 ρ : Ro} {vs : List Nat} (h : Kb (wipeR ρ0 vs) ρ) : Kb (wipeR ρ0 vs) (wipeR ρ vs) := fun k o e => by
  obtain ⟨o', e'⟩ := h k o e
  rw [wipeR_get] at e
  split at e
  · split at e <;> cases e
  · next z => exact ⟨o', by rw [wipeR_get, if_neg z]; exact e'⟩
theorem tM_lc {g : Wd} {W : WX} {it : MI} {t : Tg} {c : MB} {e : M} {vs : List Nat} {σ : L2.St} {H : Hp} {Q : VK} (hs : ∀ j ∈ t.slots, j ∈ vs) (h : tM g W (mLc it t c e vs) σ H Q) :
    tLc (tI g W it) (tG g t) (tB' g W0 c) (tM g W0 e) vs σ H Q := by
  refine tR.bind h fun F0 ρ0 fp0 st0 xs ρ1 q1 e1 J F1 H1 fp1 fr1 s1 st1 r1 n1 z1 ob => ?_
  obtain ⟨yl, rfl⟩ := r1
  rw [plus_nil] at ob
  intro L hL
  by_cases hc : (lenOk xs.length && noMu ρ1 vs) = true
  · rw [if_pos hc] at ob
    have hc := Bool.and_eq_true_iff.mp hc
    have hlen := lenOk_le hc.1
    cases er : lcGo t c e vs xs (wipeR ρ1 vs) true [] with
    | none => rw [er] at ob; exact absurd rfl ob.1
    | some rr =>
      obtain ⟨zs, ρz, qz⟩ := rr
      rw [er] at ob
      dsimp only at ob
      have hF1 : F1 L = none := fnone st1.sub hL
      have oL : ∀ {a}, Own fp1 a → a ≠ L := fun {a} ha z => (st1.there ha).1 (z ▸ hL)
      refine ⟨fun i m H' => i ≤ xs.length ∧ m = xs.length - i ∧ ∃ q F ρ fp acc ys, LcI g σ F1 H1 (Own fp1) ρ1 vs L i q F H' ρ fp acc ys ∧ lcGo t c e vs (xs.drop i) ρ q ys = some (zs, ρz, qz), ⟨xs.length, Nat.zero_le _, rfl, ?_⟩, ?_⟩
      · obtain ⟨fp', st', k'⟩ := st1.wiped vs
        have eu : Ext H1 (upd H1 L (.lst [])) := ext_upd hL
        refine ⟨true, F1, wipeR ρ1 vs, fp', [], [], ⟨st'.grown (.refl _) eu (st1.sub.trans eu) fun a ha => (st'.there ha).2, wipeR_idem _ _, upd_same, hF1, fun z => (st'.there z).1 hL, .nil, Nat.zero_le _, ⟨.refl _, fun a o _ h => eu a o h, fun a o h => .inl h, fun a h => ?_⟩, .refl _, fun _ => ⟨eu, rfl⟩⟩, by rw [List.drop_zero]; exact er⟩
        rcases h with h | h
        · exact .inl (k' a h)
        · rw [List.mem_singleton] at h; subst h; exact .inr hL
      · intro i m H2 hW
        obtain ⟨hi, rfl, q, F, ρ, fp, acc, ys, I, eg⟩ := hW
        have Y := yl i F H2 I.sp.ext I.st.sub
        by_cases hl : i < xs.length
        · obtain ⟨d, hd⟩ : ∃ d, xs[i]? = some d := ⟨xs[i], List.getElem?_eq_getElem hl⟩
          have hdr : xs.drop i = d :: xs.drop (i + 1) := by
            rw [List.getElem?_eq_getElem hl] at hd
            cases hd
            exact (List.drop_eq_getElem_cons hl)
          rw [hdr, lcGo_cons] at eg
          obtain ⟨go, yy⟩ := Y.2 d hd
          refine .inr ⟨go, fun H' => i + 1 ≤ xs.length ∧ ∃ q F ρ fp acc ys, LcI g σ F1 H1 (Own fp1) ρ1 vs L (i + 1) q F H' ρ fp acc ys ∧ lcGo t c e vs (xs.drop (i + 1)) ρ q ys = some (zs, ρz, qz), fun H' hN => ⟨xs.length - (i + 1), by omega, hN.1, rfl, hN.2⟩, fun x H3 hy => ?_⟩
          obtain ⟨F3, s3, e3, eh3, n3, r3⟩ := yy x H3 hy
          have fL3 : F3 L = none := by
            cases z : F3 L with
            | none => rfl
            | some u =>
              rcases n3 L u z with z | z
              · rw [I.fd] at z; cases z
              · rw [I.hd] at z; cases z
          have own3 : ∀ a, Own fp a → F3 a = none := fun a ha => by
            cases z : F3 a with
            | none => rfl
            | some u =>
              rcases n3 a u z with z | z
              · rw [(I.st.there ha).2] at z; cases z
              · exact absurd z (I.st.there ha).1
          have st3 := I.st.grown e3 eh3 s3 own3
          have step3 : Step F H2 (Plus (Own fp) [L]) F3 H3 (Plus (Own fp) [L]) := ⟨e3, fun a o _ h => eh3 a o h, fun a o h => (n3 a o h).imp id fun z => .inr (.inl z), fun a h => .inl h⟩
          have sp3 := I.sp.trans step3
          have hd3 := eh3 L _ I.hd
          cases e4 : asg t d ρ with
          | none => rw [e4] at eg; cases eg
          | some ρ4 =>
            rw [e4] at eg
            dsimp only at eg
            refine ⟨F3, ρ, fp, d, ρ4, st3, r3, e4, fun σ4 fp4 st4 o4 k4 n4 => ?_⟩
            have hw : wipe σ4 vs = wipe σ vs := by
              apply List.ext_getElem?
              intro j
              rw [wipe_get, wipe_get]
              have hl4 : σ4.length = σ.length := by rw [n4.1, wipe_length]
              rw [hl4]
              split
              · rfl
              · next z =>
                rw [n4.2 j fun y => z (hs j y), wipe_get, if_neg z]
            refine ⟨hw, F3, ρ4, fp4, st4, ?_⟩
            have ag := asg_get e4
            have k4' : Kb (wipeR ρ1 vs) ρ4 := I.kb.trans (kbs_kb k4)
            have sp4 : Step F1 H1 (Own fp1) F3 H3 (Plus (Own fp4) [L]) := sp3.weak fun a ha => ha.imp (o4 a) id
            have od4 : ¬ Own fp4 L := fun z => I.od (o4 L z)
            have L3 : ∀ {F' H' : Hp} {S' : Addr → Prop}, Step F3 H3 (Own fp4) F' H' S' → H' L = some (.lst acc) ∧ F' L = none ∧ ¬ S' L := fun {F' H' S'} s => by
              refine ⟨s.keep L _ od4 hd3, ?_, fun z => ?_⟩
              · cases z : F' L with
                | none => rfl
                | some u =>
                  rcases s.new L u z with z | z | z
                  · rw [fL3] at z; cases z
                  · exact absurd z od4
                  · rcases z with z | ⟨_, z⟩ <;> rw [hd3] at z <;> cases z
              · rcases s.fre L z with z | z
                · exact od4 z
                · rw [hd3] at z; cases z
            -- the end of a turn
            have fin : ∀ {q' : Bool} {F' H' : Hp} {ρ' : Ro} {fp' : Nat → List Addr} {acc' : List V} {ys' : List D}, Stt g F' H' σ4 ρ' fp' → H' L = some (.lst acc') → F' L = none → ¬ Own fp' L → Reps g F' acc' ys' → ys'.length ≤ i + 1 →
                Step F1 H1 (Own fp1) F' H' (Plus (Own fp') [L]) → Kb (wipeR ρ1 vs) ρ' → (q' = true → Ext H1 H' ∧ ρ' = ρ4 ∧ q = true) →
                lcGo t c e vs (xs.drop (i + 1)) (wipeR ρ' vs) q' ys' = some (zs, ρz, qz) → i + 1 ≤ xs.length ∧ ∃ q F ρ fp acc ys, LcI g σ F1 H1 (Own fp1) ρ1 vs L (i + 1) q F H' ρ fp acc ys ∧ lcGo t c e vs (xs.drop (i + 1)) ρ q ys = some (zs, ρz, qz) :=
              fun {q' F' H' ρ' fp' acc' ys'} st' hd' fd' od' rp' le' sp' kb' qt' eg' => by
                obtain ⟨fp'', st'', k''⟩ := st'.wiped vs
                rw [hw] at st''
                refine ⟨hl, q', F', wipeR ρ' vs, fp'', acc', ys', ⟨st'', wipeR_idem _ _, hd', fd', fun z => od' (k'' L z), rp', le', sp'.weak fun a ha => ha.imp (k'' a) id, kb'.wiped, fun hq => ?_⟩, eg'⟩
                obtain ⟨a1, a2, a3⟩ := qt' hq
                refine ⟨a1, ?_⟩
                rw [a2, wipeR_eq ag.1 ag.2 hs, (I.qt a3).2, wipeR_idem]
            refine ⟨fun z => ?_, fun b ρ5 qb e5 vb F5 H5 fp5 fr5 s5 st5 r5 n5 z5 => ?_, fun x ρ' z => ?_⟩
            · rw [z] at eg; cases eg
            · obtain ⟨rfl, rfl⟩ := r5
              rw [plus_nil] at s5
              rw [e5] at eg
              dsimp only at eg
              obtain ⟨l5, f5, o5⟩ := L3 s5
              have sp5 : Step F1 H1 (Own fp1) F5 H5 (Plus (Own fp5) [L]) := sp4.trans (s5.frame [L])
              have rp5 : Reps g F5 acc ys := I.rp.mono (e3.trans s5.ext)
              cases vb with
              | false =>
                rw [if_neg (by decide)] at eg ⊢
                refine fin st5 l5 f5 o5 rp5 (by have := I.le; omega) sp5 (k4'.trans z5.1) (fun hq => ?_) eg
                have hq := Bool.and_eq_true_iff.mp hq
                exact ⟨((I.qt hq.1).1.trans eh3).trans (z5.2 hq.2).1, (z5.2 hq.2).2, hq.1⟩
              | true =>
                rw [if_pos rfl] at eg ⊢
                refine ⟨F5, ρ5, fp5, st5, ?_⟩
                refine ⟨fun z => ?_, fun r ρ6 q6 e6 v6 F6 H6 fp6 fr6 s6 st6 r6 n6 z6 => ?_, fun x ρ' z => ?_⟩
                · rw [z] at eg; cases eg
                · rw [e6] at eg
                  dsimp only at eg
                  cases ey : r.st with
                  | none => rw [ey] at eg; cases eg
                  | some y =>
                    rw [ey] at eg
                    dsimp only at eg
                    have l6 : H6 L = some (.lst acc) := s6.keep L _ o5 l5
                    have f6 : F6 L = none := by
                      cases z : F6 L with
                      | none => rfl
                      | some u =>
                        rcases s6.new L u z with z | z | z
                        · rw [f5] at z; cases z
                        · exact absurd z o5
                        · rcases z with z | ⟨_, z⟩ <;> rw [l5] at z <;> cases z
                    have o6 : ¬ Plus (Own fp6) fr6 L := fun z => by
                      rcases s6.fre L z with z | z
                      · exact o5 z
                      · rw [l5] at z; cases z
                    have out6 := r6.out
                    have lf : L ∉ fr6 := fun z => o6 (.inr z)
                    have fz : frz F6 H6 fr6 L = none := by unfold frz; rw [if_neg lf]; exact f6
                    have rp6 : Reps g (frz F6 H6 fr6) (acc ++ [v6]) (ys ++ [y]) := (rp5.mono (s6.ext.trans (frz_ext st6.sub))).app (.cons (r6.st ey (frz_ext st6.sub) fun a ha => frz_mem ha) .nil)
                    have la : acc.length = ys.length := I.rp.length
                    refine ⟨acc, l6, by rw [la, sizeLine_eq]; have := I.le; omega, ?_⟩
                    have sub' : Ext (frz F6 H6 fr6) (upd H6 L (.lst (acc ++ [v6]))) := fun a o z => by
                      have z' := frz_sub st6.sub a o z
                      exact (upd_ne (show a ≠ L from fun y => by rw [y, fz] at z; cases z)).trans z'
                    have st7 : Stt g (frz F6 H6 fr6) (upd H6 L (.lst (acc ++ [v6]))) σ4 ρ6 fp6 := st6.moved (frz_ext st6.sub) (fun a o m z => (upd_ne (show a ≠ L from fun y => o6 (.inl (y ▸ m)))).trans z) sub' fun a ha => by
                      unfold frz
                      rw [if_neg fun z => (out6 a z).2.1 ha]
                      exact (st6.there ha).2
                    have sp6 : Step F1 H1 (Own fp1) (frz F6 H6 fr6) (upd H6 L (.lst (acc ++ [v6]))) (Plus (Own fp6) [L]) := by
                      have a1 := sp5.trans (s6.frame [L])
                      refine a1.trans ⟨frz_ext st6.sub, fun a o m z => ?_, fun a o z => ?_, fun a m => ?_⟩
                      · exact (upd_ne (show a ≠ L from fun y => m (.inr (by simp [y])))).trans z
                      · exact (frz_new z).imp id fun z => .inl (.inl (.inr z))
                      · rcases m with m | m
                        · exact .inl (.inl (.inl m))
                        · exact .inl (.inr m)
                    refine fin st7 upd_same fz (fun z => o6 (.inl z)) rp6 (by rw [List.length_append]; have := I.le; simp; omega) sp6 ((k4'.trans z5.1).trans z6.1) (fun hq => ?_) eg
                    have hq := Bool.and_eq_true_iff.mp hq
                    have hq1 := Bool.and_eq_true_iff.mp hq.1
                    have ee : Ext H1 H6 := (((I.qt hq1.1).1.trans eh3).trans (z5.2 hq1.2).1).trans (z6.2 hq.2).1
                    exact ⟨fun a o z => (upd_ne (show a ≠ L from fun y => by rw [y, hL] at z; cases z)).trans (ee a o z), (z6.2 hq.2).2.trans (z5.2 hq1.2).2, hq1.1⟩
                · rw [z] at eg; cases eg
            · rw [z] at eg; cases eg
        · have ei : i = xs.length := by omega
          subst ei
          refine .inl ⟨Y.1 rfl, ?_⟩
          rw [List.drop_length, lcGo_nil] at eg
          cases eg
          have la := I.rp.length
          refine ob.2.1 _ _ _ rfl (.ref L) F H2 fp [L] I.sp (I.st.unwiped I.wd st1 I.sp.ext) ⟨.lst I.hd (by rw [la, sizeLine_eq]; have := I.le; omega) (.ofReps I.rp), fun a ha => ?_⟩ (by simp) ⟨fun k o z => ?_, fun hq => ?_⟩
          · rw [List.mem_singleton] at ha; subst ha
            exact ⟨I.fd, I.od⟩
          · obtain ⟨o1, k1⟩ := z1.1 k o z
            have nv : k ∉ vs := fun y => noMu_get hc.2 y _ _ k1
            obtain ⟨o2, k2⟩ := I.kb k o1 (by rw [wipeR_get, if_neg nv]; exact k1)
            exact ⟨o2, by rw [unwipe_get, if_neg nv]; exact k2⟩
          · have hq := Bool.and_eq_true_iff.mp hq
            refine ⟨(z1.2 hq.1).1.trans (I.qt hq.2).1, ?_⟩
            rw [(I.qt hq.2).2, unwipe_wipeR hc.2]
            exact (z1.2 hq.1).2
  · rw [if_neg hc] at ob; exact absurd rfl ob.1
theorem tYes_of {g : Wd} {W : WX} {σ : L2.St} {H : Hp} {Q : Bool → Hp → Prop} (h : tB' g W mYes σ H Q) : tYes σ H Q := by
  obtain ⟨F, ρ, fp, st, ob⟩ := h
  exact ob.2.1 true ρ true rfl true F H fp [] (by rw [plus_nil]; exact .refl _ _ _) st ⟨rfl, rfl⟩ List.nodup_nil ⟨.refl ρ, fun _ => ⟨.refl H, rfl⟩⟩
abbrev SFs (X : Cx) (es : List Expr) (m : MB) : Prop := PTs X es (tB' (gOf X) W0 m)
theorem sf_nil {X : Cx} : SFs X [] mYes := ⟨fun pins s σ H Q I h => pts_nil.run pins s σ H Q I (tYes_of h)⟩
theorem sf_one {X : Cx} {a : Expr} {m : MB} (h : ST X W0 a m) : SFs X [a] m := pts_one h
section
variable {X : Cx} {W : WX} {elt tg iter : Expr} {ifs : List Expr} {scope : Scope} {own : List (Str × Nat)} {pos : Pos} {mi : MI} {t : Tg} {mc : MB} {me : M}
theorem s_lc (hc : X.calm = true) (hN : X.N.Nodup) (ok : BlkOk X.N X.env.scope scope own) (hi : SI X W tg iter mi)
    (hg : ∀ (s : Shared) (H : Hp) (C : Addr) (cl : List (Str × Addr)) (fp : List Addr), SG (X.blk s H scope (compEnvC scope cl C X.env) fp) tg t) (ht : ∀ (s : Shared) (H : Hp) (C : Addr) (cl : List (Str × Addr)) (fp : List Addr), SFs (X.blk s H scope (compEnvC scope cl C X.env) fp) ifs mc)
    (he : ∀ (s : Shared) (H : Hp) (C : Addr) (cl : List (Str × Addr)) (fp : List Addr), SE (X.blk s H scope (compEnvC scope cl C X.env) fp) W0 elt me) (hs : ∀ j ∈ t.slots, j ∈ own.map (·.2) := by decide) (hf : ∀ x, foldedSetIterable iter X.env x = pure x := by intro _; rfl) :
    SE X W (.ListComp elt [⟨tg, iter, ifs, 0⟩] scope pos) (mLc mi t mc me (own.map (·.2))) :=
  PE.wk (pe_lc hc hN hi ok hg ht he hf) fun σ H Q h => tM_lc hs h
theorem ss_setlc {i : Nat} {y : Str} {py spos : Pos} (hc : X.calm = true) (hN : X.N.Nodup) (hy : X.N[i]? = some y) (hyl : X.env.scope.names.lookup y = some .local)
    (hsw : swapsWith (.ListComp elt [⟨tg, iter, ifs, 0⟩] scope pos) (some (.Name y py)) spos.line X.env = pure true) (ok : BlkOk X.N X.env.scope scope own) (hi : SI X W tg iter mi)
    (hg : ∀ (s : Shared) (H : Hp) (C : Addr) (cl : List (Str × Addr)) (fp : List Addr), SG (X.blk s H scope (compEnvC scope cl C X.env) fp) tg t) (ht : ∀ (s : Shared) (H : Hp) (C : Addr) (cl : List (Str × Addr)) (fp : List Addr), SFs (X.blk s H scope (compEnvC scope cl C X.env) fp) ifs mc)
    (he : ∀ (s : Shared) (H : Hp) (C : Addr) (cl : List (Str × Addr)) (fp : List Addr), SE (X.blk s H scope (compEnvC scope cl C X.env) fp) W0 elt me) (hs : ∀ j ∈ t.slots, j ∈ own.map (·.2) := by decide) (hf : ∀ x, foldedSetIterable iter X.env x = pure x := by intro _; rfl) :
    SS X W (.Assign [.Name y py] (.ListComp elt [⟨tg, iter, ifs, 0⟩] scope pos) spos) (mSet i (mLc mi t mc me (own.map (·.2)))) :=
  PS.wk (ps_setLc hc hN hy hyl hsw hi ok hg ht he hf) fun D σ H h => tM_lc hs (tS_set h)
end
end
end Mw

set_option Elab.async false
set_option linter.all false
set_option maxRecDepth 100000
set_option autoImplicit false
namespace Mw
open PySem PySem.Spec PyProof.Rows L2
noncomputable section
/-! ### lists of ints, of bools -/
def dInts : List D → Option (List Int)
  | [] => some []
  | .int i :: ds => (dInts ds).map (i :: ·)
  | _ => none
def dBls : List D → Option (List Bool)
  | [] => some []
  | .bl i :: ds => (dBls ds).map (i :: ·)
  | _ => none
@[simp] theorem dInts_map (ns : List Int) : dInts (ns.map D.int) = some ns := by
  induction ns with
  | nil => rfl
  | cons n ns ih => show (dInts (ns.map D.int)).map (n :: ·) = _; rw [ih]; rfl
@[simp] theorem dBls_map (ns : List Bool) : dBls (ns.map D.bl) = some ns := by
  induction ns with
  | nil => rfl
  | cons n ns ih => show (dBls (ns.map D.bl)).map (n :: ·) = _; rw [ih]; rfl
theorem dInts_eq : ∀ {ds : List D} {ns : List Int}, dInts ds = some ns → ds = ns.map D.int
  | [], ns, h => by cases h; rfl
  | d :: ds, ns, h => by
    cases d with
    | int i =>
      have h : (dInts ds).map (i :: ·) = some ns := h
      cases e : dInts ds with
      | none => rw [e] at h; cases h
      | some ms => rw [e] at h; cases h; rw [dInts_eq e]; rfl
    | _ => cases h
theorem dBls_eq : ∀ {ds : List D} {ns : List Bool}, dBls ds = some ns → ds = ns.map D.bl
  | [], ns, h => by cases h; rfl
  | d :: ds, ns, h => by
    cases d with
    | bl i =>
      have h : (dBls ds).map (i :: ·) = some ns := h
      cases e : dBls ds with
      | none => rw [e] at h; cases h
      | some ms => rw [e] at h; cases h; rw [dBls_eq e]; rfl
    | _ => cases h
theorem Reps.intsV {g : Wd} {F : Hp} : ∀ {ns : List Int} {vs : List V}, Reps g F vs (ns.map D.int) → vs = ns.map V.int
  | [], _, .nil => rfl
  | n :: ns, _, .cons h t => by cases h; rw [Reps.intsV t]; rfl
theorem Reps.blsV {g : Wd} {F : Hp} : ∀ {ns : List Bool} {vs : List V}, Reps g F vs (ns.map D.bl) → vs = ns.map V.bl
  | [], _, .nil => rfl
  | n :: ns, _, .cons h t => by cases h; rw [Reps.blsV t]; rfl
def maxL : List Int → Int
  | [] => 0
  | n :: ns => ns.foldl max n
def minL : List Int → Int
  | [] => 0
  | n :: ns => ns.foldl min n
theorem foldl_max_spec : ∀ (ns : List Int) (n : Int), (ns.foldl max n = n ∨ ns.foldl max n ∈ ns) ∧ n ≤ ns.foldl max n ∧ ∀ y ∈ ns, y ≤ ns.foldl max n
  | [], n => ⟨.inl rfl, Int.le_refl _, fun y h => nomatch h⟩
  | m :: ns, n => by
    rw [List.foldl_cons]
    obtain ⟨h1, h2, h3⟩ := foldl_max_spec ns (max n m)
    refine ⟨?_, by omega, fun y hy => ?_⟩
    · rcases h1 with h | h
      · rw [h]
        by_cases hl : n ≤ m
        · right; rw [Int.max_eq_right hl]; exact List.mem_cons_self
        · left; omega
      · exact .inr (List.mem_cons_of_mem _ h)
    · rcases List.mem_cons.mp hy with rfl | hy
      · omega
      · exact h3 y hy
theorem foldl_min_spec : ∀ (ns : List Int) (n : Int), (ns.foldl min n = n ∨ ns.foldl min n ∈ ns) ∧ ns.foldl min n ≤ n ∧ ∀ y ∈ ns, ns.foldl min n ≤ y
  | [], n => ⟨.inl rfl, Int.le_refl _, fun y h => nomatch h⟩
  | m :: ns, n => by
    rw [List.foldl_cons]
    obtain ⟨h1, h2, h3⟩ := foldl_min_spec ns (min n m)
    refine ⟨?_, by omega, fun y hy => ?_⟩
    · rcases h1 with h | h
      · rw [h]
        by_cases hl : n ≤ m
        · left; omega
        · right; rw [Int.min_eq_right (by omega)]; exact List.mem_cons_self
      · exact .inr (List.mem_cons_of_mem _ h)
    · rcases List.mem_cons.mp hy with rfl | hy
      · omega
      · exact h3 y hy
theorem maxL_mem {ns : List Int} (h : 0 < ns.length) : maxL ns ∈ ns := by
  cases ns with
  | nil => cases h
  | cons n ns =>
    rcases (foldl_max_spec ns n).1 with e | e
    · show ns.foldl max n ∈ _; rw [e]; exact List.mem_cons_self
    · exact List.mem_cons_of_mem _ e
theorem le_maxL {ns : List Int} {y : Int} (h : y ∈ ns) : y ≤ maxL ns := by
  cases ns with
  | nil => cases h
  | cons n ns =>
    obtain ⟨_, h2, h3⟩ := foldl_max_spec ns n
    rcases List.mem_cons.mp h with rfl | h
    · exact h2
    · exact h3 y h
theorem minL_mem {ns : List Int} (h : 0 < ns.length) : minL ns ∈ ns := by
  cases ns with
  | nil => cases h
  | cons n ns =>
    rcases (foldl_min_spec ns n).1 with e | e
    · show ns.foldl min n ∈ _; rw [e]; exact List.mem_cons_self
    · exact List.mem_cons_of_mem _ e
theorem minL_le {ns : List Int} {y : Int} (h : y ∈ ns) : minL ns ≤ y := by
  cases ns with
  | nil => cases h
  | cons n ns =>
    obtain ⟨_, h2, h3⟩ := foldl_min_spec ns n
    rcases List.mem_cons.mp h with rfl | h
    · exact h2
    · exact h3 y h
/-- sorted, of ints -/
def insI (x : Int) : List Int → List Int
  | [] => [x]
  | y :: ys => if x ≤ y then x :: y :: ys else y :: insI x ys
def srtI : List Int → List Int
  | [] => []
  | x :: xs => insI x (srtI xs)
theorem insI_perm (x : Int) : ∀ ys : List Int, (insI x ys).Perm (x :: ys)
  | [] => .refl _
  | y :: ys => by
    unfold insI
    split
    · exact .refl _
    · exact ((insI_perm x ys).cons y).trans (.swap x y ys)
theorem srtI_perm : ∀ xs : List Int, (srtI xs).Perm xs
  | [] => .refl _
  | x :: xs => (insI_perm x _).trans ((srtI_perm xs).cons x)
theorem insI_pw (x : Int) : ∀ {ys : List Int}, ys.Pairwise (· ≤ ·) → (insI x ys).Pairwise (· ≤ ·)
  | [], _ => List.pairwise_singleton _ _
  | y :: ys, h => by
    unfold insI
    split
    · next hxy =>
      refine List.pairwise_cons.mpr ⟨fun z hz => ?_, h⟩
      rcases List.mem_cons.mp hz with rfl | hz
      · exact hxy
      · exact Int.le_trans hxy ((List.pairwise_cons.mp h).1 z hz)
    · next hxy =>
      refine List.pairwise_cons.mpr ⟨fun z hz => ?_, insI_pw x (List.pairwise_cons.mp h).2⟩
      rcases List.mem_cons.mp ((insI_perm x ys).mem_iff.mp hz) with rfl | hz
      · omega
      · exact (List.pairwise_cons.mp h).1 z hz
theorem srtI_pw : ∀ xs : List Int, (srtI xs).Pairwise (· ≤ ·)
  | [] => .nil
  | x :: xs => insI_pw x (srtI_pw xs)
theorem srtI_eq {xs ys : List Int} (h : ys.Perm xs) (s : ys.Pairwise (· ≤ ·)) : ys = srtI xs :=
  (h.trans (srtI_perm xs).symm).eq_of_pairwise (fun a b _ _ h1 h2 => Int.le_antisymm h1 h2) s (srtI_pw xs)

section
variable {X : Cx} {W : WX} {pos : Pos} {a b c : Expr} {es : List Expr} {ma mb mc : M} {ms : List M} {x : Str} {p : Pos}
theorem RepR.intsL {g : Wd} {F H : Hp} {S : Addr → Prop} {v : V} {r : R} {fr : List Addr} (h : RepR g F H S v r fr) (sub : Ext F H) {ds : List D} (e : r.pl = some (.lst ds)) {ns : List Int} (e2 : dInts ds = some ns) : ∃ a, v = .ref a ∧ SqL g.K H a (ns.map V.int) ∧ ns.length ≤ sizeLine := by
  obtain ⟨a, vs, rfl, k, n, r⟩ := h.lst sub e
  rw [dInts_eq e2] at r
  have := r.intsV
  subst this
  exact ⟨a, rfl, k, by simpa using n⟩
theorem RepR.blsL {g : Wd} {F H : Hp} {S : Addr → Prop} {v : V} {r : R} {fr : List Addr} (h : RepR g F H S v r fr) (sub : Ext F H) {ds : List D} (e : r.pl = some (.lst ds)) {ns : List Bool} (e2 : dBls ds = some ns) : ∃ a, v = .ref a ∧ SqL g.K H a (ns.map V.bl) := by
  obtain ⟨a, vs, rfl, k, n, r⟩ := h.lst sub e
  rw [dBls_eq e2] at r
  have := r.blsV
  subst this
  exact ⟨a, rfl, k⟩
/-- a value of a list of ints -/
def lInts (f : List Int → Option R) (p : R) : Option R := match p.pl with
  | some (.lst ds) => match dInts ds with
    | some ns => f ns
    | none => none
  | _ => none
theorem lInts_some {f : List Int → Option R} {p r : R} (h : lInts f p = some r) : ∃ ds ns, p.pl = some (.lst ds) ∧ dInts ds = some ns ∧ f ns = some r := by
  unfold lInts at h
  split at h
  · next ds e =>
    split at h
    · next ns e2 => exact ⟨ds, ns, e, e2, h⟩
    · cases h
  · cases h
def lBls (f : List Bool → Option R) (p : R) : Option R := match p.pl with
  | some (.lst ds) => match dBls ds with
    | some ns => f ns
    | none => none
  | _ => none
theorem lBls_some {f : List Bool → Option R} {p r : R} (h : lBls f p = some r) : ∃ ds ns, p.pl = some (.lst ds) ∧ dBls ds = some ns ∧ f ns = some r := by
  unfold lBls at h
  split at h
  · next ds e =>
    split at h
    · next ns e2 => exact ⟨ds, ns, e, e2, h⟩
    · cases h
  · cases h
abbrev lSum := lInts fun ns => some (.d (.int ns.sum))
abbrev lMax := lInts fun ns => if 0 < ns.length then some (.d (.int (maxL ns))) else none
abbrev lMin := lInts fun ns => if 0 < ns.length then some (.d (.int (minL ns))) else none
abbrev lSrtI := lInts fun ns => some (.own (.lst (((srtI ns).map D.int).map O.d)))
abbrev lAll := lBls fun ns => some (.d (.bl (ns.all id)))
abbrev lAny := lBls fun ns => some (.d (.bl (ns.any id)))
theorem s_sum (hc : X.calm = true) (hg : Gl X "sum") (hm : X.mg "sum" = none) (ha : SE X W a ma) (he : starEach [a] X.env = (false, eval a X.env) :: starEach [] X.env := by rfl) : SE X W (.Call (.Name "sum" p) [a] [] pos) (m1 lSum ma) :=
  s_blt1 (cr_sum hc) (by
    intro F H S x p fr Q rx l
    obtain ⟨rr, e⟩ := l.has
    obtain ⟨ds, ns, h1, h2, h3⟩ := lInts_some e
    cases h3
    obtain ⟨a, rfl, k, _⟩ := rx.intsL l.sub h1 h2
    exact ⟨a, ns, rfl, k, l.val e (.int _)⟩) hg hm (by decide +kernel) ha he
theorem s_max (hc : X.calm = true) (hg : Gl X "max") (hm : X.mg "max" = none) (ha : SE X W a ma) (he : starEach [a] X.env = (false, eval a X.env) :: starEach [] X.env := by rfl) : SE X W (.Call (.Name "max" p) [a] [] pos) (m1 lMax ma) :=
  s_blt1 (cr_max hc) (by
    intro F H S x p fr Q rx l
    obtain ⟨rr, e⟩ := l.has
    obtain ⟨ds, ns, h1, h2, h3⟩ := lInts_some e
    split at h3
    · next hl =>
      cases h3
      obtain ⟨a, rfl, k, _⟩ := rx.intsL l.sub h1 h2
      refine ⟨a, ns, rfl, k, hl, fun m hm hy => ?_⟩
      have : m = maxL ns := Int.le_antisymm (le_maxL hm) (hy _ (maxL_mem hl))
      subst this
      exact l.val e (.int _)
    · cases h3) hg hm (by decide +kernel) ha he
theorem s_min (hc : X.calm = true) (hg : Gl X "min") (hm : X.mg "min" = none) (ha : SE X W a ma) (he : starEach [a] X.env = (false, eval a X.env) :: starEach [] X.env := by rfl) : SE X W (.Call (.Name "min" p) [a] [] pos) (m1 lMin ma) :=
  s_blt1 (cr_min hc) (by
    intro F H S x p fr Q rx l
    obtain ⟨rr, e⟩ := l.has
    obtain ⟨ds, ns, h1, h2, h3⟩ := lInts_some e
    split at h3
    · next hl =>
      cases h3
      obtain ⟨a, rfl, k, _⟩ := rx.intsL l.sub h1 h2
      refine ⟨a, ns, rfl, k, hl, fun m hm hy => ?_⟩
      have : m = minL ns := Int.le_antisymm (hy _ (minL_mem hl)) (minL_le hm)
      subst this
      exact l.val e (.int _)
    · cases h3) hg hm (by decide +kernel) ha he
theorem s_all (hc : X.calm = true) (hg : Gl X "all") (hm : X.mg "all" = none) (ha : SE X W a ma) (he : starEach [a] X.env = (false, eval a X.env) :: starEach [] X.env := by rfl) : SE X W (.Call (.Name "all" p) [a] [] pos) (m1 lAll ma) :=
  s_blt1 (cr_all hc) (by
    intro F H S x p fr Q rx l
    obtain ⟨rr, e⟩ := l.has
    obtain ⟨ds, ns, h1, h2, h3⟩ := lBls_some e
    cases h3
    obtain ⟨a, rfl, k⟩ := rx.blsL l.sub h1 h2
    exact ⟨a, ns, rfl, k, l.val e (.bl _)⟩) hg hm (by decide +kernel) ha he
theorem s_any (hc : X.calm = true) (hg : Gl X "any") (hm : X.mg "any" = none) (ha : SE X W a ma) (he : starEach [a] X.env = (false, eval a X.env) :: starEach [] X.env := by rfl) : SE X W (.Call (.Name "any" p) [a] [] pos) (m1 lAny ma) :=
  s_blt1 (cr_any hc) (by
    intro F H S x p fr Q rx l
    obtain ⟨rr, e⟩ := l.has
    obtain ⟨ds, ns, h1, h2, h3⟩ := lBls_some e
    cases h3
    obtain ⟨a, rfl, k⟩ := rx.blsL l.sub h1 h2
    exact ⟨a, ns, rfl, k, l.val e (.bl _)⟩) hg hm (by decide +kernel) ha he
theorem s_sorted (hg : Gl X "sorted") (hm : X.mg "sorted" = none) (ha : SE X W a ma) (he : starEach [a] X.env = (false, eval a X.env) :: starEach [] X.env := by rfl) : SE X W (.Call (.Name "sorted" p) [a] [] pos) (m1 lSrtI ma) :=
  s_blt1 cr_sortedI (by
    intro F H S x p fr Q rx l
    obtain ⟨rr, e⟩ := l.has
    obtain ⟨ds, ns, h1, h2, h3⟩ := lInts_some e
    cases h3
    obtain ⟨a, rfl, k, hl⟩ := rx.intsL l.sub h1 h2
    refine ⟨a, ns, rfl, k, fun ns' q hp hs hq => ?_⟩
    cases srtI_eq hp hs
    exact l.lst e (Reps.ints _) (by rw [List.length_map, (srtI_perm ns).length_eq]; exact hl) hq) hg hm (by decide +kernel) ha he
def lList (p : R) : Option R := match p.pl with
  | some (.lst ds) => some (.own (.lst (ds.map O.d)))
  | some (.tup ds) => some (.own (.lst (ds.map O.d)))
  | _ => none
theorem s_list (hg : Gl X "list") (hm : X.mg "list" = none) (ha : SE X W a ma) (he : starEach [a] X.env = (false, eval a X.env) :: starEach [] X.env := by rfl) : SE X W (.Call (.Name "list" p) [a] [] pos) (m1 lList ma) :=
  s_ty1 call_list_of (by
    intro F H S x p fr Q rx l
    obtain ⟨rr, e⟩ := l.has
    have e0 := e
    unfold lList at e
    split at e
    · next ds h1 =>
      cases e
      obtain ⟨a, vs, rfl, k, n, r⟩ := rx.lst l.sub h1
      exact ⟨a, vs, rfl, .inl k, fun q hq => l.lst e0 r n hq⟩
    · next ds h1 =>
      cases e
      obtain ⟨a, vs, rfl, k, n, r⟩ := rx.tup h1
      exact ⟨a, vs, rfl, .inr (l.sub.sqT k), fun q hq => l.lst e0 r n hq⟩
    · cases e) hg hm (by decide +kernel) ha he
def lTuple (p : R) : Option R := match p.pl with
  | some (.lst ds) => some (.d (.tup ds))
  | some (.tup ds) => some (.d (.tup ds))
  | _ => none
theorem s_tuple (hg : Gl X "tuple") (hm : X.mg "tuple" = none) (ha : SE X W a ma) (he : starEach [a] X.env = (false, eval a X.env) :: starEach [] X.env := by rfl) : SE X W (.Call (.Name "tuple" p) [a] [] pos) (m1 lTuple ma) :=
  s_ty1 call_tuple_of (by
    intro F H S x p fr Q rx l
    obtain ⟨rr, e⟩ := l.has
    have e0 := e
    unfold lTuple at e
    split at e
    · next ds h1 =>
      cases e
      obtain ⟨a, vs, rfl, k, n, r⟩ := rx.lst l.sub h1
      exact ⟨a, vs, rfl, .inl ⟨k, fun q hq => l.tup e0 r n hq⟩⟩
    · next ds h1 =>
      cases e
      obtain ⟨a, vs, rfl, k, n, r⟩ := rx.tupF h1
      exact ⟨a, vs, rfl, .inr ⟨l.sub.sqT (.inl (.inl k)), l.val e0 (.tup k n r)⟩⟩
    · cases e) hg hm (by decide +kernel) ha he
def lRev (p : R) : Option R := match p.pl with
  | some (.lst ds) => some (.own (.lst (ds.reverse.map O.d)))
  | _ => none
theorem Reps.rev {g : Wd} {F : Hp} : ∀ {vs : List V} {ds : List D}, Reps g F vs ds → Reps g F vs.reverse ds.reverse
  | _, _, .nil => .nil
  | _, _, .cons h t => by rw [List.reverse_cons, List.reverse_cons]; exact (Reps.rev t).app (.cons h .nil)
theorem s_rev {k : Nat} {p1 p2 p3 : Pos} (ha : SE X W a ma) : SE X W (.Subscript a (.Slice none none (some (.UnaryOp .USub (.Constant (.int 1) k p1) p2)) p3) pos) (m1 lRev ma) :=
  PE.wk (pe_revL ha) fun σ H Q h => tM_m1 (r := fun x H Q => ∃ a xs, x = .ref a ∧ SqL X.K H a xs ∧ ∀ p, H p = none → Q (.ref p) (upd H p (.lst xs.reverse))) (by
    intro F H S x p fr Q rx l
    obtain ⟨rr, e⟩ := l.has
    have e0 := e
    unfold lRev at e
    split at e
    · next ds h1 =>
      cases e
      obtain ⟨a, vs, rfl, k, n, r⟩ := rx.lst l.sub h1
      exact ⟨a, vs, rfl, k, fun q hq => l.lst e0 r.rev (by rw [List.length_reverse]; exact n) hq⟩
    · cases e) h
end
theorem tk0 {X : Cx} : Takes X W0 := fun _ _ ⟨_, _, _, _, _, _, _, _, _, _, _, _, _, _, _, _, w⟩ => w.elim
end
end Mw

set_option Elab.async false
set_option linter.all false
set_option maxRecDepth 100000
set_option autoImplicit false
namespace Mw
open PySem PySem.Spec PyProof.Rows L2
noncomputable section
/-! ### xs.index(y), xs.extend(ys) -/
/-- an expression whose value is a plain list -/
def mLs (m : M) : M := fun ρ => (m ρ).bind fun r ρ' q => match r.pl with
  | some (.lst _) => .ok r ρ' q
  | _ => .no
section
variable {X : Cx} {W : WX} {pos : Pos} {a b c tg : Expr} {es : List Expr} {ma mb mc : M} {ms : List M} {p : Pos}
theorem tM_ls {m : M} {σ : L2.St} {H : Hp} {Q : VK} (h : tM (gOf X) W (mLs m) σ H Q) : tM (gOf X) W m σ H fun x H1 => tyV X.K "list" x H1 ∧ Q x H1 := by
  refine tR.bind h fun F ρ fp st r ρ1 q1 e1 v F1 H1 fp1 fr1 s1 st1 r1 n1 z1 ob => ?_
  split at ob
  · next ds e =>
    obtain ⟨a, vs, rfl, k, _, _⟩ := r1.lst st1.sub e
    exact ⟨.inl ⟨rfl, vs, k⟩, ob.2.1 r ρ1 q1 rfl (.ref a) F1 H1 fp1 fr1 (.refl _ _ _) st1 r1 n1 z1⟩
  · exact absurd rfl ob.1
def lIndex (p q : R) : Option R := match p.pl, q.pl with
  | some (.lst ds), some y => if y.flat = true ∧ flats ds = true then (ds.findIdx? fun z => D.eqv z y).map fun (j : Nat) => .d (.int j) else none
  | _, _ => none
theorem l_index : LOk2 (gOf X) lIndex (fun x y H Q => rIndex X.K x [y] H Q) := by
  intro F H S x y p q f1 f2 Q rx ry l
  obtain ⟨rr, e⟩ := l.has
  have e0 := e
  unfold lIndex at e
  split at e
  · next ds y' h1 h2 =>
    split at e
    · next hc =>
      cases ej : ds.findIdx? (fun z => D.eqv z y') with
      | none => rw [ej] at e; cases e
      | some j =>
        rw [ej] at e; cases e
        obtain ⟨a1, vs, rfl, k1, n1, r1⟩ := rx.lst l.sub h1
        have ryw := ry.whole l.sub h2
        obtain ⟨hj, hp, hno⟩ := List.findIdx?_eq_some_iff_getElem.mp ej
        have fl : ∀ {k : Nat} {d : D}, ds[k]? = some d → d.flat = true := fun {k d} e => List.all_eq_true.mp hc.2 d (List.mem_of_getElem? e)
        obtain ⟨z, hz, rz⟩ := r1.get (List.getElem?_eq_getElem hj)
        refine ⟨a1, vs, y, j, z, rfl, rfl, k1, rep_flat ryw hc.1, reps_flat r1 hc.2, hz, ?_, fun m z' hm hz' => ?_, l.val e0 (.int _)⟩
        · rw [eqV_eqv rz ryw (fl (List.getElem?_eq_getElem hj)) hc.1]; exact hp
        · obtain ⟨d, hd, rd⟩ := r1.getV hz'
          rw [eqV_eqv rd ryw (fl hd) hc.1]
          have hml : m < ds.length := (List.getElem?_eq_some_iff.mp hd).1
          have := hno m hm
          rw [List.getElem?_eq_getElem hml] at hd; cases hd
          simpa using this
    · cases e
  · cases e
def mIndex (ma mb : M) : M := m2 lIndex (mLs ma) mb
theorem s_index {apos : Pos} (ha : SE X W a ma) (hb : SE X W b mb) 
    (hbase : attributeBase a "index" X.env (eval a X.env) = eval a X.env := by rfl)
    (hfew : ((backTo pos (starEach (b :: []) X.env)).all (fun x => !x.1) && (backToKw pos (keywordEach [] X.env)).all (fun x => x.1.isSome)
      && decide ((b :: ([] : List Expr)).length + ([] : List Keyword).length + (if ([] : List Keyword).isEmpty then 0 else 1) < 30)) = true := by rfl)
    (hline : (apos.endLine == pos.line) = true := by rfl) (hs : starEach (b :: []) X.env = (false, eval b X.env) :: starEach [] X.env := by rfl) :
    SE X W (.Call (.Attribute a "index" apos) [b] [] pos) (mIndex ma mb) :=
  PE.wk (pe_bm PySem.F.plainAttrs_list PySem.F.slot_list_index PySem.F.type_list_index mt_index ha (pa_cons hb pa_nil hs) hbase hfew hline hs rfl) fun σ H Q h =>
    (tM_ls (tA_cons (tM_ops h))).imp fun x H1 ⟨ty, q⟩ => ⟨ty, (tA_cons q).imp fun y H2 q => by
      obtain ⟨x', y', e, k⟩ := l_index.at (tA_nil q)
      cases e; exact k⟩
theorem RepOs.appD {g : Wd} {F H : Hp} : ∀ {vs : List V} {os : List O} {fp : List Addr} {ws : List V} {ds : List D}, RepOs g F H vs os fp → Reps g F ws ds → RepOs g F H (vs ++ ws) (os ++ ds.map O.d) fp
  | _, _, _, ws, ds, .nil, r => .ofReps r
  | _, _, _, ws, ds, .cons h t, r => .cons h (RepOs.appD t r)
def extAt (ρ : Ro) (i : Nat) (xs : List D) : Option Ro := match ρ[i]? with
  | some (.mu b (.lst os)) => if lenOk (os.length + xs.length) = true then some (ρ.set i (.mu b (.lst (os ++ xs.map O.d)))) else none
  | _ => none
def mExt (i : Nat) (m : M) : M := fun ρ => if isLst ρ i = true then (m ρ).bind fun r ρ' _ => match r.ol with
  | some x => match extAt ρ' i x with
    | some ρ2 => .ok (.d .non) ρ2 false
    | none => .no
  | none => .no
  else .no
theorem s_extend {i : Nat} {x : Str} {apos : Pos} (hN : X.N[i]? = some x) (hv : Vis X.env.scope x) (ha : SE X W a ma) (hd : (x == ("__debug__" : Str)) = false := by decide) (hcd : (x == ("__classdict__" : Str)) = false := by decide)
    (hbase : attributeBase (.Name x p) "extend" X.env (eval (.Name x p) X.env) = eval (.Name x p) X.env := by rfl)
    (hfew : ((backTo pos (starEach (a :: []) X.env)).all (fun x => !x.1) && (backToKw pos (keywordEach [] X.env)).all (fun x => x.1.isSome)
      && decide ((a :: ([] : List Expr)).length + ([] : List Keyword).length + (if ([] : List Keyword).isEmpty then 0 else 1) < 30)) = true := by rfl)
    (hline : (apos.endLine == pos.line) = true := by rfl) (hs : starEach (a :: []) X.env = (false, eval a X.env) :: starEach [] X.env := by rfl) :
    SE X W (.Call (.Attribute (.Name x p) "extend" apos) [a] [] pos) (mExt i ma) :=
  PE.wk (pe_bm PySem.F.plainAttrs_list PySem.F.slot_list_extend PySem.F.type_list_extend mt_extend (pe_var hN hv hd hcd) (pa_cons ha pa_nil hs) hbase hfew hline hs rfl) fun σ H Q h => by
    obtain ⟨F, ρ, fp, st, ob⟩ := h
    have ob : Ob (gOf X) W σ F H (Own fp) (Zq H ρ) (RepR (gOf X)) (if isLst ρ i = true then _ else _) Q := ob
    by_cases hl : isLst ρ i = true
    · rw [if_pos hl] at ob
      obtain ⟨b, os, e⟩ : ∃ b os, ρ[i]? = some (.mu b (.lst os)) := by
        unfold isLst at hl
        split at hl
        · next b os e => exact ⟨b, os, e⟩
        · cases hl
      obtain ⟨v, ev, r⟩ := st.mu i b _ e
      obtain ⟨f0, hf0⟩ : ∃ f, f = fp i := ⟨_, rfl⟩
      rw [← hf0] at r
      refine ⟨v, ev, ?_, ?_⟩
      · cases r with
        | lst h hl r => exact .inl ⟨rfl, _, .inl (.inl h)⟩
      · show tM (gOf X) W ma σ H fun y H2 => rExtend v [y] H2 Q
        refine tR.bind (m := ma) (k := fun r ρ' _ => match r.ol with
          | some x => match extAt ρ' i x with
            | some ρ2 => .ok (.d .non) ρ2 false
            | none => .no
          | none => .no) (RR := RepR (gOf X)) (Q := Q) ⟨F, ρ, fp, st, ob⟩ fun F0 ρ0 fp0 st0 r0 ρ1 q1 e1 y F1 H1 fp1 fr1 s1 st1 r1 n1 z1 ob1 => ?_
        cases ex : r0.ol with
        | none => rw [ex] at ob1; exact absurd rfl ob1.1
        | some x =>
          rw [ex] at ob1
          dsimp only at ob1
          unfold extAt at ob1
          split at ob1
          · next ρ2 e2 =>
            split at e2
            · next b2 os2 e3 =>
              split at e2
              · next hlen =>
                have hlen := lenOk_le hlen
                cases e2
                obtain ⟨v2, ev2, r2⟩ := st1.mu i b2 _ e3
                rw [ev] at ev2; cases ev2
                obtain ⟨f1, hf1⟩ : ∃ f, f = fp1 i := ⟨_, rfl⟩
                have nd1 := st1.nd i
                rw [← hf1] at r2 nd1
                obtain ⟨a3, zs, rfl, ha3, hz3, rz⟩ := r1.ofOl ex
                cases r2 with
                | @lst l vs2 _ fe h2 hl2 rs2 =>
                  have hne : ∀ a ∈ fe, a ≠ l := fun a ha z => (List.nodup_cons.mp nd1).1 (z ▸ ha)
                  have hlt : vs2.length + zs.length ≤ sizeLine := by rw [rs2.length, rz.length, sizeLine_eq]; omega
                  obtain ⟨fp3, st3, sp3⟩ := st1.chg (H' := upd H1 l (.lst (vs2 ++ zs))) e3 ev (o' := .lst (os2 ++ x.map O.d)) (f := l :: fe) (fun a u ha hu => by
                    rw [upd_ne fun z => ha (by rw [← hf1, z]; simp)]; exact hu)
                    (.lst upd_same (by rw [List.length_append]; exact hlt) (RepOs.appD (rs2.mono (.refl _) fun a ha u hu => by rw [upd_ne (hne a ha)]; exact hu) rz)) nd1 fun a ha => .inl (by rw [← hf1]; exact ha)
                  refine ⟨l, a3, vs2, zs, rfl, rfl, h2, ha3, hlt, ob1.2.1 (.d .non) _ false rfl .non _ _ fp3 [] ?_ st3 ⟨.non, rfl⟩ List.nodup_nil ⟨z1.1.trans (.chg e3), fun z => nomatch z⟩⟩
                  rw [plus_nil]
                  exact ((Step.refl _ _ _).weak fun x h => .inl h).trans sp3
              · cases e2
            · cases e2
          · exact absurd rfl ob1.1
    · rw [if_neg hl] at ob; exact absurd rfl ob.1
end
end
end Mw

set_option Elab.async false
set_option linter.all false
set_option maxRecDepth 100000
set_option autoImplicit false
namespace Mw
open PySem PySem.Spec PyProof.Rows L2
noncomputable section
/-! ### enumerate(xs), xs a list that does not change meanwhile -/
def enumD : Nat → List D → List D
  | _, [] => []
  | k, d :: ds => .tup [.int k, d] :: enumD (k + 1) ds
theorem enumD_len : ∀ (ds : List D) (k : Nat), (enumD k ds).length = ds.length
  | [], _ => rfl
  | _ :: ds, k => by show (enumD (k + 1) ds).length + 1 = _; rw [enumD_len ds]; rfl
theorem enumD_get : ∀ (ds : List D) (k i : Nat), (enumD k ds)[i]? = ds[i]?.map fun d => .tup [.int ((k + i : Nat) : Int), d]
  | [], _, _ => by simp [enumD]
  | d :: ds, k, 0 => by simp [enumD]
  | d :: ds, k, i + 1 => by
    simp only [enumD, List.getElem?_cons_succ]
    rw [enumD_get ds (k + 1) i, show k + 1 + i = k + (i + 1) by omega]
def mEn (m : M) : MI := fun ρ => (m ρ).bind fun r ρ' q => match r with
  | .d (.lst ds) => .ok (enumD 0 ds) ρ' q
  | _ => .no
theorem yields_enum {g : Wd} {F : Hp} {p : Addr} {vs : List V} {ds : List D} (h : SqL g.K F p vs) (r : Reps g F vs ds) : Yields g F (Ite g.K p) (enumD 0 ds) := by
  intro i F2 H2 e1 e2
  have h2 := e2.sqL (e1.sqL h)
  refine ⟨fun e => ⟨vs, h2, by rw [e, enumD_len, r.length]; exact Nat.le_refl _⟩, fun d hd => ?_⟩
  rw [enumD_get] at hd
  cases hd0 : ds[i]? with
  | none => rw [hd0] at hd; cases hd
  | some d0 =>
    rw [hd0] at hd; cases hd
    obtain ⟨v, hv, rv⟩ := r.get hd0
    refine ⟨⟨vs, v, h2, hv⟩, fun x H3 hy => ?_⟩
    obtain ⟨T, x0, rfl, hT, rfl, hall⟩ := hy
    have := hall vs h2
    rw [hv] at this; cases this
    have fT := fnone e2 hT
    refine ⟨upd F2 T (.tup [.int (i : Nat), v]), ext_upd2 e2 e2, ext_upd fT, ext_upd hT, fun a o e => ?_, ?_⟩
    · by_cases z : a = T
      · subst z; exact .inr hT
      · rw [upd_ne z] at e; exact .inl e
    · have l2 : [V.int ((i : Nat) : Int), v].length ≤ sizeLine := by rw [sizeLine_eq]; show 2 ≤ 16777216; decide
      have := Rep.tup (g := g) (F := upd F2 T (.tup [.int (i : Nat), v])) (a := T) (vs := [.int ((i : Nat) : Int), v]) (ds := [.int ((i : Nat) : Int), d0]) upd_same l2 (.cons (.int _) (.cons ((rv.mono e1).mono (ext_upd fT)) .nil))
      simpa using this
section
variable {X : Cx} {W : WX} {pos tpos p : Pos} {a : Expr} {ma : M} {elts : List Expr} {kk : Nat}
theorem si_en (hg : Gl X "enumerate") (hm : X.mg "enumerate" = none) (ha : SE X W a ma) (he : starEach [a] X.env = (false, eval a X.env) :: starEach [] X.env := by rfl) (hs : starEach [a] X.env = [(false, eval a X.env)] := by rfl) :
    SI X W (.Tuple elts kk tpos) (.Call (.Name "enumerate" p) [a] [] pos) (mEn ma) := PI.wk (pi_enum hg hm (pa_cons ha pa_nil he) hs) fun σ H R h => by
  refine tR.bind h fun F ρ fp st r ρ1 q1 e1 v F1 H1 fp1 fr1 s1 st1 r1 n1 z1 ob => ?_
  show ∃ a xs, [v] = [.ref a] ∧ SqL X.K H1 a xs ∧ R (Ite X.K a) H1
  cases r with
  | d x =>
    cases x with
    | lst ds =>
      obtain ⟨hr, hf⟩ := r1
      subst hf
      cases hr with
      | lst h hl rr => exact ⟨_, _, rfl, st1.sub.sqL h, ob.2.1 _ ρ1 q1 rfl _ F1 H1 fp1 [] (by rw [plus_nil]; exact .refl _ _ _) st1 ⟨yields_enum h rr, rfl⟩ n1 z1⟩
    | _ => exact absurd rfl ob.1
  | _ => exact absurd rfl ob.1
end
end
end Mw

set_option Elab.async false
set_option linter.all false
set_option maxRecDepth 100000
set_option autoImplicit false
namespace Mw
open PySem PySem.Spec PyProof.Rows L2
noncomputable section
/-! ### places that are not read again are given up -/
def klS : Slo → Slo
  | .mu true o => .mu true o
  | _ => .un
def kl : Ro → List Nat → Ro
  | ρ, [] => ρ
  | ρ, v :: vs => kl (match ρ[v]? with | some s => ρ.set v (klS s) | none => ρ) vs
theorem Kbs.un {ρ : Ro} {σ : L2.St} {i : Nat} (h : isBor ρ i = false) : Kbs ρ σ (ρ.set i .un) σ := fun k o e => by
  by_cases hk : i = k
  · subst hk
    unfold isBor at h
    rw [e] at h; cases h
  · exact ⟨⟨o, by rw [List.getElem?_set, if_neg hk]; exact e⟩, rfl⟩
theorem klS_bor {ρ : Ro} {i : Nat} {s : Slo} (e : ρ[i]? = some s) : (isBor ρ i = true ∧ klS s = s) ∨ (isBor ρ i = false ∧ klS s = .un) := by
  unfold isBor
  rw [e]
  cases s with
  | un => exact .inr ⟨rfl, rfl⟩
  | shr d => exact .inr ⟨rfl, rfl⟩
  | mu b o => cases b with
    | true => exact .inl ⟨rfl, rfl⟩
    | false => exact .inr ⟨rfl, rfl⟩
theorem Stt.kl {g : Wd} {F H : Hp} {σ : L2.St} : ∀ (vs : List Nat) {ρ : Ro} {fp : Nat → List Addr}, Stt g F H σ ρ fp → ∃ fp', Stt g F H σ (kl ρ vs) fp' ∧ (∀ a, Own fp' a → Own fp a) ∧ Kbs ρ σ (kl ρ vs) σ
  | [], ρ, fp, st => ⟨fp, st, fun _ h => h, .refl _ _⟩
  | v :: vs, ρ, fp, st => by
    have one : ∃ fp', Stt g F H σ (match ρ[v]? with | some s => ρ.set v (klS s) | none => ρ) fp' ∧ (∀ a, Own fp' a → Own fp a) ∧ Kbs ρ σ (match ρ[v]? with | some s => ρ.set v (klS s) | none => ρ) σ := by
      cases e : ρ[v]? with
      | none => exact ⟨fp, st, fun _ h => h, .refl _ _⟩
      | some s =>
        dsimp only
        rcases klS_bor e with ⟨_, h2⟩ | ⟨h1, h2⟩
        · have : ρ.set v (klS s) = ρ := by
            rw [h2]
            obtain ⟨hl, he⟩ := List.getElem?_eq_some_iff.mp e
            rw [← he]; exact List.set_getElem_self hl
          rw [this]
          exact ⟨fp, st, fun _ h => h, .refl _ _⟩
        · rw [h2]
          obtain ⟨fp', a, b, _⟩ := st.drop v
          exact ⟨fp', a, b, .un h1⟩
    obtain ⟨fp1, a1, b1, c1⟩ := one
    obtain ⟨fp2, a2, b2, c2⟩ := Stt.kl vs a1
    exact ⟨fp2, a2, fun a h => b1 a (b2 a h), c1.trans c2⟩
/-- behind a statement -/
def mKl (vs : List Nat) (m : MS) : MS := fun ρ => match m ρ with
  | .nx ρ' => .nx (kl ρ' vs)
  | .bk ρ' => .bk (kl ρ' vs)
  | .ct ρ' => .ct (kl ρ' vs)
  | r => r
def mFz (i : Nat) (m : MS) : MS := fun ρ => (fz i ρ).stm fun _ ρ' => m ρ'
/-- ahead of a statement -/
def mPre (vs : List Nat) (m : MS) : MS := fun ρ => m (kl ρ vs)
section
variable {X : Cx} {W : WX} {st : Stmt} {sts : List Stmt} {m n : MS}
theorem tS_kl {g : Wd} {W : WX} {vs : List Nat} {m : MS} {D : Ends} {σ : L2.St} {H : Hp} (h : tS g W (mKl vs m) D σ H) : tS g W m D σ H := by
  obtain ⟨F, ρ, fp, st, ob⟩ := h
  refine ⟨F, ρ, fp, st, ?_⟩
  unfold mKl at ob
  cases e : m ρ with
  | nx ρ1 =>
    rw [e] at ob
    refine ⟨(fun z => nomatch z), fun ρ' q σ' F' H' fp' s1 st1 k1 => ?_, fun ρ' q => (nomatch q), fun ρ' q => (nomatch q), fun r ρ' q => (nomatch q), fun r ρ' q => (nomatch q)⟩
    cases q
    obtain ⟨fp2, a, b, c⟩ := st1.kl vs
    exact ob.nx _ rfl σ' F' H' fp2 (s1.weak b) a (k1.trans c)
  | bk ρ1 =>
    rw [e] at ob
    refine ⟨(fun z => nomatch z), fun ρ' q => (nomatch q), fun ρ' q σ' F' H' fp' s1 st1 k1 => ?_, fun ρ' q => (nomatch q), fun r ρ' q => (nomatch q), fun r ρ' q => (nomatch q)⟩
    cases q
    obtain ⟨fp2, a, b, c⟩ := st1.kl vs
    exact ob.bk _ rfl σ' F' H' fp2 (s1.weak b) a (k1.trans c)
  | ct ρ1 =>
    rw [e] at ob
    refine ⟨(fun z => nomatch z), fun ρ' q => (nomatch q), fun ρ' q => (nomatch q), fun ρ' q σ' F' H' fp' s1 st1 k1 => ?_, fun r ρ' q => (nomatch q), fun r ρ' q => (nomatch q)⟩
    cases q
    obtain ⟨fp2, a, b, c⟩ := st1.kl vs
    exact ob.ct _ rfl σ' F' H' fp2 (s1.weak b) a (k1.trans c)
  | rt r ρ1 => rw [e] at ob; exact ob
  | ex x ρ1 => rw [e] at ob; exact ob
  | no => rw [e] at ob; exact absurd rfl ob.no
theorem tS_pre {g : Wd} {W : WX} {vs : List Nat} {m : MS} {D : Ends} {σ : L2.St} {H : Hp} (h : tS g W (mPre vs m) D σ H) : tS g W m D σ H := by
  obtain ⟨F, ρ, fp, st, ob⟩ := h
  obtain ⟨fp2, a, b, c⟩ := st.kl vs
  exact ⟨F, kl ρ vs, fp2, a, ObS.after ob ((Step.refl _ _ _).weak b) c⟩
theorem ss_kl {vs : List Nat} (h : SS X W st m) : SS X W st (mKl vs m) := PS.wk h fun D σ H h => tS_kl h
theorem ss_pre {vs : List Nat} (h : SS X W st m) : SS X W st (mPre vs m) := PS.wk h fun D σ H h => tS_pre h
/-- a list at a name is frozen first -/
theorem tS_fz {g : Wd} {W : WX} {i : Nat} {m : MS} {D : Ends} {σ : L2.St} {H : Hp} (h : tS g W (mFz i m) D σ H) : tS g W m D σ H := by
  have h2 : tM g W (fz i) σ H fun v H1 => tS g W m D σ H1 := by
    refine tS_of (m := fz i) (k := fun _ ρ' => m ρ') h fun r ρ1 v F1 H1 fp1 fr1 st1 r1 n1 ob => ?_
    cases r with
    | d x =>
      obtain ⟨r1, rfl⟩ := r1
      rw [plus_nil] at ob
      exact ⟨F1, ρ1, fp1, st1, ob⟩
    | own o => exact ⟨F1, ρ1, fp1, st1, ob.after ((Step.refl _ _ _).weak fun x z => .inl z) (.refl _ _)⟩
    | pk o => exact ⟨F1, ρ1, fp1, st1, ob.after ((Step.refl _ _ _).weak fun x z => .inl z) (.refl _ _)⟩
  obtain ⟨v, _, q⟩ := tM_fz h2
  exact q
theorem sss_fz {i : Nat} (h : SSs X W sts m) : SSs X W sts (mFz i m) := PSs.wk h fun D σ H h => tS_fz h
theorem sss_kl {vs : List Nat} (h : SSs X W sts m) : SSs X W sts (mKl vs m) := PSs.wk h fun D σ H h => tS_kl h
theorem sss_pre {vs : List Nat} (h : SSs X W sts m) : SSs X W sts (mPre vs m) := PSs.wk h fun D σ H h => tS_pre h
end
end
end Mw

set_option Elab.async false
set_option linter.all false
set_option maxRecDepth 100000
set_option autoImplicit false
namespace Mw
open PySem PySem.Spec PyProof.Rows L2
noncomputable section
/-! ### a call that only looks: flat data come back, nothing is changed -/
def D.atm : D → Bool
  | .non => true
  | .bl _ => true
  | .int _ => true
  | .str _ => true
  | _ => false
theorem Rep.atm {g : Wd} {F F' : Hp} {v : V} {d : D} (h : Rep g F v d) (z : d.atm = true) : Rep g F' v d := by
  cases h with
  | non => exact .non
  | bl b => exact .bl b
  | int i => exact .int i
  | str h => exact .str h
  | tup _ _ _ => cases z
  | lst _ _ _ => cases z
  | obj _ _ _ _ _ => cases z
def R.fzv : R → Option D
  | .d x => some x
  | .own o => if o.fz = true then some o.toD else none
  | .pk o => if o.fz = true then some o.toD else none
def fzvs : List R → Option (List D)
  | [] => some []
  | r :: rs => match r.fzv, fzvs rs with
    | some x, some xs => some (x :: xs)
    | _, _ => none
theorem RepR.fzv {g : Wd} {F H : Hp} {S : Addr → Prop} {v : V} {r : R} {fr : List Addr} (h : RepR g F H S v r fr) (s : Ext F H) {x : D} (e : r.fzv = some x) : Rep g H v x := by
  cases r with
  | d y => cases e; exact h.1.mono s
  | own o =>
    unfold R.fzv at e
    dsimp only at e
    split at e
    · next z => cases e; exact h.1.freeze s z fun a _ u q => q
    · cases e
  | pk o =>
    unfold R.fzv at e
    dsimp only at e
    split at e
    · next z =>
      cases e
      obtain ⟨_, fp, h⟩ := h
      exact h.freeze s z fun a _ u q => q
    · cases e
theorem RepRs.fzvs {g : Wd} {F H : Hp} {S : Addr → Prop} {vs : List V} {rs : List R} {fr : List Addr} (h : RepRs g F H S vs rs fr) (s : Ext F H) {xs : List D} (e : fzvs rs = some xs) : Reps g H vs xs := by
  induction h generalizing xs with
  | nil => cases e; exact .nil
  | cons h t ih =>
    unfold Mw.fzvs at e
    split at e
    · next x xs' e1 e2 => cases e; exact .cons (h.fzv s e1) (ih e2)
    · cases e
def mCallP (f : Fn) (ms : List M) : M := fun ρ => (mArgs ms ρ).bind fun rs ρ1 q => match fzvs rs with
  | some xs => (match f (xs.map Slo.shr) with
    | .ok (.d x) _ => if x.atm = true then .ok (.d x) ρ1 q else .no
    | _ => .no)
  | none => .no
theorem mArgs_len {ms : List M} : ∀ {ρ : Ro} {rs : List R} {ρ1 : Ro} {q : Bool}, mArgs ms ρ = .ok rs ρ1 q → rs.length = ms.length := by
  induction ms with
  | nil => intro ρ rs ρ1 q e; cases e; rfl
  | cons m ms ih =>
    intro ρ rs ρ1 q e
    unfold mArgs at e
    cases e1 : m ρ with
    | no => rw [e1] at e; cases e
    | ex x ρ' => rw [e1] at e; cases e
    | ok r ρ' q' =>
      rw [e1] at e
      simp only [Res.bind_ok] at e
      cases e2 : mArgs ms ρ' with
      | no => rw [e2] at e; cases e
      | ex x ρ'' => rw [e2] at e; cases e
      | ok rs' ρ'' q'' =>
        rw [e2] at e
        simp only [Res.bind_ok] at e
        split at e
        · cases e
        · cases e; simp [ih e2]
theorem RepRs.len {g : Wd} {F H : Hp} {S : Addr → Prop} {vs : List V} {rs : List R} {fr : List Addr} (h : RepRs g F H S vs rs fr) : vs.length = rs.length := by
  induction h with
  | nil => rfl
  | cons h t ih => simp [ih]
theorem tM_callP {g : Wd} {W : WX} {n : Nat} {f : Fn} {ms : List M} {σ : L2.St} {H : Hp} {Q : VK} (hn : ms.length = n) (h : tM g W (mCallP f ms) σ H Q) : tA g W ms σ H fun vs H1 => spF g n f vs H1 Q (WE W σ) := by
  refine tR.bind h fun F ρ fp st rs ρ1 q1 e1 vs F1 H1 fp1 fr1 s1 st1 r1 n1 z1 ob => ?_
  refine ⟨(r1.len.trans (mArgs_len e1)).trans hn, ?_⟩
  cases ex : fzvs rs with
  | none => rw [ex] at ob; exact absurd rfl ob.1
  | some xs =>
    rw [ex] at ob
    dsimp only at ob
    have rx := r1.fzvs st1.sub ex
    have own0 : ∀ a, ¬ Own (fun _ : Nat => ([] : List Addr)) a := fun a ⟨_, h⟩ => nomatch h
    have stt : Stt g H1 H1 (vs.map some) (xs.map Slo.shr) (fun _ => []) := by
      refine ⟨.refl _, by simp [rx.length], fun _ _ => rfl, fun i d h => ?_, fun i b o h => ?_, fun _ => List.nodup_nil, (fun _ _ _ h => nomatch h), (fun _ _ h => nomatch h)⟩
      · rw [List.getElem?_map] at h
        cases e : xs[i]? with
        | none => rw [e] at h; cases h
        | some x =>
          rw [e] at h; cases h
          obtain ⟨v, e2, r⟩ := rx.get e
          exact ⟨v, by rw [List.getElem?_map, e2]; rfl, r⟩
      · rw [List.getElem?_map] at h
        cases e : xs[i]? with
        | none => rw [e] at h; cases h
        | some x => rw [e] at h; cases h
    refine ⟨H1, xs.map Slo.shr, fun _ => [], stt, fun e => ob.1 (by rw [e]), fun r as' e v F' H' fp' fr s' st' r' n' hp kb => ?_, fun x as' e cls d F' H' fp' s' st' r' kb => ?_⟩
    · rw [e] at ob
      cases r with
      | d x =>
        dsimp only at ob
        split at ob
        · next hz =>
          have eh : Ext H1 H' := fun a o q => s'.keep a o (own0 a) q
          refine ob.2.1 (.d x) ρ1 q1 rfl v F1 H' fp1 [] ?_ (st1.grown (.refl _) eh (st1.sub.trans eh) fun a ha => (st1.there ha).2) ⟨r'.1.atm hz, rfl⟩ List.nodup_nil ⟨z1.1, fun hq => ⟨(z1.2 hq).1.trans eh, (z1.2 hq).2⟩⟩
          rw [plus_nil]
          exact ⟨.refl _, fun a o _ q => eh a o q, fun a o q => .inl q, fun a q => .inl (.inl q)⟩
        · exact absurd rfl ob.1
      | own o => exact absurd rfl ob.1
      | pk o => exact absurd rfl ob.1
    · rw [e] at ob; exact absurd rfl ob.1
section
variable {X : Cx} {W : WX} {pos : Pos} {a b c tg : Expr} {es : List Expr} {ma mb mc : M} {ms : List M} {st : Stmt} {sts : List Stmt} {m n : MS} {tc : MB} {t : Tg} {ts : List Tg} {mi : MI} {p : Pos} {x : Str}
theorem s_callP {k n : Nat} {f : Fn} (G : Kp X.prog X.w X.K X.mg X.base k x n f) (hr : Room k X.A) (hg : Gl X x) (tk : Takes X W) (ha : SA X W (a :: es) ms) (hn : ms.length = n := by rfl)
    (hdb : (x == ("__debug__" : Str)) = false := by decide) (he : starEach (a :: es) X.env = (false, eval a X.env) :: starEach es X.env := by rfl) (hpl : (backTo pos (starEach es X.env)).any (·.1) = false := by rfl) :
    SE X W (.Call (.Name x p) (a :: es) [] pos) (mCallP f ms) := by
  obtain ⟨fa, fd, ps, h1, h2, h3, h4⟩ := G.ex
  exact PE.wk (pe_callSD (E := WE W) (dvs := []) (ds := []) h1 hr hg h3 h4 h2 .nil (fun σ => passAt tk σ) ha hdb he hpl) fun σ H Q h => (tM_callP hn h).imp fun vs H1 q => by rw [List.append_nil]; exact q
end
/-! ### a list in a list at a name gets one more item -/
theorem RepOs.push {g : Wd} {F H : Hp} {l : Addr} {ws : List V} {y : V} {x : D} (hw : H l = some (.lst ws)) (hlen : ws.length + 1 ≤ sizeLine) (ry : Rep g F y x) : ∀ {vs : List V} {os : List O} {fp : List Addr} (j : Nat) {inn : List O}, RepOs g F H vs os fp → vs[j]? = some (.ref l) → os[j]? = some (.lst inn) → fp.Nodup →
    RepOs g F (upd H l (.lst (ws ++ [y]))) vs (os.set j (.lst (inn ++ [.d x]))) fp ∧ l ∈ fp
  | _, _, _, j, inn, .nil, h, _, _ => by simp at h
  | _, _, _, 0, inn, .cons (f := f) (fp := fp) h t, hv, ho, nd => by
    simp at hv ho
    subst hv ho
    have nd2 := List.nodup_append.mp nd
    cases h with
    | @lst _ ws' _ f' h1 h2 h3 =>
      rw [hw] at h1; cases h1
      have hne : ∀ a ∈ f', a ≠ l := fun a ha z => (List.nodup_cons.mp nd2.1).1 (z ▸ ha)
      refine ⟨.cons (.lst upd_same (by rw [List.length_append]; exact hlen) (RepOs.app1 (h3.mono (.refl F) fun a ha u hu => by rw [upd_ne (hne a ha)]; exact hu) ry)) (t.mono (.refl F) fun a ha u hu => ?_), by simp⟩
      rw [upd_ne fun z => nd2.2.2 l (by simp) a ha z.symm]; exact hu
  | _, _, _, j + 1, inn, .cons (f := f) (fp := fp) h t, hv, ho, nd => by
    have nd2 := List.nodup_append.mp nd
    obtain ⟨r, hl⟩ := RepOs.push hw hlen ry j t (by simpa using hv) (by simpa using ho) nd2.2.1
    refine ⟨.cons (h.mono (.refl F) fun a ha u hu => ?_) r, List.mem_append_right _ hl⟩
    rw [upd_ne fun z => nd2.2.2 a ha l hl z]; exact hu
def inLst (ρ : Ro) (i : Nat) (k : Int) : Bool := match ρ[i]? with
  | some (.mu _ (.lst os)) => (match L2.atI os k with
    | some (.lst _) => true
    | _ => false)
  | _ => false
def pushAt2 (ρ : Ro) (i : Nat) (k : Int) (x : D) : Option Ro := match ρ[i]? with
  | some (.mu b (.lst os)) => (match L2.ixN os.length k with
    | some j => (match os[j]? with
      | some (.lst inn) => if lenOk (inn.length + 1) = true then some (ρ.set i (.mu b (.lst (os.set j (.lst (inn ++ [.d x])))))) else none
      | _ => none)
    | none => none)
  | _ => none
def mApp2 (i : Nat) (mk m : M) : M := fun ρ => if isLst ρ i = true then (mInt mk ρ).bind fun r ρ1 q1 => match r with
  | .d (.int k) => if (q1 && inLst ρ1 i k) = true then (m ρ1).bind fun r2 ρ2 q2 => match r2.st with
      | some x => if q2 = true then (match pushAt2 ρ2 i k x with
        | some ρ3 => .ok (.d .non) ρ3 false
        | none => .no) else .no
      | none => .no
    else .no
  | _ => .no
  else .no
section
variable {X : Cx} {W : WX} {pos : Pos} {a b c tg : Expr} {es : List Expr} {ma mb mc : M} {ms : List M} {st : Stmt} {sts : List Stmt} {m n : MS} {tc : MB} {t : Tg} {ts : List Tg} {mi : MI} {p ip : Pos}
theorem s_append2 {i : Nat} {x : Str} {apos : Pos} (hN : X.N[i]? = some x) (hv : Vis X.env.scope x) (hk : SE X W b mb) (ha : SE X W a ma) (hd : (x == ("__debug__" : Str)) = false := by decide) (hcd : (x == ("__classdict__" : Str)) = false := by decide)
    (hbase : attributeBase (.Subscript (.Name x p) b ip) "append" X.env (eval (.Subscript (.Name x p) b ip) X.env) = eval (.Subscript (.Name x p) b ip) X.env := by rfl)
    (hfew : ((backTo pos (starEach (a :: []) X.env)).all (fun x => !x.1) && (backToKw pos (keywordEach [] X.env)).all (fun x => x.1.isSome)
      && decide ((a :: ([] : List Expr)).length + ([] : List Keyword).length + (if ([] : List Keyword).isEmpty then 0 else 1) < 30)) = true := by rfl)
    (hline : (apos.endLine == pos.line) = true := by rfl) (hs : starEach (a :: []) X.env = (false, eval a X.env) :: starEach [] X.env := by rfl) (hpx : PlainIx b := by exact fun _ _ => rfl) :
    SE X W (.Call (.Attribute (.Subscript (.Name x p) b ip) "append" apos) [a] [] pos) (mApp2 i mb ma) :=
  PE.wk (pe_bm PySem.F.plainAttrs_list PySem.F.slot_list_append PySem.F.type_list_append mt_append (pe_ix ix_seq (pe_var hN hv hd hcd) hk hpx) (pa_cons ha pa_nil hs) hbase hfew hline hs rfl) fun σ H Q h => by
    obtain ⟨F, ρ, fp, st, ob⟩ := h
    have ob : Ob (gOf X) W σ F H (Own fp) (Zq H ρ) (RepR (gOf X)) (if isLst ρ i = true then _ else _) Q := ob
    by_cases hl : isLst ρ i = true
    · rw [if_pos hl] at ob
      obtain ⟨b, os, e⟩ : ∃ b os, ρ[i]? = some (.mu b (.lst os)) := by
        unfold isLst at hl
        split at hl
        · next b os e => exact ⟨b, os, e⟩
        · cases hl
      obtain ⟨v, ev, r⟩ := st.mu i b _ e
      refine ⟨v, ev, ?_⟩
      show tM (gOf X) W mb σ H fun kx H1 => rIx X.K v kx H1 fun y H2 => tyV X.K "list" y H2 ∧ tM (gOf X) W ma σ H2 fun z H3 => rAppend y [z] H3 Q
      have tk : tM (gOf X) W (mInt mb) σ H fun kx H1 => rIx X.K v kx H1 fun y H2 => tyV X.K "list" y H2 ∧ tM (gOf X) W ma σ H2 fun z H3 => rAppend y [z] H3 Q := by
        refine tR.bind (m := mInt mb) (RR := RepR (gOf X)) (Q := Q) ⟨F, ρ, fp, st, ob⟩ fun F0 ρ0 fp0 st0 r0 ρ1 q1 e1 kx F1 H1 fp1 fr1 s1 st1 r1 n1 z1 ob1 => ?_
        cases r0 with
        | own o => exact absurd rfl ob1.1
        | pk o => exact absurd rfl ob1.1
        | d x0 =>
        cases x0 with
        | int k =>
          dsimp only at ob1
          split at ob1
          · next hq =>
            have hq := Bool.and_eq_true_iff.mp hq
            obtain ⟨hq1, hin⟩ := hq
            obtain ⟨r1, rfl⟩ := r1
            cases r1
            rw [plus_nil] at ob1
            unfold inLst at hin
            split at hin
            · next b1 os1 ee1 =>
              split at hin
              · next inn ei =>
                obtain ⟨v1, ev1, rv1⟩ := st1.mu i b1 _ ee1
                rw [ev] at ev1; cases ev1
                obtain ⟨ff1, hff1⟩ : ∃ f, f = fp1 i := ⟨_, rfl⟩
                rw [← hff1] at rv1
                cases rv1 with
                | @lst p1 vs1 _ fe1 h1 hl1 rs1 =>
                obtain ⟨vk, fk, hvk, rk⟩ := rs1.atI ei
                cases rk with
                | @lst l ws _ fl hw hlw rw' =>
                refine .inl ⟨p1, vs1, k, _, rfl, rfl, .inl (.inl h1), hvk, .inl ⟨rfl, ws, .inl (.inl hw)⟩, ?_⟩
                refine ⟨F1, ρ1, fp1, st1, Ob.bind (Z := Zq H1 ρ1) (Z1 := Zq H1 ρ1) (RR := RepR (gOf X)) (Q := Q) (k := fun r2 ρ2 q2 => match r2.st with
                    | some x => if q2 = true then (match pushAt2 ρ2 i k x with
                      | some ρ3 => .ok (.d .non) ρ3 false
                      | none => .no) else .no
                    | none => .no) ?_ (fun r2 ρ2 q3 e3 y F3 H3 fp3 fr3 s3 st3 r3 n3 z3 ob3 => ?_) fun _ _ z => z⟩
                · exact ⟨ob1.1, fun r ρ' q e' v' F' H' fp' fr a b c d z => ob1.2.1 r ρ' q e' v' F' H' fp' fr a b c d ⟨z1.1.trans z.1, fun hh => ⟨(z1.2 hq1).1.trans (z.2 hh).1, (z.2 hh).2.trans (z1.2 hq1).2⟩⟩, fun x' ρ' e' cls dd F' H' fp' a b c z => ob1.2.2 x' ρ' e' cls dd F' H' fp' a b c ⟨z1.1.trans z.1, fun hh => nomatch hh⟩⟩
                · cases ex : r2.st with
                  | none => rw [ex] at ob3; exact absurd rfl ob3.1
                  | some x =>
                    rw [ex] at ob3
                    dsimp only at ob3
                    split at ob3
                    · next hq3 =>
                      obtain ⟨eh3, rfl⟩ := z3.2 hq3
                      unfold pushAt2 at ob3
                      split at ob3
                      · next ρ4 e4 =>
                        split at e4
                        · next b2 os2 e5 =>
                          rw [ee1] at e5; cases e5
                          split at e4
                          · next j ej =>
                            split at e4
                            · next inn2 eo =>
                              split at e4
                              · next hlen =>
                                have hlen := lenOk_le hlen
                                cases e4
                                have einn : inn2 = inn := by
                                  unfold L2.atI at ei
                                  rw [ej] at ei
                                  have ei : os1[j]? = some (.lst inn) := ei
                                  rw [eo] at ei; cases ei; rfl
                                subst einn
                                obtain ⟨v3, ev3, rv3⟩ := st3.mu i b1 _ ee1
                                rw [ev] at ev3; cases ev3
                                obtain ⟨ff3, hff3⟩ : ∃ f, f = fp3 i := ⟨_, rfl⟩
                                have nd3 := st3.nd i
                                rw [← hff3] at rv3 nd3
                                cases rv3 with
                                | @lst _ vs3 _ fe3 h3 hl3 rs3 =>
                                have := eh3 p1 _ h1
                                rw [h3] at this; cases this
                                have hw3 := eh3 l _ hw
                                have hvj : vs1[j]? = some (.ref l) := by
                                  unfold L2.atI at hvk
                                  rw [rs3.length, ej] at hvk
                                  exact hvk
                                have st4 := st3.frzd fun a ha => (r3.out a ha).2.1
                                have ry : Rep (gOf X) (frz F3 H3 fr3) y x := r3.st ex (frz_ext st3.sub) fun a ha => frz_mem ha
                                have hwl : ws.length + 1 ≤ sizeLine := by rw [rw'.length, sizeLine_eq]; omega
                                obtain ⟨rp, hlm⟩ := RepOs.push hw3 hwl ry j (rs3.mono (frz_ext st3.sub) fun a ha u hu => hu) hvj eo (List.nodup_cons.mp nd3).2
                                have hpl : p1 ≠ l := fun z => (List.nodup_cons.mp nd3).1 (z ▸ hlm)
                                obtain ⟨fp5, st5, sp5⟩ := st4.chg (H' := upd H3 l (.lst (ws ++ [y]))) ee1 ev (o' := .lst (os1.set j (.lst (inn2 ++ [.d x])))) (f := p1 :: fe3) (fun a u ha hu => by
                                  rw [upd_ne fun z => ha (by rw [← hff3, z]; exact List.mem_cons_of_mem _ hlm)]; exact hu)
                                  (.lst (by rw [upd_ne hpl]; exact h3) hl3 rp) nd3 fun a ha => .inl (by rw [← hff3]; exact ha)
                                refine ⟨l, ws, y, rfl, rfl, hw3, by omega, ob3.2.1 (.d .non) _ false rfl .non _ _ fp5 [] ?_ st5 ⟨.non, rfl⟩ List.nodup_nil ⟨z3.1.trans (.chg ee1), fun z => nomatch z⟩⟩
                                rw [plus_nil]
                                exact (Step.frz st3.sub).trans sp5
                              · cases e4
                            · cases e4
                          · cases e4
                        · cases e4
                      · exact absurd rfl ob3.1
                    · exact absurd rfl ob3.1
              · cases hin
            · cases hin
          · exact absurd rfl ob1.1
        | _ => exact absurd rfl ob1.1
      refine (tM_int tk).imp fun x H1 q => ?_
      obtain ⟨i, rfl, q⟩ := q
      exact q
    · rw [if_neg hl] at ob; exact absurd rfl ob.1
end
end
end Mw

set_option Elab.async false
set_option linter.all false
set_option maxRecDepth 100000
set_option autoImplicit false
namespace Mw
open PySem PySem.Spec PyProof.Rows L2
noncomputable section
/-! ### comprehensions whose items stay own -/
def R.oo : R → Option O
  | .d x => some (.d x)
  | .own o => some o
  | .pk _ => none
def lcGoO (t : Tg) (e : M) (ρw : Ro) : List D → List O → Option (List O)
  | [], os => some os
  | x :: xs, os => match asg t x ρw with
    | none => none
    | some ρ4 => match e ρ4 with
      | .ok r _ true => (match r.oo with
        | some o => lcGoO t e ρw xs (os ++ [o])
        | none => none)
      | _ => none
def mLcO (it : MI) (t : Tg) (e : M) (vs : List Nat) : M := fun ρ => (it ρ).bind fun xs ρ1 q1 => if (lenOk xs.length && noMu ρ1 vs) = true then (match lcGoO t e (wipeR ρ1 vs) xs [] with
  | some os => .ok (.own (.lst os)) ρ1 q1
  | none => .no) else .no
theorem RepOs.snoc {g : Wd} {F H : Hp} : ∀ {vs : List V} {os : List O} {fp : List Addr} {v : V} {o : O} {f : List Addr}, RepOs g F H vs os fp → RepO g F H v o f → RepOs g F H (vs ++ [v]) (os ++ [o]) (fp ++ f)
  | _, _, _, v, o, f, .nil, r => by
    have := RepOs.cons (f := f) (fp := []) r .nil
    rw [List.append_nil] at this; exact this
  | _, _, _, v, o, f, .cons (f := f1) (fp := fp) h t, r => by
    have := RepOs.cons h (RepOs.snoc t r)
    rw [← List.append_assoc] at this; exact this
structure LcO (g : Wd) (σ : L2.St) (F1 H1 : Hp) (S1 : Addr → Prop) (ρ1 : Ro) (vs : List Nat) (L : Addr) (i : Nat) (F H : Hp) (fp : Nat → List Addr) (os : List O) (fr : List Addr) : Prop where
  st : Stt g F H (wipe σ vs) (wipeR ρ1 vs) fp
  rr : RepR g F H (Own fp) (.ref L) (.own (.lst os)) fr
  nd : fr.Nodup
  le : os.length ≤ i
  sp : Step F1 H1 S1 F H (Plus (Own fp) fr)
  eh : ∀ a o, H1 a = some o → H a = some o
theorem tM_lcO {g : Wd} {W : WX} {it : MI} {t : Tg} {e : M} {vs : List Nat} {σ : L2.St} {H : Hp} {Q : VK} (hs : ∀ j ∈ t.slots, j ∈ vs) (h : tM g W (mLcO it t e vs) σ H Q) :
    tLc (tI g W it) (tG g t) (tB' g W0 mYes) (tM g W0 e) vs σ H Q := by
  refine tR.bind h fun F0 ρ0 fp0 st0 xs ρ1 q1 e1 J F1 H1 fp1 fr1 s1 st1 r1 n1 z1 ob => ?_
  obtain ⟨yl, rfl⟩ := r1
  rw [plus_nil] at ob
  intro L hL
  by_cases hc : (lenOk xs.length && noMu ρ1 vs) = true
  · rw [if_pos hc] at ob
    have hc := Bool.and_eq_true_iff.mp hc
    have hlen := lenOk_le hc.1
    cases er : lcGoO t e (wipeR ρ1 vs) xs [] with
    | none => rw [er] at ob; exact absurd rfl ob.1
    | some zs =>
      rw [er] at ob
      dsimp only at ob
      have hF1 : F1 L = none := fnone st1.sub hL
      have oL : ∀ {a}, Own fp1 a → a ≠ L := fun {a} ha z => (st1.there ha).1 (z ▸ hL)
      refine ⟨fun i m H' => i ≤ xs.length ∧ m = xs.length - i ∧ ∃ F fp os fr, LcO g σ F1 H1 (Own fp1) ρ1 vs L i F H' fp os fr ∧ lcGoO t e (wipeR ρ1 vs) (xs.drop i) os = some zs, ⟨xs.length, Nat.zero_le _, rfl, ?_⟩, ?_⟩
      · obtain ⟨fp', st', k'⟩ := st1.wiped vs
        have eu : Ext H1 (upd H1 L (.lst [])) := ext_upd hL
        refine ⟨F1, fp', [], [L], ⟨st'.grown (.refl _) eu (st1.sub.trans eu) fun a ha => (st'.there ha).2, ⟨.lst (fp := []) upd_same (Nat.zero_le _) .nil, fun a ha => ?_⟩, by simp, Nat.zero_le _, ⟨.refl _, fun a o _ h => eu a o h, fun a o h => .inl h, fun a h => ?_⟩, eu⟩, by rw [List.drop_zero]; exact er⟩
        · rw [List.mem_singleton] at ha; subst ha
          exact ⟨hF1, fun z => (st'.there z).1 hL⟩
        · rcases h with h | h
          · exact .inl (k' a h)
          · rw [List.mem_singleton] at h; subst h; exact .inr hL
      · intro i m H2 hW
        obtain ⟨hi, rfl, F, fp, os, fr, I, eg⟩ := hW
        have Y := yl i F H2 I.sp.ext I.st.sub
        by_cases hl : i < xs.length
        · obtain ⟨d, hd⟩ : ∃ d, xs[i]? = some d := ⟨xs[i], List.getElem?_eq_getElem hl⟩
          have hdr : xs.drop i = d :: xs.drop (i + 1) := by
            rw [List.getElem?_eq_getElem hl] at hd
            cases hd
            exact (List.drop_eq_getElem_cons hl)
          rw [hdr] at eg
          unfold lcGoO at eg
          obtain ⟨go, yy⟩ := Y.2 d hd
          refine .inr ⟨go, fun H' => i + 1 ≤ xs.length ∧ ∃ F fp os fr, LcO g σ F1 H1 (Own fp1) ρ1 vs L (i + 1) F H' fp os fr ∧ lcGoO t e (wipeR ρ1 vs) (xs.drop (i + 1)) os = some zs, fun H' hN => ⟨xs.length - (i + 1), by omega, hN.1, rfl, hN.2⟩, fun x H3 hy => ?_⟩
          obtain ⟨F3, s3, e3, eh3, n3, r3⟩ := yy x H3 hy
          have own3 : ∀ a, Own fp a → F3 a = none := fun a ha => by
            cases z : F3 a with
            | none => rfl
            | some u =>
              rcases n3 a u z with z | z
              · rw [(I.st.there ha).2] at z; cases z
              · exact absurd z (I.st.there ha).1
          have st3 := I.st.grown e3 eh3 s3 own3
          have step3 : Step F H2 (Plus (Own fp) fr) F3 H3 (Plus (Own fp) fr) := ⟨e3, fun a o _ h => eh3 a o h, fun a o h => (n3 a o h).imp id fun z => .inr (.inl z), fun a h => .inl h⟩
          have step3' : Step F H2 (Own fp) F3 H3 (Own fp) := ⟨e3, fun a o _ h => eh3 a o h, fun a o h => (n3 a o h).imp id fun z => .inr (.inl z), fun a h => .inl h⟩
          have sp3 := I.sp.trans step3
          have rr3 := I.rr.keep step3' fun z => nomatch z
          cases e4 : asg t d (wipeR ρ1 vs) with
          | none => rw [e4] at eg; cases eg
          | some ρ4 =>
            rw [e4] at eg
            dsimp only at eg
            refine ⟨F3, wipeR ρ1 vs, fp, d, ρ4, st3, r3, e4, fun σ4 fp4 st4 o4 k4 n4 => ?_⟩
            have hw : wipe σ4 vs = wipe σ vs := by
              apply List.ext_getElem?
              intro j
              rw [wipe_get, wipe_get]
              have hl4 : σ4.length = σ.length := by rw [n4.1, wipe_length]
              rw [hl4]
              split
              · rfl
              · next z =>
                rw [n4.2 j fun y => z (hs j y), wipe_get, if_neg z]
            refine ⟨hw, F3, ρ4, fp4, st4, ?_⟩
            have ag := asg_get e4
            have rr4 : RepR g F3 H3 (Own fp4) (.ref L) (.own (.lst os)) fr := ⟨rr3.1, fun a ha => ⟨(rr3.2 a ha).1, fun z => (rr3.2 a ha).2 (o4 a z)⟩⟩
            have sp4 : Step F1 H1 (Own fp1) F3 H3 (Plus (Own fp4) fr) := sp3.weak fun a ha => ha.imp (o4 a) id
            refine ⟨(fun z => nomatch z), fun b ρ5 qb e5 vb F5 H5 fp5 fr5 s5 st5 r5 n5 z5 => ?_, (fun x ρ' z => nomatch z)⟩
            cases e5
            obtain ⟨rfl, rfl⟩ := r5
            rw [plus_nil] at s5
            rw [if_pos rfl]
            have rr5 := rr4.keep s5 fun z => nomatch z
            have sp5 : Step F1 H1 (Own fp1) F5 H5 (Plus (Own fp5) fr) := sp4.trans (s5.frame fr)
            refine ⟨F5, _, fp5, st5, ?_⟩
            refine ⟨fun z => ?_, fun r ρ6 q6 e6 v6 F6 H6 fp6 fr6 s6 st6 r6 n6 z6 => ?_, fun x ρ' z => ?_⟩
            · rw [z] at eg; cases eg
            · rw [e6] at eg
              cases q6 with
              | false => cases eg
              | true =>
              dsimp only at eg
              obtain ⟨eh6, rfl⟩ := z6.2 rfl
              cases ey : r.oo with
              | none => rw [ey] at eg; cases eg
              | some o =>
                rw [ey] at eg
                dsimp only at eg
                have rr6 := rr5.keep s6 fun z => nomatch z
                have sp6 : Step F1 H1 (Own fp1) F6 H6 (Plus (Own fp6) (fr ++ fr6)) := (sp5.trans (s6.frame fr)).weak fun a ha => by
                  rcases ha with ha | ha
                  · exact .inl (.inl ha)
                  · rcases List.mem_append.mp ha with ha | ha
                    · exact .inr ha
                    · exact .inl (.inr ha)
                have ro : RepO g F6 H6 v6 o fr6 := by
                  cases r with
                  | d x => cases ey; obtain ⟨a, rfl⟩ := r6; exact .d a
                  | own o => cases ey; exact r6.1
                  | pk o => cases ey
                have out6 := r6.out
                have rr60 := rr6
                obtain ⟨rro, rrf⟩ := rr6
                cases rro with
                | @lst _ acc _ fa hA hAl rs =>
                have dj : ∀ a ∈ L :: fa, a ∉ fr6 := fun a ha z => (rrf a ha).2 (.inr z)
                have la := rs.length
                have nd6 : (L :: fa ++ fr6).Nodup := List.nodup_append.mpr ⟨I.nd, n6, fun a ha b hb z => dj a ha (z ▸ hb)⟩
                refine ⟨acc, hA, by rw [la, sizeLine_eq]; have := I.le; omega, hl, F6, ?_⟩
                have nL : ∀ a ∈ fa ++ fr6, a ≠ L := fun a ha z => by
                  have := (List.nodup_cons.mp (show (L :: (fa ++ fr6)).Nodup from nd6)).1
                  exact this (z ▸ ha)
                have up : ∀ a, a ≠ L → ∀ u, H6 a = some u → upd H6 L (.lst (acc ++ [v6])) a = some u := fun a ha u hu => by rw [upd_ne ha]; exact hu
                have FL : F6 L = none := (rrf L (by simp)).1
                have sub' : Ext F6 (upd H6 L (.lst (acc ++ [v6]))) := fun a o z => up a (fun y => by rw [y, FL] at z; cases z) o (st6.sub a o z)
                have OL : ¬ Own fp6 L := fun z => (rrf L (by simp)).2 (.inl z)
                obtain ⟨fp7, st7, k7⟩ := (st6.moved (.refl F6) (fun a o m z => up a (fun y => OL (y ▸ m)) o z) sub' fun a ha => (st6.there ha).2).wiped vs
                rw [hw] at st7
                have ew : wipeR ρ6 vs = wipeR ρ1 vs := by rw [wipeR_eq ag.1 ag.2 hs, wipeR_idem]
                rw [ew] at st7
                refine ⟨fp7, os ++ [o], L :: (fa ++ fr6), ⟨st7, ⟨.lst upd_same (by rw [List.length_append, la, sizeLine_eq]; have := I.le; simp; omega) (RepOs.snoc (rs.mono (.refl _) fun a ha u hu => up a (nL a (List.mem_append_left _ ha)) u hu) (ro.mono (.refl _) fun a ha u hu => up a (nL a (List.mem_append_right _ ha)) u hu)), fun a ha => ?_⟩, nd6, by rw [List.length_append]; have := I.le; simp; omega, ?_, fun a u hu => ?_⟩, eg⟩
                · rcases List.mem_append.mp (show a ∈ (L :: fa) ++ fr6 from ha) with ha | ha
                  · exact ⟨(rrf a ha).1, fun z => (rrf a ha).2 (.inl (k7 a z))⟩
                  · exact ⟨(out6 a ha).1, fun z => (out6 a ha).2.1 (k7 a z)⟩
                · refine (sp6.trans ⟨.refl _, fun a o m z => ?_, fun a o z => .inl z, fun a h => .inl h⟩).weak fun a ha => ha.imp (k7 a) id
                  exact up a (fun y => m (.inr (by rw [y]; simp))) o z
                · have h3 := eh3 a u (I.eh a u hu)
                  have h5 := (z5.2 rfl).1 a u h3
                  exact up a (fun y => by rw [y, hL] at hu; cases hu) u (eh6 a u h5)
            · rw [z] at eg; cases eg
        · have ei : i = xs.length := by omega
          subst ei
          refine .inl ⟨Y.1 rfl, ?_⟩
          rw [List.drop_length] at eg
          unfold lcGoO at eg
          cases eg
          have stz := I.st.unwiped (wipeR_idem _ _) st1 I.sp.ext
          rw [unwipe_wipeR hc.2] at stz
          exact ob.2.1 _ _ _ rfl (.ref L) F H2 fp fr I.sp stz I.rr I.nd ⟨z1.1, fun hq => ⟨fun a u hu => I.eh a u ((z1.2 hq).1 a u hu), (z1.2 hq).2⟩⟩
  · rw [if_neg hc] at ob; exact absurd rfl ob.1
section
variable {X : Cx} {W : WX} {elt tg iter : Expr} {scope : Scope} {own : List (Str × Nat)} {pos : Pos} {mi : MI} {t : Tg} {mc : MB} {me : M}
theorem s_lcO (hc : X.calm = true) (hN : X.N.Nodup) (ok : BlkOk X.N X.env.scope scope own) (hi : SI X W tg iter mi)
    (hg : ∀ (s : Shared) (H : Hp) (C : Addr) (cl : List (Str × Addr)) (fp : List Addr), SG (X.blk s H scope (compEnvC scope cl C X.env) fp) tg t)
    (he : ∀ (s : Shared) (H : Hp) (C : Addr) (cl : List (Str × Addr)) (fp : List Addr), SE (X.blk s H scope (compEnvC scope cl C X.env) fp) W0 elt me) (hs : ∀ j ∈ t.slots, j ∈ own.map (·.2) := by decide) (hf : ∀ x, foldedSetIterable iter X.env x = pure x := by intro _; rfl) :
    SE X W (.ListComp elt [⟨tg, iter, [], 0⟩] scope pos) (mLcO mi t me (own.map (·.2))) :=
  PE.wk (pe_lc hc hN hi ok hg (fun _ _ _ _ _ => sf_nil) he hf) fun σ H Q h => tM_lcO hs h
theorem ss_setlcO {i : Nat} {y : Str} {py spos : Pos} (hc : X.calm = true) (hN : X.N.Nodup) (hy : X.N[i]? = some y) (hyl : X.env.scope.names.lookup y = some .local)
    (hsw : swapsWith (.ListComp elt [⟨tg, iter, [], 0⟩] scope pos) (some (.Name y py)) spos.line X.env = pure true) (ok : BlkOk X.N X.env.scope scope own) (hi : SI X W tg iter mi)
    (hg : ∀ (s : Shared) (H : Hp) (C : Addr) (cl : List (Str × Addr)) (fp : List Addr), SG (X.blk s H scope (compEnvC scope cl C X.env) fp) tg t)
    (he : ∀ (s : Shared) (H : Hp) (C : Addr) (cl : List (Str × Addr)) (fp : List Addr), SE (X.blk s H scope (compEnvC scope cl C X.env) fp) W0 elt me) (hs : ∀ j ∈ t.slots, j ∈ own.map (·.2) := by decide) (hf : ∀ x, foldedSetIterable iter X.env x = pure x := by intro _; rfl) :
    SS X W (.Assign [.Name y py] (.ListComp elt [⟨tg, iter, [], 0⟩] scope pos) spos) (mSet i (mLcO mi t me (own.map (·.2)))) :=
  PS.wk (ps_setLc hc hN hy hyl hsw hi ok hg (fun _ _ _ _ _ => sf_nil) he hf) fun D σ H h => tM_lcO hs (tS_set h)
end
end
end Mw

set_option Elab.async false
set_option linter.all false
set_option maxRecDepth 100000
set_option autoImplicit false
namespace Mw
open PySem PySem.Spec PyProof.Rows L2
noncomputable section
/-! ### sorted(dict), the keys pairs of ints -/
def pairK (p : Int × Int) : List Key := [Sum.inl p.1, Sum.inl p.2]
def refA : Value → Addr
  | .ref a => a
  | _ => 0
def keyPr (H : Hp) (v : Value) : Int × Int := match H (refA v) with
  | some (.tup [.int i, .int j]) => (i, j)
  | _ => (0, 0)
theorem keys_pr {H : Hp} {kvs : List (List Key × V)} {xs : List (List Key × Addr × Value)} (r : Paired (fun (p : List Key × V) (q : List Key × Addr × Value) => p.1 = q.1 ∧ H q.2.1 = some (.tup (p.1.map kV)) ∧ RelV p.2 q.2.2) kvs xs) :
    ∀ ks : List (Int × Int), kvs.map (·.1) = ks.map pairK → (xs.map fun x => keyPr H (.ref x.2.1)) = ks ∧ ∀ x ∈ xs, H x.2.1 = some (.tup [.int (keyPr H (.ref x.2.1)).1, .int (keyPr H (.ref x.2.1)).2]) := by
  induction r with
  | nil =>
    intro ks h
    cases ks with
    | nil => exact ⟨rfl, fun _ h => nomatch h⟩
    | cons k ks => cases h
  | @cons p q kvs' xs' h t ih =>
    intro ks e
    cases ks with
    | nil => cases e
    | cons k ks =>
      rw [List.map_cons, List.map_cons] at e
      have e := List.cons.inj e
      obtain ⟨h1, h2⟩ := ih ks e.2
      have h3 : H q.2.1 = some (.tup [.int k.1, .int k.2]) := by
        rw [h.2.1, e.1]; rfl
      have h4 : keyPr H (.ref q.2.1) = k := by
        unfold keyPr refA
        dsimp only
        rw [h3]
      refine ⟨by rw [List.map_cons, h1, h4], fun x hx => ?_⟩
      rcases List.mem_cons.mp hx with rfl | hx
      · rw [h4]; exact h3
      · exact h2 x hx
theorem call_sortedDT {X : Cx} (hc : X.calm = true) : CallR X (.builtin "sorted") (fun xs H Q => ∃ (d : Addr) (kvs : List (List Key × V)) (ks : List (Int × Int)), xs = [.ref d] ∧ Rd H d (.dT kvs) ∧ kvs.map (·.1) = ks.map pairK ∧
    ∀ (ys : List (Int × Int)) (bs : List Addr) (p : Addr), ys.Perm ks → ys.Pairwise (fun a b => SrtO.lexB b a = false) → (∀ (j : Nat) (y : Int × Int), ys[j]? = some y → ∃ b, bs[j]? = some b ∧ H b = some (.tup [.int y.1, .int y.2])) → bs.length = ys.length → H p = none → Q (.ref p) (upd H p (.lst (bs.map V.ref)))) := by
  intro pins s σ H xs us Q I r h
  obtain ⟨d, kvs, ks0, rfl, hd, hks, q⟩ := h
  obtain ⟨u, rfl, rx⟩ := r.one
  cases rx
  obtain ⟨z, hs, ks, pr, o, es, ep, ho, hx, hdt, he, hn⟩ := (show ObjOk X.prog X.w H s.heap d (.dT kvs) from hd.ok I.hok)
  have l1 : es.size = ks.length := size_of_entries he
  have l2 : kvs.length = ks.length := Paired.length pr
  obtain ⟨hk1, hk2⟩ := keys_pr pr ks0 hks
  refine Calls.call_function_entry PyProof.Rows.kind_sorted PyProof.Rows.plain_sorted PyProof.Rows.entry_sorted (PyProof.Rows.args_sorted1 _) ?_
  unfold Builtin.«sorted»
  refine wpAny_bind (m := checkCount "sorted" 1 1 _) (wpAny_pure ?_)
  refine wpAny_bind (PySem.W.kdu_collect (A := X.A.in1) (kdl_raw hs hx hdt) (I.ok.hd hc) ho (by omega) fun h' tk acc kp it => ?_)
  have ea : acc.toList = ks.map fun x => Value.ref x.2.1 := by
    have hl : acc.toList.length = ks.length := by rw [Array.length_toList, it.1]; exact l1
    apply List.ext_getElem?
    intro j
    rw [List.getElem?_map]
    cases hj : acc.toList[j]? with
    | none =>
      have h1 := List.getElem?_eq_none_iff.mp hj
      rw [List.getElem?_eq_none (by omega)]
      all_goals rfl
    | some v =>
      obtain ⟨en, hen, hv⟩ := it.2 j v (by rw [← Array.getElem?_toList]; exact hj)
      have qe := entry_at he j
      rw [hen] at qe
      cases hb : ks[j]? with
      | none =>
        rw [hb] at qe
        exact nomatch (show some en = none from qe)
      | some b =>
        rw [hb] at qe
        have e2 : en = entryOfKey (tupleKind (mixKind X.prog X.w)) b := Option.some.inj qe
        rw [hv, e2]
        all_goals rfl
  have hz : acc.toList.length ≤ sizeLine := by rw [ea, List.length_map]; omega
  have hm : ∀ v ∈ acc.toList, ∃ t, v = Value.ref t ∧ H t = some (.tup [.int (keyPr H v).1, .int (keyPr H v).2]) := fun v hv => by
    rw [ea] at hv
    obtain ⟨x, hx, rfl⟩ := List.mem_map.mp hv
    exact ⟨_, rfl, hk2 x hx⟩
  have hp : ∀ v ∈ acc.toList, Srt.IsPair s.heap v (keyPr H v).1 (keyPr H v).2 := fun v hv => by
    obtain ⟨t, e, ht⟩ := hm v hv
    obtain ⟨_, its2, r2, o, ho, hc, n, hd⟩ := (show ObjOk X.prog X.w H s.heap t _ from I.hok _ _ ht)
    obtain ⟨u1, u2, rfl, ri, rj⟩ := vals2 r2
    obtain ⟨t1, rfl⟩ := ri
    obtain ⟨t2, rfl⟩ := rj
    exact ⟨t, o, t1, t2, n, e, ho, hc, hd⟩
  have I1 : Inv X pins σ H { s with heap := h', toks := tk } := I.kept kp
  refine wpAny_bind (wpAny_newList ?_ hz)
  have hoL : (h'.push (seqObj "list" acc.toList.toArray 0)).get? h'.objs.size = some (seqObj "list" acc.toList.toArray 0) := Heap.get?_push_size _ rfl
  show wpAny _ _ _ _ _ { s with heap := h'.push (seqObj "list" acc.toList.toArray 0), toks := tk }
  refine wpAny_bind (wpAny_holding (wpAny_call_entry PyProof.Rows.slot_list_sort ⟨_, hoL, rfl⟩ PyProof.Rows.entry_list_sort
    (SrtO.list_sort_ord (s := { s with heap := h'.push (seqObj "list" acc.toList.toArray 0), toks := tk }) (SrtO.swo_lex (keyPr H)) hoL hz (fun h2 => ?_) fun out g1 g2 => ⟨_, rfl, ?_⟩) (PyProof.Rows.args_list_sort _)))
  · refine SrtO.pairs_sortableO (s := { s with heap := h'.push (seqObj "list" acc.toList.toArray 0), toks := tk }) (by omega) (fun v hv => (hp v hv).keeps fun b o e _ => Heap.get?_push_of_some _ (kp b o e)) fun o e => ?_
    have e' : some o = some (seqObj "list" acc.toList.toArray 0) := e.symm.trans hoL
    cases e'
    intro c
    exact absurd (Value.type.inj c) (by decide)
  · obtain ⟨e', he'⟩ := PyProof.Rows.sortedHeap_at (vs := acc.toList) (out := out.toArray) hoL
    have ho2 : ∀ v ∈ out, ∃ t, v = Value.ref t ∧ H t = some (.tup [.int (keyPr H v).1, .int (keyPr H v).2]) := fun v hv => hm v (g2.perm.mem_iff.mp hv)
    have er : (out.map refA).map Value.ref = out := by
      rw [List.map_map]
      conv => rhs; rw [← List.map_id out]
      exact List.map_congr_left fun v hv => by obtain ⟨t, e, _⟩ := ho2 v hv; subst e; rfl
    have rv : Vals ((out.map refA).map V.ref) out := by
      have := vals_refs (out.map refA)
      rw [er] at this; exact this
    refine wpAny_pure ⟨_, rfl, .ref h'.objs.size, upd H h'.objs.size (.lst ((out.map refA).map V.ref)), I1.laid (t' := tk) (fun b u e => ?_) (Nat.le_refl _)
      (show ObjOk X.prog X.w _ _ _ (.lst ((out.map refA).map V.ref)) from ⟨?_, out, e', rv, he'⟩), rfl, q (out.map (keyPr H)) (out.map refA) _ ?_ ?_ (fun j y hj => ?_) (by simp) (I1.hok.fresh (Nat.le_refl _))⟩
    · have hb : b < h'.objs.size := Heap.lt_size e
      rw [PyProof.Rows.sortedHeap_old (Nat.ne_of_lt hb) (by rw [size_push']; exact Nat.lt_succ_of_lt hb)]
      exact Heap.get?_push_of_some _ e
    · rw [List.length_map, List.length_map, g2.perm.length_eq]; exact hz
    · refine (g2.perm.map (keyPr H)).trans ?_
      rw [ea, List.map_map]
      have : (ks.map (keyPr H ∘ fun x => Value.ref x.2.1)) = ks0 := hk1
      rw [this]
    · exact SrtO.srtd_map g1
    · rw [List.getElem?_map] at hj
      cases e : out[j]? with
      | none => rw [e] at hj; cases hj
      | some v =>
        rw [e] at hj; cases hj
        obtain ⟨t, e2, ht⟩ := ho2 v (List.mem_of_getElem? e)
        refine ⟨refA v, by rw [List.getElem?_map, e]; rfl, ?_⟩
        subst e2; exact ht
end
end Mw

set_option Elab.async false
set_option linter.all false
set_option maxRecDepth 100000
set_option autoImplicit false
namespace Mw
open PySem PySem.Spec PyProof.Rows L2
noncomputable section
/-! ### dicts, the keys pairs of ints, the values plain -/
section
variable {κ β : Type} [DecidableEq κ]
def tget (kv : List (κ × β)) (k : κ) : Option β := (kv.find? fun p => decide (p.1 = k)).map (·.2)
def tput (kv : List (κ × β)) (k : κ) (x : β) : List (κ × β) := if (kv.any fun p => decide (p.1 = k)) = true then kv.map (fun p => if p.1 = k then (p.1, x) else p) else kv ++ [(k, x)]
end
abbrev PD := List ((Int × Int) × D)
def k2 (k : Int × Int) : D := .tup [.int k.1, .int k.2]
def prK : D → Option (Int × Int)
  | .tup [.int i, .int j] => some (i, j)
  | _ => none
theorem prK_eq {d : D} {k : Int × Int} (h : prK d = some k) : d = k2 k := by
  unfold prK at h
  split at h
  · cases h; rfl
  · cases h
theorem prK_k2 (k : Int × Int) : prK (k2 k) = some k := rfl
def prs : List D → List O → Option PD
  | [], [] => some []
  | k :: ks, .d x :: os => match prK k, prs ks os with
    | some q, some r => some ((q, x) :: r)
    | _, _ => none
  | _, _ => none
def O.pd : O → Option PD
  | .dct (.non :: ks) os => prs ks os
  | _ => none
def pdO (kv : PD) : O := .dct (.non :: kv.map fun p => k2 p.1) (kv.map fun p => .d p.2)
theorem prs_eq : ∀ {ks : List D} {os : List O} {kv : PD}, prs ks os = some kv → ks = kv.map (fun p => k2 p.1) ∧ os = kv.map fun p => .d p.2
  | [], [], _, h => by cases h; exact ⟨rfl, rfl⟩
  | [], _ :: _, _, h => by simp [prs] at h
  | _ :: _, [], _, h => by simp [prs] at h
  | k :: ks, .d x :: os, kv, h => by
    unfold prs at h
    split at h
    · next q r e1 e2 =>
      cases h
      obtain ⟨h1, h2⟩ := prs_eq e2
      rw [prK_eq e1, h1, h2]; exact ⟨rfl, rfl⟩
    · cases h
  | _ :: _, .lst _ :: _, _, h => by simp [prs] at h
  | _ :: _, .dct _ _ :: _, _, h => by simp [prs] at h
  | _ :: _, .obj _ _ _ :: _, _, h => by simp [prs] at h
theorem pd_eq {o : O} {kv : PD} (h : o.pd = some kv) : o = pdO kv := by
  unfold O.pd at h
  split at h
  · obtain ⟨h1, h2⟩ := prs_eq h
    rw [h1, h2]; rfl
  · cases h
theorem prs_of : ∀ kv : PD, prs (kv.map fun p => k2 p.1) (kv.map fun p => O.d p.2) = some kv
  | [] => rfl
  | p :: kv => by
    rw [List.map_cons, List.map_cons]
    unfold prs
    rw [prK_k2, prs_of kv]
@[simp] theorem pd_pdO (kv : PD) : (pdO kv).pd = some kv := prs_of kv
def PDR (g : Wd) (F : Hp) (kvs : List (List Key × V)) (kv : PD) : Prop := Paired (fun (p : List Key × V) (q : (Int × Int) × D) => p.1 = pairK q.1 ∧ Rep g F p.2 q.2) kvs kv
theorem keyD_pair {p : List Key} {k : Int × Int} (h : D.tup (p.map keyD) = k2 k) : p = pairK k := by
  unfold k2 at h
  have h := D.tup.inj h
  match p, h with
  | [.inl a, .inl b], h =>
    simp only [List.map_cons, List.map_nil, keyD] at h
    have h1 := D.int.inj (List.cons.inj h).1
    have h2 := D.int.inj (List.cons.inj (List.cons.inj h).2).1
    rw [h1, h2]; rfl
  | [], h => simp at h
  | [_], h => simp at h
  | _ :: _ :: _ :: _, h => simp at h
  | [.inr a, b], h => simp [keyD] at h
  | [.inl a, .inr b], h => simp [keyD] at h
theorem pairK_inj {a b : Int × Int} (h : pairK a = pairK b) : a = b := by
  unfold pairK at h
  simp at h
  exact Prod.ext h.1 h.2
theorem pdr_of {g : Wd} {F : Hp} : ∀ {kv : PD} {kvs : List (List Key × V)}, kvs.map (fun p => D.tup (p.1.map keyD)) = kv.map (fun p => k2 p.1) → Reps g F (kvs.map (·.2)) (kv.map (·.2)) → PDR g F kvs kv
  | [], [], _, _ => .nil
  | [], _ :: _, h, _ => by simp at h
  | _ :: _, [], h, _ => by simp at h
  | q :: kv, p :: kvs, h, r => by
    rw [List.map_cons, List.map_cons] at h r
    have h := List.cons.inj h
    cases r with
    | cons a b => exact .cons ⟨keyD_pair h.1, a⟩ (pdr_of h.2 b)
theorem PDR.keys {g : Wd} {F : Hp} {kvs : List (List Key × V)} {kv : PD} (h : PDR g F kvs kv) : kvs.map (fun p => D.tup (p.1.map keyD)) = kv.map (fun p => k2 p.1) ∧ kvs.map (·.1) = kv.map (fun p => pairK p.1) ∧ kvs.length = kv.length := by
  unfold PDR at h
  induction h with
  | nil => exact ⟨rfl, rfl, rfl⟩
  | cons a t ih => exact ⟨by rw [List.map_cons, List.map_cons, ih.1, a.1]; rfl, by rw [List.map_cons, List.map_cons, ih.2.1, a.1], by rw [List.length_cons, List.length_cons, ih.2.2]⟩
theorem PDR.vals {g : Wd} {F H : Hp} {kvs : List (List Key × V)} {kv : PD} (h : PDR g F kvs kv) : RepOs g F H (kvs.map (·.2)) (kv.map fun p => .d p.2) [] := by
  unfold PDR at h
  induction h with
  | nil => exact .nil
  | cons a t ih => exact .cons (f := []) (fp := []) (.d a.2) ih
theorem PDR.mono {g : Wd} {F F' : Hp} {kvs : List (List Key × V)} {kv : PD} (h : PDR g F kvs kv) (e : Ext F F') : PDR g F' kvs kv := by
  unfold PDR at h
  induction h with
  | nil => exact .nil
  | cons a t ih => exact .cons ⟨a.1, a.2.mono e⟩ ih
theorem RepO.pd {g : Wd} {F H : Hp} {v : V} {kv : PD} {fp : List Addr} (h : RepO g F H v (pdO kv) fp) : ∃ a kvs, v = .ref a ∧ fp = [a] ∧ H a = some (.dT kvs) ∧ PDR g F kvs kv := by
  unfold pdO at h
  have em : (kv.map fun p => O.d p.2) = (kv.map (·.2)).map O.d := by rw [List.map_map]; rfl
  rw [em] at h
  cases h with
  | @dk a kvs ks os fp h hk r =>
    cases kvs with
    | nil => cases hk
    | cons p kvs =>
      have this : keyD p.1 = .non := (List.cons.inj hk).1
      cases e : p.1 <;> rw [e] at this <;> cases this
  | @dt a kvs ks os fp h hk r =>
    obtain ⟨r', e'⟩ := r.toReps
    subst e'
    exact ⟨a, kvs, rfl, rfl, h, pdr_of (List.cons.inj hk).2 r'⟩
theorem PDR.rep {g : Wd} {F H : Hp} {a : Addr} {kvs : List (List Key × V)} {kv : PD} (h : PDR g F kvs kv) (e : H a = some (.dT kvs)) : RepO g F H (.ref a) (pdO kv) [a] := .dt e (by rw [h.keys.1]) h.vals
theorem PDR.get {g : Wd} {F : Hp} {kvs : List (List Key × V)} {kv : PD} (h : PDR g F kvs kv) {k : Int × Int} {x : D} (e : tget kv k = some x) : ∃ v, valV kvs (pairK k) = some v ∧ Rep g F v x := by
  unfold PDR at h
  induction h with
  | nil => cases e
  | @cons p q kvs kv a t ih =>
    by_cases c : q.1 = k
    · have : tget (q :: kv) k = some q.2 := by simp [tget, List.find?_cons, c]
      rw [this] at e; cases e
      exact ⟨p.2, valV_pos (by rw [a.1, c]), a.2⟩
    · have : tget (q :: kv) k = tget kv k := by simp [tget, List.find?_cons, c]
      rw [this] at e
      obtain ⟨v, h1, h2⟩ := ih e
      exact ⟨v, by rw [valV_neg (fun z => c (pairK_inj (by rw [← a.1, z]))), h1], h2⟩
theorem PDR.none {g : Wd} {F : Hp} {kvs : List (List Key × V)} {kv : PD} (h : PDR g F kvs kv) {k : Int × Int} (e : tget kv k = none) : valV kvs (pairK k) = none := by
  unfold PDR at h
  induction h with
  | nil => rfl
  | @cons p q kvs kv a t ih =>
    by_cases c : q.1 = k
    · have : tget (q :: kv) k = some q.2 := by simp [tget, List.find?_cons, c]
      rw [this] at e; cases e
    · have : tget (q :: kv) k = tget kv k := by simp [tget, List.find?_cons, c]
      rw [this] at e
      rw [valV_neg (fun z => c (pairK_inj (by rw [← a.1, z])))]; exact ih e
theorem PDR.any {g : Wd} {F : Hp} {kvs : List (List Key × V)} {kv : PD} (h : PDR g F kvs kv) (k : Int × Int) : (kvs.any fun p => decide (p.1 = pairK k)) = kv.any fun p => decide (p.1 = k) := by
  unfold PDR at h
  induction h with
  | nil => rfl
  | @cons p q kvs kv a t ih =>
    rw [List.any_cons, List.any_cons, ih]
    congr 1
    refine decide_eq_decide.mpr ⟨fun z => pairK_inj (by rw [← a.1, z]), fun z => by rw [a.1, z]⟩
theorem PDR.mapPut {g : Wd} {F : Hp} {kvs : List (List Key × V)} {kv : PD} (h : PDR g F kvs kv) (k : Int × Int) {y : V} {x : D} (r : Rep g F y x) : PDR g F (kvs.map fun kv => if kv.1 = pairK k then (kv.1, y) else kv) (kv.map fun p => if p.1 = k then (p.1, x) else p) := by
  unfold PDR at h ⊢
  induction h with
  | nil => exact .nil
  | @cons p q kvs kv a t ih =>
    rw [List.map_cons, List.map_cons]
    refine .cons ?_ ih
    by_cases c : q.1 = k
    · rw [if_pos c, if_pos (by rw [a.1, c])]; exact ⟨a.1, r⟩
    · rw [if_neg c, if_neg fun z => c (pairK_inj (by rw [← a.1, z]))]; exact a
theorem PDR.snoc {g : Wd} {F : Hp} {kvs : List (List Key × V)} {kv : PD} (h : PDR g F kvs kv) (k : Int × Int) {y : V} {x : D} (r : Rep g F y x) : PDR g F (kvs ++ [(pairK k, y)]) (kv ++ [(k, x)]) := by
  unfold PDR at h ⊢
  induction h with
  | nil => exact .cons ⟨rfl, r⟩ .nil
  | cons a t ih => exact .cons a ih
theorem PDR.put {g : Wd} {F : Hp} {kvs : List (List Key × V)} {kv : PD} (h : PDR g F kvs kv) (k : Int × Int) {y : V} {x : D} (r : Rep g F y x) : PDR g F (putK kvs (pairK k) y) (tput kv k x) := by
  unfold putK tput
  rw [h.any k]
  split
  · exact h.mapPut k r
  · exact h.snoc k r
theorem Rep.k2 {g : Wd} {F : Hp} {y : V} {k : Int × Int} (h : Rep g F y (Mw.k2 k)) : ∃ b, y = .ref b ∧ F b = some (.tup ((pairK k).map kV)) := by
  cases h with
  | @tup a vs _ h hl r =>
    cases r with
    | cons a1 t =>
      cases t with
      | cons a2 t =>
        cases t
        cases a1; cases a2
        exact ⟨a, rfl, h⟩
/-! {} -/
def mDNew : M := mOps [] fun _ => some (.own (pdO []))
section
variable {X : Cx} {W : WX} {pos : Pos} {a b c tg : Expr} {es : List Expr} {ma mb mc : M} {ms : List M} {p : Pos}
theorem s_dnewT : SE X W (.Dict [] [] pos) mDNew := PE.wk pe_dnewT fun σ H Q h => by
  intro p hp
  obtain ⟨F, S, rs, fr, rr, sub, hS, rp, nd, e, k⟩ := tA_nil (tM_ops h)
  cases e
  cases rp
  have fp := fnone sub hp
  refine k (.ref p) F (upd H p (.dT [])) [p] ⟨.refl F, ext_upd hp, sub.trans (ext_upd hp), fun a o e => .inl e, fun a h => ?_⟩ ⟨PDR.rep (kvs := []) (kv := []) .nil upd_same, fun a h => ?_⟩ (by simp)
  · rw [List.mem_singleton] at h; subst h; exact .inr hp
  · rw [List.mem_singleton] at h; subst h; exact ⟨fp, fun z => (hS a z).1 hp⟩
/-! d[k] -/
def lDGet (p q : R) : Option R := match p, q with
  | .pk o, .d kd => match o.pd, prK kd with
    | some kv, some k => (tget kv k).map R.d
    | _, _ => none
  | _, _ => none
theorem l_dget {K : Wd} : LOk2 K lDGet (fun x y H Q => ∃ a v, x = .ref a ∧ DGet H a y (some v) ∧ Q v H) := by
  intro F H S x y p q f1 f2 Q rx ry l
  obtain ⟨rr, e⟩ := l.has
  have e0 := e
  unfold lDGet at e
  split at e
  · next o kd =>
    split at e
    · next kv k e1 e2 =>
      cases e3 : tget kv k with
      | none => rw [e3] at e; cases e
      | some d =>
        rw [e3] at e; cases e
        obtain ⟨rfl, fp, rx⟩ := rx
        rw [pd_eq e1] at rx
        obtain ⟨a, kvs, rfl, _, ha, pr⟩ := rx.pd
        obtain ⟨ry, _⟩ := ry
        rw [prK_eq e2] at ry
        obtain ⟨b, rfl, hb⟩ := ry.k2
        obtain ⟨v, hv, rv⟩ := pr.get e3
        exact ⟨a, v, rfl, hv ▸ DGet.t ha (l.sub _ _ hb), l.val e0 rv⟩
    · cases e
  · cases e
theorem s_dget (hu : X.A.units + 65 < cLine) (ha : SE X W a ma) (hb : SE X W b mb) (hs : NoSl b := by exact fun _ _ => rfl) : SE X W (.Subscript a b pos) (m2 lDGet ma mb) := PE.wk (pe_dget (by omega) ha hb hs) fun σ H Q h => tM_m2 l_dget h
/-! d[k] = e -/
def dputAt (ρ : Ro) (i : Nat) (k : Int × Int) (x : D) : Option Ro := match ρ[i]? with
  | some (.mu b o) => match o.pd with
    | some kv => if lenOk (kv.length + 1) = true then some (ρ.set i (.mu b (pdO (tput kv k x)))) else none
    | none => none
  | _ => none
def isMu (ρ : Ro) (i : Nat) : Bool := match ρ[i]? with
  | some (.mu _ _) => true
  | _ => false
def mDPut (i : Nat) (mk me : M) : MS := fun ρ => if isMu ρ i = true then (mArgs [me, mk] ρ).stm fun rs ρ' => match rs with
  | [r, .d kd] => match r.st, prK kd with
    | some x, some k => match dputAt ρ' i k x with
      | some ρ2 => .nx ρ2
      | none => .no
    | _, _ => .no
  | _ => .no
  else .no
theorem ss_dput {i : Nat} {x : Str} {spos : Pos} (hu : X.A.units + 65 < cLine) (hN : X.N[i]? = some x) (hv : Vis X.env.scope x) (ha : SE X W a ma) (hb : SE X W b mb) (hd : (x == ("__debug__" : Str)) = false := by decide) (hcd : (x == ("__classdict__" : Str)) = false := by decide)
    (hs : swapsWith a (some (.Subscript (.Name x p) b spos)) pos.line X.env = pure false := by rfl) :
    SS X W (.Assign [.Subscript (.Name x p) b spos] a pos) (mDPut i mb ma) :=
  PS.wk (ps_dput (by omega) (pe_var hN hv hd hcd) hb ha hs) fun D σ H h => by
    obtain ⟨F, ρ, fp, st, ob⟩ := h
    have ob : ObS (gOf X) W ρ σ F H (Own fp) (if isMu ρ i = true then _ else _) D := ob
    by_cases hl : isMu ρ i = true
    · rw [if_pos hl] at ob
      obtain ⟨b, o, e⟩ : ∃ b o, ρ[i]? = some (.mu b o) := by
        unfold isMu at hl
        split at hl
        · next b os e => exact ⟨b, os, e⟩
        · cases hl
      obtain ⟨v, ev, _⟩ := st.mu i b _ e
      have h2 : tA (gOf X) W [ma, mb] σ H fun vs H2 => ∃ y z, vs = [y, z] ∧ ∃ a H4, v = .ref a ∧ DPut H2 a z y H4 ∧ D.nx σ H4 := by
        refine tS_of (m := mArgs [ma, mb]) (k := fun rs ρ' => match rs with
          | [r, .d kd] => match r.st, prK kd with
            | some x, some k => match dputAt ρ' i k x with
              | some ρ2 => .nx ρ2
              | none => .no
            | _, _ => .no
          | _ => .no) (D := D) ⟨F, ρ, fp, st, ob⟩ fun rs ρ1 vs F1 H1 fp1 fr1 st1 r1 n1 ob1 => ?_
        split at ob1
        · next r kd =>
          obtain ⟨y, w, fa, fb, rfl, rfl, ra, rb⟩ := r1.two
          obtain ⟨rb, rfl⟩ := rb
          rw [List.append_nil] at ob1 n1
          refine ⟨y, w, rfl, ?_⟩
          split at ob1
          · next x k ex ek =>
            rw [prK_eq ek] at rb
            obtain ⟨bk, rfl, hbk⟩ := rb.k2
            unfold dputAt at ob1
            split at ob1
            · next ρ2 e2 =>
              split at e2
              · next b2 o2 e3 =>
                split at e2
                · next kv ekv =>
                  split at e2
                  · next hlen =>
                    have hlen := lenOk_le hlen
                    cases e2
                    obtain ⟨v2, ev2, r2⟩ := st1.mu i b2 _ e3
                    rw [ev] at ev2; cases ev2
                    obtain ⟨f1, hf1⟩ : ∃ f, f = fp1 i := ⟨_, rfl⟩
                    have nd1 := st1.nd i
                    rw [← hf1] at r2 nd1
                    rw [pd_eq ekv] at r2
                    obtain ⟨l, kvs, rfl, rfl, hl1, pr⟩ := r2.pd
                    have st2 := st1.frzd fun a ha => (ra.out a ha).2.1
                    have ry : Rep (gOf X) (frz F1 H1 fa) y x := ra.st ex (frz_ext st1.sub) fun a ha => frz_mem ha
                    have kl := pr.keys.2.2
                    have hlt : kvs.length < sizeLine := by rw [kl, sizeLine_eq]; omega
                    obtain ⟨fp3, st3, sp3⟩ := st2.chg (H' := upd H1 l (.dT (putK kvs (pairK k) y))) e3 ev (o' := pdO (tput kv k x)) (f := [l]) (fun a u ha hu => by
                      rw [upd_ne fun z => ha (by rw [← hf1, z]; simp)]; exact hu)
                      (((pr.mono (frz_ext st1.sub)).put k ry).rep upd_same) nd1 fun a ha => .inl (by rw [← hf1]; exact ha)
                    exact ⟨l, _, rfl, DPut.t hl1 (st1.sub _ _ hbk) hlt, ob1.nx _ rfl σ _ _ fp3 ((Step.frz st1.sub).trans sp3) st3 (.chg e3)⟩
                  · cases e2
                · cases e2
              · cases e2
            · exact absurd rfl ob1.no
          · exact absurd rfl ob1.no
        · exact absurd rfl ob1.no
      refine (tA_cons h2).imp fun y H1 q => ⟨v, ev, (tA_cons q).imp fun z H2 q => ?_⟩
      obtain ⟨y', z', e2, a, H4, h1, h2, h3⟩ := tA_nil q
      cases e2
      exact ⟨a, H4, h1, h2, h3⟩
    · rw [if_neg hl] at ob; exact absurd rfl ob.no
end
/-! sorted(d) -/
def insP (x : Int × Int) : List (Int × Int) → List (Int × Int)
  | [] => [x]
  | y :: ys => if SrtO.lexB y x = true then y :: insP x ys else x :: y :: ys
def srtP : List (Int × Int) → List (Int × Int)
  | [] => []
  | x :: xs => insP x (srtP xs)
theorem insP_perm (x : Int × Int) : ∀ ys, (insP x ys).Perm (x :: ys)
  | [] => .refl _
  | y :: ys => by
    unfold insP
    split
    · exact ((insP_perm x ys).cons y).trans (List.Perm.swap x y ys)
    · exact .refl _
theorem srtP_perm : ∀ xs, (srtP xs).Perm xs
  | [] => .refl _
  | x :: xs => (insP_perm x (srtP xs)).trans ((srtP_perm xs).cons x)
theorem insP_pw (x : Int × Int) : ∀ {ys : List (Int × Int)}, ys.Pairwise (fun a b => SrtO.lexB b a = false) → (insP x ys).Pairwise (fun a b => SrtO.lexB b a = false)
  | [], _ => by simp [insP]
  | y :: ys, h => by
    have h := List.pairwise_cons.mp h
    unfold insP
    split
    · next c =>
      refine List.pairwise_cons.mpr ⟨fun z hz => ?_, insP_pw x h.2⟩
      rcases List.mem_cons.mp ((insP_perm x ys).mem_iff.mp hz) with rfl | hz
      · have := SrtO.lexB_iff.mp c
        exact SrtO.lexB_no.mpr (by omega)
      · exact h.1 z hz
    · next c =>
      have c : SrtO.lexB y x = false := by simpa using c
      refine List.pairwise_cons.mpr ⟨fun z hz => ?_, List.pairwise_cons.mpr h⟩
      rcases List.mem_cons.mp hz with rfl | hz
      · exact c
      · have h1 := SrtO.lexB_no.mp (h.1 z hz)
        have h2 := SrtO.lexB_no.mp c
        exact SrtO.lexB_no.mpr (by omega)
theorem srtP_pw : ∀ xs : List (Int × Int), (srtP xs).Pairwise (fun a b => SrtO.lexB b a = false)
  | [] => .nil
  | x :: xs => insP_pw x (srtP_pw xs)
theorem srtP_eq {xs ys : List (Int × Int)} (h : ys.Perm xs) (s : ys.Pairwise (fun a b => SrtO.lexB b a = false)) : ys = srtP xs :=
  (h.trans (srtP_perm xs).symm).eq_of_pairwise (fun a b _ _ h1 h2 => by
    have h1 := SrtO.lexB_no.mp h1
    have h2 := SrtO.lexB_no.mp h2
    exact Prod.ext (by omega) (by omega)) s (srtP_pw xs)
def lSrtD (p : R) : Option R := match p with
  | .pk o => match o.pd with
    | some kv => if lenOk kv.length = true then some (.own (O.l ((srtP (kv.map (·.1))).map k2))) else none
    | none => none
  | _ => none
section
variable {X : Cx} {W : WX} {pos : Pos} {a b c tg : Expr} {es : List Expr} {ma mb mc : M} {ms : List M} {p : Pos}
theorem s_sortedD (hcl : X.calm = true) (hg : Gl X "sorted") (hm : X.mg "sorted" = none) (ha : SE X W a ma) (he : starEach [a] X.env = (false, eval a X.env) :: starEach [] X.env := by rfl) : SE X W (.Call (.Name "sorted" p) [a] [] pos) (m1 lSrtD ma) :=
  s_blt1 (call_sortedDT hcl) (by
    intro F H S x p fr Q rx l
    obtain ⟨rr, e⟩ := l.has
    have e0 := e
    unfold lSrtD at e
    split at e
    · next o =>
      split at e
      · next kv ekv =>
        split at e
        · next hlen =>
          have hlen := lenOk_le hlen
          cases e
          obtain ⟨rfl, fp, rx⟩ := rx
          rw [pd_eq ekv] at rx
          obtain ⟨a, kvs, rfl, _, ha, pr⟩ := rx.pd
          refine ⟨a, kvs, kv.map (·.1), rfl, .inl ha, by rw [pr.keys.2.1, List.map_map]; rfl, fun ys bs q hp hs hb hlb hq => ?_⟩
          cases srtP_eq hp hs
          obtain ⟨rr, e', k⟩ := l.go
          rw [e0] at e'; cases e'
          have hF : ∃ F' : Hp, F' = fun a => if a ∈ bs then H a else F a := ⟨_, rfl⟩
          obtain ⟨F', hF⟩ := hF
          have hfz : F' = frz F H bs := by rw [hF]; rfl
          have extF : Ext F F' := by rw [hfz]; exact frz_ext l.sub
          have subF : Ext F' H := by rw [hfz]; exact frz_sub l.sub
          have hbt : ∀ b ∈ bs, ∃ xs, H b = some (.tup xs) := fun b hbm => by
            obtain ⟨j, hj, ej⟩ := List.mem_iff_getElem.mp hbm
            obtain ⟨b', hb', ht⟩ := hb j _ (List.getElem?_eq_getElem (by omega))
            rw [List.getElem?_eq_getElem hj, ej] at hb'; cases hb'
            exact ⟨_, ht⟩
          have qn : q ∉ bs := fun z => by
            obtain ⟨xs, hx⟩ := hbt q z
            rw [hq] at hx; cases hx
          have rps : Reps (gOf X) F' (bs.map V.ref) ((srtP (kv.map (·.1))).map k2) := by
            have : ∀ (ys : List (Int × Int)) (cs : List Addr), cs.length = ys.length → (∀ c ∈ cs, c ∈ bs) → (∀ (j : Nat) (y : Int × Int), ys[j]? = some y → ∃ b, cs[j]? = some b ∧ H b = some (.tup [.int y.1, .int y.2])) → Reps (gOf X) F' (cs.map V.ref) (ys.map k2) := by
              intro ys
              induction ys with
              | nil => intro cs h _ _; cases cs with
                | nil => exact .nil
                | cons => simp at h
              | cons y ys ih =>
                intro cs h hm hc
                cases cs with
                | nil => simp at h
                | cons c cs =>
                  obtain ⟨b, hb1, hb2⟩ := hc 0 y rfl
                  simp at hb1; subst hb1
                  refine .cons (.tup (vs := [.int y.1, .int y.2]) ?_ (by rw [sizeLine_eq]; show 2 ≤ 16777216; decide) (.cons (.int _) (.cons (.int _) .nil))) (ih cs (by simpa using h) (fun z hz => hm z (by simp [hz])) fun j z hz => by simpa using hc (j + 1) z (by simpa using hz))
                  rw [hfz, frz_mem (hm c (by simp))]; exact hb2
            exact this _ bs hlb (fun c hc => hc) hb
          have hl2 : (bs.map V.ref).length ≤ sizeLine := by rw [List.length_map, hlb, (srtP_perm _).length_eq, List.length_map, sizeLine_eq]; exact hlen
          refine k (.ref q) F' (upd H q (.lst (bs.map V.ref))) [q] ⟨extF, ext_upd hq, subF.trans (ext_upd hq), fun a o e => ?_, fun a h => ?_⟩ ⟨.lst upd_same hl2 (.ofReps rps), fun a h => ?_⟩ (by simp)
          · rw [hfz] at e
            rcases frz_new e with z | z
            · exact .inl z
            · exact .inr (.inr (.inr (hbt a z)))
          · rw [List.mem_singleton] at h; subst h; exact .inr hq
          · rw [List.mem_singleton] at h; subst h
            refine ⟨?_, fun z => (l.hS a z).1 hq⟩
            rw [hfz]; unfold frz; rw [if_neg qn]; exact fnone l.sub hq
        · cases e
      · cases e
    · cases e) hg hm (by decide +kernel) ha he
end
end
end Mw

set_option Elab.async false
set_option linter.all false
set_option maxRecDepth 100000
set_option autoImplicit false
namespace Mw
open PySem PySem.Spec PyProof.Rows L2
noncomputable section

/-! ## running meanings: first what stands first -/
def Slo.bor : Slo → Bool
  | .mu true _ => true
  | _ => false
@[simp] theorem bor_un : Slo.bor .un = false := rfl
@[simp] theorem bor_shr (d : D) : Slo.bor (.shr d) = false := rfl
@[simp] theorem bor_mu (b : Bool) (o : O) : Slo.bor (.mu b o) = b := by cases b <;> rfl
@[simp] theorem isBor_nil (n : Nat) : isBor [] n = false := rfl
@[simp] theorem isBor_0 (s : Slo) (ρ : Ro) : isBor (s :: ρ) 0 = s.bor := by
  cases s with
  | mu b o => cases b <;> rfl
  | _ => rfl
@[simp] theorem isBor_s (s : Slo) (ρ : Ro) (n : Nat) : isBor (s :: ρ) (n + 1) = isBor ρ n := rfl
@[simp] theorem isLst_0 (b : Bool) (os : List O) (ρ : Ro) : isLst (.mu b (.lst os) :: ρ) 0 = true := rfl
@[simp] theorem isLst_s (s : Slo) (ρ : Ro) (n : Nat) : isLst (s :: ρ) (n + 1) = isLst ρ n := rfl
@[simp] theorem live_mu (b : Bool) (o : O) (ρ : Ro) : live (.mu b o :: ρ) 0 = true := rfl
@[simp] theorem live_shr (d : D) (ρ : Ro) : live (.shr d :: ρ) 0 = true := rfl
@[simp] theorem live_s (s : Slo) (ρ : Ro) (n : Nat) : live (s :: ρ) (n + 1) = live ρ n := rfl
theorem pushAt_0 (b : Bool) (os : List O) (ρ : Ro) (x : D) : pushAt (.mu b (.lst os) :: ρ) 0 x = if lenOk (os.length + 1) = true then some (.mu b (.lst (os ++ [.d x])) :: ρ) else none := rfl
theorem pushAt_s (s : Slo) (ρ : Ro) (n : Nat) (x : D) : pushAt (s :: ρ) (n + 1) x = (pushAt ρ n x).map (s :: ·) := by
  unfold pushAt
  simp only [List.getElem?_cons_succ, List.set_cons_succ]
  cases ρ[n]? with
  | none => rfl
  | some t =>
    cases t with
    | mu b o =>
      cases o with
      | lst os => dsimp only; split <;> rfl
      | _ => rfl
    | _ => rfl
theorem putAt_0 (b : Bool) (os : List O) (ρ : Ro) (k : Int) (x : D) : putAt (.mu b (.lst os) :: ρ) 0 k x = (L2.ixN os.length k).map fun j => .mu b (.lst (os.set j (.d x))) :: ρ := by
  unfold putAt
  simp only [List.getElem?_cons_zero]
  cases L2.ixN os.length k <;> rfl
theorem putAt_s (s : Slo) (ρ : Ro) (n : Nat) (k : Int) (x : D) : putAt (s :: ρ) (n + 1) k x = (putAt ρ n k x).map (s :: ·) := by
  unfold putAt
  simp only [List.getElem?_cons_succ, List.set_cons_succ]
  cases ρ[n]? with
  | none => rfl
  | some t =>
    cases t with
    | mu b o =>
      cases o with
      | lst os => dsimp only; split <;> rfl
      | _ => rfl
    | _ => rfl
/-! ## running meanings -/
section
variable (s₀ : Slo) (ρ₀ : Ro) (a b c : M) (ms : List M)
@[simp] theorem ev_C (d : D) : mC d (s₀ :: ρ₀) = .ok (.d d) (s₀ :: ρ₀) true := rfl
theorem ev_nm (i : Nat) : nm i (s₀ :: ρ₀) = match (s₀ :: ρ₀)[i]? with
  | some (.shr d) => .ok (.d d) (s₀ :: ρ₀) true
  | some (.mu _ o) => .ok (.pk o) (s₀ :: ρ₀) true
  | _ => .no := rfl
theorem ev_fz (i : Nat) : fz i (s₀ :: ρ₀) = match (s₀ :: ρ₀)[i]? with
  | some (.shr d) => .ok (.d d) (s₀ :: ρ₀) true
  | some (.mu false o) => if o.fz = true then .ok (.d o.toD) ((s₀ :: ρ₀).set i (.shr o.toD)) false else .no
  | _ => .no := rfl
theorem ev_mv (i : Nat) : mv i (s₀ :: ρ₀) = match (s₀ :: ρ₀)[i]? with
  | some (.shr d) => .ok (.d d) (s₀ :: ρ₀) true
  | some (.mu false o) => .ok (.own o) ((s₀ :: ρ₀).set i .un) false
  | _ => .no := rfl
def pkq (r : R) (q : Bool) : Bool := r.isPk && !q
@[simp] theorem pkq_d (d : D) (q : Bool) : pkq (.d d) q = false := rfl
@[simp] theorem pkq_own (o : O) (q : Bool) : pkq (.own o) q = false := rfl
@[simp] theorem pkq_t (r : R) : pkq r true = false := by simp [pkq]
@[simp] theorem pkq_pk (o : O) (q : Bool) : pkq (.pk o) q = !q := by simp [pkq]
theorem ev_m2 (f : R → R → Option R) : m2 f a b (s₀ :: ρ₀) = (a (s₀ :: ρ₀)).bind fun x ρ1 q1 => (b ρ1).bind fun y ρ2 q2 => if pkq x q2 = true then .no else match f x y with
    | some r => .ok r ρ2 (q1 && q2)
    | none => .no := by
  unfold m2 mOps mArgs mArgs mArgs pkq
  cases a (s₀ :: ρ₀) with
  | no => rfl
  | ex x ρ1 => rfl
  | ok x ρ1 q1 =>
    simp only [Res.bind_ok]
    cases b ρ1 with
    | no => rfl
    | ex x ρ1 => rfl
    | ok y ρ2 q2 =>
      simp only [Res.bind_ok, Bool.not_true, Bool.and_false, Bool.false_eq_true, if_false, Bool.and_true]
      split
      · rfl
      · rfl
theorem ev_m1 (f : R → Option R) : m1 f a (s₀ :: ρ₀) = (a (s₀ :: ρ₀)).bind fun x ρ1 q1 => match f x with
    | some r => .ok r ρ1 q1
    | none => .no := by
  unfold m1 mOps mArgs mArgs
  cases a (s₀ :: ρ₀) with
  | no => rfl
  | ex x ρ1 => rfl
  | ok x ρ1 q1 => (simp only [Res.bind_ok, Bool.not_true, Bool.and_false, Bool.false_eq_true, if_false, Bool.and_true]) <;> rfl
theorem ev_mInt : mInt a (s₀ :: ρ₀) = (a (s₀ :: ρ₀)).bind fun r ρ' q => match r with
  | .d (.int i) => .ok (.d (.int i)) ρ' q
  | _ => .no := rfl
theorem ev_mTest : mTest a (s₀ :: ρ₀) = (a (s₀ :: ρ₀)).bind fun r ρ' q => match r with
  | .d (.bl b) => .ok b ρ' q
  | _ => .no := rfl
theorem ev_mAnd (a b : MB) : mAnd a b (s₀ :: ρ₀) = (a (s₀ :: ρ₀)).bind fun x ρ1 q1 => if x = true then (b ρ1).bind fun y ρ2 q2 => .ok y ρ2 (q1 && q2) else .ok false ρ1 q1 := rfl
theorem ev_mOr (a b : MB) : mOr a b (s₀ :: ρ₀) = (a (s₀ :: ρ₀)).bind fun x ρ1 q1 => if x = true then .ok true ρ1 q1 else (b ρ1).bind fun y ρ2 q2 => .ok y ρ2 (q1 && q2) := rfl
theorem ev_mNot (a : MB) : mNot a (s₀ :: ρ₀) = (a (s₀ :: ρ₀)).bind fun x ρ1 q1 => .ok (!x) ρ1 q1 := rfl
theorem ev_mAndV : mAndV a b (s₀ :: ρ₀) = (a (s₀ :: ρ₀)).bind fun x ρ1 q1 => match x with
  | .d (.bl true) => (b ρ1).bind fun y ρ2 q2 => .ok y ρ2 (q1 && q2)
  | .d (.bl false) => .ok (.d (.bl false)) ρ1 q1
  | _ => .no := rfl
theorem ev_mOrV : mOrV a b (s₀ :: ρ₀) = (a (s₀ :: ρ₀)).bind fun x ρ1 q1 => match x with
  | .d (.bl false) => (b ρ1).bind fun y ρ2 q2 => .ok y ρ2 (q1 && q2)
  | .d (.bl true) => .ok (.d (.bl true)) ρ1 q1
  | _ => .no := rfl
theorem ev_args0 : mArgs [] (s₀ :: ρ₀) = .ok [] (s₀ :: ρ₀) true := rfl
theorem ev_args : mArgs (a :: ms) (s₀ :: ρ₀) = (a (s₀ :: ρ₀)).bind fun r ρ1 q1 => (mArgs ms ρ1).bind fun rs ρ2 q2 => if pkq r q2 = true then .no else .ok (r :: rs) ρ2 (q1 && q2) := rfl
theorem ev_mLst : mLst ms (s₀ :: ρ₀) = (mArgs ms (s₀ :: ρ₀)).bind fun rs ρ' q => match sts rs with
  | some ds => if lenOk ds.length = true then .ok (.own (.lst (ds.map O.d))) ρ' q else .no
  | none => .no := by
  unfold mLst mOps
  cases mArgs ms (s₀ :: ρ₀) with
  | no => rfl
  | ex x ρ1 => rfl
  | ok x ρ1 q1 =>
    simp only [Res.bind_ok]
    cases sts x with
    | none => rfl
    | some ds => dsimp only; split <;> simp_all
theorem ev_mTup : mTup ms (s₀ :: ρ₀) = (mArgs ms (s₀ :: ρ₀)).bind fun rs ρ' q => match sts rs with
  | some ds => if lenOk ds.length = true then .ok (.d (.tup ds)) ρ' q else .no
  | none => .no := by
  unfold mTup mOps
  cases mArgs ms (s₀ :: ρ₀) with
  | no => rfl
  | ex x ρ1 => rfl
  | ok x ρ1 q1 =>
    simp only [Res.bind_ok]
    cases sts x with
    | none => rfl
    | some ds => dsimp only; split <;> simp_all
@[simp] theorem sts_nil : sts [] = some [] := rfl
theorem sts_cons (r : R) (rs : List R) : sts (r :: rs) = match r.st, sts rs with
    | some x, some xs => some (x :: xs)
    | _, _ => none := rfl
theorem ev_sl00 : mSl a none none (s₀ :: ρ₀) = (mArgs [a] (s₀ :: ρ₀)).bind fun rs ρ' q => match (match rs with | [p] => lSl p none none | _ => none) with
    | some r => .ok r ρ' q
    | none => .no := rfl
theorem ev_sl10 : mSl a (some b) none (s₀ :: ρ₀) = (mArgs [a, mInt b] (s₀ :: ρ₀)).bind fun rs ρ' q => match (match rs with | [p, .d (.int i)] => lSl p (some i) none | _ => none) with
    | some r => .ok r ρ' q
    | none => .no := rfl
theorem ev_sl01 : mSl a none (some b) (s₀ :: ρ₀) = (mArgs [a, mInt b] (s₀ :: ρ₀)).bind fun rs ρ' q => match (match rs with | [p, .d (.int i)] => lSl p none (some i) | _ => none) with
    | some r => .ok r ρ' q
    | none => .no := rfl
theorem ev_sl11 : mSl a (some b) (some c) (s₀ :: ρ₀) = (mArgs [a, mInt b, mInt c] (s₀ :: ρ₀)).bind fun rs ρ' q => match (match rs with | [p, .d (.int i), .d (.int j)] => lSl p (some i) (some j) | _ => none) with
    | some r => .ok r ρ' q
    | none => .no := rfl
theorem ev_set (i : Nat) : mSet i a (s₀ :: ρ₀) = (a (s₀ :: ρ₀)).stm fun r ρ' => if isBor ρ' i = true then .no else match r.slo with
  | some s => .nx (ρ'.set i s)
  | none => .no := rfl
theorem ev_aug (i : Nat) : mAug i a (s₀ :: ρ₀) = mSet i (m2 lAddP (nm i) a) (s₀ :: ρ₀) := rfl
theorem ev_asg (t : Tg) : mAsg t a (s₀ :: ρ₀) = (a (s₀ :: ρ₀)).stm fun r ρ' => match r with
  | .d x => (match asg t x ρ' with
    | some ρ2 => .nx ρ2
    | none => .no)
  | _ => .no := rfl
theorem ev_seq (m n : MS) : mSeq m n (s₀ :: ρ₀) = (m (s₀ :: ρ₀)).thn n := rfl
@[simp] theorem ev_nx : mNx (s₀ :: ρ₀) = .nx (s₀ :: ρ₀) := rfl
@[simp] theorem ev_bk : mBk (s₀ :: ρ₀) = .bk (s₀ :: ρ₀) := rfl
@[simp] theorem ev_ct : mCt (s₀ :: ρ₀) = .ct (s₀ :: ρ₀) := rfl
theorem ev_rt : mRt a (s₀ :: ρ₀) = (a (s₀ :: ρ₀)).stm fun r ρ' => .rt r ρ' := rfl
@[simp] theorem ev_rtN : mRtN (s₀ :: ρ₀) = .rt (.d .non) (s₀ :: ρ₀) := rfl
theorem ev_if (c : MB) (m n : MS) : mIf c m n (s₀ :: ρ₀) = (c (s₀ :: ρ₀)).stm fun b ρ' => if b = true then m ρ' else n ρ' := rfl
theorem ev_drop : mDrop a (s₀ :: ρ₀) = (a (s₀ :: ρ₀)).stm fun _ ρ' => .nx ρ' := rfl
theorem ev_for (it : MI) (t : Tg) (m : MS) : mFor it t m (s₀ :: ρ₀) = (it (s₀ :: ρ₀)).stm fun xs ρ' => forGo t m xs ρ' := rfl
theorem ev_it : mIt a (s₀ :: ρ₀) = (a (s₀ :: ρ₀)).bind fun r ρ' q => match r.its with
  | some ds => .ok ds ρ' q
  | none => .no := rfl
theorem ev_rg1 : mRg1 a (s₀ :: ρ₀) = (a (s₀ :: ρ₀)).bind fun r ρ' q => match r with
  | .d (.int j) => if rgOk j = true then .ok ((List.range j.toNat).map fun (k : Nat) => D.int k) ρ' q else .no
  | _ => .no := rfl
theorem ev_rg2 : mRg2 a b (s₀ :: ρ₀) = (mArgs [a, b] (s₀ :: ρ₀)).bind fun rs ρ' q => match rs with
  | [.d (.int i), .d (.int j)] => if (rgOk i && rgOk j) = true then .ok ((List.range (j - i).toNat).map fun (k : Nat) => D.int (i + k)) ρ' q else .no
  | _ => .no := rfl
theorem ev_app (i : Nat) : mApp i a (s₀ :: ρ₀) = if isLst (s₀ :: ρ₀) i = true then (a (s₀ :: ρ₀)).bind fun r ρ' _ => match r.st with
    | some x => (match pushAt ρ' i x with
      | some ρ2 => .ok (.d .non) ρ2 false
      | none => .no)
    | none => .no
  else .no := rfl
theorem ev_put (i : Nat) : mPut i b a (s₀ :: ρ₀) = if isLst (s₀ :: ρ₀) i = true then (mArgs [a, mInt b] (s₀ :: ρ₀)).stm fun rs ρ' => match rs with
    | [r, .d (.int k)] => (match r.st with
      | some x => (match putAt ρ' i k x with
        | some ρ2 => .nx ρ2
        | none => .no)
      | none => .no)
    | _ => .no
  else .no := rfl
theorem ev_argb0 : mArgB [] (s₀ :: ρ₀) = .ok [] (s₀ :: ρ₀) true := rfl
theorem ev_argbv (as : List Ar) : mArgB (.v a :: as) (s₀ :: ρ₀) = (a (s₀ :: ρ₀)).bind fun r ρ1 q1 => (mArgB as ρ1).bind fun rs ρ2 q2 => if r.isPk = true then .no else .ok (.r r :: rs) ρ2 (q1 && q2) := rfl
theorem ev_argbb (i : Nat) (as : List Ar) : mArgB (.b i :: as) (s₀ :: ρ₀) = if live (s₀ :: ρ₀) i = true then (mArgB as (s₀ :: ρ₀)).bind fun rs ρ2 q2 => .ok (.b i :: rs) ρ2 q2 else .no := rfl
theorem ev_call (f : Fn) (as : List Ar) : mCall f as (s₀ :: ρ₀) = (mArgB as (s₀ :: ρ₀)).bind fun rs ρ1 q => match lend rs ρ1 with
  | none => .no
  | some (as, ls, ρu) => (match f as with
    | .ok r as' => .ok r (back ls as' ρu) (q && ls.all Option.isNone)
    | .ex x as' => .ex x (back ls as' ρu)
    | .no => .no) := rfl
end
theorem sq (m n : MS) (ρ : Ro) : mSeq m n ρ = (m ρ).thn n := rfl
def fin (as : List Slo) : SRes → FRes
  | .nx ρ => .ok (.d .non) (keep as ρ)
  | .rt r ρ => if r.isPk = true then .no else .ok r (keep as ρ)
  | .ex x ρ => .ex x (keep as ρ)
  | _ => .no
theorem ev_fn (n : Nat) (b : MS) (as : List Slo) : mkFn n b as = fin as (b (as ++ List.replicate (n - as.length) .un)) := by
  unfold mkFn fin
  cases b (as ++ List.replicate (n - as.length) .un) <;> rfl
@[simp] theorem fin_nx (as : List Slo) (ρ : Ro) : fin as (.nx ρ) = .ok (.d .non) (keep as ρ) := rfl
@[simp] theorem fin_rtd (as : List Slo) (x : D) (ρ : Ro) : fin as (.rt (.d x) ρ) = .ok (.d x) (keep as ρ) := rfl
@[simp] theorem fin_rto (as : List Slo) (x : O) (ρ : Ro) : fin as (.rt (.own x) ρ) = .ok (.own x) (keep as ρ) := rfl
@[simp] theorem fin_ex (as : List Slo) (x : Exc) (ρ : Ro) : fin as (.ex x ρ) = .ex x (keep as ρ) := rfl
/-! places -/
theorem atI_pos {α : Type} (xs : List α) (n : Nat) : L2.atI xs (n : Int) = xs[n]? := by
  unfold L2.atI L2.ixN
  rw [if_pos (by omega)]
  by_cases h : n < xs.length
  · rw [if_pos (by omega)]; simp
  · rw [if_neg (by omega)]; simp; omega
@[simp] theorem atI_0 {α : Type} (xs : List α) : L2.atI xs 0 = xs[0]? := atI_pos xs 0
@[simp] theorem atI_1 {α : Type} (xs : List α) : L2.atI xs 1 = xs[1]? := atI_pos xs 1
@[simp] theorem atI_2 {α : Type} (xs : List α) : L2.atI xs 2 = xs[2]? := atI_pos xs 2
@[simp] theorem atI_3 {α : Type} (xs : List α) : L2.atI xs 3 = xs[3]? := atI_pos xs 3
@[simp] theorem atI_4 {α : Type} (xs : List α) : L2.atI xs 4 = xs[4]? := atI_pos xs 4
@[simp] theorem atI_5 {α : Type} (xs : List α) : L2.atI xs 5 = xs[5]? := atI_pos xs 5
@[simp] theorem ixN_0 (n : Nat) : L2.ixN n 0 = if 0 < n then some 0 else none := by
  unfold L2.ixN
  rw [if_pos (by omega)]
  by_cases h : 0 < n
  · rw [if_pos (by omega), if_pos h]; rfl
  · rw [if_neg (by omega), if_neg h]
@[simp] theorem ixN_1 (n : Nat) : L2.ixN n 1 = if 1 < n then some 1 else none := by
  unfold L2.ixN
  rw [if_pos (by omega)]
  by_cases h : 1 < n
  · rw [if_pos (by omega), if_pos h]; rfl
  · rw [if_neg (by omega), if_neg h]
@[simp] theorem ixN_2 (n : Nat) : L2.ixN n 2 = if 2 < n then some 2 else none := by
  unfold L2.ixN
  rw [if_pos (by omega)]
  by_cases h : 2 < n
  · rw [if_pos (by omega), if_pos h]; rfl
  · rw [if_neg (by omega), if_neg h]
@[simp] theorem ixN_3 (n : Nat) : L2.ixN n 3 = if 3 < n then some 3 else none := by
  unfold L2.ixN
  rw [if_pos (by omega)]
  by_cases h : 3 < n
  · rw [if_pos (by omega), if_pos h]; rfl
  · rw [if_neg (by omega), if_neg h]
@[simp] theorem atI_neg1 {α : Type} (xs : List α) : L2.atI xs (-1) = xs.getLast? := by
  unfold L2.atI L2.ixN
  rw [if_neg (by omega), List.getLast?_eq_getElem?]
  by_cases h : 1 ≤ xs.length
  · rw [if_pos (by omega)]
    simp only [Option.bind_some]
    congr 1
    omega
  · rw [if_neg (by omega)]
    have : xs = [] := List.eq_nil_of_length_eq_zero (by omega)
    subst this; rfl
theorem ixN_pos (n : Nat) (i : Nat) (h : i < n) : L2.ixN n (i : Int) = some i := by
  unfold L2.ixN
  rw [if_pos (by omega), if_pos (by omega)]; simp
theorem lIx_d (ds : List D) (i : Int) : lIx (.d (.lst ds)) (.d (.int i)) = (L2.atI ds i).map R.d := rfl
theorem lIx_t (ds : List D) (i : Int) : lIx (.d (.tup ds)) (.d (.int i)) = (L2.atI ds i).map R.d := rfl
theorem lIx_s (s : List Nat) (i : Int) : lIx (.d (.str s)) (.d (.int i)) = (L2.atI s i).map fun c => .d (.str [c]) := rfl
theorem lIx_own (os : List O) (i : Int) : lIx (.own (.lst os)) (.d (.int i)) = (L2.atI os i).map O.r := rfl
theorem lIx_pk (os : List O) (i : Int) : lIx (.pk (.lst os)) (.d (.int i)) = (L2.atI os i).map O.r := rfl
/-! operators on known kinds -/
@[simp] theorem lAdd_i (i j : Int) : lAdd (.d (.int i)) (.d (.int j)) = some (.d (.int (i + j))) := rfl
theorem lAdd_s (s t : List Nat) : lAdd (.d (.str s)) (.d (.str t)) = if lenOk (s.length + t.length) = true then some (.d (.str (s ++ t))) else none := rfl
theorem lAdd_t (s t : List D) : lAdd (.d (.tup s)) (.d (.tup t)) = if lenOk (s.length + t.length) = true then some (.d (.tup (s ++ t))) else none := rfl
@[simp] theorem lI_i (f : Int → Int → Option D) (i j : Int) : lI f (.d (.int i)) (.d (.int j)) = (f i j).map R.d := rfl
@[simp] theorem lInt1_i (i : Int) : lInt1 (.d (.int i)) = some (.d (.int i)) := rfl
@[simp] theorem lInt1_b (k : Bool) : lInt1 (.d (.bl k)) = some (.d (.int (if k then 1 else 0))) := rfl
theorem lMul_i (i j : Int) : lMul (.d (.int i)) (.d (.int j)) = if mulOk i j = true then some (.d (.int (i * j))) else none := rfl
theorem lMul_s (s : List Nat) (n : Int) : lMul (.d (.str s)) (.d (.int n)) = if repOk n s.length = true then some (.d (.str (List.replicate n.toNat s).flatten)) else none := rfl
@[simp] theorem lLen_s (s : List Nat) : lLen (.d (.str s)) = some (.d (.int s.length)) := rfl
@[simp] theorem lLen_l (s : List D) : lLen (.d (.lst s)) = some (.d (.int s.length)) := rfl
@[simp] theorem lLen_t (s : List D) : lLen (.d (.tup s)) = some (.d (.int s.length)) := rfl
@[simp] theorem lLen_o (s : List O) : lLen (.own (.lst s)) = some (.d (.int s.length)) := rfl
@[simp] theorem lLen_p (s : List O) : lLen (.pk (.lst s)) = some (.d (.int s.length)) := rfl
@[simp] theorem lEq_i (i j : Int) : lEq (.d (.int i)) (.d (.int j)) = some (.d (.bl (decide (i = j)))) := rfl
@[simp] theorem lEq_s (i j : List Nat) : lEq (.d (.str i)) (.d (.str j)) = some (.d (.bl (decide (i = j)))) := rfl
@[simp] theorem lEq_b (i j : Bool) : lEq (.d (.bl i)) (.d (.bl j)) = some (.d (.bl (decide (i = j)))) := rfl
@[simp] theorem lNe_i (i j : Int) : lNe (.d (.int i)) (.d (.int j)) = some (.d (.bl (!decide (i = j)))) := rfl
@[simp] theorem lNe_s (i j : List Nat) : lNe (.d (.str i)) (.d (.str j)) = some (.d (.bl (!decide (i = j)))) := rfl
@[simp] theorem lNe_b (i j : Bool) : lNe (.d (.bl i)) (.d (.bl j)) = some (.d (.bl (!decide (i = j)))) := rfl
@[simp] theorem lIn_s (n : Nat) (s : List Nat) : lIn (.d (.str [n])) (.d (.str s)) = some (.d (.bl (decide (n ∈ s)))) := rfl
@[simp] theorem lIsi_d (T : String) (x : D) : lIsi T (.d x) = x.kind.map fun k => .d (.bl (isK T k)) := rfl
@[simp] theorem lIsN_d (x : D) : lIsN (.d x) (.d .non) = some (.d (.bl x.isNon)) := rfl
@[simp] theorem lNotN_d (x : D) : lNotN (.d x) (.d .non) = some (.d (.bl (!x.isNon))) := rfl
@[simp] theorem lNeg_i (i : Int) : lNeg (.d (.int i)) = some (.d (.int (-i))) := rfl
@[simp] theorem lNot_b (b : Bool) : lNot (.d (.bl b)) = some (.d (.bl (!b))) := rfl
@[simp] theorem lAddP_i (i j : Int) : lAddP (.d (.int i)) (.d (.int j)) = some (.d (.int (i + j))) := rfl
@[simp] theorem its_s (s : List Nat) : (R.d (.str s)).its = some (s.map fun c => .str [c]) := rfl
@[simp] theorem lSl_s (s : List Nat) (lo hi : Option Int) : lSl (.d (.str s)) lo hi = some (.d (.str (cutA s lo hi))) := rfl
@[simp] theorem lSl_t (s : List D) (lo hi : Option Int) : lSl (.d (.tup s)) lo hi = some (.d (.tup (cutA s lo hi))) := rfl
@[simp] theorem lSl_l (s : List D) (lo hi : Option Int) : lSl (.d (.lst s)) lo hi = some (.own (.lst ((cutA s lo hi).map O.d))) := rfl
@[simp] theorem lSl_o (s : List D) (lo hi : Option Int) : lSl (.own (.lst (s.map O.d))) lo hi = some (.own (.lst ((cutA s lo hi).map O.d))) := by simp [lSl]
@[simp] theorem lSl_p (s : List D) (lo hi : Option Int) : lSl (.pk (.lst (s.map O.d))) lo hi = some (.own (.lst ((cutA s lo hi).map O.d))) := by simp [lSl]
@[simp] theorem fz_l (ds : List D) : (O.lst (ds.map O.d)).fz = true := fzs_d ds
@[simp] theorem toD_l (ds : List D) : (O.lst (ds.map O.d)).toD = .lst ds := by show D.lst (toDs (ds.map O.d)) = _; rw [toDs_d]
theorem pkE : R.isPk (.d .non) = false := rfl
/-! loops -/
/-- a loop whose turns all go on -/
theorem forGo_inv {t : Tg} {b : MS} (P : Nat → Ro → Prop) : ∀ (xs : List D) (k : Nat) (ρ : Ro), P k ρ → (∀ i x ρ, xs[i]? = some x → P (k + i) ρ → ∃ ρ1, asg t x ρ = some ρ1 ∧ ∃ ρ2, (b ρ1 = .nx ρ2 ∨ b ρ1 = .ct ρ2) ∧ P (k + i + 1) ρ2) → ∃ ρ2, forGo t b xs ρ = .nx ρ2 ∧ P (k + xs.length) ρ2
  | [], k, ρ, h, _ => ⟨ρ, forGo_nil t b ρ, h⟩
  | x :: xs, k, ρ, h, hs => by
    obtain ⟨ρ1, h1, ρ2, h2, h3⟩ := hs 0 x ρ rfl h
    obtain ⟨ρ3, h4, h5⟩ := forGo_inv P xs (k + 1) ρ2 h3 fun i y ρ hy hp => by
      have := hs (i + 1) y ρ (by simpa using hy) (by rw [show k + (i + 1) = k + 1 + i by omega]; exact hp)
      rw [show k + (i + 1) + 1 = k + 1 + i + 1 by omega] at this
      exact this
    refine ⟨ρ3, ?_, by rw [List.length_cons, show k + (xs.length + 1) = k + 1 + xs.length by omega]; exact h5⟩
    rw [forGo_cons, h1]
    rcases h2 with h2 | h2
    · simp only [h2]; exact h4
    · simp only [h2]; exact h4
theorem forGo_run {t : Tg} {b : MS} (P : Nat → Ro → Prop) {xs : List D} {ρ : Ro} (h : P 0 ρ) (hs : ∀ i x ρ, xs[i]? = some x → P i ρ → ∃ ρ1, asg t x ρ = some ρ1 ∧ ∃ ρ2, (b ρ1 = .nx ρ2 ∨ b ρ1 = .ct ρ2) ∧ P (i + 1) ρ2) : ∃ ρ2, forGo t b xs ρ = .nx ρ2 ∧ P xs.length ρ2 := by
  have := forGo_inv P xs 0 ρ h fun i x ρ hx hp => by
    rw [Nat.zero_add] at hp ⊢
    exact hs i x ρ hx hp
  rwa [Nat.zero_add] at this
/-- a while whose turns lower a measure -/
theorem while_run {c : MB} {b : MS} (P : Ro → Prop) (μ : Ro → Nat) (Q : SRes → Prop)
    (hs : ∀ ρ, P ρ → ∃ x ρ1 q, c ρ = .ok x ρ1 q ∧ (x = false → Q (.nx ρ1)) ∧ (x = true → (∃ ρ2, (b ρ1 = .nx ρ2 ∨ b ρ1 = .ct ρ2) ∧ P ρ2 ∧ μ ρ2 < μ ρ) ∨ (∃ ρ2, b ρ1 = .bk ρ2 ∧ Q (.nx ρ2)) ∨ (∃ r ρ2, b ρ1 = .rt r ρ2 ∧ Q (.rt r ρ2)) ∨ (∃ e ρ2, b ρ1 = .ex e ρ2 ∧ Q (.ex e ρ2)))) (hq : ¬ Q .no) :
    ∀ ρ, P ρ → Q (mWhile c b ρ) := by
  have key : ∀ n ρ, P ρ → μ ρ < n → ∃ k, Q (whGo c b k ρ) := by
    intro n
    induction n with
    | zero => intro ρ _ h; omega
    | succ n ih =>
      intro ρ hp hl
      obtain ⟨x, ρ1, q, e, hf, ht⟩ := hs ρ hp
      cases x with
      | false => exact ⟨1, by simp only [whGo, e, Res.stm_ok]; exact hf rfl⟩
      | true =>
        rcases ht rfl with ⟨ρ2, h2, hp2, hl2⟩ | ⟨ρ2, h2, h3⟩ | ⟨r, ρ2, h2, h3⟩ | ⟨r, ρ2, h2, h3⟩
        · obtain ⟨k, hk⟩ := ih ρ2 hp2 (by omega)
          refine ⟨k + 1, ?_⟩
          rcases h2 with h2 | h2
          · simp only [whGo, e, Res.stm_ok, h2, if_true]; exact hk
          · simp only [whGo, e, Res.stm_ok, h2, if_true]; exact hk
        · exact ⟨1, by simp only [whGo, e, Res.stm_ok, h2, if_true]; exact h3⟩
        · exact ⟨1, by simp only [whGo, e, Res.stm_ok, h2, if_true]; exact h3⟩
        · exact ⟨1, by simp only [whGo, e, Res.stm_ok, h2, if_true]; exact h3⟩
  intro ρ hp
  obtain ⟨k, hk⟩ := key (μ ρ + 1) ρ hp (Nat.lt_succ_self _)
  rw [mWhile_eq (n := k) rfl fun z => hq (by rw [z] at hk; exact hk)]
  exact hk
end
end Mw

set_option Elab.async false
set_option linter.all false
set_option maxRecDepth 100000
set_option autoImplicit false
namespace Mw
open PySem PySem.Spec PyProof.Rows L2
noncomputable section
/-! ## more of running meanings: comprehensions, lists, comparisons -/
section
variable (s₀ : Slo) (ρ₀ : Ro) (a b c : M) (ms : List M)
theorem ev_lc (it : MI) (t : Tg) (c : MB) (e : M) (vs : List Nat) : mLc it t c e vs (s₀ :: ρ₀) = (it (s₀ :: ρ₀)).bind fun xs ρ1 q1 => if (lenOk xs.length && noMu ρ1 vs) = true then (match lcGo t c e vs xs (wipeR ρ1 vs) true [] with
  | some (ys, ρ2, q) => .ok (.own (.lst (ys.map O.d))) (unwipe ρ1 ρ2 vs) (q1 && q)
  | none => .no) else .no := rfl
@[simp] theorem ev_yes : mYes (s₀ :: ρ₀) = .ok true (s₀ :: ρ₀) true := rfl
end
theorem lcGo_map {t : Tg} {c : MB} {e : M} {vs : List Nat} {ρ : Ro} (f : D → D) : ∀ (xs : List D) (q : Bool) (ys : List D),
    (∀ x ∈ xs, ∃ ρ1 ρ3 r, asg t x ρ = some ρ1 ∧ c ρ1 = .ok true ρ1 true ∧ e ρ1 = .ok r ρ3 true ∧ r.st = some (f x) ∧ wipeR ρ3 vs = ρ) → lcGo t c e vs xs ρ q ys = some (ys ++ xs.map f, ρ, q)
  | [], q, ys, _ => by rw [lcGo_nil]; simp
  | x :: xs, q, ys, h => by
    obtain ⟨ρ1, ρ3, r, h1, h2, h3, h4, h5⟩ := h x List.mem_cons_self
    rw [lcGo_cons, h1]
    simp only [h2, h3, h4, if_true, h5]
    rw [lcGo_map f xs _ _ fun y hy => h y (List.mem_cons_of_mem _ hy)]
    simp
/-- with a test -/
theorem lcGo_filter {t : Tg} {c : MB} {e : M} {vs : List Nat} {ρ : Ro} (f : D → D) (p : D → Bool) : ∀ (xs : List D) (q : Bool) (ys : List D),
    (∀ x ∈ xs, ∃ ρ1, asg t x ρ = some ρ1 ∧ c ρ1 = .ok (p x) ρ1 true ∧ (p x = true → ∃ ρ3 r, e ρ1 = .ok r ρ3 true ∧ r.st = some (f x) ∧ wipeR ρ3 vs = ρ) ∧ (p x = false → wipeR ρ1 vs = ρ)) → lcGo t c e vs xs ρ q ys = some (ys ++ (xs.filter p).map f, ρ, q)
  | [], q, ys, _ => by rw [lcGo_nil]; simp
  | x :: xs, q, ys, h => by
    obtain ⟨ρ1, h1, h2, h3, h4⟩ := h x List.mem_cons_self
    rw [lcGo_cons, h1]
    have ih := fun q ys => lcGo_filter f p xs q ys fun y hy => h y (List.mem_cons_of_mem _ hy)
    cases hp : p x with
    | true =>
      obtain ⟨ρ3, r, g1, g2, g3⟩ := h3 hp
      simp only [h2, hp, if_true, g1, g2, g3]
      rw [ih]
      simp [hp]
    | false =>
      simp only [h2, hp, Bool.false_eq_true, if_false, h4 hp]
      rw [ih]
      simp [hp]
/-- the turns change what is around -/
theorem lcGo_run {t : Tg} {c : MB} {e : M} {vs : List Nat} (P : Nat → Ro → List D → Prop) : ∀ (xs : List D) (k : Nat) (ρ : Ro) (q : Bool) (ys : List D), P k ρ ys →
    (∀ i x ρ ys, xs[i]? = some x → P (k + i) ρ ys → ∃ ρ1 ρ2 q1, asg t x ρ = some ρ1 ∧ ((∃ ρ3 q2 r y, c ρ1 = .ok true ρ2 q1 ∧ e ρ2 = .ok r ρ3 q2 ∧ r.st = some y ∧ P (k + i + 1) (wipeR ρ3 vs) (ys ++ [y])) ∨ (c ρ1 = .ok false ρ2 q1 ∧ P (k + i + 1) (wipeR ρ2 vs) ys))) →
    ∃ zs ρz qz, lcGo t c e vs xs ρ q ys = some (zs, ρz, qz) ∧ P (k + xs.length) ρz zs
  | [], k, ρ, q, ys, h, _ => ⟨ys, ρ, q, by rw [lcGo_nil], h⟩
  | x :: xs, k, ρ, q, ys, h, hs => by
    obtain ⟨ρ1, ρ2, q1, h1, h2⟩ := hs 0 x ρ ys rfl h
    have ih := fun q ρ ys hp => lcGo_run P xs (k + 1) ρ q ys hp fun i y ρ ys hy hq => by
      have := hs (i + 1) y ρ ys (by simpa using hy) (by rw [show k + (i + 1) = k + 1 + i by omega]; exact hq)
      rw [show k + (i + 1) + 1 = k + 1 + i + 1 by omega] at this
      exact this
    rw [show k + (x :: xs).length = k + 1 + xs.length by rw [List.length_cons]; omega, lcGo_cons, h1]
    rcases h2 with ⟨ρ3, q2, r, y, g1, g2, g3, g4⟩ | ⟨g1, g2⟩
    · obtain ⟨zs, ρz, qz, e1, e2⟩ := ih (q && q1 && q2) (wipeR ρ3 vs) (ys ++ [y]) g4
      exact ⟨zs, ρz, qz, by simp only [g1, g2, g3, if_true]; exact e1, e2⟩
    · obtain ⟨zs, ρz, qz, e1, e2⟩ := ih (q && q1) (wipeR ρ2 vs) ys g2
      exact ⟨zs, ρz, qz, by simp only [g1, Bool.false_eq_true, if_false]; exact e1, e2⟩
@[simp] theorem noMu_nil (ρ : Ro) : noMu ρ [] = true := rfl
@[simp] theorem wipeR_nil (ρ : Ro) : wipeR ρ [] = ρ := rfl
theorem wipeR_cons (ρ : Ro) (v : Nat) (vs : List Nat) : wipeR ρ (v :: vs) = (wipeR ρ vs).set v .un := rfl
@[simp] theorem unwipe_nil (ρ ρ' : Ro) : unwipe ρ ρ' [] = ρ' := rfl
theorem unwipe_cons (ρ ρ' : Ro) (v : Nat) (vs : List Nat) : unwipe ρ ρ' (v :: vs) = (unwipe ρ ρ' vs).set v (keepS ρ v) := rfl
theorem noMu_cons (ρ : Ro) (v : Nat) (vs : List Nat) : noMu ρ (v :: vs) = ((match ρ[v]? with | some (.mu _ _) => false | _ => true) && noMu ρ vs) := rfl
@[simp] theorem keepS_0 (s : Slo) (ρ : Ro) : keepS (s :: ρ) 0 = match s with | .shr d => .shr d | _ => .un := by cases s <;> rfl
@[simp] theorem keepS_s (s : Slo) (ρ : Ro) (n : Nat) : keepS (s :: ρ) (n + 1) = keepS ρ n := rfl
/-! lists, however they are held -/
@[simp] theorem pl_d (x : D) : (R.d x).pl = some x := rfl
@[simp] theorem pl_own (ds : List D) : (R.own (.lst (ds.map O.d))).pl = some (.lst ds) := by simp [R.pl, O.plain]
@[simp] theorem pl_pk (ds : List D) : (R.pk (.lst (ds.map O.d))).pl = some (.lst ds) := by simp [R.pl, O.plain]
@[simp] theorem ol_own (ds : List D) : (R.own (.lst (ds.map O.d))).ol = some ds := by simp [R.ol]
@[simp] theorem ol_pk (ds : List D) : (R.pk (.lst (ds.map O.d))).ol = some ds := by simp [R.ol]
theorem eqv_ints : ∀ (s t : List Int), PyData.eqvAll (pys (s.map D.int)) (pys (t.map D.int)) = decide (s = t)
  | [], [] => rfl
  | [], _ :: _ => rfl
  | _ :: _, [] => rfl
  | a :: s, b :: t => by
    show (a == b && PyData.eqvAll (pys (s.map D.int)) (pys (t.map D.int))) = _
    rw [eqv_ints s t]
    by_cases h1 : a = b <;> by_cases h2 : s = t <;> simp [h1, h2]
theorem lay_ints : ∀ s : List Int, PyData.canLayAll0 (pys (s.map D.int)) = true
  | [] => rfl
  | a :: s => lay_ints s
theorem dep_ints : ∀ s : List Int, PyData.depthAll (pys (s.map D.int)) = 0
  | [] => rfl
  | a :: s => by show max 0 (PyData.depthAll (pys (s.map D.int))) = 0; rw [dep_ints s]; rfl
theorem nob_ints : ∀ s : List Int, nobs (s.map D.int) = true
  | [] => rfl
  | a :: s => nob_ints s
theorem shp_ints (s : List Int) : (D.lst (s.map D.int)).shp = true := by
  show (nobs (s.map D.int) && (PyData.canLayAll0 (pys (s.map D.int)) && decide (PyData.depthAll (pys (s.map D.int)) + 1 ≤ 64))) = true
  rw [nob_ints, lay_ints, dep_ints]; rfl
theorem shp_intt (s : List Int) : (D.tup (s.map D.int)).shp = true := by
  show (nobs (s.map D.int) && (PyData.canLayAll0 (pys (s.map D.int)) && decide (PyData.depthAll (pys (s.map D.int)) + 1 ≤ 64))) = true
  rw [nob_ints, lay_ints, dep_ints]; rfl
theorem lEq_pl {p q : R} {s t : List Int} (h : p.pl = some (.lst (s.map D.int))) (h2 : q.pl = some (.lst (t.map D.int))) : lEq p q = some (.d (.bl (decide (s = t)))) := by
  unfold lEq
  rw [h, h2]
  show (if (D.lst (s.map D.int)).shp = true ∧ (D.lst (t.map D.int)).shp = true then some (R.d (.bl (PyData.eqvAll (pys (s.map D.int)) (pys (t.map D.int))))) else none) = _
  rw [shp_ints, shp_ints, eqv_ints, if_pos ⟨rfl, rfl⟩]
theorem lNe_pl {p q : R} {s t : List Int} (h : p.pl = some (.lst (s.map D.int))) (h2 : q.pl = some (.lst (t.map D.int))) : lNe p q = some (.d (.bl (!decide (s = t)))) := by
  unfold lNe
  rw [h, h2]
  show (if (D.lst (s.map D.int)).shp = true ∧ (D.lst (t.map D.int)).shp = true then some (R.d (.bl (!PyData.eqvAll (pys (s.map D.int)) (pys (t.map D.int))))) else none) = _
  rw [shp_ints, shp_ints, eqv_ints, if_pos ⟨rfl, rfl⟩]
theorem lEq_tt (s t : List Int) : lEq (.d (.tup (s.map D.int))) (.d (.tup (t.map D.int))) = some (.d (.bl (decide (s = t)))) := by
  show (if (D.tup (s.map D.int)).shp = true ∧ (D.tup (t.map D.int)).shp = true then some (R.d (.bl (PyData.eqvAll (pys (s.map D.int)) (pys (t.map D.int))))) else none) = _
  rw [shp_intt, shp_intt, eqv_ints, if_pos ⟨rfl, rfl⟩]
theorem lNe_tt (s t : List Int) : lNe (.d (.tup (s.map D.int))) (.d (.tup (t.map D.int))) = some (.d (.bl (!decide (s = t)))) := by
  show (if (D.tup (s.map D.int)).shp = true ∧ (D.tup (t.map D.int)).shp = true then some (R.d (.bl (!PyData.eqvAll (pys (s.map D.int)) (pys (t.map D.int))))) else none) = _
  rw [shp_intt, shp_intt, eqv_ints, if_pos ⟨rfl, rfl⟩]
@[simp] theorem lEq_t2 (a b c d : Int) : lEq (.d (.tup [.int a, .int b])) (.d (.tup [.int c, .int d])) = some (.d (.bl (decide (a = c ∧ b = d)))) := by
  have := lEq_tt [a, b] [c, d]
  simpa using this
@[simp] theorem lNe_t2 (a b c d : Int) : lNe (.d (.tup [.int a, .int b])) (.d (.tup [.int c, .int d])) = some (.d (.bl (!decide (a = c ∧ b = d)))) := by
  have := lNe_tt [a, b] [c, d]
  simpa using this
@[simp] theorem lEq_dd (s t : List Int) : lEq (.d (.lst (s.map D.int))) (.d (.lst (t.map D.int))) = some (.d (.bl (decide (s = t)))) := lEq_pl (by simp only [pl_d, pl_own, pl_pk]) (by simp only [pl_d, pl_own, pl_pk])
@[simp] theorem lNe_dd (s t : List Int) : lNe (.d (.lst (s.map D.int))) (.d (.lst (t.map D.int))) = some (.d (.bl (!decide (s = t)))) := lNe_pl (by simp only [pl_d, pl_own, pl_pk]) (by simp only [pl_d, pl_own, pl_pk])
@[simp] theorem lEq_do (s t : List Int) : lEq (.d (.lst (s.map D.int))) (.own (.lst ((t.map D.int).map O.d))) = some (.d (.bl (decide (s = t)))) := lEq_pl (by simp only [pl_d, pl_own, pl_pk]) (by simp only [pl_d, pl_own, pl_pk])
@[simp] theorem lNe_do (s t : List Int) : lNe (.d (.lst (s.map D.int))) (.own (.lst ((t.map D.int).map O.d))) = some (.d (.bl (!decide (s = t)))) := lNe_pl (by simp only [pl_d, pl_own, pl_pk]) (by simp only [pl_d, pl_own, pl_pk])
@[simp] theorem lEq_dp (s t : List Int) : lEq (.d (.lst (s.map D.int))) (.pk (.lst ((t.map D.int).map O.d))) = some (.d (.bl (decide (s = t)))) := lEq_pl (by simp only [pl_d, pl_own, pl_pk]) (by simp only [pl_d, pl_own, pl_pk])
@[simp] theorem lNe_dp (s t : List Int) : lNe (.d (.lst (s.map D.int))) (.pk (.lst ((t.map D.int).map O.d))) = some (.d (.bl (!decide (s = t)))) := lNe_pl (by simp only [pl_d, pl_own, pl_pk]) (by simp only [pl_d, pl_own, pl_pk])
@[simp] theorem lEq_od (s t : List Int) : lEq (.own (.lst ((s.map D.int).map O.d))) (.d (.lst (t.map D.int))) = some (.d (.bl (decide (s = t)))) := lEq_pl (by simp only [pl_d, pl_own, pl_pk]) (by simp only [pl_d, pl_own, pl_pk])
@[simp] theorem lNe_od (s t : List Int) : lNe (.own (.lst ((s.map D.int).map O.d))) (.d (.lst (t.map D.int))) = some (.d (.bl (!decide (s = t)))) := lNe_pl (by simp only [pl_d, pl_own, pl_pk]) (by simp only [pl_d, pl_own, pl_pk])
@[simp] theorem lEq_oo (s t : List Int) : lEq (.own (.lst ((s.map D.int).map O.d))) (.own (.lst ((t.map D.int).map O.d))) = some (.d (.bl (decide (s = t)))) := lEq_pl (by simp only [pl_d, pl_own, pl_pk]) (by simp only [pl_d, pl_own, pl_pk])
@[simp] theorem lNe_oo (s t : List Int) : lNe (.own (.lst ((s.map D.int).map O.d))) (.own (.lst ((t.map D.int).map O.d))) = some (.d (.bl (!decide (s = t)))) := lNe_pl (by simp only [pl_d, pl_own, pl_pk]) (by simp only [pl_d, pl_own, pl_pk])
@[simp] theorem lEq_op (s t : List Int) : lEq (.own (.lst ((s.map D.int).map O.d))) (.pk (.lst ((t.map D.int).map O.d))) = some (.d (.bl (decide (s = t)))) := lEq_pl (by simp only [pl_d, pl_own, pl_pk]) (by simp only [pl_d, pl_own, pl_pk])
@[simp] theorem lNe_op (s t : List Int) : lNe (.own (.lst ((s.map D.int).map O.d))) (.pk (.lst ((t.map D.int).map O.d))) = some (.d (.bl (!decide (s = t)))) := lNe_pl (by simp only [pl_d, pl_own, pl_pk]) (by simp only [pl_d, pl_own, pl_pk])
@[simp] theorem lEq_pd (s t : List Int) : lEq (.pk (.lst ((s.map D.int).map O.d))) (.d (.lst (t.map D.int))) = some (.d (.bl (decide (s = t)))) := lEq_pl (by simp only [pl_d, pl_own, pl_pk]) (by simp only [pl_d, pl_own, pl_pk])
@[simp] theorem lNe_pd (s t : List Int) : lNe (.pk (.lst ((s.map D.int).map O.d))) (.d (.lst (t.map D.int))) = some (.d (.bl (!decide (s = t)))) := lNe_pl (by simp only [pl_d, pl_own, pl_pk]) (by simp only [pl_d, pl_own, pl_pk])
@[simp] theorem lEq_po (s t : List Int) : lEq (.pk (.lst ((s.map D.int).map O.d))) (.own (.lst ((t.map D.int).map O.d))) = some (.d (.bl (decide (s = t)))) := lEq_pl (by simp only [pl_d, pl_own, pl_pk]) (by simp only [pl_d, pl_own, pl_pk])
@[simp] theorem lNe_po (s t : List Int) : lNe (.pk (.lst ((s.map D.int).map O.d))) (.own (.lst ((t.map D.int).map O.d))) = some (.d (.bl (!decide (s = t)))) := lNe_pl (by simp only [pl_d, pl_own, pl_pk]) (by simp only [pl_d, pl_own, pl_pk])
@[simp] theorem lEq_pp (s t : List Int) : lEq (.pk (.lst ((s.map D.int).map O.d))) (.pk (.lst ((t.map D.int).map O.d))) = some (.d (.bl (decide (s = t)))) := lEq_pl (by simp only [pl_d, pl_own, pl_pk]) (by simp only [pl_d, pl_own, pl_pk])
@[simp] theorem lNe_pp (s t : List Int) : lNe (.pk (.lst ((s.map D.int).map O.d))) (.pk (.lst ((t.map D.int).map O.d))) = some (.d (.bl (!decide (s = t)))) := lNe_pl (by simp only [pl_d, pl_own, pl_pk]) (by simp only [pl_d, pl_own, pl_pk])
@[simp] theorem lList_d (s : List D) : lList (.d (.lst s)) = some (.own (.lst (s.map O.d))) := by unfold lList; simp only [pl_d, pl_own, pl_pk]
@[simp] theorem lTuple_d (s : List D) : lTuple (.d (.lst s)) = some (.d (.tup s)) := by unfold lTuple; simp only [pl_d, pl_own, pl_pk]
@[simp] theorem lRev_d (s : List D) : lRev (.d (.lst s)) = some (.own (.lst (s.reverse.map O.d))) := by unfold lRev; simp only [pl_d, pl_own, pl_pk]
@[simp] theorem lInts_d (f : List Int → Option R) (s : List Int) : lInts f (.d (.lst (s.map D.int))) = f s := by unfold lInts; simp only [pl_d, pl_own, pl_pk, dInts_map]
@[simp] theorem lBls_d (f : List Bool → Option R) (s : List Bool) : lBls f (.d (.lst (s.map D.bl))) = f s := by unfold lBls; simp only [pl_d, pl_own, pl_pk, dBls_map]
@[simp] theorem lList_o (s : List D) : lList (.own (.lst (s.map O.d))) = some (.own (.lst (s.map O.d))) := by unfold lList; simp only [pl_d, pl_own, pl_pk]
@[simp] theorem lTuple_o (s : List D) : lTuple (.own (.lst (s.map O.d))) = some (.d (.tup s)) := by unfold lTuple; simp only [pl_d, pl_own, pl_pk]
@[simp] theorem lRev_o (s : List D) : lRev (.own (.lst (s.map O.d))) = some (.own (.lst (s.reverse.map O.d))) := by unfold lRev; simp only [pl_d, pl_own, pl_pk]
@[simp] theorem lInts_o (f : List Int → Option R) (s : List Int) : lInts f (.own (.lst ((s.map D.int).map O.d))) = f s := by unfold lInts; simp only [pl_d, pl_own, pl_pk, dInts_map]
@[simp] theorem lBls_o (f : List Bool → Option R) (s : List Bool) : lBls f (.own (.lst ((s.map D.bl).map O.d))) = f s := by unfold lBls; simp only [pl_d, pl_own, pl_pk, dBls_map]
@[simp] theorem lList_p (s : List D) : lList (.pk (.lst (s.map O.d))) = some (.own (.lst (s.map O.d))) := by unfold lList; simp only [pl_d, pl_own, pl_pk]
@[simp] theorem lTuple_p (s : List D) : lTuple (.pk (.lst (s.map O.d))) = some (.d (.tup s)) := by unfold lTuple; simp only [pl_d, pl_own, pl_pk]
@[simp] theorem lRev_p (s : List D) : lRev (.pk (.lst (s.map O.d))) = some (.own (.lst (s.reverse.map O.d))) := by unfold lRev; simp only [pl_d, pl_own, pl_pk]
@[simp] theorem lInts_p (f : List Int → Option R) (s : List Int) : lInts f (.pk (.lst ((s.map D.int).map O.d))) = f s := by unfold lInts; simp only [pl_d, pl_own, pl_pk, dInts_map]
@[simp] theorem lBls_p (f : List Bool → Option R) (s : List Bool) : lBls f (.pk (.lst ((s.map D.bl).map O.d))) = f s := by unfold lBls; simp only [pl_d, pl_own, pl_pk, dBls_map]
@[simp] theorem lList_t (s : List D) : lList (.d (.tup s)) = some (.own (.lst (s.map O.d))) := rfl
@[simp] theorem lTuple_t (s : List D) : lTuple (.d (.tup s)) = some (.d (.tup s)) := rfl
@[simp] theorem lMul_l (s : List D) (n : Int) : lMul (.own (.lst (s.map O.d))) (.d (.int n)) = if repOk n s.length = true then some (.own (.lst ((List.replicate n.toNat s).flatten.map O.d))) else none := by unfold lMul; simp only [pl_d, pl_own, ol_own]
@[simp] theorem its_pk (ds : List D) : (R.pk (.lst (ds.map O.d))).its = none := rfl
def catO (s t : Option (List D)) : Option R := match s, t with
  | some s, some t => if lenOk (s.length + t.length) = true then some (.own (.lst ((s ++ t).map O.d))) else none
  | _, _ => none
@[simp] theorem catO_some (s t : List D) : catO (some s) (some t) = if lenOk (s.length + t.length) = true then some (.own (.lst ((s ++ t).map O.d))) else none := rfl
theorem lAdd_pls {p q : R} {a b : Option (List D)} (h : p.pl = a.map D.lst) (h2 : q.pl = b.map D.lst) : lAdd p q = catO a b := by
  unfold lAdd
  rw [h, h2]
  cases a <;> cases b <;> rfl
@[simp] theorem lAdd_dd (s : List D) (t : List D) : lAdd (.d (.lst s)) (.d (.lst t)) = catO (some s) (some t) := lAdd_pls rfl rfl
@[simp] theorem lAdd_do (s : List D) (t : List O) : lAdd (.d (.lst s)) (.own (.lst t)) = catO (some s) (undO t) := lAdd_pls rfl rfl
@[simp] theorem lAdd_dp (s : List D) (t : List O) : lAdd (.d (.lst s)) (.pk (.lst t)) = catO (some s) (undO t) := lAdd_pls rfl rfl
@[simp] theorem lAdd_od (s : List O) (t : List D) : lAdd (.own (.lst s)) (.d (.lst t)) = catO (undO s) (some t) := lAdd_pls rfl rfl
@[simp] theorem lAdd_oo (s : List O) (t : List O) : lAdd (.own (.lst s)) (.own (.lst t)) = catO (undO s) (undO t) := lAdd_pls rfl rfl
@[simp] theorem lAdd_op (s : List O) (t : List O) : lAdd (.own (.lst s)) (.pk (.lst t)) = catO (undO s) (undO t) := lAdd_pls rfl rfl
@[simp] theorem lAdd_pd (s : List O) (t : List D) : lAdd (.pk (.lst s)) (.d (.lst t)) = catO (undO s) (some t) := lAdd_pls rfl rfl
@[simp] theorem lAdd_po (s : List O) (t : List O) : lAdd (.pk (.lst s)) (.own (.lst t)) = catO (undO s) (undO t) := lAdd_pls rfl rfl
@[simp] theorem lAdd_pp (s : List O) (t : List O) : lAdd (.pk (.lst s)) (.pk (.lst t)) = catO (undO s) (undO t) := lAdd_pls rfl rfl
@[simp] theorem lSl_o2 (s : List O) (lo hi : Option Int) : lSl (.own (.lst s)) lo hi = (undO s).map fun ds => .own (.lst ((cutA ds lo hi).map O.d)) := by
  unfold lSl
  rw [show (R.own (.lst s)).pl = (undO s).map D.lst from rfl]
  cases undO s <;> rfl
@[simp] theorem lSl_p2 (s : List O) (lo hi : Option Int) : lSl (.pk (.lst s)) lo hi = (undO s).map fun ds => .own (.lst ((cutA ds lo hi).map O.d)) := by
  unfold lSl
  rw [show (R.pk (.lst s)).pl = (undO s).map D.lst from rfl]
  cases undO s <;> rfl
theorem fzs_app : ∀ (a b : List O), fzs (a ++ b) = (fzs a && fzs b)
  | [], b => by simp [fzs]
  | x :: a, b => by simp only [List.cons_append, fzs, fzs_app a b, Bool.and_assoc]
theorem toDs_app : ∀ (a b : List O), toDs (a ++ b) = toDs a ++ toDs b
  | [], b => by simp [toDs]
  | x :: a, b => by simp only [List.cons_append, toDs, toDs_app a b]
@[simp] theorem st_own2 (s : List O) : (R.own (.lst s)).st = if fzs s = true then some (.lst (toDs s)) else none := rfl
@[simp] theorem fzs_nil2 : fzs [] = true := rfl
@[simp] theorem toDs_nil2 : toDs [] = [] := rfl
@[simp] theorem fzs_cons2 (x : D) (r : List O) : fzs (.d x :: r) = fzs r := by simp [fzs, O.fz]
@[simp] theorem toDs_cons2 (x : D) (r : List O) : toDs (.d x :: r) = x :: toDs r := by simp [toDs, O.toD]
@[simp] theorem fzs_app2 (a : List D) (b : List O) : fzs (a.map O.d ++ b) = fzs b := by rw [fzs_app, fzs_d]; rfl
@[simp] theorem toDs_app2 (a : List D) (b : List O) : toDs (a.map O.d ++ b) = a ++ toDs b := by rw [toDs_app, toDs_d]
@[simp] theorem fzs_d2 (a : List D) : fzs (a.map O.d) = true := fzs_d a
@[simp] theorem toDs_d2 (a : List D) : toDs (a.map O.d) = a := toDs_d a
@[simp] theorem fz_l2 (s : List O) : (O.lst s).fz = fzs s := rfl
@[simp] theorem toD_l2 (s : List O) : (O.lst s).toD = .lst (toDs s) := rfl
@[simp] theorem atI_6 {α : Type} (xs : List α) : L2.atI xs 6 = xs[6]? := atI_pos xs 6
@[simp] theorem atI_7 {α : Type} (xs : List α) : L2.atI xs 7 = xs[7]? := atI_pos xs 7
@[simp] theorem atI_8 {α : Type} (xs : List α) : L2.atI xs 8 = xs[8]? := atI_pos xs 8
@[simp] theorem atI_9 {α : Type} (xs : List α) : L2.atI xs 9 = xs[9]? := atI_pos xs 9
@[simp] theorem atI_10 {α : Type} (xs : List α) : L2.atI xs 10 = xs[10]? := atI_pos xs 10
@[simp] theorem atI_11 {α : Type} (xs : List α) : L2.atI xs 11 = xs[11]? := atI_pos xs 11
@[simp] theorem atI_12 {α : Type} (xs : List α) : L2.atI xs 12 = xs[12]? := atI_pos xs 12
end
end Mw

set_option Elab.async false
set_option linter.all false
set_option maxRecDepth 100000
set_option autoImplicit false
namespace Mw
open PySem PySem.Spec PyProof.Rows L2
/-! ## typed meanings: a value, and what must hold for it -/
structure T (α : Type) where
  val : α
  ok : Prop
inductive Ct (σ l β : Type) where
  | nx (s : σ) | bk (s : l) | ct (s : l) | rt (r : β)
namespace T
variable {α β γ σ τ l m : Type}
def ret (a : α) : T α := ⟨a, True⟩
def req (p : Prop) (t : T α) : T α := ⟨t.val, p ∧ t.ok⟩
def bind (t : T α) (f : α → T β) : T β := ⟨(f t.val).val, t.ok ∧ (f t.val).ok⟩
@[simp] theorem ret_val (a : α) : (ret a).val = a := rfl
@[simp] theorem ret_ok (a : α) : (ret a).ok = True := rfl
@[simp] theorem req_val (p : Prop) (t : T α) : (req p t).val = t.val := rfl
@[simp] theorem req_ok (p : Prop) (t : T α) : (req p t).ok = (p ∧ t.ok) := rfl
@[simp] theorem bind_val (t : T α) (f : α → T β) : (bind t f).val = (f t.val).val := rfl
@[simp] theorem bind_ok (t : T α) (f : α → T β) : (bind t f).ok = (t.ok ∧ (f t.val).ok) := rfl
@[simp] theorem ite_val (c : Prop) [Decidable c] (a b : T α) : (if c then a else b).val = if c then a.val else b.val := by split <;> rfl
@[simp] theorem ite_ok (c : Prop) [Decidable c] (a b : T α) : (if c then a else b).ok = if c then a.ok else b.ok := by split <;> rfl
/-- for, no way out ahead of the end -/
def forL (b : σ → α → T σ) : List α → σ → T σ
  | [], s => ret s
  | x :: xs, s => bind (b s x) fun s' => forL b xs s'
def forC (b : σ → α → T (Ct σ σ β)) : List α → σ → T (Ct σ l β)
  | [], s => ret (.nx s)
  | x :: xs, s => bind (b s x) fun c => match c with
    | .nx s' => forC b xs s'
    | .ct s' => forC b xs s'
    | .bk s' => ret (.nx s')
    | .rt r => ret (.rt r)
def whN (c : σ → T Bool) (b : σ → T (Ct σ σ β)) : Nat → σ → T (Ct σ l β)
  | 0, s => ⟨.nx s, False⟩
  | n + 1, s => bind (c s) fun x => if x = true then bind (b s) fun r => (match r with
    | .nx s' => whN c b n s'
    | .ct s' => whN c b n s'
    | .bk s' => ret (.nx s')
    | .rt r => ret (.rt r)) else ret (.nx s)
def whM (c : σ → T Bool) (b : σ → T σ) : Nat → σ → T σ
  | 0, s => ⟨s, False⟩
  | n + 1, s => bind (c s) fun x => if x = true then bind (b s) fun s' => whM c b n s' else ret s
noncomputable def fuel : Nat := hide 1000000000
theorem fuel_eq : fuel = 1000000000 := hide_eq _
noncomputable def whC (c : σ → T Bool) (b : σ → T (Ct σ σ β)) (s : σ) : T (Ct σ l β) := whN c b fuel s
noncomputable def whL (c : σ → T Bool) (b : σ → T σ) (s : σ) : T σ := whM c b fuel s
/-- behind a statement with ways out, at the end of a def -/
def ctl (t : T (Ct σ Empty β)) (k : σ → T β) : T β := bind t fun c => match c with
  | .nx s => k s
  | .rt r => ret r
  | .bk e => e.elim
  | .ct e => e.elim
def ctc (t : T (Ct σ l β)) (k : σ → T (Ct τ l β)) : T (Ct τ l β) := bind t fun c => match c with
  | .nx s => k s
  | .rt r => ret (.rt r)
  | .bk s => ret (.bk s)
  | .ct s => ret (.ct s)
def unC (t : T (Ct σ Empty Empty)) : T σ := bind t fun c => match c with
  | .nx s => ret s
  | .rt e => e.elim
  | .bk e => e.elim
  | .ct e => e.elim
/-- a comprehension, element by element -/
def lcP (c : α → T Bool) (f : α → T β) : List α → T (List β)
  | [] => ret []
  | x :: xs => bind (c x) fun b => if b = true then bind (f x) fun y => bind (lcP c f xs) fun ys => ret (y :: ys) else lcP c f xs
def lcS (f : σ → α → T (β × σ)) : List α → σ → T (List β × σ)
  | [], s => ret ([], s)
  | x :: xs, s => bind (f s x) fun p => bind (lcS f xs p.2) fun q => ret (p.1 :: q.1, q.2)
end T
/-! ## judgements -/
section
variable {α β γ σ τ l m : Type} {as : List Slo} {ρ ρ1 ρ2 ρ3 : Ro} {res : SRes}
def J (t : T α) (Φ : α → Prop) : Prop := t.ok → Φ t.val
def JS (res : SRes) (t : T α) (Ψ : α → SRes → Prop) : Prop := t.ok → Ψ t.val res
def PN (E : σ → Ro) : σ → SRes → Prop := fun s res => res = .nx (E s)
def isStop : SRes → Bool
  | .rt _ _ => true
  | .ex _ _ => true
  | _ => false
def CR (as : List Slo) (E : σ → Ro) (L : l → Ro) (R : β → FRes) : Ct σ l β → SRes → Prop
  | .nx s, res => res = .nx (E s)
  | .bk s, res => res = .bk (L s)
  | .ct s, res => res = .ct (L s)
  | .rt r, res => isStop res = true ∧ fin as res = R r
def TR (as : List Slo) (R : β → FRes) : β → SRes → Prop := fun x res => fin as res = R x
theorem js_bind {t1 : T α} {t2 : α → T β} {Φ : α → Prop} {Ψ : β → SRes → Prop} (h1 : J t1 Φ) (h2 : ∀ x, Φ x → JS res (t2 x) Ψ) : JS res (t1.bind t2) Ψ := fun h => h2 _ (h1 h.1) h.2
theorem js_req {p : Prop} {t : T α} {Ψ : α → SRes → Prop} (h1 : p → JS res t Ψ) : JS res (t.req p) Ψ := fun h => h1 h.1 h.2
theorem js_ret {a : α} {Ψ : α → SRes → Prop} (h : Ψ a res) : JS res (T.ret a) Ψ := fun _ => h
theorem js_seq {s1 s2 : MS} {t1 : T σ} {t2 : σ → T β} {E : σ → Ro} {Ψ : β → SRes → Prop} (h1 : JS (s1 ρ) t1 (PN E)) (h2 : ∀ x, JS (s2 (E x)) (t2 x) Ψ) : JS (mSeq s1 s2 ρ) (t1.bind t2) Ψ := fun h => by
  have e := h1 h.1
  have e : s1 ρ = .nx (E t1.val) := e
  rw [sq, e, SRes.thn_nx]
  exact h2 _ h.2
theorem stop_thn {r : SRes} (h : isStop r = true) (k : Ro → SRes) : r.thn k = r := by cases r <;> first | rfl | cases h
theorem js_ctl {s1 s2 : MS} {t1 : T (Ct σ Empty β)} {t2 : σ → T β} {E : σ → Ro} {L : Empty → Ro} {R : β → FRes} (h1 : JS (s1 ρ) t1 (CR as E L R)) (h2 : ∀ x, JS (s2 (E x)) (t2 x) (TR as R)) : JS (mSeq s1 s2 ρ) (t1.ctl t2) (TR as R) := fun h => by
  have e := h1 h.1
  have h' := h.2
  show TR as R (T.ctl t1 t2).val _
  unfold T.ctl T.bind
  dsimp only
  cases c : t1.val with
  | nx s => rw [c] at e h'; rw [sq, show s1 ρ = .nx (E s) from e, SRes.thn_nx]; exact h2 _ h'
  | rt r => rw [c] at e; rw [sq, stop_thn e.1]; exact e.2
  | bk s => exact s.elim
  | ct s => exact s.elim
theorem js_ctc {s1 s2 : MS} {t1 : T (Ct σ l β)} {t2 : σ → T (Ct τ l β)} {E : σ → Ro} {E2 : τ → Ro} {L : l → Ro} {R : β → FRes} (h1 : JS (s1 ρ) t1 (CR as E L R)) (h2 : ∀ x, JS (s2 (E x)) (t2 x) (CR as E2 L R)) : JS (mSeq s1 s2 ρ) (t1.ctc t2) (CR as E2 L R) := fun h => by
  have e := h1 h.1
  have h' := h.2
  show CR as E2 L R (T.ctc t1 t2).val _
  unfold T.ctc T.bind
  dsimp only
  cases c : t1.val with
  | nx s => rw [c] at e h'; rw [sq, show s1 ρ = .nx (E s) from e, SRes.thn_nx]; exact h2 _ h'
  | rt r => rw [c] at e; rw [sq, stop_thn e.1]; exact e
  | bk s => rw [c] at e; rw [sq, show s1 ρ = .bk (L s) from e]; exact rfl
  | ct s => rw [c] at e; rw [sq, show s1 ρ = .ct (L s) from e]; exact rfl
theorem js_if {c : MB} {a b : MS} {x q : Bool} {ta tb : T β} {Ψ : β → SRes → Prop} (hc : c ρ = .ok x ρ1 q) (h1 : JS (a ρ1) ta Ψ) (h2 : JS (b ρ1) tb Ψ) : JS (mIf c a b ρ) (if x = true then ta else tb) Ψ := fun h => by
  unfold mIf
  rw [hc, Res.stm_ok]
  by_cases hx : x = true
  · rw [if_pos hx] at h; rw [if_pos hx, if_pos hx]; exact h1 h
  · rw [if_neg hx] at h; rw [if_neg hx, if_neg hx]; exact h2 h
/-- ends by return or raise -/
def SR (as : List Slo) (R : β → FRes) : β → SRes → Prop := fun x res => isStop res = true ∧ fin as res = R x
/-- if c: A, with nothing else, A ending the def -/
theorem js_ifr {c : MB} {a s2 : MS} {x q : Bool} {ta tb : T β} {R : β → FRes} (hc : c ρ = .ok x ρ1 q) (h1 : JS (a ρ1) ta (SR as R)) (h2 : JS (s2 ρ1) tb (TR as R)) : JS (mSeq (mIf c a mNx) s2 ρ) (if x = true then ta else tb) (TR as R) := fun h => by
  rw [sq]
  unfold mIf
  rw [hc, Res.stm_ok]
  by_cases hx : x = true
  · rw [if_pos hx] at h; rw [if_pos hx, if_pos hx]
    have e := h1 h
    rw [stop_thn e.1]; exact e.2
  · rw [if_neg hx] at h; rw [if_neg hx, if_neg hx]; exact h2 h
theorem js_ifrS {c : MB} {a s2 : MS} {x q : Bool} {ta tb : T β} {R : β → FRes} (hc : c ρ = .ok x ρ1 q) (h1 : JS (a ρ1) ta (SR as R)) (h2 : JS (s2 ρ1) tb (SR as R)) : JS (mSeq (mIf c a mNx) s2 ρ) (if x = true then ta else tb) (SR as R) := fun h => by
  rw [sq]
  unfold mIf
  rw [hc, Res.stm_ok]
  by_cases hx : x = true
  · rw [if_pos hx] at h; rw [if_pos hx, if_pos hx]
    have e := h1 h
    rw [stop_thn e.1]; exact e
  · rw [if_neg hx] at h; rw [if_neg hx, if_neg hx]; exact h2 h
theorem js_TR {s1 : MS} {t : T β} {R : β → FRes} (h : JS (s1 ρ) t (SR as R)) : JS (s1 ρ) t (TR as R) := fun k => (h k).2
theorem js_SRC {s1 : MS} {t : T β} {E : σ → Ro} {L : l → Ro} {R : β → FRes} (h : JS (s1 ρ) t (SR as R)) : JS (s1 ρ) (t.bind fun r => T.ret (.rt r)) (CR as E L R) := fun k => h k.1
/-- a plain end of a block -/
theorem js_last {s1 : MS} {t1 : T τ} {E1 : τ → Ro} {f : τ → σ} {E : σ → Ro} (h1 : JS (s1 ρ) t1 (PN E1)) (he : ∀ x, E1 x = E (f x)) : JS (s1 ρ) (t1.bind fun x => T.ret (f x)) (PN E) := fun h => (h1 h.1).trans (congrArg SRes.nx (he _))
theorem js_lastC {s1 : MS} {t1 : T τ} {E1 : τ → Ro} {f : τ → σ} {E : σ → Ro} {L : l → Ro} {R : β → FRes} (h1 : JS (s1 ρ) t1 (PN E1)) (he : ∀ x, E1 x = E (f x)) : JS (s1 ρ) (t1.bind fun x => T.ret (.nx (f x))) (CR as E L R) := fun h => (show _ = _ from h1 h.1).trans (congrArg SRes.nx (he _))
/-- a plain end of a def: None -/
theorem js_lastT {s1 : MS} {t1 : T τ} {E1 : τ → Ro} {f : τ → β} {R : β → FRes} (h1 : JS (s1 ρ) t1 (PN E1)) (he : ∀ x, FRes.ok (.d .non) (keep as (E1 x)) = R (f x)) : JS (s1 ρ) (t1.bind fun x => T.ret (f x)) (TR as R) := fun h => by
  have e : s1 ρ = .nx (E1 t1.val) := h1 h.1
  show fin as (s1 ρ) = _
  rw [e]; exact he _
theorem js_ctlT {s1 : MS} {t1 : T (Ct σ Empty β)} {f : σ → β} {E : σ → Ro} {L : Empty → Ro} {R : β → FRes} (h1 : JS (s1 ρ) t1 (CR as E L R)) (he : ∀ x, FRes.ok (.d .non) (keep as (E x)) = R (f x)) : JS (s1 ρ) (t1.ctl fun s => T.ret (f s)) (TR as R) := fun h => by
  have e := h1 h.1
  show TR as R (T.ctl t1 _).val _
  unfold T.ctl T.bind
  dsimp only
  cases c : t1.val with
  | nx s => rw [c] at e; show fin as (s1 ρ) = _; rw [show s1 ρ = .nx (E s) from e]; exact he _
  | rt r => rw [c] at e; exact e.2
  | bk s => exact s.elim
  | ct s => exact s.elim
theorem js_ctcL {s1 : MS} {t1 : T (Ct τ l β)} {f : τ → σ} {E1 : τ → Ro} {E : σ → Ro} {L : l → Ro} {R : β → FRes} (h1 : JS (s1 ρ) t1 (CR as E1 L R)) (he : ∀ x, E1 x = E (f x)) : JS (s1 ρ) (t1.ctc fun s => T.ret (.nx (f s))) (CR as E L R) := fun h => by
  have e := h1 h.1
  show CR as E L R (T.ctc t1 _).val _
  unfold T.ctc T.bind
  dsimp only
  cases c : t1.val with
  | nx s => rw [c] at e; exact (show s1 ρ = .nx (E1 s) from e).trans (congrArg SRes.nx (he _))
  | rt r => rw [c] at e; exact e
  | bk s => rw [c] at e; exact e
  | ct s => rw [c] at e; exact e
theorem js_pn {s1 : MS} {t1 : T σ} {E : σ → Ro} {ρ' : σ → Ro} (h : ∀ x, ρ' x = E x) (h1 : JS (s1 ρ) t1 (PN ρ')) : JS (s1 ρ) t1 (PN E) := fun k => (h1 k).trans (congrArg SRes.nx (h _))
theorem js_unC {t : T (Ct σ Empty Empty)} {E : σ → Ro} (h : JS res t (CR as E Empty.elim Empty.elim)) : JS res t.unC (PN E) := fun k => by
  have e := h k.1
  show PN E (T.unC t).val _
  unfold T.unC T.bind
  dsimp only
  cases c : t.val with
  | nx s => rw [c] at e; exact e
  | rt r => exact r.elim
  | bk s => exact s.elim
  | ct s => exact s.elim
/-- kills -/
theorem js_klN {s1 : MS} {vs : List Nat} {t1 : T σ} {E E' : σ → Ro} (h1 : JS (s1 ρ) t1 (PN E)) (he : ∀ x, kl (E x) vs = E' x) : JS (mKl vs s1 ρ) t1 (PN E') := fun h => by
  have e : s1 ρ = .nx (E t1.val) := h1 h
  show mKl vs s1 ρ = _
  unfold mKl
  rw [e]; exact congrArg SRes.nx (he _)
theorem js_klC {s1 : MS} {vs : List Nat} {t1 : T (Ct σ l β)} {E E' : σ → Ro} {L L' : l → Ro} {R : β → FRes} (h1 : JS (s1 ρ) t1 (CR as E L R)) (he : ∀ x, kl (E x) vs = E' x) (hl : ∀ x, kl (L x) vs = L' x) : JS (mKl vs s1 ρ) t1 (CR as E' L' R) := fun h => by
  have e := h1 h
  show CR as E' L' R t1.val _
  unfold mKl
  cases c : t1.val with
  | nx s => rw [c] at e; rw [show s1 ρ = .nx (E s) from e]; exact congrArg SRes.nx (he _)
  | bk s => rw [c] at e; rw [show s1 ρ = .bk (L s) from e]; exact congrArg SRes.bk (hl _)
  | ct s => rw [c] at e; rw [show s1 ρ = .ct (L s) from e]; exact congrArg SRes.ct (hl _)
  | rt r =>
    rw [c] at e
    have : mKl vs s1 ρ = s1 ρ := by
      unfold mKl
      cases z : s1 ρ <;> first | rfl | (rw [z] at e; cases e.1)
    show isStop (mKl vs s1 ρ) = true ∧ fin as (mKl vs s1 ρ) = R r
    rw [this]; exact e
/-- returns -/
theorem js_rt {m : M} {r : R} {q : Bool} {v : β} {R' : β → FRes} (h : m ρ = .ok r ρ1 q) (hp : r.isPk = false) (hr : FRes.ok r (keep as ρ1) = R' v) : JS (mRt m ρ) (T.ret v) (TR as R') := fun _ => by
  show fin as (mRt m ρ) = _
  unfold mRt
  rw [h, Res.stm_ok]
  show (if r.isPk = true then FRes.no else .ok r (keep as ρ1)) = _
  rw [hp, if_neg (by decide)]; exact hr
theorem js_rtC {m : M} {r : R} {q : Bool} {v : β} {E : σ → Ro} {L : l → Ro} {R' : β → FRes} (h : m ρ = .ok r ρ1 q) (hp : r.isPk = false) (hr : FRes.ok r (keep as ρ1) = R' v) : JS (mRt m ρ) (T.ret (.rt v)) (CR as E L R') := fun _ => by
  show isStop (mRt m ρ) = true ∧ fin as (mRt m ρ) = _
  unfold mRt
  rw [h, Res.stm_ok]
  refine ⟨rfl, ?_⟩
  show (if r.isPk = true then FRes.no else .ok r (keep as ρ1)) = _
  rw [hp, if_neg (by decide)]; exact hr
theorem js_rtS {m : M} {r : R} {q : Bool} {v : β} {R' : β → FRes} (h : m ρ = .ok r ρ1 q) (hp : r.isPk = false) (hr : FRes.ok r (keep as ρ1) = R' v) : JS (mRt m ρ) (T.ret v) (SR as R') := fun _ => by
  show isStop (mRt m ρ) = true ∧ fin as (mRt m ρ) = _
  unfold mRt
  rw [h, Res.stm_ok]
  refine ⟨rfl, ?_⟩
  show (if r.isPk = true then FRes.no else .ok r (keep as ρ1)) = _
  rw [hp, if_neg (by decide)]; exact hr
theorem js_rtN {v : β} {R' : β → FRes} (hr : FRes.ok (.d .non) (keep as ρ) = R' v) : JS (mRtN ρ) (T.ret v) (TR as R') := fun _ => hr
theorem js_rtNC {v : β} {E : σ → Ro} {L : l → Ro} {R' : β → FRes} (hr : FRes.ok (.d .non) (keep as ρ) = R' v) : JS (mRtN ρ) (T.ret (.rt v)) (CR as E L R') := fun _ => ⟨rfl, hr⟩
theorem js_bk {v : l} {vs : List Nat} {E : σ → Ro} {L : l → Ro} {R' : β → FRes} (h : kl ρ vs = L v) : JS (mKl vs mBk ρ) (T.ret (.bk v)) (CR as E L R') := fun _ => congrArg SRes.bk h
theorem js_ct {v : l} {vs : List Nat} {E : σ → Ro} {L : l → Ro} {R' : β → FRes} (h : kl ρ vs = L v) : JS (mKl vs mCt ρ) (T.ret (.ct v)) (CR as E L R') := fun _ => congrArg SRes.ct h
theorem js_nx {v : σ} {E : σ → Ro} (h : ρ = E v) : JS (mNx ρ) (T.ret v) (PN E) := fun _ => congrArg SRes.nx h
theorem js_nxC {v : σ} {E : σ → Ro} {L : l → Ro} {R' : β → FRes} (h : ρ = E v) : JS (mNx ρ) (T.ret (.nx v)) (CR as E L R') := fun _ => congrArg SRes.nx h
theorem js_nxT {v : β} {R' : β → FRes} (h : FRes.ok (.d .non) (keep as ρ) = R' v) : JS (mNx ρ) (T.ret v) (TR as R') := fun _ => h
/-- a simple statement -/
theorem js_st {s1 : MS} {v : σ} {E : σ → Ro} (h : s1 ρ = .nx ρ1) (he : ρ1 = E v) : JS (s1 ρ) (T.ret v) (PN E) := fun _ => h.trans (congrArg SRes.nx he)
theorem js_toC {s1 : MS} {t : T σ} {E : σ → Ro} {L : l → Ro} {R' : β → FRes} (h : JS (s1 ρ) t (PN E)) : JS (s1 ρ) (t.bind fun s => T.ret (.nx s)) (CR as E L R') := fun k => h k.1
theorem js_pre {s1 : MS} {vs : List Nat} {t : T β} {Ψ : β → SRes → Prop} (hk : kl ρ vs = ρ1) (h : JS (s1 ρ1) t Ψ) : JS (mPre vs s1 ρ) t Ψ := fun k => by
  show Ψ _ (s1 (kl ρ vs)); rw [hk]; exact h k
/-- for -/
theorem js_forL {it : MI} {tg : Tg} {b : MS} {e : α → D} {xs : List α} {q : Bool} {tb : σ → α → T σ} {s0 : σ} {E : σ → Ro} (A : σ → α → Ro) (hi : it ρ = .ok (List.map e xs) ρ1 q) (h0 : ρ1 = E s0) (ht : ∀ s x, asg tg (e x) (E s) = some (A s x))
    (hb : ∀ s x, JS (b (A s x)) (tb s x) (PN E)) : JS (mFor it tg b ρ) (T.forL tb xs s0) (PN E) := by
  have key : ∀ (xs : List α) (s : σ), (T.forL tb xs s).ok → forGo tg b (List.map e xs) (E s) = .nx (E (T.forL tb xs s).val) := by
    intro xs
    induction xs with
    | nil => intro s _; exact forGo_nil _ _ _
    | cons x xs ih =>
      intro s h
      rw [List.map_cons, forGo_cons, ht]
      have e1 : b (A s x) = .nx (E (tb s x).val) := hb s x h.1
      dsimp only
      rw [e1]
      exact ih _ h.2
  intro h
  show mFor it tg b ρ = _
  unfold mFor
  rw [hi, Res.stm_ok, h0]
  exact key xs s0 h
theorem js_forC {it : MI} {tg : Tg} {b : MS} {e : α → D} {xs : List α} {q : Bool} {tb : σ → α → T (Ct σ σ β)} {s0 : σ} {E : σ → Ro} {L : l → Ro} {R' : β → FRes} (A : σ → α → Ro) (hi : it ρ = .ok (List.map e xs) ρ1 q) (h0 : ρ1 = E s0) (ht : ∀ s x, asg tg (e x) (E s) = some (A s x))
    (hb : ∀ s x, JS (b (A s x)) (tb s x) (CR as E E R')) : JS (mFor it tg b ρ) (T.forC tb xs s0) (CR as E L R') := by
  have key : ∀ (xs : List α) (s : σ), (T.forC (l := l) tb xs s).ok → CR as E L R' (T.forC (l := l) tb xs s).val (forGo tg b (List.map e xs) (E s)) := by
    intro xs
    induction xs with
    | nil => intro s _; exact forGo_nil _ _ _
    | cons x xs ih =>
      intro s h
      have h1 := hb s x h.1
      have h2 := h.2
      rw [List.map_cons, forGo_cons, ht]
      show CR as E L R' (T.bind (tb s x) _).val _
      unfold T.bind
      dsimp only
      cases c : (tb s x).val with
      | nx s' => rw [c] at h1 h2; rw [show b (A s x) = .nx (E s') from h1]; exact ih _ h2
      | ct s' => rw [c] at h1 h2; rw [show b (A s x) = .ct (E s') from h1]; exact ih _ h2
      | bk s' => rw [c] at h1; rw [show b (A s x) = .bk (E s') from h1]; exact rfl
      | rt r =>
        rw [c] at h1
        have h1 : isStop (b (A s x)) = true ∧ fin as (b (A s x)) = R' r := h1
        cases z : b (A s x) <;> first | (rw [z] at h1; cases h1.1; done) | (rw [z] at h1; exact h1)
  intro h
  show CR as E L R' _ (mFor it tg b ρ)
  unfold mFor
  rw [hi, Res.stm_ok, h0]
  exact key xs s0 h
/-- while -/
theorem js_whL {c : MB} {b : MS} {tc : σ → T Bool} {tb : σ → T σ} {s0 : σ} {E : σ → Ro} (h0 : ρ = E s0) (hc : ∀ s, J (tc s) (fun x => ∃ q, c (E s) = .ok x (E s) q)) (hb : ∀ s, JS (b (E s)) (tb s) (PN E)) : JS (mWhile c b ρ) (T.whL tc tb s0) (PN E) := by
  have key : ∀ (n : Nat) (s : σ), (T.whM tc tb n s).ok → whGo c b n (E s) = .nx (E (T.whM tc tb n s).val) := by
    intro n
    induction n with
    | zero => intro s h; exact h.elim
    | succ n ih =>
      intro s h
      obtain ⟨q, e⟩ := hc s h.1
      have h2 := h.2
      dsimp only at h2
      unfold whGo
      rw [e, Res.stm_ok]
      show _ = SRes.nx (E (T.bind (tc s) _).val)
      unfold T.bind
      dsimp only
      by_cases hx : (tc s).val = true
      · rw [if_pos hx] at h2
        rw [if_pos hx, if_pos hx]
        have e1 : b (E s) = .nx (E (tb s).val) := hb s h2.1
        rw [e1]
        exact ih _ h2.2
      · rw [if_neg hx, if_neg hx]; rfl
  intro h
  subst h0
  exact mWhile_eq (key _ _ h) (fun z => nomatch z)
theorem js_whC {c : MB} {b : MS} {tc : σ → T Bool} {tb : σ → T (Ct σ σ β)} {s0 : σ} {E : σ → Ro} {L : l → Ro} {R' : β → FRes} (h0 : ρ = E s0) (hc : ∀ s, J (tc s) (fun x => ∃ q, c (E s) = .ok x (E s) q)) (hb : ∀ s, JS (b (E s)) (tb s) (CR as E E R')) : JS (mWhile c b ρ) (T.whC tc tb s0) (CR as E L R') := by
  have key : ∀ (n : Nat) (s : σ), (T.whN (l := l) tc tb n s).ok → whGo c b n (E s) ≠ .no ∧ CR as E L R' (T.whN (l := l) tc tb n s).val (whGo c b n (E s)) := by
    intro n
    induction n with
    | zero => intro s h; exact h.elim
    | succ n ih =>
      intro s h
      obtain ⟨q, e⟩ := hc s h.1
      have h2 := h.2
      dsimp only at h2
      unfold whGo
      rw [e, Res.stm_ok]
      show _ ∧ CR as E L R' (T.bind (tc s) _).val _
      unfold T.bind
      dsimp only
      by_cases hx : (tc s).val = true
      · rw [if_pos hx] at h2
        rw [if_pos hx, if_pos hx]
        have h1 := hb s h2.1
        have h3 := h2.2
        cases z : (tb s).val with
        | nx s' => rw [z] at h1 h3; rw [show b (E s) = .nx (E s') from h1]; exact ih _ h3
        | ct s' => rw [z] at h1 h3; rw [show b (E s) = .ct (E s') from h1]; exact ih _ h3
        | bk s' => rw [z] at h1; rw [show b (E s) = .bk (E s') from h1]; exact ⟨(fun y => nomatch y), rfl⟩
        | rt r =>
          rw [z] at h1
          have h1 : isStop (b (E s)) = true ∧ fin as (b (E s)) = R' r := h1
          cases y : b (E s) with
          | rt r2 ρ2 => rw [y] at h1; exact ⟨(fun z => nomatch z), h1⟩
          | ex r2 ρ2 => rw [y] at h1; exact ⟨(fun z => nomatch z), h1⟩
          | nx _ => rw [y] at h1; cases h1.1
          | bk _ => rw [y] at h1; cases h1.1
          | ct _ => rw [y] at h1; cases h1.1
          | no => rw [y] at h1; cases h1.1
      · rw [if_neg hx, if_neg hx]; exact ⟨(fun y => nomatch y), rfl⟩
  intro h
  subst h0
  have k := key _ _ h
  show CR as E L R' _ (mWhile c b (E s0))
  rw [mWhile_eq rfl k.1]
  exact k.2
/-- a def -/
theorem v_fn {f : Fn} {n : Nat} {b : MS} {t : T β} {R' : β → FRes} (hf : f = mkFn n b) (hp : as ++ List.replicate (n - as.length) .un = ρ) (h : JS (b ρ) t (TR as R')) : J t fun v => f as = R' v := fun k => by
  rw [hf, ev_fn, hp]; exact h k
end
end Mw

set_option Elab.async false
set_option linter.all false
set_option maxRecDepth 100000
set_option autoImplicit false
namespace Mw
open PySem PySem.Spec PyProof.Rows L2
section
variable {α β γ σ : Type} {ρ ρ0 ρ1 ρ2 ρ3 : Ro} {a b c : M} {q q1 q2 : Bool} {x y r r' : R} {d : D} {i j k : Int} {e : α → D} {xs ys : List α}
/-! ## expressions -/
theorem e_cast (h : a ρ = .ok r ρ1 q) (hr : r = r') : a ρ = .ok r' ρ1 q := by rw [h, hr]
theorem e_C : mC d ρ = .ok (.d d) ρ true := rfl
theorem e_nm_s {i : Nat} (h : ρ[i]? = some (.shr d)) : nm i ρ = .ok (.d d) ρ true := by unfold nm; rw [h]
theorem e_nm_m {i : Nat} {bb : Bool} {o : O} (h : ρ[i]? = some (.mu bb o)) : nm i ρ = .ok (.pk o) ρ true := by unfold nm; rw [h]
theorem e_fz_s {i : Nat} (h : ρ[i]? = some (.shr d)) : fz i ρ = .ok (.d d) ρ true := by unfold fz; rw [h]
theorem e_fz_m {i : Nat} {ds : List D} (h : ρ[i]? = some (.mu false (O.l ds))) : fz i ρ = .ok (.d (.lst ds)) (ρ.set i (.shr (.lst ds))) false := by
  unfold fz; rw [h]
  show (if (O.lst (ds.map O.d)).fz = true then Res.ok (R.d (O.lst (ds.map O.d)).toD) (ρ.set i (.shr (O.lst (ds.map O.d)).toD)) false else Res.no) = _
  rw [show (O.lst (ds.map O.d)).fz = true from fzs_d ds, if_pos rfl, show (O.lst (ds.map O.d)).toD = .lst ds from congrArg D.lst (toDs_d ds)]
theorem e_mv_s {i : Nat} (h : ρ[i]? = some (.shr d)) : mv i ρ = .ok (.d d) ρ true := by unfold mv; rw [h]
theorem e_mv_m {i : Nat} {o : O} (h : ρ[i]? = some (.mu false o)) : mv i ρ = .ok (.own o) (ρ.set i .un) false := by unfold mv; rw [h]
theorem e_args0 : mArgs [] ρ = .ok [] ρ true := rfl
theorem e_args {m : M} {ms : List M} {rs : List R} (h : m ρ = .ok r ρ1 q1) (t : mArgs ms ρ1 = .ok rs ρ2 q2) (hp : (r.isPk && !q2) = false) : mArgs (m :: ms) ρ = .ok (r :: rs) ρ2 (q1 && q2) := by
  show (m ρ).bind _ = _
  rw [h, Res.bind_ok, t, Res.bind_ok, hp]; rfl
theorem e_m1 {f : R → Option R} (ha : a ρ = .ok x ρ1 q) (hf : f x = some r) : m1 f a ρ = .ok r ρ1 q := by
  unfold m1 mOps
  rw [e_args ha e_args0 (by simp), Res.bind_ok]
  show (match f x with | some r => Res.ok r ρ1 (q && true) | none => Res.no) = _
  rw [hf, Bool.and_true]
theorem e_m2 {f : R → R → Option R} (ha : a ρ = .ok x ρ1 q1) (hb : b ρ1 = .ok y ρ2 q2) (hq : (x.isPk && !q2) = false) (hf : f x y = some r) : m2 f a b ρ = .ok r ρ2 (q1 && q2) := by
  unfold m2 mOps
  rw [e_args ha (e_args hb e_args0 (by simp)) (by simpa using hq), Res.bind_ok]
  show (match f x y with | some r => Res.ok r ρ2 (q1 && (q2 && true)) | none => Res.no) = _
  rw [hf, Bool.and_true]
/-! ints -/
theorem e_addI (ha : a ρ = .ok (.d (.int i)) ρ1 q1) (hb : b ρ1 = .ok (.d (.int j)) ρ2 q2) : m2 lAdd a b ρ = .ok (.d (.int (i + j))) ρ2 (q1 && q2) := e_m2 ha hb rfl rfl
theorem e_subI (ha : a ρ = .ok (.d (.int i)) ρ1 q1) (hb : b ρ1 = .ok (.d (.int j)) ρ2 q2) : m2 lSub a b ρ = .ok (.d (.int (i - j))) ρ2 (q1 && q2) := e_m2 ha hb rfl rfl
theorem e_mulI (ha : a ρ = .ok (.d (.int i)) ρ1 q1) (hb : b ρ1 = .ok (.d (.int j)) ρ2 q2) (h : (-1000000000 ≤ i ∧ i ≤ 1000000000) ∨ (-1000000000 ≤ j ∧ j ≤ 1000000000)) : m2 lMul a b ρ = .ok (.d (.int (i * j))) ρ2 (q1 && q2) := e_m2 ha hb rfl (by
  show (if mulOk i j = true then some (R.d (.int (i * j))) else none) = _
  rw [if_pos (h.elim (fun h => mulOk_l h.1 h.2) (fun h => mulOk_r h.1 h.2))])
theorem e_modI (ha : a ρ = .ok (.d (.int i)) ρ1 q1) (hb : b ρ1 = .ok (.d (.int j)) ρ2 q2) (h : 0 < j) : m2 lMod a b ρ = .ok (.d (.int (i % j))) ρ2 (q1 && q2) := e_m2 ha hb rfl (by
  show ((if modOk j = true then some (D.int (i % j)) else none).map R.d) = _
  rw [if_pos (modOk_of h)]; rfl)
theorem e_divI (ha : a ρ = .ok (.d (.int i)) ρ1 q1) (hb : b ρ1 = .ok (.d (.int j)) ρ2 q2) (h : 0 < j ∧ j < 1000000000) : m2 lDiv a b ρ = .ok (.d (.int (i / j))) ρ2 (q1 && q2) := e_m2 ha hb rfl (by
  show ((if divOk j = true then some (D.int (i / j)) else none).map R.d) = _
  rw [if_pos (divOk_of h.1 h.2)]; rfl)
theorem e_powI (ha : a ρ = .ok (.d (.int i)) ρ1 q1) (hb : b ρ1 = .ok (.d (.int j)) ρ2 q2) (h : (0 ≤ j ∧ j ≤ 1000) ∧ 0 ≤ i ∧ i < 1000000) : m2 lPow a b ρ = .ok (.d (.int (i ^ j.toNat))) ρ2 (q1 && q2) := e_m2 ha hb rfl (by
  show ((if powOk i j = true then some (D.int (i ^ j.toNat)) else none).map R.d) = _
  rw [if_pos (powOk_of h.1.1 h.1.2 h.2.1 h.2.2)]; rfl)
theorem e_negI (ha : a ρ = .ok (.d (.int i)) ρ1 q) : m1 lNeg a ρ = .ok (.d (.int (-i))) ρ1 q := e_m1 ha rfl
theorem e_lt (ha : a ρ = .ok (.d (.int i)) ρ1 q1) (hb : b ρ1 = .ok (.d (.int j)) ρ2 q2) : m2 lLt a b ρ = .ok (.d (.bl (decide (i < j)))) ρ2 (q1 && q2) := e_m2 ha hb rfl rfl
theorem e_le (ha : a ρ = .ok (.d (.int i)) ρ1 q1) (hb : b ρ1 = .ok (.d (.int j)) ρ2 q2) : m2 lLe a b ρ = .ok (.d (.bl (decide (i ≤ j)))) ρ2 (q1 && q2) := e_m2 ha hb rfl rfl
theorem e_gt (ha : a ρ = .ok (.d (.int i)) ρ1 q1) (hb : b ρ1 = .ok (.d (.int j)) ρ2 q2) : m2 lGt a b ρ = .ok (.d (.bl (decide (j < i)))) ρ2 (q1 && q2) := e_m2 ha hb rfl rfl
theorem e_ge (ha : a ρ = .ok (.d (.int i)) ρ1 q1) (hb : b ρ1 = .ok (.d (.int j)) ρ2 q2) : m2 lGe a b ρ = .ok (.d (.bl (decide (j ≤ i)))) ρ2 (q1 && q2) := e_m2 ha hb rfl rfl
theorem e_max2 (ha : a ρ = .ok (.d (.int i)) ρ1 q1) (hb : b ρ1 = .ok (.d (.int j)) ρ2 q2) : m2 lMax2 a b ρ = .ok (.d (.int (max i j))) ρ2 (q1 && q2) := e_m2 ha hb rfl (by
  show some (R.d (.int (if j > i then j else i))) = _
  congr 3; split <;> omega)
theorem e_min2 (ha : a ρ = .ok (.d (.int i)) ρ1 q1) (hb : b ρ1 = .ok (.d (.int j)) ρ2 q2) : m2 lMin2 a b ρ = .ok (.d (.int (min i j))) ρ2 (q1 && q2) := e_m2 ha hb rfl (by
  show some (R.d (.int (if j < i then j else i))) = _
  congr 3; split <;> omega)
theorem e_int1I (ha : a ρ = .ok (.d (.int i)) ρ1 q) : m1 lInt1 a ρ = .ok (.d (.int i)) ρ1 q := e_m1 ha rfl
def b2i (b : Bool) : Int := if b = true then 1 else 0
theorem e_int1B {z : Bool} (ha : a ρ = .ok (.d (.bl z)) ρ1 q) : m1 lInt1 a ρ = .ok (.d (.int (b2i z))) ρ1 q := e_m1 ha rfl
/-! == -/
theorem e_eqI (ha : a ρ = .ok (.d (.int i)) ρ1 q1) (hb : b ρ1 = .ok (.d (.int j)) ρ2 q2) : m2 lEq a b ρ = .ok (.d (.bl (decide (i = j)))) ρ2 (q1 && q2) := e_m2 ha hb rfl rfl
theorem e_neI (ha : a ρ = .ok (.d (.int i)) ρ1 q1) (hb : b ρ1 = .ok (.d (.int j)) ρ2 q2) : m2 lNe a b ρ = .ok (.d (.bl (!decide (i = j)))) ρ2 (q1 && q2) := e_m2 ha hb rfl rfl
theorem e_eqB {u v : Bool} (ha : a ρ = .ok (.d (.bl u)) ρ1 q1) (hb : b ρ1 = .ok (.d (.bl v)) ρ2 q2) : m2 lEq a b ρ = .ok (.d (.bl (decide (u = v)))) ρ2 (q1 && q2) := e_m2 ha hb rfl rfl
theorem e_neB {u v : Bool} (ha : a ρ = .ok (.d (.bl u)) ρ1 q1) (hb : b ρ1 = .ok (.d (.bl v)) ρ2 q2) : m2 lNe a b ρ = .ok (.d (.bl (!decide (u = v)))) ρ2 (q1 && q2) := e_m2 ha hb rfl rfl
theorem e_eqS {u v : List Nat} (ha : a ρ = .ok (.d (.str u)) ρ1 q1) (hb : b ρ1 = .ok (.d (.str v)) ρ2 q2) : m2 lEq a b ρ = .ok (.d (.bl (decide (u = v)))) ρ2 (q1 && q2) := e_m2 ha hb rfl rfl
theorem e_neS {u v : List Nat} (ha : a ρ = .ok (.d (.str u)) ρ1 q1) (hb : b ρ1 = .ok (.d (.str v)) ρ2 q2) : m2 lNe a b ρ = .ok (.d (.bl (!decide (u = v)))) ρ2 (q1 && q2) := e_m2 ha hb rfl rfl
/-- == of any data (not of two ints, bools or texts) -/
def D.cmp (x y : D) : Prop := x.shp = true ∧ y.shp = true ∧ lEq (.d x) (.d y) = some (.d (.bl (D.eqv x y))) ∧ lNe (.d x) (.d y) = some (.d (.bl (!D.eqv x y)))
theorem lEq_pls {p p' q q' : R} (h : p.pl = p'.pl) (h2 : q.pl = q'.pl) : lEq p q = lEq p' q' := by unfold lEq; rw [h, h2]
theorem lNe_pls {p p' q q' : R} (h : p.pl = p'.pl) (h2 : q.pl = q'.pl) : lNe p q = lNe p' q' := by unfold lNe; rw [h, h2]
theorem e_eqD {u v : D} (ha : a ρ = .ok x ρ1 q1) (hb : b ρ1 = .ok y ρ2 q2) (hq : (x.isPk && !q2) = false) (hx : x.pl = some u) (hy : y.pl = some v) (h : D.cmp u v) : m2 lEq a b ρ = .ok (.d (.bl (D.eqv u v))) ρ2 (q1 && q2) :=
  e_m2 ha hb hq ((lEq_pls (p' := .d u) (q' := .d v) hx hy).trans h.2.2.1)
theorem e_neD {u v : D} (ha : a ρ = .ok x ρ1 q1) (hb : b ρ1 = .ok y ρ2 q2) (hq : (x.isPk && !q2) = false) (hx : x.pl = some u) (hy : y.pl = some v) (h : D.cmp u v) : m2 lNe a b ρ = .ok (.d (.bl (!D.eqv u v))) ρ2 (q1 && q2) :=
  e_m2 ha hb hq ((lNe_pls (p' := .d u) (q' := .d v) hx hy).trans h.2.2.2)
theorem e_isN {u : D} (ha : a ρ = .ok x ρ1 q1) (hb : b ρ1 = .ok (.d .non) ρ2 q2) (hq : (x.isPk && !q2) = false) (hx : x.pl = some u) : m2 lIsN a b ρ = .ok (.d (.bl u.isNon)) ρ2 (q1 && q2) := e_m2 ha hb hq (by unfold lIsN; rw [hx]; rfl)
theorem e_notN {u : D} (ha : a ρ = .ok x ρ1 q1) (hb : b ρ1 = .ok (.d .non) ρ2 q2) (hq : (x.isPk && !q2) = false) (hx : x.pl = some u) : m2 lNotN a b ρ = .ok (.d (.bl (!u.isNon))) ρ2 (q1 && q2) := e_m2 ha hb hq (by unfold lNotN; rw [hx]; rfl)
/-! tests -/
theorem e_test {v : Bool} (h : a ρ = .ok (.d (.bl v)) ρ1 q) : mTest a ρ = .ok v ρ1 q := by unfold mTest; rw [h]; rfl
theorem e_and {ta tb : MB} {u v : Bool} (ha : ta ρ = .ok u ρ1 q1) (hb : u = true → tb ρ1 = .ok v ρ1 true) : mAnd ta tb ρ = .ok (u && v) ρ1 q1 := by
  unfold mAnd; rw [ha, Res.bind_ok]
  cases u with
  | true => rw [if_pos rfl, hb rfl]; show Res.ok v ρ1 (q1 && true) = _; rw [Bool.and_true]; rfl
  | false => rfl
theorem e_or {ta tb : MB} {u v : Bool} (ha : ta ρ = .ok u ρ1 q1) (hb : u = false → tb ρ1 = .ok v ρ1 true) : mOr ta tb ρ = .ok (u || v) ρ1 q1 := by
  unfold mOr; rw [ha, Res.bind_ok]
  cases u with
  | false => rw [if_neg (by decide), hb rfl]; show Res.ok v ρ1 (q1 && true) = _; rw [Bool.and_true]; rfl
  | true => rfl
theorem e_not {ta : MB} {u : Bool} (ha : ta ρ = .ok u ρ1 q1) : mNot ta ρ = .ok (!u) ρ1 q1 := by unfold mNot; rw [ha]; rfl
theorem e_andV {u v : Bool} (ha : a ρ = .ok (.d (.bl u)) ρ1 q1) (hb : u = true → b ρ1 = .ok (.d (.bl v)) ρ1 true) : mAndV a b ρ = .ok (.d (.bl (u && v))) ρ1 q1 := by
  unfold mAndV; rw [ha, Res.bind_ok]
  cases u with
  | true => dsimp only; rw [hb rfl]; show Res.ok (R.d (.bl v)) ρ1 (q1 && true) = _; rw [Bool.and_true]; rfl
  | false => rfl
theorem e_orV {u v : Bool} (ha : a ρ = .ok (.d (.bl u)) ρ1 q1) (hb : u = false → b ρ1 = .ok (.d (.bl v)) ρ1 true) : mOrV a b ρ = .ok (.d (.bl (u || v))) ρ1 q1 := by
  unfold mOrV; rw [ha, Res.bind_ok]
  cases u with
  | false => dsimp only; rw [hb rfl]; show Res.ok (R.d (.bl v)) ρ1 (q1 && true) = _; rw [Bool.and_true]; rfl
  | true => rfl
theorem e_notV {u : Bool} (ha : a ρ = .ok (.d (.bl u)) ρ1 q) : m1 lNot a ρ = .ok (.d (.bl (!u))) ρ1 q := e_m1 ha rfl
/-! lists, tuples, texts -/
def ix [Inhabited α] (xs : List α) (i : Int) : α := xs.getD i.toNat default
theorem atI_ix [Inhabited α] (h : 0 ≤ i ∧ i < xs.length) : L2.atI xs i = some (ix xs i) := by
  unfold L2.atI L2.ixN ix
  rw [if_pos h.1, if_pos (by omega)]
  simp only [Option.bind_some]
  rw [List.getD_eq_getElem?_getD]
  have : i.toNat < xs.length := by omega
  rw [List.getElem?_eq_getElem this]; rfl
theorem e_ixL [Inhabited α] (ha : a ρ = .ok (.d (.lst (List.map e xs))) ρ1 q1) (hb : b ρ1 = .ok (.d (.int i)) ρ2 q2) (h : 0 ≤ i ∧ i < xs.length) : m2 lIx a b ρ = .ok (.d (e (ix xs i))) ρ2 (q1 && q2) := e_m2 ha hb rfl (by
  show (L2.atI (xs.map e) i).map R.d = _
  rw [atI_map, atI_ix h]; rfl)
theorem e_ixT [Inhabited α] (ha : a ρ = .ok (.d (.tup (List.map e xs))) ρ1 q1) (hb : b ρ1 = .ok (.d (.int i)) ρ2 q2) (h : 0 ≤ i ∧ i < xs.length) : m2 lIx a b ρ = .ok (.d (e (ix xs i))) ρ2 (q1 && q2) := e_m2 ha hb rfl (by
  show (L2.atI (xs.map e) i).map R.d = _
  rw [atI_map, atI_ix h]; rfl)
theorem e_ixO [Inhabited α] (ha : a ρ = .ok (.own (O.l (List.map e xs))) ρ1 q1) (hb : b ρ1 = .ok (.d (.int i)) ρ2 q2) (h : 0 ≤ i ∧ i < xs.length) : m2 lIx a b ρ = .ok (.d (e (ix xs i))) ρ2 (q1 && q2) := e_m2 ha hb rfl (by
  show (L2.atI ((xs.map e).map O.d) i).map O.r = _
  rw [atI_map, atI_map, atI_ix h]; rfl)
theorem e_ixP [Inhabited α] (ha : a ρ = .ok (.pk (O.l (List.map e xs))) ρ1 q1) (hb : b ρ1 = .ok (.d (.int i)) ρ2 q2) (hq : q2 = true) (h : 0 ≤ i ∧ i < xs.length) : m2 lIx a b ρ = .ok (.d (e (ix xs i))) ρ2 (q1 && q2) := e_m2 ha hb (by rw [hq]; rfl) (by
  show (L2.atI ((xs.map e).map O.d) i).map O.r = _
  rw [atI_map, atI_map, atI_ix h]; rfl)
theorem e_ixS {s : List Nat} (ha : a ρ = .ok (.d (.str s)) ρ1 q1) (hb : b ρ1 = .ok (.d (.int i)) ρ2 q2) (h : 0 ≤ i ∧ i < s.length) : m2 lIx a b ρ = .ok (.d (.str [ix s i])) ρ2 (q1 && q2) := e_m2 ha hb rfl (by
  show (L2.atI s i).map (fun c => R.d (.str [c])) = _
  rw [atI_ix h]; rfl)
/-- an item of a written tuple or list -/
theorem e_tF {ds : List D} (n : Nat) (ha : a ρ = .ok (.d (.tup ds)) ρ1 q) (hi : i = (n : Int)) (h : ds[n]? = some d) : m2 lIx a (mC (.int i)) ρ = .ok (.d d) ρ1 (q && true) := e_m2 ha e_C rfl (by
  subst hi; show (L2.atI ds (n : Int)).map R.d = _; rw [atI_pos, h]; rfl)
theorem e_lF {ds : List D} (n : Nat) (ha : a ρ = .ok (.d (.lst ds)) ρ1 q) (hi : i = (n : Int)) (h : ds[n]? = some d) : m2 lIx a (mC (.int i)) ρ = .ok (.d d) ρ1 (q && true) := e_m2 ha e_C rfl (by
  subst hi; show (L2.atI ds (n : Int)).map R.d = _; rw [atI_pos, h]; rfl)
theorem e_pF {os : List O} (n : Nat) (ha : a ρ = .ok (.pk (.lst os)) ρ1 q) (hi : i = (n : Int)) (h : os[n]? = some (.d d)) : m2 lIx a (mC (.int i)) ρ = .ok (.d d) ρ1 (q && true) := e_m2 ha e_C rfl (by
  subst hi; show (L2.atI os (n : Int)).map O.r = _; rw [atI_pos, h]; rfl)
theorem e_oF {os : List O} (n : Nat) (ha : a ρ = .ok (.own (.lst os)) ρ1 q) (hi : i = (n : Int)) (h : os[n]? = some (.d d)) : m2 lIx a (mC (.int i)) ρ = .ok (.d d) ρ1 (q && true) := e_m2 ha e_C rfl (by
  subst hi; show (L2.atI os (n : Int)).map O.r = _; rw [atI_pos, h]; rfl)
theorem e_lenL (ha : a ρ = .ok (.d (.lst (List.map e xs))) ρ1 q) : m1 lLen a ρ = .ok (.d (.int xs.length)) ρ1 q := e_m1 ha (by show some (R.d (.int (List.map e xs).length)) = _; rw [List.length_map])
theorem e_lenT (ha : a ρ = .ok (.d (.tup (List.map e xs))) ρ1 q) : m1 lLen a ρ = .ok (.d (.int xs.length)) ρ1 q := e_m1 ha (by show some (R.d (.int (List.map e xs).length)) = _; rw [List.length_map])
theorem e_lenO (ha : a ρ = .ok (.own (O.l (List.map e xs))) ρ1 q) : m1 lLen a ρ = .ok (.d (.int xs.length)) ρ1 q := e_m1 ha (by show some (R.d (.int ((List.map e xs).map O.d).length)) = _; rw [List.length_map, List.length_map])
theorem e_lenP (ha : a ρ = .ok (.pk (O.l (List.map e xs))) ρ1 q) : m1 lLen a ρ = .ok (.d (.int xs.length)) ρ1 q := e_m1 ha (by show some (R.d (.int ((List.map e xs).map O.d).length)) = _; rw [List.length_map, List.length_map])
theorem e_lenS {s : List Nat} (ha : a ρ = .ok (.d (.str s)) ρ1 q) : m1 lLen a ρ = .ok (.d (.int s.length)) ρ1 q := e_m1 ha rfl
theorem e_addS {s t : List Nat} (ha : a ρ = .ok (.d (.str s)) ρ1 q1) (hb : b ρ1 = .ok (.d (.str t)) ρ2 q2) (h : s.length + t.length ≤ 1000000) : m2 lAdd a b ρ = .ok (.d (.str (s ++ t))) ρ2 (q1 && q2) := e_m2 ha hb rfl (by
  show (if lenOk (s.length + t.length) = true then some (R.d (.str (s ++ t))) else none) = _
  rw [if_pos (lenOk_of h)])
theorem e_addT (ha : a ρ = .ok (.d (.tup (List.map e xs))) ρ1 q1) (hb : b ρ1 = .ok (.d (.tup (List.map e ys))) ρ2 q2) (h : xs.length + ys.length ≤ 1000000) : m2 lAdd a b ρ = .ok (.d (.tup (List.map e (xs ++ ys)))) ρ2 (q1 && q2) := e_m2 ha hb rfl (by
  show (if lenOk ((List.map e xs).length + (List.map e ys).length) = true then some (R.d (.tup (List.map e xs ++ List.map e ys))) else none) = _
  rw [List.length_map, List.length_map, if_pos (lenOk_of h), List.map_append])
theorem e_addL (ha : a ρ = .ok x ρ1 q1) (hb : b ρ1 = .ok y ρ2 q2) (hq : (x.isPk && !q2) = false) (hx : x.pl = some (.lst (List.map e xs))) (hy : y.pl = some (.lst (List.map e ys))) (h : xs.length + ys.length ≤ 1000000) : m2 lAdd a b ρ = .ok (.own (O.l (List.map e (xs ++ ys)))) ρ2 (q1 && q2) := e_m2 ha hb hq (by
  unfold lAdd; rw [hx, hy]
  show (if lenOk ((List.map e xs).length + (List.map e ys).length) = true then some (R.own (.lst ((List.map e xs ++ List.map e ys).map O.d))) else none) = _
  rw [List.length_map, List.length_map, if_pos (lenOk_of h), ← List.map_append])
def repl (n : Int) (xs : List α) : List α := (List.replicate n.toNat xs).flatten
theorem e_mulL (ha : a ρ = .ok (.own (O.l (List.map e xs))) ρ1 q1) (hb : b ρ1 = .ok (.d (.int i)) ρ2 q2) (h : 0 ≤ i ∧ i ≤ 1000 ∧ xs.length ≤ 1000) : m2 lMul a b ρ = .ok (.own (O.l (List.map e (repl i xs)))) ρ2 (q1 && q2) := e_m2 ha hb rfl (by
  unfold lMul
  rw [R.pl_own, R.ol_own]
  show (if repOk i (List.map e xs).length = true then some (R.own (.lst ((List.replicate i.toNat (List.map e xs)).flatten.map O.d))) else none) = _
  rw [List.length_map, if_pos (repOk_of h.1 h.2.1 h.2.2)]
  show _ = some (R.own (.lst ((List.map e (repl i xs)).map O.d)))
  unfold repl
  rw [List.map_flatten (f := e), List.map_replicate])
theorem e_mulS {s : List Nat} (ha : a ρ = .ok (.d (.str s)) ρ1 q1) (hb : b ρ1 = .ok (.d (.int i)) ρ2 q2) (h : 0 ≤ i ∧ i ≤ 1000 ∧ s.length ≤ 1000) : m2 lMul a b ρ = .ok (.d (.str (repl i s))) ρ2 (q1 && q2) := e_m2 ha hb rfl (by
  show (if repOk i s.length = true then some (R.d (.str (List.replicate i.toNat s).flatten)) else none) = _
  rw [if_pos (repOk_of h.1 h.2.1 h.2.2)]; rfl)
theorem cutA_map {f : α → β} (xs : List α) (lo hi : Option Int) : cutA (xs.map f) lo hi = (cutA xs lo hi).map f := by
  unfold cutA; rw [List.length_map, List.map_take, List.map_drop]
theorem lSl_S {s : List Nat} {lo hi : Option Int} : lSl (.d (.str s)) lo hi = some (.d (.str (cutA s lo hi))) := rfl
theorem lSl_T {lo hi : Option Int} : lSl (.d (.tup (List.map e xs))) lo hi = some (.d (.tup (List.map e (cutA xs lo hi)))) := by
  show some (R.d (.tup (cutA (List.map e xs) lo hi))) = _; rw [cutA_map]
theorem lSl_L {lo hi : Option Int} (h : x.pl = some (.lst (List.map e xs))) : lSl x lo hi = some (.own (O.l (List.map e (cutA xs lo hi)))) := by
  unfold lSl; rw [h]; show some (R.own (.lst ((cutA (List.map e xs) lo hi).map O.d))) = _; rw [cutA_map]
theorem e_mInt (ha : a ρ = .ok (.d (.int i)) ρ1 q) : mInt a ρ = .ok (.d (.int i)) ρ1 q := by unfold mInt; rw [ha]; rfl
theorem e_sl00 (ha : a ρ = .ok x ρ1 q) (h : lSl x none none = some r) : mSl a none none ρ = .ok r ρ1 (q && true) := by
  show (mArgs [a] ρ).bind (fun rs ρ' q => match (match rs with | [p] => lSl p none none | _ => none) with | some r => Res.ok r ρ' q | none => Res.no) = _
  rw [e_args ha e_args0 (by simp), Res.bind_ok]; show (match lSl x none none with | some r => Res.ok r ρ1 (q && true) | none => Res.no) = _; rw [h]
theorem e_sl10 (ha : a ρ = .ok x ρ1 q1) (hb : b ρ1 = .ok (.d (.int i)) ρ2 q2) (hq : (x.isPk && !q2) = false) (h : lSl x (some i) none = some r) : mSl a (some b) none ρ = .ok r ρ2 (q1 && q2) := by
  show (mArgs [a, mInt b] ρ).bind (fun rs ρ' q => match (match rs with | [p, .d (.int i)] => lSl p (some i) none | _ => none) with | some r => Res.ok r ρ' q | none => Res.no) = _
  rw [e_args ha (e_args (e_mInt hb) e_args0 (by simp)) (by simpa using hq), Res.bind_ok]; show (match lSl x (some i) none with | some r => Res.ok r ρ2 (q1 && (q2 && true)) | none => Res.no) = _; rw [h, Bool.and_true]
theorem e_sl01 (ha : a ρ = .ok x ρ1 q1) (hb : b ρ1 = .ok (.d (.int i)) ρ2 q2) (hq : (x.isPk && !q2) = false) (h : lSl x none (some i) = some r) : mSl a none (some b) ρ = .ok r ρ2 (q1 && q2) := by
  show (mArgs [a, mInt b] ρ).bind (fun rs ρ' q => match (match rs with | [p, .d (.int i)] => lSl p none (some i) | _ => none) with | some r => Res.ok r ρ' q | none => Res.no) = _
  rw [e_args ha (e_args (e_mInt hb) e_args0 (by simp)) (by simpa using hq), Res.bind_ok]; show (match lSl x none (some i) with | some r => Res.ok r ρ2 (q1 && (q2 && true)) | none => Res.no) = _; rw [h, Bool.and_true]
theorem e_sl11 {q3 : Bool} (ha : a ρ = .ok x ρ1 q1) (hb : b ρ1 = .ok (.d (.int i)) ρ2 q2) (hc : c ρ2 = .ok (.d (.int j)) ρ3 q3) (hq : (x.isPk && !(q2 && q3)) = false) (h : lSl x (some i) (some j) = some r) : mSl a (some b) (some c) ρ = .ok r ρ3 (q1 && (q2 && q3)) := by
  show (mArgs [a, mInt b, mInt c] ρ).bind (fun rs ρ' q => match (match rs with | [p, .d (.int i), .d (.int j)] => lSl p (some i) (some j) | _ => none) with | some r => Res.ok r ρ' q | none => Res.no) = _
  rw [e_args ha (e_args (e_mInt hb) (e_args (e_mInt hc) e_args0 (by simp)) (by simp)) (by simpa using hq), Res.bind_ok]; show (match lSl x (some i) (some j) with | some r => Res.ok r ρ3 (q1 && (q2 && (q3 && true))) | none => Res.no) = _; rw [h, Bool.and_true]
/-! in -/
theorem eqv_i (i j : Int) : D.eqv (.int i) (.int j) = decide (i = j) := by rw [eqv_int]; rfl
theorem eqv_s (s t : List Nat) : D.eqv (.str s) (.str t) = decide (s = t) := by
  show ((⟨s.toArray⟩ : Str) == (⟨t.toArray⟩ : Str)) = _
  by_cases h : s = t
  · subst h; simp
  · rw [decide_eq_false h]
    refine beq_eq_false_iff_ne.mpr fun z => h ?_
    have : s.toArray = t.toArray := by injection z
    simpa using this
theorem any_i (i : Int) (xs : List Int) : ((xs.map D.int).any fun z => D.eqv z (.int i)) = decide (i ∈ xs) := by
  induction xs with
  | nil => rfl
  | cons v xs ih =>
    rw [List.map_cons, List.any_cons, ih, eqv_i]
    by_cases h : v = i
    · subst h; simp
    · have h' : ¬ i = v := fun z => h z.symm
      simp [h, h']
theorem any_s (w : List Nat) (ws : List (List Nat)) : ((ws.map D.str).any fun z => D.eqv z (.str w)) = decide (w ∈ ws) := by
  induction ws with
  | nil => rfl
  | cons v ws ih =>
    rw [List.map_cons, List.any_cons, ih, eqv_s]
    by_cases h : v = w
    · subst h; simp
    · have h' : ¬ w = v := fun z => h z.symm
      simp [h, h']
theorem flats_i (xs : List Int) : flats (xs.map D.int) = true := by unfold flats; rw [List.all_map]; exact List.all_eq_true.mpr fun _ _ => rfl
theorem flats_s (xs : List (List Nat)) : flats (xs.map D.str) = true := by unfold flats; rw [List.all_map]; exact List.all_eq_true.mpr fun _ _ => rfl
theorem isInL_i {xs : List Int} (hy : y.pl = some (.lst (xs.map D.int))) : isIn (.d (.int i)) y = some (decide (i ∈ xs)) := by
  unfold isIn; rw [hy]
  show (if (D.int i).flat = true ∧ flats (xs.map D.int) = true then some ((xs.map D.int).any fun z => D.eqv z (.int i)) else _) = _
  rw [if_pos ⟨rfl, flats_i xs⟩, any_i]
theorem isInT_i {xs : List Int} (hy : y.pl = some (.tup (xs.map D.int))) : isIn (.d (.int i)) y = some (decide (i ∈ xs)) := by
  unfold isIn; rw [hy]
  show (if (D.int i).flat = true ∧ flats (xs.map D.int) = true then some ((xs.map D.int).any fun z => D.eqv z (.int i)) else _) = _
  rw [if_pos ⟨rfl, flats_i xs⟩, any_i]
theorem isInL_s {w : List Nat} {xs : List (List Nat)} (hy : y.pl = some (.lst (xs.map D.str))) : isIn (.d (.str w)) y = some (decide (w ∈ xs)) := by
  have key : (if (D.str w).flat = true ∧ flats (xs.map D.str) = true then some ((xs.map D.str).any fun z => D.eqv z (.str w)) else if (D.str w).shp = true ∧ (D.lst (xs.map D.str)).shp = true then some ((xs.map D.str).any fun z => D.eqv z (.str w)) else none) = some (decide (w ∈ xs)) := by
    rw [if_pos ⟨rfl, flats_s xs⟩, any_s]
  rw [← key]
  unfold isIn; rw [hy]
  match w with
  | [] => rfl
  | [c] => rfl
  | c :: d :: r => rfl
theorem isInT_s {w : List Nat} {xs : List (List Nat)} (hy : y.pl = some (.tup (xs.map D.str))) : isIn (.d (.str w)) y = some (decide (w ∈ xs)) := by
  have key : (if (D.str w).flat = true ∧ flats (xs.map D.str) = true then some ((xs.map D.str).any fun z => D.eqv z (.str w)) else none) = some (decide (w ∈ xs)) := by
    rw [if_pos ⟨rfl, flats_s xs⟩, any_s]
  rw [← key]
  unfold isIn; rw [hy]
  match w with
  | [] => rfl
  | [c] => rfl
  | c :: d :: r => rfl
theorem isIn_c {w s : List Nat} (h : w.length = 1) : isIn (.d (.str w)) (.d (.str s)) = some (decide (w.headD 0 ∈ s)) := by
  match w, h with
  | [c], _ => rfl
theorem e_in {v : Bool} (ha : a ρ = .ok x ρ1 q1) (hb : b ρ1 = .ok y ρ2 q2) (hq : (x.isPk && !q2) = false) (h : isIn x y = some v) : m2 lIn a b ρ = .ok (.d (.bl v)) ρ2 (q1 && q2) := e_m2 ha hb hq (by unfold lIn; rw [h]; rfl)
theorem e_notin {v : Bool} (ha : a ρ = .ok x ρ1 q1) (hb : b ρ1 = .ok y ρ2 q2) (hq : (x.isPk && !q2) = false) (h : isIn x y = some v) : m2 lNotIn a b ρ = .ok (.d (.bl (!v))) ρ2 (q1 && q2) := e_m2 ha hb hq (by unfold lNotIn; rw [h]; rfl)
/-- in, of any data in a list -/
def D.inOk (x : D) (ds : List D) : Prop := isIn (.d x) (.d (.lst ds)) = some (ds.any fun z => D.eqv z x)
theorem isInD {u : D} {ds : List D} (hx : x.pl = some u) (hy : y.pl = some (.lst ds)) (h : D.inOk u ds) : isIn x y = some (ds.any fun z => D.eqv z u) := by
  rw [← h]; unfold isIn; rw [hx, hy]; rfl
/-! built-in functions -/
theorem e_ints {f : List Int → Option R} {ns : List Int} (ha : a ρ = .ok x ρ1 q) (hx : x.pl = some (.lst (ns.map D.int))) (hf : f ns = some r) : m1 (lInts f) a ρ = .ok r ρ1 q := e_m1 ha (by unfold lInts; rw [hx]; dsimp only; rw [dInts_map]; exact hf)
theorem e_sum {ns : List Int} (ha : a ρ = .ok x ρ1 q) (hx : x.pl = some (.lst (ns.map D.int))) : m1 lSum a ρ = .ok (.d (.int ns.sum)) ρ1 q := e_ints ha hx rfl
theorem e_max {ns : List Int} (ha : a ρ = .ok x ρ1 q) (hx : x.pl = some (.lst (ns.map D.int))) (h : 0 < ns.length) : m1 lMax a ρ = .ok (.d (.int (maxL ns))) ρ1 q := e_ints ha hx (if_pos h)
theorem e_min {ns : List Int} (ha : a ρ = .ok x ρ1 q) (hx : x.pl = some (.lst (ns.map D.int))) (h : 0 < ns.length) : m1 lMin a ρ = .ok (.d (.int (minL ns))) ρ1 q := e_ints ha hx (if_pos h)
theorem e_sortI {ns : List Int} (ha : a ρ = .ok x ρ1 q) (hx : x.pl = some (.lst (ns.map D.int))) : m1 lSrtI a ρ = .ok (.own (O.l (List.map D.int (srtI ns)))) ρ1 q := e_ints ha hx rfl
theorem e_bls {f : List Bool → Option R} {ns : List Bool} (ha : a ρ = .ok x ρ1 q) (hx : x.pl = some (.lst (ns.map D.bl))) (hf : f ns = some r) : m1 (lBls f) a ρ = .ok r ρ1 q := e_m1 ha (by unfold lBls; rw [hx]; dsimp only; rw [dBls_map]; exact hf)
theorem e_all {ns : List Bool} (ha : a ρ = .ok x ρ1 q) (hx : x.pl = some (.lst (ns.map D.bl))) : m1 lAll a ρ = .ok (.d (.bl (ns.all id))) ρ1 q := e_bls ha hx rfl
theorem e_any {ns : List Bool} (ha : a ρ = .ok x ρ1 q) (hx : x.pl = some (.lst (ns.map D.bl))) : m1 lAny a ρ = .ok (.d (.bl (ns.any id))) ρ1 q := e_bls ha hx rfl
theorem e_listL (ha : a ρ = .ok x ρ1 q) (hx : x.pl = some (.lst (List.map e xs))) : m1 lList a ρ = .ok (.own (O.l (List.map e xs))) ρ1 q := e_m1 ha (by unfold lList; rw [hx])
theorem e_listT (ha : a ρ = .ok x ρ1 q) (hx : x.pl = some (.tup (List.map e xs))) : m1 lList a ρ = .ok (.own (O.l (List.map e xs))) ρ1 q := e_m1 ha (by unfold lList; rw [hx])
theorem e_tupL (ha : a ρ = .ok x ρ1 q) (hx : x.pl = some (.lst (List.map e xs))) : m1 lTuple a ρ = .ok (.d (.tup (List.map e xs))) ρ1 q := e_m1 ha (by unfold lTuple; rw [hx])
theorem e_tupT (ha : a ρ = .ok x ρ1 q) (hx : x.pl = some (.tup (List.map e xs))) : m1 lTuple a ρ = .ok (.d (.tup (List.map e xs))) ρ1 q := e_m1 ha (by unfold lTuple; rw [hx])
theorem e_rev (ha : a ρ = .ok x ρ1 q) (hx : x.pl = some (.lst (List.map e xs))) : m1 lRev a ρ = .ok (.own (O.l (List.map e xs.reverse))) ρ1 q := e_m1 ha (by unfold lRev; rw [hx]; show some (R.own (.lst ((List.map e xs).reverse.map O.d))) = some (R.own (.lst ((List.map e xs.reverse).map O.d))); rw [List.map_reverse (f := e)])
theorem e_isi {T k : String} {u : D} (ha : a ρ = .ok x ρ1 q) (hx : x.pl = some u) (hk : u.kind = some k) : m1 (lIsi T) a ρ = .ok (.d (.bl (isK T k))) ρ1 q := e_m1 ha (by unfold lIsi; rw [hx]; dsimp only; rw [hk]; rfl)
/-- isinstance of any data -/
def D.isa (T : String) (d : D) : Bool := match d.kind with
  | some k => isK T k
  | none => false
theorem e_isiD {T : String} {u : D} (ha : a ρ = .ok x ρ1 q) (hx : x.pl = some u) (hk : u.kind.isSome = true) : m1 (lIsi T) a ρ = .ok (.d (.bl (u.isa T))) ρ1 q := e_m1 ha (by
  unfold lIsi D.isa; rw [hx]; dsimp only
  cases h : u.kind with
  | none => rw [h] at hk; cases hk
  | some k => rfl)
def idxI (xs : List Int) (i : Int) : Int := (xs.idxOf i : Nat)
theorem findIdx_i (xs : List Int) (h : i ∈ xs) : (xs.map D.int).findIdx? (fun z => D.eqv z (.int i)) = some (xs.idxOf i) := by
  induction xs with
  | nil => cases h
  | cons v xs ih =>
    rw [List.map_cons, List.findIdx?_cons, eqv_i, List.idxOf_cons]
    by_cases hv : v = i
    · subst hv; simp
    · have : i ∈ xs := by
        rcases List.mem_cons.mp h with z | z
        · exact absurd z.symm hv
        · exact z
      rw [ih this]
      have hv' : (v == i) = false := by simpa using hv
      simp [hv, hv']
theorem e_index {ns : List Int} (ha : a ρ = .ok x ρ1 q1) (hb : b ρ1 = .ok (.d (.int i)) ρ2 q2) (hq : (x.isPk && !q2) = false) (hx : x.pl = some (.lst (ns.map D.int))) (h : i ∈ ns) : mIndex a b ρ = .ok (.d (.int (idxI ns i))) ρ2 (q1 && q2) := by
  refine e_m2 (x := x) (ρ1 := ρ1) ?_ hb hq ?_
  · unfold mLs; rw [ha, Res.bind_ok, hx]
  · unfold lIndex; rw [hx]
    show (if (D.int i).flat = true ∧ flats (ns.map D.int) = true then ((ns.map D.int).findIdx? fun z => D.eqv z (.int i)).map fun (j : Nat) => R.d (.int j) else none) = _
    rw [if_pos ⟨rfl, flats_i ns⟩, findIdx_i ns h]; rfl
/-! displays -/
theorem e_sts0 : sts [] = some [] := rfl
theorem e_sts {rs : List R} {ds : List D} (h : r.st = some d) (t : sts rs = some ds) : sts (r :: rs) = some (d :: ds) := by unfold sts; rw [h, t]
theorem e_lst {ms : List M} {rs : List R} {ds : List D} (h : mArgs ms ρ = .ok rs ρ1 q) (hs : sts rs = some ds) (hl : ds.length ≤ 1000000) : mLst ms ρ = .ok (.own (O.l ds)) ρ1 q := by
  unfold mLst mOps; rw [h, Res.bind_ok]; dsimp only; rw [hs]; dsimp only; rw [if_pos (lenOk_of hl)]
theorem e_tup {ms : List M} {rs : List R} {ds : List D} (h : mArgs ms ρ = .ok rs ρ1 q) (hs : sts rs = some ds) (hl : ds.length ≤ 1000000) : mTup ms ρ = .ok (.d (.tup ds)) ρ1 q := by
  unfold mTup mOps; rw [h, Res.bind_ok]; dsimp only; rw [hs]; dsimp only; rw [if_pos (lenOk_of hl)]
/-! calls -/
theorem e_argB0 : mArgB [] ρ = .ok [] ρ true := rfl
theorem e_argBv {m : M} {as : List Ar} {rs : List Av} (h : m ρ = .ok r ρ1 q1) (t : mArgB as ρ1 = .ok rs ρ2 q2) (hp : r.isPk = false) : mArgB (.v m :: as) ρ = .ok (.r r :: rs) ρ2 (q1 && q2) := by
  show (m ρ).bind _ = _
  rw [h, Res.bind_ok, t, Res.bind_ok, hp]; rfl
theorem e_argBb {i : Nat} {as : List Ar} {rs : List Av} (h : live ρ i = true) (t : mArgB as ρ = .ok rs ρ1 q1) : mArgB (.b i :: as) ρ = .ok (.b i :: rs) ρ1 q1 := by
  show (if live ρ i = true then _ else _) = _
  rw [if_pos h, t]; rfl
theorem e_lend0 : lend [] ρ = some ([], [], ρ) := rfl
theorem e_lendr {rs : List Av} {as : List Slo} {ls : List Loan} (h : r.st = some d) (t : lend rs ρ = some (as, ls, ρ1)) : lend (.r r :: rs) ρ = some (.shr d :: as, none :: ls, ρ1) := by
  show (match r.st, lend rs ρ with | some x, some (as, ls, ρ') => some (Slo.shr x :: as, (none : Loan) :: ls, ρ') | _, _ => none) = _
  rw [h, t]
theorem e_lends {i : Nat} {rs : List Av} {as : List Slo} {ls : List Loan} (h : ρ[i]? = some (.shr d)) (t : lend rs ρ = some (as, ls, ρ1)) : lend (.b i :: rs) ρ = some (.shr d :: as, none :: ls, ρ1) := by
  unfold lend; rw [h]; dsimp only; rw [t]
theorem e_lendm {i : Nat} {bb : Bool} {o : O} {rs : List Av} {as : List Slo} {ls : List Loan} (h : ρ[i]? = some (.mu bb o)) (t : lend rs (ρ.set i .un) = some (as, ls, ρ1)) : lend (.b i :: rs) ρ = some (.mu true o :: as, some (i, bb) :: ls, ρ1) := by
  unfold lend; rw [h]; dsimp only; rw [t]
theorem e_call {f : Fn} {args : List Ar} {rs : List Av} {as as' : List Slo} {ls : List Loan} (h : mArgB args ρ = .ok rs ρ1 q) (hl : lend rs ρ1 = some (as, ls, ρ2)) (hf : f as = .ok r as') (hb : back ls as' ρ2 = ρ3) : mCall f args ρ = .ok r ρ3 (q && ls.all Option.isNone) := by
  unfold mCall; rw [h, Res.bind_ok, hl]; dsimp only; rw [hf]; dsimp only; rw [hb]
theorem e_callX {f : Fn} {args : List Ar} {rs : List Av} {as as' : List Slo} {ls : List Loan} {z : Exc} (h : mArgB args ρ = .ok rs ρ1 q) (hl : lend rs ρ1 = some (as, ls, ρ2)) (hf : f as = .ex z as') (hb : back ls as' ρ2 = ρ3) : mCall f args ρ = .ex z ρ3 := by
  unfold mCall; rw [h, Res.bind_ok, hl]; dsimp only; rw [hf]; dsimp only; rw [hb]
/-! ## statements -/
theorem st_set {i : Nat} {s : Slo} (h : a ρ = .ok r ρ1 q) (hb : isBor ρ1 i = false) (hs : r.slo = some s) : mSet i a ρ = .nx (ρ1.set i s) := by
  unfold mSet; rw [h, Res.stm_ok, hb, if_neg (by decide), hs]
theorem st_augI {i : Nat} {u : Int} (hu : ρ[i]? = some (.shr (.int u))) (h : a ρ = .ok (.d (.int j)) ρ1 q) (hb : isBor ρ1 i = false) : mAug i a ρ = .nx (ρ1.set i (.shr (.int (u + j)))) := st_set (e_m2 (e_nm_s hu) h rfl rfl) hb rfl
theorem st_augS {i : Nat} {s t : List Nat} (hu : ρ[i]? = some (.shr (.str s))) (h : a ρ = .ok (.d (.str t)) ρ1 q) (hb : isBor ρ1 i = false) (hl : s.length + t.length ≤ 1000000) : mAug i a ρ = .nx (ρ1.set i (.shr (.str (s ++ t)))) := st_set (e_m2 (e_nm_s hu) h rfl (by
  show (if lenOk (s.length + t.length) = true then some (R.d (.str (s ++ t))) else none) = _
  rw [if_pos (lenOk_of hl)])) hb rfl
def eD : D → D := fun d => d
def eN : Unit → D := fun _ => .non
theorem js_fz {i : Nat} {m : MS} {ds : List D} {t : T β} {Ψ : β → SRes → Prop} (h : ρ[i]? = some (.mu false (O.l ds))) (hr : ρ.set i (.shr (.lst ds)) = ρ1) (k : JS (m ρ1) t Ψ) : JS (mFz i m ρ) t Ψ := fun ok => by
  unfold mFz; rw [e_fz_m h, Res.stm_ok, hr]; exact k ok
theorem st_kl {m : MS} {vs : List Nat} (h : m ρ = .nx ρ1) (hk : kl ρ1 vs = ρ2) : mKl vs m ρ = .nx ρ2 := by unfold mKl; rw [h]; dsimp only; rw [hk]
theorem st_asg {t : Tg} (h : a ρ = .ok (.d d) ρ1 q) (hs : asg t d ρ1 = some ρ2) : mAsg t a ρ = .nx ρ2 := by unfold mAsg; rw [h, Res.stm_ok]; dsimp only; rw [hs]
theorem st_drop (h : a ρ = .ok r ρ1 q) : mDrop a ρ = .nx ρ1 := by unfold mDrop; rw [h]; rfl
theorem e_app {i : Nat} {bb : Bool} {z : α} (hL : isLst ρ i = true) (h : a ρ = .ok r ρ1 q) (hr : r.st = some (e z)) (hs : ρ1[i]? = some (.mu bb (O.l (List.map e xs)))) (hl : xs.length < 1000000) : mApp i a ρ = .ok (.d .non) (ρ1.set i (.mu bb (O.l (List.map e (xs ++ [z]))))) false := by
  unfold mApp; rw [if_pos hL, h, Res.bind_ok, hr]; dsimp only
  unfold pushAt; rw [hs]; dsimp only
  rw [List.length_map, List.length_map, if_pos (lenOk_of (by omega))]
  show Res.ok (R.d .non) (ρ1.set i (.mu bb (.lst ((List.map e xs).map O.d ++ [.d (e z)])))) false = Res.ok (R.d .non) (ρ1.set i (.mu bb (.lst ((List.map e (xs ++ [z])).map O.d)))) false
  rw [List.map_append, List.map_append]; rfl
theorem e_ext {i : Nat} {bb : Bool} (hL : isLst ρ i = true) (h : a ρ = .ok r ρ1 q) (hr : r.ol = some (List.map e ys)) (hs : ρ1[i]? = some (.mu bb (O.l (List.map e xs)))) (hl : xs.length + ys.length ≤ 1000000) : mExt i a ρ = .ok (.d .non) (ρ1.set i (.mu bb (O.l (List.map e (xs ++ ys))))) false := by
  unfold mExt; rw [if_pos hL, h, Res.bind_ok, hr]; dsimp only
  unfold extAt; rw [hs]; dsimp only
  rw [List.length_map, List.length_map, List.length_map, if_pos (lenOk_of hl)]
  show Res.ok (R.d .non) (ρ1.set i (.mu bb (.lst ((List.map e xs).map O.d ++ (List.map e ys).map O.d)))) false = Res.ok (R.d .non) (ρ1.set i (.mu bb (.lst ((List.map e (xs ++ ys)).map O.d)))) false
  rw [List.map_append, List.map_append]
theorem map_set {f : α → β} (xs : List α) (n : Nat) (z : α) : (xs.map f).set n (f z) = (xs.set n z).map f := by
  induction xs generalizing n with
  | nil => rfl
  | cons x xs ih => cases n with
    | zero => rfl
    | succ n => show f x :: (xs.map f).set n (f z) = f x :: (xs.set n z).map f; rw [ih]
def sx (xs : List α) (i : Int) (z : α) : List α := xs.set i.toNat z
theorem st_put {i : Nat} {bb : Bool} {z : α} (hL : isLst ρ i = true) (h : mArgs [a, mInt b] ρ = .ok [r, .d (.int k)] ρ1 q) (hr : r.st = some (e z)) (hs : ρ1[i]? = some (.mu bb (O.l (List.map e xs)))) (hl : 0 ≤ k ∧ k < xs.length) : mPut i b a ρ = .nx (ρ1.set i (.mu bb (O.l (List.map e (sx xs k z))))) := by
  unfold mPut; rw [if_pos hL, h, Res.stm_ok]; dsimp only; rw [hr]; dsimp only
  unfold putAt; rw [hs]; dsimp only
  rw [List.length_map, List.length_map]
  have : L2.ixN xs.length k = some k.toNat := by unfold L2.ixN; rw [if_pos hl.1, if_pos (by omega)]
  rw [this]; dsimp only
  unfold sx
  rw [map_set, map_set]
/-- one place of a written list -/
theorem st_putF {i : Nat} {bb : Bool} {os : List O} (n : Nat) (hL : isLst ρ i = true) (h : mArgs [a, mInt b] ρ = .ok [r, .d (.int k)] ρ1 q) (hk : k = (n : Int)) (hr : r.st = some d) (hs : ρ1[i]? = some (.mu bb (.lst os))) (hl : n < os.length) : mPut i b a ρ = .nx (ρ1.set i (.mu bb (.lst (os.set n (.d d))))) := by
  unfold mPut; rw [if_pos hL, h, Res.stm_ok]; dsimp only; rw [hr]; dsimp only
  unfold putAt; rw [hs]; dsimp only
  subst hk
  rw [ixN_pos _ _ hl]
/-! ## what a loop walks -/
def rng (n : Int) : List Int := (List.range n.toNat).map fun (k : Nat) => (k : Int)
def rng2 (i j : Int) : List Int := (List.range (j - i).toNat).map fun (k : Nat) => i + (k : Int)
theorem e_it {ds : List D} (h : a ρ = .ok r ρ1 q) (hi : r.its = some ds) : mIt a ρ = .ok ds ρ1 q := by unfold mIt; rw [h, Res.bind_ok, hi]
theorem its_O : (R.own (O.l (List.map e xs))).its = some (List.map e xs) := R.its_o _
theorem e_rg1 (h : a ρ = .ok (.d (.int j)) ρ1 q) (hj : -1000000 ≤ j ∧ j ≤ 1000000) : mRg1 a ρ = .ok (List.map D.int (rng j)) ρ1 q := by
  unfold mRg1; rw [h, Res.bind_ok]; dsimp only; rw [if_pos (rgOk_of hj.1 hj.2)]
  unfold rng; rw [List.map_map]; rfl
theorem e_rg2 (ha : a ρ = .ok (.d (.int i)) ρ1 q1) (hb : b ρ1 = .ok (.d (.int j)) ρ2 q2) (hi : -1000000 ≤ i ∧ i ≤ 1000000) (hj : -1000000 ≤ j ∧ j ≤ 1000000) : mRg2 a b ρ = .ok (List.map D.int (rng2 i j)) ρ2 (q1 && q2) := by
  unfold mRg2; rw [e_args ha (e_args hb e_args0 (by simp)) rfl, Res.bind_ok]; dsimp only
  rw [rgOk_of hi.1 hi.2, rgOk_of hj.1 hj.2, Bool.and_self, if_pos rfl, Bool.and_true]
  unfold rng2; rw [List.map_map]; rfl
def enumL : Nat → List α → List (Int × α)
  | _, [] => []
  | k, d :: ds => ((k : Int), d) :: enumL (k + 1) ds
def eEn (e : α → D) : Int × α → D := fun p => .tup [.int p.1, e p.2]
theorem enumD_map : ∀ (k : Nat) (xs : List α), enumD k (List.map e xs) = List.map (eEn e) (enumL k xs)
  | _, [] => rfl
  | k, x :: xs => by show D.tup [.int k, e x] :: enumD (k + 1) (List.map e xs) = _; rw [enumD_map (k + 1) xs]; rfl
theorem e_en (h : a ρ = .ok (.d (.lst (List.map e xs))) ρ1 q) : mEn a ρ = .ok (List.map (eEn e) (enumL 0 xs)) ρ1 q := by
  unfold mEn; rw [h, Res.bind_ok]; dsimp only; rw [enumD_map]
/-! ## list comprehensions -/
theorem e_lc {it : MI} {t : Tg} {cm : MB} {em : M} {vs : List Nat} {ρw : Ro} {eb : β → D} {tc : α → T Bool} {te : α → T β} (A : α → Ro) (hi : it ρ = .ok (List.map e xs) ρ1 q) (hl : xs.length ≤ 1000000) (hm : noMu ρ1 vs = true) (hw : wipeR ρ1 vs = ρw) (ht : ∀ x, asg t (e x) ρw = some (A x))
    (hw2 : ∀ x, wipeR (A x) vs = ρw) (hu : unwipe ρ1 ρw vs = ρ1) (hc : ∀ x, J (tc x) fun v => cm (A x) = .ok v (A x) true) (he : ∀ x, J (te x) fun v => ∃ r, em (A x) = .ok r (A x) true ∧ r.st = some (eb v)) (hok : (T.lcP tc te xs).ok) :
    mLc it t cm em vs ρ = .ok (.own (O.l (List.map eb (T.lcP tc te xs).val))) ρ1 q := by
  have key : ∀ (xs : List α) (ys : List D), (T.lcP tc te xs).ok → lcGo t cm em vs (List.map e xs) ρw true ys = some (ys ++ List.map eb (T.lcP tc te xs).val, ρw, true) := by
    intro xs
    induction xs with
    | nil => intro ys _; rw [List.map_nil, lcGo_nil]; simp [T.lcP]
    | cons x xs ih =>
      intro ys h
      rw [List.map_cons, lcGo_cons, ht]
      dsimp only
      have h1 := hc x h.1
      have h2 := h.2
      rw [h1]
      dsimp only at h2 ⊢
      unfold T.lcP
      show (if (tc x).val = true then _ else _) = some (ys ++ List.map eb (T.bind (tc x) _).val, ρw, true)
      unfold T.bind
      dsimp only
      by_cases hx : (tc x).val = true
      · rw [if_pos hx] at h2
        rw [if_pos hx, if_pos hx]
        obtain ⟨r, e1, e2⟩ := he x h2.1
        rw [e1]
        dsimp only
        rw [e2]
        dsimp only
        rw [hw2, Bool.and_self, Bool.and_self, ih _ h2.2.1]
        simp
      · rw [if_neg hx] at h2
        rw [if_neg hx, if_neg hx, hw2, Bool.and_self, ih _ h2]
  unfold mLc
  rw [hi, Res.bind_ok]
  rw [List.length_map, lenOk_of hl, hm, Bool.and_self, if_pos rfl, hw, key xs [] hok]
  dsimp only
  rw [hu, List.nil_append, Bool.and_true]
theorem e_lcJ {it : MI} {t : Tg} {cm : MB} {em : M} {vs : List Nat} {ρw : Ro} {eb : β → D} {tc : α → T Bool} {te : α → T β} (A : α → Ro) (hi : it ρ = .ok (List.map e xs) ρ1 q) (hl : xs.length ≤ 1000000) (hm : noMu ρ1 vs = true) (hw : wipeR ρ1 vs = ρw) (ht : ∀ x, asg t (e x) ρw = some (A x))
    (hw2 : ∀ x, wipeR (A x) vs = ρw) (hu : unwipe ρ1 ρw vs = ρ1) (hc : ∀ x, J (tc x) fun v => cm (A x) = .ok v (A x) true) (he : ∀ x, J (te x) fun v => ∃ r, em (A x) = .ok r (A x) true ∧ r.st = some (eb v)) :
    J (T.lcP tc te xs) fun ys => mLc it t cm em vs ρ = .ok (.own (O.l (List.map eb ys))) ρ1 q := fun hok => e_lc A hi hl hm hw ht hw2 hu hc he hok
theorem j_yes {ρ : Ro} : J (T.ret true) fun v => mYes ρ = .ok v ρ true := fun _ => rfl
theorem jj_bind {t1 : T α} {t2 : α → T β} {Φ : α → Prop} {Ψ : β → Prop} (h1 : J t1 Φ) (h2 : ∀ x, Φ x → J (t2 x) Ψ) : J (t1.bind t2) Ψ := fun h => h2 _ (h1 h.1) h.2
theorem jj_req {p : Prop} {t : T α} {Ψ : α → Prop} (h1 : p → J t Ψ) : J (t.req p) Ψ := fun h => h1 h.1 h.2
theorem jj_ret {a : α} {Ψ : α → Prop} (h : Ψ a) : J (T.ret a) Ψ := fun _ => h
/-- elements that change something -/
theorem e_lcS {it : MI} {t : Tg} {em : M} {vs : List Nat} {eb : β → D} {te : σ → α → T (β × σ)} {s0 : σ} {E Ew : σ → Ro} (A : σ → α → Ro) (hi : it ρ = .ok (List.map e xs) ρ1 q) (hl : xs.length ≤ 1000000) (hm : noMu ρ1 vs = true) (hw : wipeR ρ1 vs = Ew s0) (ht : ∀ s x, asg t (e x) (Ew s) = some (A s x))
    (hu : ∀ s, unwipe ρ1 (Ew s) vs = E s) (he : ∀ s x, J (te s x) fun p => ∃ r ρ' q, em (A s x) = .ok r ρ' q ∧ r.st = some (eb p.1) ∧ wipeR ρ' vs = Ew p.2) :
    J (T.lcS te xs s0) fun p => ∃ q, mLc it t mYes em vs ρ = .ok (.own (O.l (List.map eb p.1))) (E p.2) q := by
  intro hok
  have key : ∀ (xs : List α) (s : σ) (ys : List D) (q : Bool), (T.lcS te xs s).ok → ∃ q', lcGo t mYes em vs (List.map e xs) (Ew s) q ys = some (ys ++ List.map eb (T.lcS te xs s).val.1, Ew (T.lcS te xs s).val.2, q') := by
    intro xs
    induction xs with
    | nil => intro s ys q _; rw [List.map_nil, lcGo_nil]; exact ⟨q, by simp [T.lcS]⟩
    | cons x xs ih =>
      intro s ys q h
      rw [List.map_cons, lcGo_cons, ht]
      dsimp only
      obtain ⟨r, ρ', q2, e1, e2, e3⟩ := he s x h.1
      have h2 := h.2.1
      have em : mYes (A s x) = .ok true (A s x) true := rfl
      rw [em]
      dsimp only
      rw [if_pos rfl, e1]
      dsimp only
      rw [e2]
      dsimp only
      rw [e3]
      obtain ⟨q', e4⟩ := ih _ (ys ++ [eb (te s x).val.1]) (q && true && q2) h2
      refine ⟨q', ?_⟩
      rw [e4]
      simp [T.lcS, T.bind, T.ret]
  unfold mLc
  rw [hi, Res.bind_ok]
  obtain ⟨q', e4⟩ := key xs s0 [] true hok
  refine ⟨q && q', ?_⟩
  rw [List.length_map, lenOk_of hl, hm, Bool.and_self, if_pos rfl, hw, e4]
  dsimp only
  rw [hu, List.nil_append]
end
end Mw

set_option Elab.async false
set_option linter.all false
set_option maxRecDepth 100000
set_option autoImplicit false
namespace Mw
open PySem PySem.Spec PyProof.Rows L2
section
variable {ρ ρ1 ρ2 ρ3 : Ro} {a b : M} {q q1 q2 : Bool} {r x y : R} {d : D} {i j k : Int} {α β σ : Type} {e : α → D} {xs ys : List α}
/-! ### lists of lists -/
abbrev OLL (e : α → D) (xss : List (List α)) : O := .lst (xss.map fun xs => O.l (xs.map e))
theorem e_lcO0 {it : MI} {t : Tg} {em : M} {vs : List Nat} {ρw : Ro} {eb : β → D} (A : α → Ro) (hi : it ρ = .ok (List.map e xs) ρ1 q) (hl : xs.length ≤ 1000000) (hm : noMu ρ1 vs = true) (hw : wipeR ρ1 vs = ρw) (ht : ∀ x, asg t (e x) ρw = some (A x))
    (he : ∀ x, em (A x) = .ok (.own (O.l [])) (A x) true) : mLcO it t em vs ρ = .ok (.own (OLL eb (xs.map fun _ => []))) ρ1 q := by
  have key : ∀ (xs : List α) (os : List O), lcGoO t em ρw (List.map e xs) os = some (os ++ (xs.map fun _ => O.l [])) := by
    intro xs
    induction xs with
    | nil => intro os; simp [lcGoO]
    | cons x xs ih =>
      intro os
      rw [List.map_cons]
      unfold lcGoO
      rw [ht]
      dsimp only
      rw [he]
      dsimp only [R.oo]
      rw [ih]
      simp
  unfold mLcO
  rw [hi, Res.bind_ok, List.length_map, lenOk_of hl, hm, Bool.and_self, if_pos rfl, hw, key]
  dsimp only
  rw [List.nil_append]
  simp [OLL, Function.comp_def]
theorem e_ixN {xss : List (List α)} (ha : a ρ = .ok (.pk (OLL e xss)) ρ1 q1) (hb : b ρ1 = .ok (.d (.int i)) ρ2 q2) (hq : q2 = true) (h : 0 ≤ i ∧ i < xss.length) : m2 lIx a b ρ = .ok (.pk (O.l (List.map e (ix xss i)))) ρ2 (q1 && q2) := e_m2 ha hb (by rw [hq]; rfl) (by
  show (L2.atI (xss.map fun xs => O.l (xs.map e)) i).map O.r = _
  rw [atI_map, atI_ix h]; rfl)
theorem fzv_d : (R.d d).fzv = some d := rfl
theorem fzv_pk {ds : List D} : (R.pk (O.l ds)).fzv = some (.lst ds) := by
  show (if (O.lst (ds.map O.d)).fz = true then some ((O.lst (ds.map O.d)).toD) else none) = _
  rw [show (O.lst (ds.map O.d)).fz = true from fzs_d ds, if_pos rfl, show (O.lst (ds.map O.d)).toD = .lst ds from congrArg D.lst (toDs_d ds)]
theorem fzv_own {ds : List D} : (R.own (O.l ds)).fzv = some (.lst ds) := by
  show (if (O.lst (ds.map O.d)).fz = true then some ((O.lst (ds.map O.d)).toD) else none) = _
  rw [show (O.lst (ds.map O.d)).fz = true from fzs_d ds, if_pos rfl, show (O.lst (ds.map O.d)).toD = .lst ds from congrArg D.lst (toDs_d ds)]
theorem e_fzvs0 : fzvs [] = some [] := rfl
theorem e_fzvs {rs : List R} {ds : List D} (h : r.fzv = some d) (t : fzvs rs = some ds) : fzvs (r :: rs) = some (d :: ds) := by unfold fzvs; rw [h, t]
theorem e_callP {f : Fn} {ms : List M} {rs : List R} {ds : List D} {as' : List Slo} (h : mArgs ms ρ = .ok rs ρ1 q) (hz : fzvs rs = some ds) (hf : f (ds.map Slo.shr) = .ok (.d d) as') (hx : d.atm = true) : mCallP f ms ρ = .ok (.d d) ρ1 q := by
  unfold mCallP; rw [h, Res.bind_ok, hz]; dsimp only; rw [hf]; dsimp only; rw [if_pos hx]
theorem e_app2 {i : Nat} {bb : Bool} {z : α} {xss : List (List α)} (hL : isLst ρ i = true) (hb : b ρ = .ok (.d (.int k)) ρ1 q1) (hq1 : q1 = true) (hs1 : ρ1[i]? = some (.mu bb (OLL e xss))) (h : a ρ1 = .ok r ρ2 q2) (hq2 : q2 = true) (hr : r.st = some (e z))
    (hs2 : ρ2[i]? = some (.mu bb (OLL e xss))) (hl : 0 ≤ k ∧ k < xss.length) (hl2 : (ix xss k).length < 1000000) : mApp2 i b a ρ = .ok (.d .non) (ρ2.set i (.mu bb (OLL e (sx xss k (ix xss k ++ [z]))))) false := by
  subst hq1; subst hq2
  have hix : L2.ixN xss.length k = some k.toNat := by unfold L2.ixN; rw [if_pos hl.1, if_pos (by omega)]
  have hg : xss[k.toNat]? = some (ix xss k) := by
    unfold ix
    rw [List.getD_eq_getElem?_getD, List.getElem?_eq_getElem (by omega)]; rfl
  have hin : inLst ρ1 i k = true := by
    unfold inLst; rw [hs1]; dsimp only
    rw [atI_map, atI_ix hl]; rfl
  unfold mApp2
  rw [if_pos hL, e_mInt hb, Res.bind_ok]
  dsimp only
  rw [hin, Bool.and_self, if_pos rfl, h, Res.bind_ok]
  rw [hr]
  dsimp only
  rw [if_pos rfl]
  unfold pushAt2
  rw [hs2]
  dsimp only
  rw [List.length_map, hix]
  dsimp only
  rw [List.getElem?_map, hg]
  simp only [Option.map_some]
  rw [List.length_map, List.length_map, if_pos (lenOk_of (by omega))]
  have : (xss.map fun xs => O.l (xs.map e)).set k.toNat (.lst (((ix xss k).map e).map O.d ++ [.d (e z)])) = (sx xss k (ix xss k ++ [z])).map fun xs => O.l (xs.map e) := by
    unfold sx
    rw [← map_set]
    rw [List.map_append]
    show _ = List.set _ _ (O.lst ((List.map e (ix xss k) ++ [e z]).map O.d))
    rw [List.map_append]
    rfl
  rw [this]
theorem e_fz_N {i : Nat} {xss : List (List α)} (h : ρ[i]? = some (.mu false (OLL e xss))) : fz i ρ = .ok (.d (.lst (xss.map fun xs => .lst (xs.map e)))) (ρ.set i (.shr (.lst (xss.map fun xs => .lst (xs.map e))))) false := by
  have k1 : ∀ xss : List (List α), fzs (xss.map fun xs => O.l (xs.map e)) = true := by
    intro xss
    induction xss with
    | nil => rfl
    | cons x xss ih => show (fzs ((x.map e).map O.d) && fzs (xss.map fun xs => O.l (xs.map e))) = true; rw [fzs_d, ih]; rfl
  have k2 : ∀ xss : List (List α), toDs (xss.map fun xs => O.l (xs.map e)) = xss.map fun xs => .lst (xs.map e) := by
    intro xss
    induction xss with
    | nil => rfl
    | cons x xss ih => show D.lst (toDs ((x.map e).map O.d)) :: toDs (xss.map fun xs => O.l (xs.map e)) = _; rw [toDs_d, ih]; rfl
  unfold fz; rw [h]
  show (if fzs (xss.map fun xs => O.l (xs.map e)) = true then Res.ok (R.d (.lst (toDs (xss.map fun xs => O.l (xs.map e))))) (ρ.set i (.shr (.lst (toDs (xss.map fun xs => O.l (xs.map e)))))) false else Res.no) = _
  rw [k1, if_pos rfl, k2]
end
end Mw

set_option Elab.async false
set_option linter.all false
set_option maxRecDepth 100000
set_option autoImplicit false
namespace Mw
open PySem PySem.Spec PyProof.Rows L2
section
variable {ρ ρ1 ρ2 ρ3 : Ro} {a b : M} {q q1 q2 : Bool} {r x y : R} {d : D} {i j k : Int} {α β σ : Type} {e : β → D} {kv : List ((Int × Int) × β)}
/-! ### dicts with pairs as keys -/
abbrev PDt (e : β → D) (kv : List ((Int × Int) × β)) : O := pdO (kv.map fun p => (p.1, e p.2))
def dat [Inhabited β] {κ : Type} [DecidableEq κ] (kv : List (κ × β)) (k : κ) : β := (tget kv k).getD default
theorem tget_map {κ : Type} [DecidableEq κ] (e : β → D) (k : κ) : ∀ kv : List (κ × β), tget (kv.map fun p => (p.1, e p.2)) k = (tget kv k).map e
  | [] => rfl
  | p :: kv => by
    have ih := tget_map e k kv
    unfold tget at ih ⊢
    rw [List.map_cons, List.find?_cons, List.find?_cons]
    by_cases c : p.1 = k
    · simp [c]
    · simp [c]; simpa using ih
theorem tput_map {κ : Type} [DecidableEq κ] (e : β → D) (k : κ) (z : β) (kv : List (κ × β)) : tput (kv.map fun p => (p.1, e p.2)) k (e z) = (tput kv k z).map fun p => (p.1, e p.2) := by
  unfold tput
  rw [List.any_map]
  have : ((fun p : κ × D => decide (p.1 = k)) ∘ fun p : κ × β => (p.1, e p.2)) = fun p => decide (p.1 = k) := rfl
  rw [this]
  split
  · rw [List.map_map, List.map_map]
    refine List.map_congr_left fun p _ => ?_
    show (if p.1 = k then (p.1, e z) else (p.1, e p.2)) = (fun p : κ × β => (p.1, e p.2)) (if p.1 = k then (p.1, z) else p)
    split <;> rfl
  · rw [List.map_append]; rfl
theorem tget_pd {kv : List ((Int × Int) × β)} {k : Int × Int} [Inhabited β] (h : (tget kv k).isSome = true) : tget (kv.map fun p => (p.1, e p.2)) k = some (e (dat kv k)) := by
  rw [tget_map]
  unfold dat
  cases q : tget kv k with
  | none => rw [q] at h; cases h
  | some x => rfl
theorem e_dnew : mDNew ρ = .ok (.own (PDt e [])) ρ true := rfl
theorem e_dget [Inhabited β] (ha : a ρ = .ok (.pk (PDt e kv)) ρ1 q1) (hb : b ρ1 = .ok (.d (.tup [.int i, .int j])) ρ2 q2) (hq : q2 = true) (h : (tget kv (i, j)).isSome = true) : m2 lDGet a b ρ = .ok (.d (e (dat kv (i, j)))) ρ2 (q1 && q2) := e_m2 ha hb (by rw [hq]; rfl) (by
  unfold lDGet
  dsimp only
  rw [pd_pdO]
  show (match some (kv.map fun p => (p.1, e p.2)), prK (k2 (i, j)) with
    | some kv, some k => (tget kv k).map R.d
    | _, _ => none) = _
  rw [prK_k2]
  dsimp only
  rw [tget_pd h]; rfl)
theorem st_dput {i : Nat} {bb : Bool} {z : β} {u w : Int} (hL : isMu ρ i = true) (h : mArgs [a, b] ρ = .ok [r, .d (.tup [.int u, .int w])] ρ1 q) (hr : r.st = some (e z)) (hs : ρ1[i]? = some (.mu bb (PDt e kv))) (hl : kv.length < 1000000) : mDPut i b a ρ = .nx (ρ1.set i (.mu bb (PDt e (tput kv (u, w) z)))) := by
  unfold mDPut; rw [if_pos hL, h, Res.stm_ok]; dsimp only; rw [hr]
  show (match some (e z), prK (k2 (u, w)) with
    | some x, some k => match dputAt ρ1 i k x with
      | some ρ2 => SRes.nx ρ2
      | none => .no
    | _, _ => .no) = _
  rw [prK_k2]; dsimp only
  unfold dputAt; rw [hs]; dsimp only
  rw [pd_pdO]; dsimp only
  rw [List.length_map, if_pos (lenOk_of (by omega)), tput_map]
theorem e_sortD (ha : a ρ = .ok (.pk (PDt e kv)) ρ1 q1) (h : kv.length ≤ 1000000) : m1 lSrtD a ρ = .ok (.own (O.l (List.map k2 (srtP (kv.map (·.1)))))) ρ1 q1 := e_m1 ha (by
  unfold lSrtD
  dsimp only
  rw [pd_pdO]
  dsimp only
  rw [List.length_map, if_pos (lenOk_of h), List.map_map]
  rfl)
end
end Mw

set_option Elab.async false
set_option linter.all false
set_option maxRecDepth 100000
set_option autoImplicit false
namespace Mw
open PySem PySem.Spec PyProof.Rows L2 Mw
noncomputable section
def lb__law_same_1 (fr__law_same : Fn) : MS := (mIf (mNot (mTest (mCall fr__law_same [.v (m2 lIx (nm 0) (nm 2)), .v (m2 lIx (nm 1) (nm 2))]))) (mRt (mC (.bl false))) mNx)
def b__law_same (fr__law_same : Fn) : MS := (mSeq (mIf (mOr (mTest (m1 (lIsi "list") (nm 1))) (mTest (m1 (lIsi "tuple") (nm 1)))) (mSeq (mIf (mOr (mTest (m2 lNe (m1 (lIsi "list") (nm 1)) (m1 (lIsi "list") (nm 0)))) (mTest (m2 lNe (m1 (lIsi "tuple") (nm 1)) (m1 (lIsi "tuple") (nm 0))))) (mRt (mC (.bl false))) mNx)
    (mSeq (mIf (mTest (m2 lNe (m1 lLen (nm 0)) (m1 lLen (nm 1)))) (mRt (mC (.bl false))) mNx)
    (mSeq (mFor (mRg1 (m1 lLen (nm 1))) (.nm 2) (lb__law_same_1 fr__law_same))
    (mRt (mC (.bl true)))))) mNx)
    (mSeq (mIf (mTest (m2 lIsN (nm 1) (mC .non))) (mRt (m2 lIsN (nm 0) (mC .non))) mNx)
    (mSeq (mIf (mTest (m1 (lIsi "bool") (nm 1))) (mRt (mAndV (m1 (lIsi "bool") (nm 0)) (m2 lEq (nm 0) (nm 1)))) mNx)
    (mSeq (mIf (mTest (m1 (lIsi "str") (nm 1))) (mRt (mAndV (m1 (lIsi "str") (nm 0)) (m2 lEq (nm 0) (nm 1)))) mNx)
    (mRt (mAndV (m1 (lIsi "int") (nm 0)) (mAndV (m1 lNot (m1 (lIsi "bool") (nm 0))) (m2 lEq (nm 0) (nm 1)))))))))
def k__law_same : Nat → Fn
  | 0 => fun _ => .no
  | k + 1 => mkFn 3 (b__law_same (k__law_same k))
def f__law_same : Fn := hide (k__law_same 60)
theorem f__law_same_eq : f__law_same = k__law_same 60 := hide_eq _

def b__law_cell : MS := (mSeq (mIf (mTest (m2 lLt (nm 1) (m1 lLen (nm 0)))) (mRt (m2 lIx (nm 0) (nm 1))) mNx)
    (mRt (mC (.int 0))))
def f__law_cell : Fn := hide (mkFn 2 b__law_cell)
theorem f__law_cell_eq : f__law_cell = mkFn 2 b__law_cell := hide_eq _

def lb__law_digits_1 : MS := (mIf (mTest (m2 lGt (nm 5) (mC (.int 0)))) (mSeq (mKl [6] (mDrop (mApp 3 (m2 lMod (m1 lInt1 (nm 5)) (mC (.int 1000))))))
    (mSet 5 (m2 lDiv (nm 5) (mC (.int 1000))))) (mKl [6] mNx))
def lb__law_digits_2 : MS := (mSeq (mKl [6] (mSet 7 (m2 lMod (m1 lInt1 (m2 lAdd (m2 lAdd (m2 lMul (nm 7) (mC (.int 16807))) (m2 lMul (mC (.int 7)) (nm 6))) (mC (.int 1)))) (mC (.int 2147483647)))))
    (mDrop (mApp 3 (m2 lMod (m1 lInt1 (m2 lDiv (nm 7) (mC (.int 997)))) (mC (.int 1000))))))
def lb__law_digits_3 : MS := (mSeq (mSet 5 (mCall f__law_cell [.v (fz 0), .v (fz 4)]))
    (mSeq (mIf (mTest (m2 lLt (nm 5) (mC (.int 0)))) (mSet 5 (m2 lSub (mC (.int 1)) (m2 lMul (mC (.int 2)) (nm 5)))) mNx)
    (mIf (mTest (m2 lGe (nm 5) (m2 lPow (mC (.int 10)) (mC (.int 18))))) (mKl [4, 5] (mFor (mRg1 (mC (.int 60))) (.nm 6) lb__law_digits_1)) (mSeq (mKl [4, 5] (mSet 7 (m2 lMod (m1 lInt1 (m2 lAdd (m2 lAdd (m2 lMul (nm 5) (mC (.int 48271))) (m2 lMul (nm 4) (mC (.int 69621)))) (mC (.int 11)))) (mC (.int 2147483647)))))
    (mKl [7] (mFor (mRg1 (mC (.int 12))) (.nm 6) lb__law_digits_2))))))
def b__law_digits : MS := (mSeq (mSet 3 (mLst []))
    (mSeq (mKl [0, 1, 2] (mFor (mRg2 (nm 1) (nm 2)) (.nm 4) lb__law_digits_3))
    (mRt (mv 3))))
def f__law_digits : Fn := hide (mkFn 8 b__law_digits)
theorem f__law_digits_eq : f__law_digits = mkFn 8 b__law_digits := hide_eq _

def b__law_draw : MS := (mSeq (mSet 2 (m2 lIx (nm 0) (mC (.int 1))))
    (mSeq (mPut 0 (mC (.int 1)) (m2 lAdd (nm 2) (mC (.int 1))))
    (mSeq (mIf (mTest (m2 lLt (nm 2) (m1 lLen (m2 lIx (nm 0) (mC (.int 0)))))) (mRt (m2 lMod (m1 lInt1 (m2 lIx (m2 lIx (nm 0) (mC (.int 0))) (nm 2))) (nm 1))) mNx)
    (mRt (mC (.int 0))))))
def f__law_draw : Fn := hide (mkFn 3 b__law_draw)
theorem f__law_draw_eq : f__law_draw = mkFn 3 b__law_draw := hide_eq _

def lb__law_run_1 : MS := (mKl [4] (mSet 3 (m2 lAdd (nm 3) (m2 lIx (fz 2) (mCall f__law_draw [.b 0, .v (m1 lLen (nm 2))])))))
def b__law_run : MS := (mSeq (mSet 3 (mC (.str [])))
    (mSeq (mKl [1, 2] (mFor (mRg1 (nm 1)) (.nm 4) lb__law_run_1))
    (mRt (mv 3))))
def f__law_run : Fn := hide (mkFn 5 b__law_run)
theorem f__law_run_eq : f__law_run = mkFn 5 b__law_run := hide_eq _

def lb__law_name_1 : MS := (mIf (mTest (m2 lIn (nm 2) (nm 1))) (mKl [3] (mSet 2 (m2 lAdd (mSl (nm 2) none (some (mC (.int 11)))) (m2 lIx (mC (.str [97, 98, 99, 100, 101, 102, 103, 104, 105])) (nm 3))))) (mKl [3] mNx))
def b__law_name : MS := (mSeq (mSet 2 (m2 lIx (mLst [(mC (.str [119, 104, 101, 101, 108])), (mC (.str [102, 114, 97, 109, 101])), (mC (.str [98, 105, 99, 121, 99, 108, 101])), (mC (.str [100, 97, 121, 115])), (mC (.str [121, 105, 101, 108, 100, 115])), (mC (.str [97])), (mC (.str [98])), (mC (.str [115, 112, 111, 107, 101]))]) (mCall f__law_draw [.b 0, .v (mC (.int 8))])))
    (mSeq (mIf (mTest (m2 lEq (mCall f__law_draw [.b 0, .v (mC (.int 2))]) (mC (.int 0)))) (mSet 2 (mCall f__law_run [.b 0, .v (m2 lAdd (mC (.int 1)) (mCall f__law_draw [.b 0, .v (m2 lIx (mLst [(mC (.int 3)), (mC (.int 9))]) (mCall f__law_draw [.b 0, .v (mC (.int 2))]))])), .v (mC (.str [97, 98, 99, 100, 101, 102, 103, 104, 105, 106, 107, 108, 109, 110, 111, 112, 113, 114, 115, 116, 117, 118, 119, 120, 121, 122]))])) mNx)
    (mSeq (mFor (mRg1 (mC (.int 9))) (.nm 3) lb__law_name_1)
    (mRt (mv 2)))))
def f__law_name : Fn := hide (mkFn 4 b__law_name)
theorem f__law_name_eq : f__law_name = mkFn 4 b__law_name := hide_eq _

def lb__law_bill_1 : MS := (mKl [4] (mDrop (mApp 3 (mCall f__law_name [.b 0, .b 3]))))
def lb__law_bill_2 : MS := (mSeq (mSet 6 (mCall f__law_draw [.b 0, .v (m2 lAdd (m1 lLen (nm 5)) (mC (.int 1)))]))
    (mKl [4, 6] (mSet 5 (m2 lAdd (m2 lAdd (mSl (nm 5) none (some (nm 6))) (mLst [(fz 4)])) (mSl (nm 5) (some (nm 6)) none)))))
def lb__law_bill_3 : MS := (mIf (mTest (m2 lGt (m1 lLen (nm 8)) (mC (.int 0)))) (mSeq (mKl [10] (mSet 11 (m2 lAdd (mC (.int 1)) (mCall f__law_draw [.b 0, .v (mC (.int 3))]))))
    (mSeq (mIf (mTest (m2 lEq (mCall f__law_draw [.b 0, .v (mC (.int 9))]) (mC (.int 0)))) (mSet 11 (mC (.int 20))) mNx)
    (mKl [11] (mDrop (mApp 9 (mTup [(m2 lIx (fz 8) (mCall f__law_draw [.b 0, .v (m1 lLen (nm 8))])), (fz 11)])))))) (mKl [10] mNx))
def lb__law_bill_4 : MS := (mSeq (mSet 8 (mSl (nm 5) none (some (mIndex (nm 5) (nm 4)))))
    (mSeq (mSet 9 (mLst []))
    (mFz 8 (mSeq (mKl [8] (mFor (mRg1 (mCall f__law_draw [.b 0, .v (mC (.int 5))])) (.nm 10) lb__law_bill_3))
    (mSeq (mSet 12 (m2 lIx (mLst [(mCall f__law_draw [.b 0, .v (mC (.int 5))]), (mCall f__law_draw [.b 0, .v (mC (.int 11))])]) (m2 lDiv (mCall f__law_draw [.b 0, .v (mC (.int 5))]) (mC (.int 4)))))
    (mSeq (mSet 13 (m2 lIx (mLst [(m2 lAdd (mC (.int 1)) (mCall f__law_draw [.b 0, .v (mC (.int 6))])), (m2 lAdd (mC (.int 1)) (mCall f__law_draw [.b 0, .v (mC (.int 50))]))]) (m2 lDiv (mCall f__law_draw [.b 0, .v (mC (.int 5))]) (mC (.int 4)))))
    (mKl [4, 9, 12, 13] (mDrop (mApp 7 (mTup [(m2 lIx (nm 3) (nm 4)), (m1 lTuple (nm 9)), (fz 12), (fz 13), (m2 lAdd (mC (.int 1)) (mCall f__law_draw [.b 0, .v (fz 13)]))]))))))))))
def b__law_bill : MS := (mSeq (mKl [1] (mSet 2 (m2 lAdd (mC (.int 1)) (mCall f__law_draw [.b 0, .v (fz 1)]))))
    (mSeq (mSet 3 (mLst []))
    (mSeq (mFor (mRg1 (nm 2)) (.nm 4) lb__law_bill_1)
    (mSeq (mSet 5 (mLst []))
    (mSeq (mFor (mRg1 (nm 2)) (.nm 4) lb__law_bill_2)
    (mSeq (mSet 7 (mLst []))
    (mSeq (mKl [2, 3, 5] (mFor (mRg1 (nm 2)) (.nm 4) lb__law_bill_4))
    (mRt (m1 lTuple (nm 7))))))))))
def f__law_bill : Fn := hide (mkFn 14 b__law_bill)
theorem f__law_bill_eq : f__law_bill = mkFn 14 b__law_bill := hide_eq _

def lf__law_users_1 : MB := (mTest (m2 lEq (m2 lIx (nm 5) (mC (.int 0))) (nm 1)))
def le__law_users_2 : M := (m2 lIx (nm 5) (mC (.int 1)))
def lb__law_users_3 : MS := (mSeq (mSet 4 (m1 lSum (mLc (mIt (m2 lIx (m2 lIx (nm 0) (nm 3)) (mC (.int 1)))) (.nm 5) lf__law_users_1 le__law_users_2 [5])))
    (mIf (mTest (m2 lGt (nm 4) (mC (.int 0)))) (mKl [3, 4] (mDrop (mApp 2 (mTup [(fz 3), (fz 4)])))) (mKl [3, 4] mNx)))
def b__law_users : MS := (mSeq (mSet 2 (mLst []))
    (mSeq (mKl [0, 1] (mFor (mRg1 (m1 lLen (nm 0))) (.nm 3) lb__law_users_3))
    (mRt (mv 2))))
def f__law_users : Fn := hide (mkFn 6 b__law_users)
theorem f__law_users_eq : f__law_users = mkFn 6 b__law_users := hide_eq _

def lf__law_first_1 : MB := (mTest (m2 lNotIn (m2 lIx (nm 5) (mC (.int 0))) (nm 1)))
def le__law_first_2 : M := (fz 5)
def lb__law_first_3 : MS := (mSeq (mSet 4 (mLc (mIt (mCall f__law_users [.v (fz 0), .v (fz 3)])) (.nm 5) lf__law_first_1 le__law_first_2 [5]))
    (mIf (mAnd (mTest (m2 lNotIn (nm 3) (nm 1))) (mTest (m2 lEq (m1 lLen (nm 4)) (mC (.int 0))))) (mSeq (mKl [3, 4] (mDrop (mApp 1 (fz 3))))
    (mKl [] mBk)) (mKl [3, 4] mNx)))
def lb__law_first_4 : MS := (mKl [2] (mFor (mRg1 (m1 lLen (nm 0))) (.nm 3) lb__law_first_3))
def b__law_first : MS := (mSeq (mSet 1 (mLst []))
    (mSeq (mKl [0] (mFor (mRg1 (m1 lLen (nm 0))) (.nm 2) lb__law_first_4))
    (mRt (mv 1))))
def f__law_first : Fn := hide (mkFn 6 b__law_first)
theorem f__law_first_eq : f__law_first = mkFn 6 b__law_first := hide_eq _

def lf_quantity_in_1 : MB := (mTest (m2 lEq (nm 3) (nm 2)))
def le_quantity_in_2 : M := (fz 4)
def b_quantity_in : MS := (mRt (m1 lSum (mLc (mIt (m2 lIx (m2 lIx (nm 0) (nm 1)) (mC (.int 1)))) (.tup [(.nm 3), (.nm 4)]) lf_quantity_in_1 le_quantity_in_2 [3, 4])))
def f_quantity_in : Fn := hide (mkFn 5 b_quantity_in)
theorem f_quantity_in_eq : f_quantity_in = mkFn 5 b_quantity_in := hide_eq _

def lb_used_by_1 : MS := (mSeq (mSet 4 (mCall f_quantity_in [.v (fz 0), .v (fz 3), .v (fz 1)]))
    (mIf (mTest (m2 lGt (nm 4) (mC (.int 0)))) (mKl [3, 4] (mDrop (mApp 2 (mTup [(fz 3), (fz 4)])))) (mKl [3, 4] mNx)))
def b_used_by : MS := (mSeq (mSet 2 (mLst []))
    (mSeq (mKl [0, 1] (mFor (mRg1 (m1 lLen (nm 0))) (.nm 3) lb_used_by_1))
    (mRt (mv 2))))
def f_used_by : Fn := hide (mkFn 5 b_used_by)
theorem f_used_by_eq : f_used_by = mkFn 5 b_used_by := hide_eq _

def lc_parents_first_1 : MB := (mTest (m2 lLt (m1 lLen (nm 1)) (m1 lLen (nm 0))))
def le_parents_first_2 : M := (m2 lIn (m2 lIx (nm 3) (mC (.int 0))) (nm 1))
def lb_parents_first_3 : MS := (mIf (mAnd (mTest (m2 lNotIn (nm 2) (nm 1))) (mTest (m1 lAll (mLc (mIt (mCall f_used_by [.v (fz 0), .v (fz 2)])) (.nm 3) mYes le_parents_first_2 [3])))) (mSeq (mKl [2] (mDrop (mApp 1 (fz 2))))
    (mKl [] mBk)) (mKl [2] mNx))
def lb_parents_first_4 : MS := (mFor (mRg1 (m1 lLen (nm 0))) (.nm 2) lb_parents_first_3)
def b_parents_first : MS := (mSeq (mSet 1 (mLst []))
    (mSeq (mKl [0] (mWhile lc_parents_first_1 lb_parents_first_4))
    (mRt (m1 lTuple (nm 1)))))
def f_parents_first : Fn := hide (mkFn 4 b_parents_first)
theorem f_parents_first_eq : f_parents_first = mkFn 4 b_parents_first := hide_eq _

def le__law_books_1 : M := (m2 lMul (mCall f__law_draw [.b 0, .v (mC (.int 30))]) (mCall f__law_draw [.b 0, .v (mC (.int 2))]))
def lb__law_books_2 : MS := (mKl [5] (mDrop (mApp 4 (mTup [(mCall f__law_draw [.b 0, .v (m1 lLen (nm 1))]), (m2 lAdd (nm 2) (mCall f__law_draw [.b 0, .v (mC (.int 25))])), (m2 lAdd (mC (.int 1)) (mCall f__law_draw [.b 0, .v (mC (.int 30))]))]))))
def lb__law_books_3 : MS := (mSeq (mKl [5] (mSet 7 (m2 lAdd (m2 lAdd (nm 7) (mC (.int 1))) (mCall f__law_draw [.b 0, .v (mC (.int 9))]))))
    (mDrop (mApp 6 (mTup [(fz 7), (mCall f__law_draw [.b 0, .v (m1 lLen (nm 1))]), (m2 lAdd (mC (.int 1)) (mCall f__law_draw [.b 0, .v (mC (.int 20))])), (m2 lAdd (nm 2) (mCall f__law_draw [.b 0, .v (mC (.int 30))]))]))))
def b__law_books : MS := (mSeq (mSet 2 (m2 lIx (mLst [(mCall f__law_draw [.b 0, .v (mC (.int 12))]), (mC (.int 0)), (mC (.int 150))]) (m2 lDiv (mCall f__law_draw [.b 0, .v (mC (.int 7))]) (mC (.int 3)))))
    (mSeq (mSet 3 (m1 lTuple (mLc (mIt (fz 1)) (.nm 8) mYes le__law_books_1 [8])))
    (mSeq (mSet 4 (mLst []))
    (mSeq (mFor (mRg1 (mCall f__law_draw [.b 0, .v (mC (.int 5))])) (.nm 5) lb__law_books_2)
    (mSeq (mSet 6 (mLst []))
    (mSeq (mSet 7 (mC (.int 0)))
    (mSeq (mKl [1, 7] (mFor (mRg1 (mCall f__law_draw [.b 0, .v (mC (.int 5))])) (.nm 5) lb__law_books_3))
    (mRt (mTup [(fz 2), (fz 3), (m1 lTuple (nm 4)), (m1 lTuple (nm 6))])))))))))
def f__law_books : Fn := hide (mkFn 9 b__law_books)
theorem f__law_books_eq : f__law_books = mkFn 9 b__law_books := hide_eq _

def lf__days_of_1 : MB := (mTest (m2 lEq (m2 lIx (nm 7) (mC (.int 1))) (nm 3)))
def le__days_of_2 : M := (m2 lIx (nm 7) (mC (.int 3)))
def le__days_of_3 : M := (m2 lIx (nm 8) (mC (.int 0)))
def lb__days_of_4 : MS := (mKl [5, 6] (mDrop (mExt 4 (mLc (mIt (m2 lIx (nm 2) (nm 5))) (.nm 8) mYes le__days_of_3 [8]))))
def b__days_of : MS := (mSeq (mKl [1] (mSet 4 (mLc (mIt (m2 lIx (nm 1) (mC (.int 3)))) (.nm 7) lf__days_of_1 le__days_of_2 [7])))
    (mSeq (mKl [0, 3] (mFor (mIt (mCall f_used_by [.v (fz 0), .v (fz 3)])) (.tup [(.nm 5), (.nm 6)]) lb__days_of_4))
    (mRt (m1 lSrtI (nm 4)))))
def f__days_of : Fn := hide (mkFn 9 b__days_of)
theorem f__days_of_eq : f__days_of = mkFn 9 b__days_of := hide_eq _

def lf_ordered_1 : MB := (mAnd (mTest (m2 lEq (m2 lIx (nm 3) (mC (.int 1))) (nm 1))) (mTest (m2 lLe (m2 lIx (nm 3) (mC (.int 3))) (nm 2))))
def le_ordered_2 : M := (m2 lIx (nm 3) (mC (.int 2)))
def b_ordered : MS := (mRt (m1 lSum (mLc (mIt (m2 lIx (nm 0) (mC (.int 3)))) (.nm 3) lf_ordered_1 le_ordered_2 [3])))
def f_ordered : Fn := hide (mkFn 4 b_ordered)
theorem f_ordered_eq : f_ordered = mkFn 4 b_ordered := hide_eq _

def lb__lots_at_1 : MS := (mIf (mTest (m2 lLe (nm 3) (nm 1))) (mKl [3, 4] (mSet 2 (fz 4))) (mKl [3, 4] mNx))
def b__lots_at : MS := (mSeq (mSet 2 (mC (.int 0)))
    (mSeq (mKl [0, 1] (mFor (mIt (fz 0)) (.tup [(.nm 3), (.nm 4)]) lb__lots_at_1))
    (mRt (mv 2))))
def f__lots_at : Fn := hide (mkFn 5 b__lots_at)
theorem f__lots_at_eq : f__lots_at = mkFn 5 b__lots_at := hide_eq _

def lb__taken_1 : MS := (mKl [6, 7] (mAug 5 (m2 lMul (m2 lMul (nm 7) (m2 lIx (m2 lIx (nm 0) (nm 6)) (mC (.int 3)))) (mCall f__lots_at [.v (m2 lIx (nm 2) (nm 6)), .v (fz 4)]))))
def b__taken : MS := (mSeq (mKl [1] (mSet 5 (mCall f_ordered [.v (fz 1), .v (fz 3), .v (fz 4)])))
    (mSeq (mKl [0, 3, 4] (mFor (mIt (mCall f_used_by [.v (fz 0), .v (fz 3)])) (.tup [(.nm 6), (.nm 7)]) lb__taken_1))
    (mRt (mv 5))))
def f__taken : Fn := hide (mkFn 8 b__taken)
theorem f__taken_eq : f__taken = mkFn 8 b__taken := hide_eq _

def lf_supplied_1 : MB := (mAnd (mTest (m2 lEq (m2 lIx (nm 3) (mC (.int 0))) (nm 1))) (mTest (m2 lLe (m2 lIx (nm 3) (mC (.int 1))) (nm 2))))
def le_supplied_2 : M := (m2 lIx (nm 3) (mC (.int 2)))
def b_supplied : MS := (mRt (m2 lAdd (m2 lIx (m2 lIx (nm 0) (mC (.int 1))) (nm 1)) (m1 lSum (mLc (mIt (m2 lIx (nm 0) (mC (.int 2)))) (.nm 3) lf_supplied_1 le_supplied_2 [3]))))
def f_supplied : Fn := hide (mkFn 4 b_supplied)
theorem f_supplied_eq : f_supplied = mkFn 4 b_supplied := hide_eq _

def b_rounded_up : MS := (mRt (m1 lNeg (m2 lDiv (m1 lNeg (nm 0)) (nm 1))))
def f_rounded_up : Fn := hide (mkFn 2 b_rounded_up)
theorem f_rounded_up_eq : f_rounded_up = mkFn 2 b_rounded_up := hide_eq _

def lb_rows_of_1 : MS := (mSeq (mSet 7 (m2 lSub (mCall f__taken [.v (fz 0), .v (fz 1), .b 2, .v (fz 3), .v (fz 6)]) (mCall f_supplied [.v (fz 1), .v (fz 3), .v (fz 6)])))
    (mSeq (mKl [7] (mSet 8 (mCall f_rounded_up [.v (fz 7), .v (m2 lIx (m2 lIx (nm 0) (nm 3)) (mC (.int 4)))])))
    (mIf (mTest (m2 lGt (nm 8) (nm 5))) (mSeq (mKl [8] (mSet 5 (fz 8)))
    (mKl [6] (mDrop (mApp 4 (mTup [(m2 lSub (nm 6) (m2 lIx (m2 lIx (nm 0) (nm 3)) (mC (.int 2)))), (fz 5)]))))) (mKl [6, 8] mNx))))
def b_rows_of : MS := (mSeq (mSet 4 (mLst []))
    (mSeq (mSet 5 (mC (.int 0)))
    (mSeq (mKl [0, 1, 3, 5] (mFor (mIt (mCall f__days_of [.v (fz 0), .v (fz 1), .b 2, .v (fz 3)])) (.nm 6) lb_rows_of_1))
    (mRt (m1 lTuple (nm 4))))))
def f_rows_of : Fn := hide (mkFn 9 b_rows_of)
theorem f_rows_of_eq : f_rows_of = mkFn 9 b_rows_of := hide_eq _

def lb_needed_1 : MS := (mKl [3] (mPut 2 (nm 3) (mCall f_rows_of [.v (fz 0), .v (fz 1), .b 2, .v (fz 3)])))
def b_needed : MS := (mSeq (mSet 2 (m2 lMul (mLst [(mTup [])]) (m1 lLen (nm 0))))
    (mSeq (mKl [0, 1] (mFor (mIt (mCall f_parents_first [.v (fz 0)])) (.nm 3) lb_needed_1))
    (mRt (m1 lTuple (nm 2)))))
def f_needed : Fn := hide (mkFn 4 b_needed)
theorem f_needed_eq : f_needed = mkFn 4 b_needed := hide_eq _

def le_paper_of_1 : M := (mTup [(fz 4), (fz 5), (fz 6)])
def lb_paper_of_2 : MS := (mKl [4] (mDrop (mExt 3 (mLc (mIt (m2 lIx (nm 2) (nm 4))) (.tup [(.nm 5), (.nm 6)]) mYes le_paper_of_1 [5, 6]))))
def b_paper_of : MS := (mSeq (mKl [1] (mSet 2 (mCall f_needed [.v (fz 0), .v (fz 1)])))
    (mSeq (mSet 3 (mLst []))
    (mSeq (mKl [0, 2] (mFor (mIt (mCall f_parents_first [.v (fz 0)])) (.nm 4) lb_paper_of_2))
    (mRt (mv 3)))))
def f_paper_of : Fn := hide (mkFn 7 b_paper_of)
theorem f_paper_of_eq : f_paper_of = mkFn 7 b_paper_of := hide_eq _

def lb__law_ordered_1 : MS := (mIf (mAnd (mTest (m2 lEq (m2 lIx (nm 4) (mC (.int 1))) (nm 1))) (mTest (m2 lLe (m2 lIx (nm 4) (mC (.int 3))) (nm 2)))) (mKl [4] (mSet 3 (m2 lAdd (nm 3) (m2 lIx (nm 4) (mC (.int 2)))))) (mKl [4] mNx))
def b__law_ordered : MS := (mSeq (mSet 3 (mC (.int 0)))
    (mSeq (mKl [0, 1, 2] (mFor (mIt (m2 lIx (nm 0) (mC (.int 3)))) (.nm 4) lb__law_ordered_1))
    (mRt (mv 3))))
def f__law_ordered : Fn := hide (mkFn 5 b__law_ordered)
theorem f__law_ordered_eq : f__law_ordered = mkFn 5 b__law_ordered := hide_eq _

def lb__law_supplied_1 : MS := (mIf (mAnd (mTest (m2 lEq (m2 lIx (nm 4) (mC (.int 0))) (nm 1))) (mTest (m2 lLe (m2 lIx (nm 4) (mC (.int 1))) (nm 2)))) (mKl [4] (mSet 3 (m2 lAdd (nm 3) (m2 lIx (nm 4) (mC (.int 2)))))) (mKl [4] mNx))
def b__law_supplied : MS := (mSeq (mSet 3 (m2 lIx (m2 lIx (nm 0) (mC (.int 1))) (nm 1)))
    (mSeq (mKl [0, 1, 2] (mFor (mIt (m2 lIx (nm 0) (mC (.int 2)))) (.nm 4) lb__law_supplied_1))
    (mRt (mv 3))))
def f__law_supplied : Fn := hide (mkFn 5 b__law_supplied)
theorem f__law_supplied_eq : f__law_supplied = mkFn 5 b__law_supplied := hide_eq _

def lb__law_follows_1 : MS := (mIf (mAnd (mTest (m2 lEq (m2 lIx (nm 8) (mC (.int 0))) (nm 6))) (mTest (m2 lLe (m2 lIx (nm 8) (mC (.int 1))) (nm 4)))) (mKl [8] (mSet 7 (m2 lMax2 (nm 7) (m2 lIx (nm 8) (mC (.int 2)))))) (mKl [8] mNx))
def lb__law_follows_2 : MS := (mIf (mTest (m2 lEq (m2 lIx (nm 9) (mC (.int 0))) (m2 lIx (nm 3) (mC (.int 0))))) (mKl [9] (mSet 5 (m2 lAdd (nm 5) (m2 lMul (m2 lMul (m2 lIx (nm 9) (mC (.int 1))) (m2 lIx (m2 lIx (nm 0) (nm 6)) (mC (.int 3)))) (nm 7))))) (mKl [9] mNx))
def lb__law_follows_3 : MS := (mSeq (mSet 7 (mC (.int 0)))
    (mSeq (mFor (mIt (fz 2)) (.nm 8) lb__law_follows_1)
    (mKl [6, 7] (mFor (mIt (m2 lIx (m2 lIx (nm 0) (nm 6)) (mC (.int 1)))) (.nm 9) lb__law_follows_2))))
def b__law_follows : MS := (mSeq (mSet 4 (m2 lAdd (m2 lIx (nm 3) (mC (.int 1))) (m2 lIx (m2 lIx (nm 0) (m2 lIx (nm 3) (mC (.int 0)))) (mC (.int 2)))))
    (mSeq (mSet 5 (mCall f__law_ordered [.v (fz 1), .v (m2 lIx (nm 3) (mC (.int 0))), .v (fz 4)]))
    (mSeq (mKl [2] (mFor (mRg1 (m1 lLen (nm 0))) (.nm 6) lb__law_follows_3))
    (mRt (m2 lGt (nm 5) (m2 lAdd (mCall f__law_supplied [.v (fz 1), .v (m2 lIx (nm 3) (mC (.int 0))), .v (fz 4)]) (m2 lMul (m2 lSub (m2 lIx (nm 3) (mC (.int 2))) (mC (.int 1))) (m2 lIx (m2 lIx (nm 0) (m2 lIx (nm 3) (mC (.int 0)))) (mC (.int 4))))))))))
def f__law_follows : Fn := hide (mkFn 10 b__law_follows)
theorem f__law_follows_eq : f__law_follows = mkFn 10 b__law_follows := hide_eq _

def lb__law_wrong_1 : MS := (mIf (mNot (mTest (mCall f__law_follows [.v (fz 0), .v (fz 1), .v (mSl (nm 2) none (some (nm 3))), .v (m2 lIx (nm 2) (nm 3))]))) (mRt (mv 3)) (mKl [3] mNx))
def b__law_wrong : MS := (mSeq (mKl [0, 1, 2] (mFor (mRg1 (m1 lLen (nm 2))) (.nm 3) lb__law_wrong_1))
    (mRt (mC .non)))
def f__law_wrong : Fn := hide (mkFn 4 b__law_wrong)
theorem f__law_wrong_eq : f__law_wrong = mkFn 4 b__law_wrong := hide_eq _

def lf__told_1 : MB := (mAnd (mTest (m2 lEq (m2 lIx (nm 3) (mC (.int 0))) (nm 1))) (mTest (m2 lLe (m2 lIx (nm 3) (mC (.int 1))) (nm 2))))
def le__told_2 : M := (m2 lIx (nm 3) (mC (.int 2)))
def b__told : MS := (mRt (m1 lMax (m2 lAdd (mLst [(mC (.int 0))]) (mLc (mIt (fz 0)) (.nm 3) lf__told_1 le__told_2 [3]))))
def f__told : Fn := hide (mkFn 4 b__told)
theorem f__told_eq : f__told = mkFn 4 b__told := hide_eq _

def lb_follows_1 : MS := (mKl [9, 10] (mAug 8 (m2 lMul (m2 lMul (nm 10) (m2 lIx (m2 lIx (nm 0) (nm 9)) (mC (.int 3)))) (mCall f__told [.v (fz 2), .v (fz 9), .v (fz 7)]))))
def b_follows : MS := (mSeq (mKl [3] (mAsg (.tup [(.nm 4), (.nm 5), (.nm 6)]) (fz 3)))
    (mSeq (mKl [5] (mSet 7 (m2 lAdd (nm 5) (m2 lIx (m2 lIx (nm 0) (nm 4)) (mC (.int 2))))))
    (mSeq (mSet 8 (mCall f_ordered [.v (fz 1), .v (fz 4), .v (fz 7)]))
    (mSeq (mKl [2] (mFor (mIt (mCall f_used_by [.v (fz 0), .v (fz 4)])) (.tup [(.nm 9), (.nm 10)]) lb_follows_1))
    (mRt (m2 lGt (nm 8) (m2 lAdd (mCall f_supplied [.v (fz 1), .v (fz 4), .v (fz 7)]) (m2 lMul (m2 lSub (nm 6) (mC (.int 1))) (m2 lIx (m2 lIx (nm 0) (nm 4)) (mC (.int 4)))))))))))
def f_follows : Fn := hide (mkFn 11 b_follows)
theorem f_follows_eq : f_follows = mkFn 11 b_follows := hide_eq _

def lb_first_wrong_1 : MS := (mIf (mNot (mTest (mCall f_follows [.v (fz 0), .v (fz 1), .v (mSl (nm 2) none (some (nm 3))), .v (fz 4)]))) (mRt (mv 3)) (mKl [3, 4] mNx))
def b_first_wrong : MS := (mSeq (mKl [0, 1, 2] (mFor (mEn (fz 2)) (.tup [(.nm 3), (.nm 4)]) lb_first_wrong_1))
    (mRt (mC .non)))
def f_first_wrong : Fn := hide (mkFn 5 b_first_wrong)
theorem f_first_wrong_eq : f_first_wrong = mkFn 5 b_first_wrong := hide_eq _

def le_shows_none_1 : M := (m2 lLt (m2 lIx (nm 3) (mC (.int 1))) (m2 lIx (nm 1) (mC (.int 0))))
def b_shows_none : MS := (mSeq (mIf (mTest (m2 lNotN (mCall f_first_wrong [.v (fz 0), .v (fz 1), .v (fz 2)]) (mC .non))) (mRt (mC (.bl false))) mNx)
    (mRt (m1 lAny (mLc (mIt (fz 2)) (.nm 3) mYes le_shows_none_1 [3]))))
def f_shows_none : Fn := hide (mkFn 4 b_shows_none)
theorem f_shows_none_eq : f_shows_none = mkFn 4 b_shows_none := hide_eq _

def lb__law_lots_1 : MS := (mIf (mTest (m2 lLe (m2 lIx (nm 3) (mC (.int 0))) (nm 1))) (mKl [3] (mSet 2 (m2 lIx (nm 3) (mC (.int 1))))) (mKl [3] mNx))
def b__law_lots : MS := (mSeq (mSet 2 (mC (.int 0)))
    (mSeq (mKl [0, 1] (mFor (mIt (fz 0)) (.nm 3) lb__law_lots_1))
    (mRt (mv 2))))
def f__law_lots : Fn := hide (mkFn 4 b__law_lots)
theorem f__law_lots_eq : f__law_lots = mkFn 4 b__law_lots := hide_eq _

def lb__law_needed_1 : MS := (mIf (mTest (m2 lEq (m2 lIx (nm 8) (mC (.int 0))) (nm 3))) (mKl [8] (mSet 6 (m2 lAdd (nm 6) (m2 lMul (m2 lMul (m2 lIx (nm 8) (mC (.int 1))) (m2 lIx (m2 lIx (nm 0) (nm 7)) (mC (.int 3)))) (mCallP f__law_lots [(m2 lIx (nm 2) (nm 7)), (fz 5)]))))) (mKl [8] mNx))
def lb__law_needed_2 : MS := (mKl [7] (mFor (mIt (m2 lIx (m2 lIx (nm 0) (nm 7)) (mC (.int 1)))) (.nm 8) lb__law_needed_1))
def lb__law_needed_3 : MS := (mSeq (mSet 6 (m2 lSub (mCall f__law_ordered [.v (fz 1), .v (fz 3), .v (fz 5)]) (mCall f__law_supplied [.v (fz 1), .v (fz 3), .v (fz 5)])))
    (mSeq (mFor (mRg1 (m1 lLen (nm 0))) (.nm 7) lb__law_needed_2)
    (mIf (mTest (m2 lGt (nm 6) (m2 lMul (nm 4) (m2 lIx (m2 lIx (nm 0) (nm 3)) (mC (.int 4)))))) (mSeq (mKl [6] (mSet 4 (m2 lDiv (m2 lSub (m2 lAdd (nm 6) (m2 lIx (m2 lIx (nm 0) (nm 3)) (mC (.int 4)))) (mC (.int 1))) (m2 lIx (m2 lIx (nm 0) (nm 3)) (mC (.int 4))))))
    (mKl [5] (mDrop (mApp2 2 (nm 3) (mTup [(m2 lSub (nm 5) (m2 lIx (m2 lIx (nm 0) (nm 3)) (mC (.int 2)))), (fz 4)]))))) (mKl [5, 6] mNx))))
def lb__law_needed_4 : MS := (mSeq (mSet 4 (mC (.int 0)))
    (mKl [3, 4] (mFor (mRg2 (m2 lSub (m2 lIx (nm 1) (mC (.int 0))) (mC (.int 90))) (m2 lAdd (m2 lIx (nm 1) (mC (.int 0))) (mC (.int 40)))) (.nm 5) lb__law_needed_3)))
def le__law_needed_5 : M := (m1 lTuple (nm 9))
def b__law_needed : MS := (mSeq (mSet 2 (mLcO (mIt (fz 0)) (.nm 3) (mLst []) [3]))
    (mSeq (mKl [0, 1] (mFor (mIt (mCall f__law_first [.v (fz 0)])) (.nm 3) lb__law_needed_4))
    (mRt (m1 lTuple (mLc (mIt (fz 2)) (.nm 9) mYes le__law_needed_5 [9])))))
def f__law_needed : Fn := hide (mkFn 10 b__law_needed)
theorem f__law_needed_eq : f__law_needed = mkFn 10 b__law_needed := hide_eq _

def lb__law_lots_478d_1 : MS := (mIf (mTest (m2 lLe (m2 lIx (nm 3) (mC (.int 0))) (nm 1))) (mKl [3] (mSet 2 (m2 lIx (nm 3) (mC (.int 1))))) (mKl [3] mNx))
def b__law_lots_478d : MS := (mSeq (mSet 2 (mC (.int 0)))
    (mSeq (mKl [0, 1] (mFor (mIt (fz 0)) (.nm 3) lb__law_lots_478d_1))
    (mRt (mv 2))))
def f__law_lots_478d : Fn := hide (mkFn 4 b__law_lots_478d)
theorem f__law_lots_478d_eq : f__law_lots_478d = mkFn 4 b__law_lots_478d := hide_eq _

def lb__law_plan_1 : MS := (mSeq (mKl [4] (mSet 5 (mTup [(mCall f__law_draw [.b 0, .v (m1 lLen (nm 1))]), (m2 lAdd (m2 lIx (nm 2) (mC (.int 0))) (mCall f__law_draw [.b 0, .v (mC (.int 20))]))])))
    (mKl [5] (mDPut 3 (nm 5) (m2 lAdd (mC (.int 1)) (m2 lMul (mCall f__law_draw [.b 0, .v (mC (.int 5))]) (mCall f__law_draw [.b 0, .v (mC (.int 4))]))))))
def le__law_plan_2 : M := (mTup [(m2 lIx (nm 5) (mC (.int 0))), (m2 lIx (nm 5) (mC (.int 1))), (m2 lDGet (nm 3) (nm 5))])
def b__law_plan : MS := (mSeq (mSet 3 mDNew)
    (mSeq (mKl [1, 2] (mFor (mRg1 (mCall f__law_draw [.b 0, .v (mC (.int 7))])) (.nm 4) lb__law_plan_1))
    (mRt (m1 lTuple (mLc (mIt (m1 lSrtD (nm 3))) (.nm 5) mYes le__law_plan_2 [5])))))
def f__law_plan : Fn := hide (mkFn 6 b__law_plan)
theorem f__law_plan_eq : f__law_plan = mkFn 6 b__law_plan := hide_eq _

def le_last_day_1 : M := (m2 lIx (nm 7) (mC (.int 1)))
def le_last_day_2 : M := (m2 lIx (nm 7) (mC (.int 3)))
def lb_last_day_3 : MS := (mKl [4, 5, 6] (mDrop (mApp 3 (m2 lAdd (nm 5) (m2 lIx (m2 lIx (nm 0) (nm 4)) (mC (.int 2)))))))
def b_last_day : MS := (mSeq (mKl [1] (mSet 3 (m2 lAdd (m2 lAdd (mLst [(m2 lIx (nm 1) (mC (.int 0)))]) (mLc (mIt (m2 lIx (nm 1) (mC (.int 2)))) (.nm 7) mYes le_last_day_1 [7])) (mLc (mIt (m2 lIx (nm 1) (mC (.int 3)))) (.nm 7) mYes le_last_day_2 [7]))))
    (mSeq (mKl [0, 2] (mFor (mIt (fz 2)) (.tup [(.nm 4), (.nm 5), (.nm 6)]) lb_last_day_3))
    (mRt (m1 lMax (nm 3)))))
def f_last_day : Fn := hide (mkFn 8 b_last_day)
theorem f_last_day_eq : f_last_day = mkFn 8 b_last_day := hide_eq _

def lb__law_last_1 : MS := (mKl [4] (mSet 3 (m2 lMax2 (nm 3) (m2 lIx (nm 4) (mC (.int 1))))))
def lb__law_last_2 : MS := (mKl [4] (mSet 3 (m2 lMax2 (nm 3) (m2 lIx (nm 4) (mC (.int 3))))))
def lb__law_last_3 : MS := (mKl [5] (mSet 3 (m2 lMax2 (nm 3) (m2 lAdd (m2 lIx (nm 5) (mC (.int 1))) (m2 lIx (m2 lIx (nm 0) (m2 lIx (nm 5) (mC (.int 0)))) (mC (.int 2)))))))
def b__law_last : MS := (mSeq (mSet 3 (m2 lIx (nm 1) (mC (.int 0))))
    (mSeq (mFor (mIt (m2 lIx (nm 1) (mC (.int 2)))) (.nm 4) lb__law_last_1)
    (mSeq (mKl [1] (mFor (mIt (m2 lIx (nm 1) (mC (.int 3)))) (.nm 4) lb__law_last_2))
    (mSeq (mKl [0, 2] (mFor (mIt (fz 2)) (.nm 5) lb__law_last_3))
    (mRt (mv 3))))))
def f__law_last : Fn := hide (mkFn 6 b__law_last)
theorem f__law_last_eq : f__law_last = mkFn 6 b__law_last := hide_eq _

def lf_started_1 : MB := (mAnd (mTest (m2 lEq (m2 lIx (nm 3) (mC (.int 0))) (nm 1))) (mTest (m2 lLe (m2 lIx (nm 3) (mC (.int 1))) (nm 2))))
def le_started_2 : M := (m2 lIx (nm 3) (mC (.int 2)))
def b_started : MS := (mRt (m1 lSum (mLc (mIt (fz 0)) (.nm 3) lf_started_1 le_started_2 [3])))
def f_started : Fn := hide (mkFn 4 b_started)
theorem f_started_eq : f_started = mkFn 4 b_started := hide_eq _

def lb__law_started_1 : MS := (mIf (mAnd (mTest (m2 lEq (m2 lIx (nm 4) (mC (.int 0))) (nm 1))) (mTest (m2 lLe (m2 lIx (nm 4) (mC (.int 1))) (nm 2)))) (mKl [4] (mSet 3 (m2 lAdd (nm 3) (m2 lIx (nm 4) (mC (.int 2)))))) (mKl [4] mNx))
def b__law_started : MS := (mSeq (mSet 3 (mC (.int 0)))
    (mSeq (mKl [0, 1, 2] (mFor (mIt (fz 0)) (.nm 4) lb__law_started_1))
    (mRt (mv 3))))
def f__law_started : Fn := hide (mkFn 5 b__law_started)
theorem f__law_started_eq : f__law_started = mkFn 5 b__law_started := hide_eq _

def lb_balance_1 : MS := (mKl [12, 13] (mAug 11 (m2 lMul (m2 lMul (nm 13) (m2 lIx (m2 lIx (nm 0) (nm 12)) (mC (.int 3)))) (mCall f_started [.v (fz 2), .v (fz 12), .v (fz 4)]))))
def b_balance : MS := (mSeq (mKl [5, 6, 8] (mAsg (.tup [(.nm 5), (.nm 6), (.nm 7), (.nm 8), (.nm 9)]) (m2 lIx (nm 0) (nm 3))))
    (mSeq (mKl [7, 9] (mSet 10 (m2 lAdd (mCall f_supplied [.v (fz 1), .v (fz 3), .v (fz 4)]) (m2 lMul (nm 9) (mCall f_started [.v (fz 2), .v (fz 3), .v (m2 lSub (nm 4) (nm 7))])))))
    (mSeq (mKl [1] (mSet 11 (mCall f_ordered [.v (fz 1), .v (fz 3), .v (fz 4)])))
    (mSeq (mKl [0, 2, 3, 4] (mFor (mIt (mCall f_used_by [.v (fz 0), .v (fz 3)])) (.tup [(.nm 12), (.nm 13)]) lb_balance_1))
    (mRt (m2 lSub (nm 10) (nm 11)))))))
def f_balance : Fn := hide (mkFn 14 b_balance)
theorem f_balance_eq : f_balance = mkFn 14 b_balance := hide_eq _

def lb__law_balance_1 : MS := (mIf (mTest (m2 lEq (m2 lIx (nm 7) (mC (.int 0))) (nm 3))) (mKl [7] (mSet 5 (m2 lSub (nm 5) (m2 lMul (m2 lMul (m2 lIx (nm 7) (mC (.int 1))) (m2 lIx (m2 lIx (nm 0) (nm 6)) (mC (.int 3)))) (mCall f__law_started [.v (fz 2), .v (fz 6), .v (fz 4)]))))) (mKl [7] mNx))
def lb__law_balance_2 : MS := (mKl [6] (mFor (mIt (m2 lIx (m2 lIx (nm 0) (nm 6)) (mC (.int 1)))) (.nm 7) lb__law_balance_1))
def b__law_balance : MS := (mSeq (mKl [1] (mSet 5 (m2 lSub (mCall f__law_supplied [.v (fz 1), .v (fz 3), .v (fz 4)]) (mCall f__law_ordered [.v (fz 1), .v (fz 3), .v (fz 4)]))))
    (mSeq (mSet 5 (m2 lAdd (nm 5) (m2 lMul (m2 lIx (m2 lIx (nm 0) (nm 3)) (mC (.int 4))) (mCall f__law_started [.v (fz 2), .v (fz 3), .v (m2 lSub (nm 4) (m2 lIx (m2 lIx (nm 0) (nm 3)) (mC (.int 2))))]))))
    (mSeq (mKl [0, 2, 3, 4] (mFor (mRg1 (m1 lLen (nm 0))) (.nm 6) lb__law_balance_2))
    (mRt (mv 5)))))
def f__law_balance : Fn := hide (mkFn 8 b__law_balance)
theorem f__law_balance_eq : f__law_balance = mkFn 8 b__law_balance := hide_eq _

def lb__law_shortages_1 : MS := (mSeq (mSet 6 (mCall f__law_balance [.v (fz 0), .v (fz 1), .v (fz 2), .v (fz 5), .v (fz 4)]))
    (mIf (mAnd (mTest (m2 lLt (nm 6) (mC (.int 0)))) (mOr (mTest (m2 lEq (nm 4) (m2 lIx (nm 1) (mC (.int 0))))) (mTest (m2 lGe (mCall f__law_balance [.v (fz 0), .v (fz 1), .v (fz 2), .v (fz 5), .v (m2 lSub (nm 4) (mC (.int 1)))]) (mC (.int 0)))))) (mKl [5, 6] (mDrop (mApp 3 (mTup [(fz 4), (fz 5), (m2 lSub (mC (.int 0)) (nm 6))])))) (mKl [5, 6] mNx)))
def lb__law_shortages_2 : MS := (mKl [4] (mFor (mRg1 (m1 lLen (nm 0))) (.nm 5) lb__law_shortages_1))
def b__law_shortages : MS := (mSeq (mSet 3 (mLst []))
    (mSeq (mKl [0, 1, 2] (mFor (mRg2 (m2 lIx (nm 1) (mC (.int 0))) (m2 lAdd (mCall f__law_last [.v (fz 0), .v (fz 1), .v (fz 2)]) (mC (.int 1)))) (.nm 4) lb__law_shortages_2))
    (mRt (mv 3))))
def f__law_shortages : Fn := hide (mkFn 7 b__law_shortages)
theorem f__law_shortages_eq : f__law_shortages = mkFn 7 b__law_shortages := hide_eq _

def lb_shortages_1 : MS := (mSeq (mSet 6 (mCall f_balance [.v (fz 0), .v (fz 1), .v (fz 2), .v (fz 5), .v (fz 4)]))
    (mIf (mAnd (mTest (m2 lLt (nm 6) (mC (.int 0)))) (mOr (mTest (m2 lEq (nm 4) (m2 lIx (nm 1) (mC (.int 0))))) (mTest (m2 lGe (mCall f_balance [.v (fz 0), .v (fz 1), .v (fz 2), .v (fz 5), .v (m2 lSub (nm 4) (mC (.int 1)))]) (mC (.int 0)))))) (mKl [5, 6] (mDrop (mApp 3 (mTup [(fz 4), (fz 5), (m1 lNeg (nm 6))])))) (mKl [5, 6] mNx)))
def lb_shortages_2 : MS := (mKl [4] (mFor (mRg1 (m1 lLen (nm 0))) (.nm 5) lb_shortages_1))
def b_shortages : MS := (mSeq (mSet 3 (mLst []))
    (mSeq (mKl [0, 1, 2] (mFor (mRg2 (m2 lIx (nm 1) (mC (.int 0))) (m2 lAdd (mCall f_last_day [.v (fz 0), .v (fz 1), .v (fz 2)]) (mC (.int 1)))) (.nm 4) lb_shortages_2))
    (mRt (mv 3))))
def f_shortages : Fn := hide (mkFn 7 b_shortages)
theorem f_shortages_eq : f_shortages = mkFn 7 b_shortages := hide_eq _

def b_works : MS := (mRt (m2 lEq (m1 lLen (mCall f_shortages [.v (fz 0), .v (fz 1), .v (fz 2)])) (mC (.int 0))))
def f_works : Fn := hide (mkFn 3 b_works)
theorem f_works_eq : f_works = mkFn 3 b_works := hide_eq _

end
end Mw

set_option Elab.async false
set_option linter.all false
set_option maxRecDepth 100000
set_option autoImplicit false
namespace Mw
open PySem PySem.Spec PyProof.Rows L2
local macro_rules | `(tactic| walk_at "ev") => `(tactic| ((try simp -implicitDefEqProofs [-List.map_map, ev_fn, atI_pos, ev_seq, ev_set, ev_aug, ev_nm, ev_fz, ev_mv, ev_m1, ev_m2, ev_mInt, ev_mTest, ev_mAnd, ev_mOr, ev_mNot, ev_mAndV, ev_mOrV, ev_args, ev_args0, ev_mLst, ev_mTup, sts_cons, ev_sl00, ev_sl01, ev_sl10, ev_sl11, ev_asg, ev_rt, ev_if, ev_drop, ev_for, ev_it, ev_rg1, ev_rg2, ev_app, ev_put, ev_argb0, ev_argbv, ev_argbb, ev_call, pushAt_0, pushAt_s, putAt_0, putAt_s, lend, back, keep, asg, asgs, lIx_d, lIx_t, lIx_s, lIx_own, lIx_pk, lMul_i, lAdd_s, lAdd_t, lMul_s, D.kind, isK, D.isNon, ev_lc, wipeR_cons, unwipe_cons, noMu_cons]); (repeat (simp -implicitDefEqProofs (disch := omega) only [lenOk_of, mulOk_l, mulOk_r, repOk_of, rgOk_of, powOk_of, divOk_of, modOk_of]; try simp -implicitDefEqProofs [-List.map_map, ev_fn, atI_pos, ev_seq, ev_set, ev_aug, ev_nm, ev_fz, ev_mv, ev_m1, ev_m2, ev_mInt, ev_mTest, ev_mAnd, ev_mOr, ev_mNot, ev_mAndV, ev_mOrV, ev_args, ev_args0, ev_mLst, ev_mTup, sts_cons, ev_sl00, ev_sl01, ev_sl10, ev_sl11, ev_asg, ev_rt, ev_if, ev_drop, ev_for, ev_it, ev_rg1, ev_rg2, ev_app, ev_put, ev_argb0, ev_argbv, ev_argbb, ev_call, pushAt_0, pushAt_s, putAt_0, putAt_s, lend, back, keep, asg, asgs, lIx_d, lIx_t, lIx_s, lIx_own, lIx_pk, lMul_i, lAdd_s, lAdd_t, lMul_s, D.kind, isK, D.isNon, ev_lc, wipeR_cons, unwipe_cons, noMu_cons]))))
local macro_rules | `(tactic| walk_at "evm") => `(tactic| ((try simp -implicitDefEqProofs [*, -List.map_map, -List.map_append, -List.map_take, -List.map_drop, ev_fn, atI_pos, ev_seq, ev_set, ev_aug, ev_nm, ev_fz, ev_mv, ev_m1, ev_m2, ev_mInt, ev_mTest, ev_mAnd, ev_mOr, ev_mNot, ev_mAndV, ev_mOrV, ev_args, ev_args0, ev_mLst, ev_mTup, sts_cons, ev_sl00, ev_sl01, ev_sl10, ev_sl11, ev_asg, ev_rt, ev_if, ev_drop, ev_for, ev_it, ev_rg1, ev_rg2, ev_app, ev_put, ev_argb0, ev_argbv, ev_argbb, ev_call, pushAt_0, pushAt_s, putAt_0, putAt_s, lend, back, keep, asg, asgs, lIx_d, lIx_t, lIx_s, lIx_own, lIx_pk, lMul_i, lAdd_s, lAdd_t, lMul_s, D.kind, isK, D.isNon, ev_lc, wipeR_cons, unwipe_cons, noMu_cons]); (repeat (simp -implicitDefEqProofs (disch := omega) only [lenOk_of, mulOk_l, mulOk_r, repOk_of, rgOk_of, powOk_of, divOk_of, modOk_of]; try simp -implicitDefEqProofs [*, -List.map_map, -List.map_append, -List.map_take, -List.map_drop, ev_fn, atI_pos, ev_seq, ev_set, ev_aug, ev_nm, ev_fz, ev_mv, ev_m1, ev_m2, ev_mInt, ev_mTest, ev_mAnd, ev_mOr, ev_mNot, ev_mAndV, ev_mOrV, ev_args, ev_args0, ev_mLst, ev_mTup, sts_cons, ev_sl00, ev_sl01, ev_sl10, ev_sl11, ev_asg, ev_rt, ev_if, ev_drop, ev_for, ev_it, ev_rg1, ev_rg2, ev_app, ev_put, ev_argb0, ev_argbv, ev_argbb, ev_call, pushAt_0, pushAt_s, putAt_0, putAt_s, lend, back, keep, asg, asgs, lIx_d, lIx_t, lIx_s, lIx_own, lIx_pk, lMul_i, lAdd_s, lAdd_t, lMul_s, D.kind, isK, D.isNon, ev_lc, wipeR_cons, unwipe_cons, noMu_cons]))))
local macro_rules | `(tactic| walk_at "evh") => `(tactic| ((try simp -implicitDefEqProofs [*, -List.map_map, ev_fn, atI_pos, ev_seq, ev_set, ev_aug, ev_nm, ev_fz, ev_mv, ev_m1, ev_m2, ev_mInt, ev_mTest, ev_mAnd, ev_mOr, ev_mNot, ev_mAndV, ev_mOrV, ev_args, ev_args0, ev_mLst, ev_mTup, sts_cons, ev_sl00, ev_sl01, ev_sl10, ev_sl11, ev_asg, ev_rt, ev_if, ev_drop, ev_for, ev_it, ev_rg1, ev_rg2, ev_app, ev_put, ev_argb0, ev_argbv, ev_argbb, ev_call, pushAt_0, pushAt_s, putAt_0, putAt_s, lend, back, keep, asg, asgs, lIx_d, lIx_t, lIx_s, lIx_own, lIx_pk, lMul_i, lAdd_s, lAdd_t, lMul_s, D.kind, isK, D.isNon, ev_lc, wipeR_cons, unwipe_cons, noMu_cons]); (repeat (simp -implicitDefEqProofs (disch := omega) only [lenOk_of, mulOk_l, mulOk_r, repOk_of, rgOk_of, powOk_of, divOk_of, modOk_of]; try simp -implicitDefEqProofs [*, -List.map_map, ev_fn, atI_pos, ev_seq, ev_set, ev_aug, ev_nm, ev_fz, ev_mv, ev_m1, ev_m2, ev_mInt, ev_mTest, ev_mAnd, ev_mOr, ev_mNot, ev_mAndV, ev_mOrV, ev_args, ev_args0, ev_mLst, ev_mTup, sts_cons, ev_sl00, ev_sl01, ev_sl10, ev_sl11, ev_asg, ev_rt, ev_if, ev_drop, ev_for, ev_it, ev_rg1, ev_rg2, ev_app, ev_put, ev_argb0, ev_argbv, ev_argbb, ev_call, pushAt_0, pushAt_s, putAt_0, putAt_s, lend, back, keep, asg, asgs, lIx_d, lIx_t, lIx_s, lIx_own, lIx_pk, lMul_i, lAdd_s, lAdd_t, lMul_s, D.kind, isK, D.isNon, ev_lc, wipeR_cons, unwipe_cons, noMu_cons]))))
abbrev Jk (s : Slo) : Prop := s.bor = false
structure Item where
  name : List Nat
  parts : List (Int × Int)
  lead : Int
  lot : Int
  good : Int
deriving Inhabited
structure Books where
  today : Int
  stock : List Int
  recs : List (Int × Int × Int)
  ords : List (Int × Int × Int × Int)
deriving Inhabited
/-- data of a depth that the laws' comparison goes through -/
def D.ok : Nat → D → Prop
  | 0, _ => False
  | n + 1, .tup xs => xs.length ≤ 100000 ∧ ∀ y ∈ xs, D.ok n y
  | n + 1, .lst xs => xs.length ≤ 100000 ∧ ∀ y ∈ xs, D.ok n y
  | _ + 1, .obj _ _ _ => False
  | _ + 1, _ => True
theorem same_loop (n : Nat) (x : D) (xs : List D) (hx : x = .tup xs ∨ x = .lst xs) (hl : xs.length ≤ 100000) (ih : ∀ y ∈ xs, k__law_same n [.shr y, .shr y] = .ok (.d (.bl true)) [.un, .un]) :
    ∃ s2, forGo (.nm 2) (lb__law_same_1 (k__law_same n)) ((List.range xs.length).map fun (k : Nat) => D.int k) [.shr x, .shr x, .un] = .nx [.shr x, .shr x, s2] := by
  obtain ⟨ρ2, e, s2, h1, h2⟩ := forGo_run (t := .nm 2) (b := lb__law_same_1 (k__law_same n)) (fun i ρ => ∃ s2, Jk s2 ∧ ρ = [.shr x, .shr x, s2]) (xs := (List.range xs.length).map fun (k : Nat) => D.int k) (ρ := [.shr x, .shr x, .un]) ⟨.un, rfl, rfl⟩ fun i y ρ hy hp => by
    obtain ⟨s2, h1, rfl⟩ := hp
    have hil : i < xs.length := by simpa using (List.getElem?_eq_some_iff.mp hy).1
    have ey : y = .int (i : Nat) := by
      rw [List.getElem?_map, List.getElem?_range hil] at hy
      simpa using hy.symm
    subst ey
    have hi := ih xs[i] (List.getElem_mem hil)
    refine ⟨[.shr x, .shr x, .shr (.int i)], by walk_at "evh", _, .inl ?_, .shr (.int i), rfl, rfl⟩
    unfold lb__law_same_1
    have hg : xs[i]? = some xs[i] := List.getElem?_eq_getElem hil
    rcases hx with rfl | rfl <;> walk_at "evh"
  exact ⟨s2, by rw [e, h2]⟩
theorem same_refl : ∀ (n : Nat) (x : D), D.ok n x → k__law_same n [.shr x, .shr x] = .ok (.d (.bl true)) [.un, .un]
  | 0, x, h => h.elim
  | n + 1, .tup xs, h => by
    obtain ⟨s2, e⟩ := same_loop n (.tup xs) xs (.inl rfl) h.1 fun y hy => same_refl n y (h.2 y hy)
    have hl : xs.length ≤ 100000 := h.1
    unfold k__law_same b__law_same
    walk_at "evh"
  | n + 1, .lst xs, h => by
    obtain ⟨s2, e⟩ := same_loop n (.lst xs) xs (.inr rfl) h.1 fun y hy => same_refl n y (h.2 y hy)
    have hl : xs.length ≤ 100000 := h.1
    unfold k__law_same b__law_same
    walk_at "evh"
  | n + 1, .int i, h => by
    unfold k__law_same b__law_same
    walk_at "evh"
  | n + 1, .bl i, h => by
    unfold k__law_same b__law_same
    walk_at "evh"
  | n + 1, .str i, h => by
    unfold k__law_same b__law_same
    walk_at "evh"
  | n + 1, .non, h => by
    unfold k__law_same b__law_same
    walk_at "evh"
  | n + 1, .obj _ _ _, h => h.elim
/-- what the laws compare -/
def Same (a d : D) : Prop := a = d ∧ D.ok 60 d
theorem same_ok {a d : D} (h : Same a d) : f__law_same [.shr a, .shr d] = .ok (.d (.bl true)) [.un, .un] := by
  obtain ⟨rfl, h⟩ := h
  rw [f__law_same_eq]; exact same_refl 60 _ h
end Mw

set_option Elab.async false
set_option linter.all false
set_option maxRecDepth 100000
set_option autoImplicit false
namespace Mw
open PySem PySem.Spec PyProof.Rows L2 Mw
abbrev e_Li : (List Int) → D := fun x => .lst (List.map D.int x)
abbrev e_T2ii : (Int × Int) → D := fun x => .tup [D.int x.1, D.int x.2]
abbrev e_VT2ii : (List (Int × Int)) → D := fun x => .tup (List.map e_T2ii x)
abbrev e_Item : Item → D := fun x => .tup [D.str x.name, e_VT2ii x.parts, D.int x.lead, D.int x.lot, D.int x.good]
abbrev e_VItem : (List Item) → D := fun x => .tup (List.map e_Item x)
abbrev e_Vi : (List Int) → D := fun x => .tup (List.map D.int x)
abbrev e_LT2ii : (List (Int × Int)) → D := fun x => .lst (List.map e_T2ii x)
abbrev e_T3iii : (Int × Int × Int) → D := fun x => .tup [D.int x.1, D.int x.2.1, D.int x.2.2]
abbrev e_T4iiii : (Int × Int × Int × Int) → D := fun x => .tup [D.int x.1, D.int x.2.1, D.int x.2.2.1, D.int x.2.2.2]
abbrev e_VT3iii : (List (Int × Int × Int)) → D := fun x => .tup (List.map e_T3iii x)
abbrev e_VT4iiii : (List (Int × Int × Int × Int)) → D := fun x => .tup (List.map e_T4iiii x)
abbrev e_Books : Books → D := fun x => .tup [D.int x.today, e_Vi x.stock, e_VT3iii x.recs, e_VT4iiii x.ords]
abbrev e_T0 : Unit → D := fun x => .tup []
abbrev e_VVT2ii : (List (List (Int × Int))) → D := fun x => .tup (List.map e_VT2ii x)
abbrev e_LT3iii : (List (Int × Int × Int)) → D := fun x => .lst (List.map e_T3iii x)
abbrev e_Oi : (Option Int) → D := fun x => match x with | none => .non | some y => D.int y
abbrev e_LLT2ii : (List (List (Int × Int))) → D := fun x => .lst (List.map e_LT2ii x)
noncomputable def t__law_cell (script' : (List Int)) (k' : Int) : T Int :=
  if (decide (k' < (script'.length : Int))) = true then T.req (0 ≤ k' ∧ k' < script'.length) (T.ret (ix script' k')) else
    T.ret 0
abbrev q__law_cell (script' : (List Int)) (k' : Int) : Int → Prop := fun z => f__law_cell [.shr (e_Li script'), .shr (D.int k')] = ((fun (z : Int) => FRes.ok (.d (D.int z)) [.un, .un] : Int → FRes)) z
theorem v__law_cell (script' : (List Int)) (k' : Int) : J (t__law_cell script' k') (q__law_cell script' k') :=
  v_fn (as := [.shr (e_Li script'), .shr (D.int k')]) (R' := fun (z : Int) => FRes.ok (.d (D.int z)) [.un, .un]) f__law_cell_eq rfl (js_ifr (e_test (e_lt (e_nm_s rfl) (e_lenL (e := D.int) (xs := script') (e_nm_s rfl)))) (js_req fun hc1 => (js_rtS (e_ixL (e := D.int) (xs := script') (e_nm_s rfl) (e_nm_s rfl) hc1) rfl rfl))
    (js_rt e_C rfl rfl))

noncomputable def t__law_digits (script' : (List Int)) (first' : Int) (last' : Int) : T (List Int) :=
  T.bind (T.ret ([] : (List Int))) fun s1 =>
    T.bind (T.req (-1000000 ≤ first' ∧ first' ≤ 1000000) (T.req (-1000000 ≤ last' ∧ last' ≤ 1000000) (T.forL (fun (s4 : (List Int)) (x5 : Int) =>
    T.bind (T.bind (t__law_cell script' x5) fun p6 => T.ret p6) fun s7 =>
    T.bind (if (decide (s7 < 0)) = true then T.bind (T.ret (1 - (2 * s7))) fun s8 => T.ret s8 else T.ret s7) fun s9 =>
    T.bind (if (decide (((10 : Int) ^ (18 : Int).toNat) ≤ s9)) = true then T.bind (T.forL (fun (s10 : ((List Int) × Int)) (x11 : Int) =>
    T.bind (if (decide (0 < s10.2)) = true then T.bind (T.req (s10.1.length < 1000000) (T.ret (s10.1 ++ [(s10.2 % 1000)]))) fun s13 =>
    T.bind (T.ret (s10.2 / 1000)) fun s14 => T.ret (s13, s14) else T.ret (s10.1, s10.2)) fun s15 => T.ret (s15.1, s15.2)) (rng 60) (s4, s9)) fun s10 => T.ret s10.1 else T.bind (T.ret ((((s9 * 48271) + (x5 * 69621)) + 11) % 2147483647)) fun s16 =>
    T.bind (T.forL (fun (s17 : ((List Int) × Int)) (x18 : Int) =>
    T.bind (T.ret ((((s17.2 * 16807) + (7 * x18)) + 1) % 2147483647)) fun s19 =>
    T.bind (T.req (s17.1.length < 1000000) (T.ret (s17.1 ++ [((s19 / 997) % 1000)]))) fun s21 => T.ret (s21, s19)) (rng 12) (s4, s16)) fun s17 => T.ret s17.1) fun s22 => T.ret s22) (rng2 first' last') s1))) fun s4 =>
    T.ret s4
abbrev q__law_digits (script' : (List Int)) (first' : Int) (last' : Int) : (List Int) → Prop := fun z => f__law_digits [.shr (e_Li script'), .shr (D.int first'), .shr (D.int last')] = ((fun (z : (List Int)) => FRes.ok (.own (O.l (List.map D.int z))) [.un, .un, .un] : (List Int) → FRes)) z
theorem v__law_digits (script' : (List Int)) (first' : Int) (last' : Int) : J (t__law_digits script' first' last') (q__law_digits script' first' last') :=
  v_fn (as := [.shr (e_Li script'), .shr (D.int first'), .shr (D.int last')]) (R' := fun (z : (List Int)) => FRes.ok (.own (O.l (List.map D.int z))) [.un, .un, .un]) f__law_digits_eq rfl (js_seq (E := fun (s1 : (List Int)) => [.shr (e_Li script'), .shr (D.int first'), .shr (D.int last'), .mu false (O.l (List.map D.int s1)), .un, .un, .un, .un]) (js_st (E := fun (s1 : (List Int)) => [.shr (e_Li script'), .shr (D.int first'), .shr (D.int last'), .mu false (O.l (List.map D.int s1)), .un, .un, .un, .un]) (st_set (e_cast (r' := .own (O.l (List.map D.int ([] : (List Int))))) (e_lst e_args0 e_sts0 (Nat.le_of_ble_eq_true rfl)) rfl) rfl rfl) rfl) fun s1 =>
    (js_seq (E := fun (s4 : (List Int)) => [.un, .un, .un, .mu false (O.l (List.map D.int s4)), .un, .un, .un, .un]) (js_klN (E := fun (s4 : (List Int)) => [.shr (e_Li script'), .shr (D.int first'), .shr (D.int last'), .mu false (O.l (List.map D.int s4)), .un, .un, .un, .un]) (js_req fun hc2 => (js_req fun hc3 => (js_forL (e := D.int) (xs := (rng2 first' last')) (E := fun (s4 : (List Int)) => [.shr (e_Li script'), .shr (D.int first'), .shr (D.int last'), .mu false (O.l (List.map D.int s4)), .un, .un, .un, .un]) (fun s4 x5 => [.shr (e_Li script'), .shr (D.int first'), .shr (D.int last'), .mu false (O.l (List.map D.int s4)), .shr (D.int x5), .un, .un, .un]) (e_rg2 (e_nm_s rfl) (e_nm_s rfl) hc2 hc3) rfl (fun _ _ => rfl) (fun s4 x5 =>
    (js_seq (E := fun (s7 : Int) => [.shr (e_Li script'), .shr (D.int first'), .shr (D.int last'), .mu false (O.l (List.map D.int s4)), .shr (D.int x5), .shr (D.int s7), .un, .un]) (js_bind (v__law_cell script' x5) fun p6 hp6 => (js_st (E := fun (s7 : Int) => [.shr (e_Li script'), .shr (D.int first'), .shr (D.int last'), .mu false (O.l (List.map D.int s4)), .shr (D.int x5), .shr (D.int s7), .un, .un]) (st_set (e_call (e_argBv (e_fz_s rfl) (e_argBv (e_fz_s rfl) e_argB0 rfl) rfl) (e_lendr rfl (e_lendr rfl e_lend0)) hp6 rfl) rfl rfl) rfl)) fun s7 =>
    (js_seq (E := fun (s9 : Int) => [.shr (e_Li script'), .shr (D.int first'), .shr (D.int last'), .mu false (O.l (List.map D.int s4)), .shr (D.int x5), .shr (D.int s9), .un, .un]) (js_if (e_test (e_lt (e_nm_s rfl) e_C)) (js_last (E1 := fun (s8 : Int) => [.shr (e_Li script'), .shr (D.int first'), .shr (D.int last'), .mu false (O.l (List.map D.int s4)), .shr (D.int x5), .shr (D.int s8), .un, .un]) (js_st (E := fun (s8 : Int) => [.shr (e_Li script'), .shr (D.int first'), .shr (D.int last'), .mu false (O.l (List.map D.int s4)), .shr (D.int x5), .shr (D.int s8), .un, .un]) (st_set (e_subI e_C (e_mulI e_C (e_nm_s rfl) (.inl (by decide)))) rfl rfl) rfl) fun _ => rfl) (js_nx rfl)) fun s9 =>
    (js_last (E1 := fun (s22 : (List Int)) => [.shr (e_Li script'), .shr (D.int first'), .shr (D.int last'), .mu false (O.l (List.map D.int s22)), .un, .un, .un, .un]) (js_if (e_test (e_ge (e_nm_s rfl) (e_powI e_C e_C (by decide)))) (js_last (E1 := fun (s10 : ((List Int) × Int)) => [.shr (e_Li script'), .shr (D.int first'), .shr (D.int last'), .mu false (O.l (List.map D.int s10.1)), .un, .un, .un, .un]) (js_klN (E := fun (s10 : ((List Int) × Int)) => [.shr (e_Li script'), .shr (D.int first'), .shr (D.int last'), .mu false (O.l (List.map D.int s10.1)), .shr (D.int x5), .shr (D.int s10.2), .un, .un]) (js_forL (e := D.int) (xs := (rng 60)) (E := fun (s10 : ((List Int) × Int)) => [.shr (e_Li script'), .shr (D.int first'), .shr (D.int last'), .mu false (O.l (List.map D.int s10.1)), .shr (D.int x5), .shr (D.int s10.2), .un, .un]) (fun s10 x11 => [.shr (e_Li script'), .shr (D.int first'), .shr (D.int last'), .mu false (O.l (List.map D.int s10.1)), .shr (D.int x5), .shr (D.int s10.2), .shr (D.int x11), .un]) (e_rg1 e_C (by decide)) rfl (fun _ _ => rfl) (fun s10 x11 =>
    (js_last (E1 := fun (s15 : ((List Int) × Int)) => [.shr (e_Li script'), .shr (D.int first'), .shr (D.int last'), .mu false (O.l (List.map D.int s15.1)), .shr (D.int x5), .shr (D.int s15.2), .un, .un]) (js_if (e_test (e_gt (e_nm_s rfl) e_C)) (js_seq (E := fun (s13 : (List Int)) => [.shr (e_Li script'), .shr (D.int first'), .shr (D.int last'), .mu false (O.l (List.map D.int s13)), .shr (D.int x5), .shr (D.int s10.2), .un, .un]) (js_req fun hc12 => (js_st (E := fun (s13 : (List Int)) => [.shr (e_Li script'), .shr (D.int first'), .shr (D.int last'), .mu false (O.l (List.map D.int s13)), .shr (D.int x5), .shr (D.int s10.2), .un, .un]) (st_kl (st_drop (e_app (e := D.int) (xs := s10.1) (z := (s10.2 % 1000)) rfl (e_modI (e_int1I (e_nm_s rfl)) e_C (by decide)) rfl rfl hc12)) rfl) rfl)) fun s13 =>
    (js_last (E1 := fun (s14 : Int) => [.shr (e_Li script'), .shr (D.int first'), .shr (D.int last'), .mu false (O.l (List.map D.int s13)), .shr (D.int x5), .shr (D.int s14), .un, .un]) (js_st (E := fun (s14 : Int) => [.shr (e_Li script'), .shr (D.int first'), .shr (D.int last'), .mu false (O.l (List.map D.int s13)), .shr (D.int x5), .shr (D.int s14), .un, .un]) (st_set (e_divI (e_nm_s rfl) e_C (by decide)) rfl rfl) rfl) fun _ => rfl)) (fun _ => rfl)) fun _ => rfl))) (fun _ => rfl)) fun _ => rfl) (js_seq (E := fun (s16 : Int) => [.shr (e_Li script'), .shr (D.int first'), .shr (D.int last'), .mu false (O.l (List.map D.int s4)), .un, .un, .un, .shr (D.int s16)]) (js_st (E := fun (s16 : Int) => [.shr (e_Li script'), .shr (D.int first'), .shr (D.int last'), .mu false (O.l (List.map D.int s4)), .un, .un, .un, .shr (D.int s16)]) (st_kl (st_set (e_modI (e_int1I (e_addI (e_addI (e_mulI (e_nm_s rfl) e_C (.inr (by decide))) (e_mulI (e_nm_s rfl) e_C (.inr (by decide)))) e_C)) e_C (by decide)) rfl rfl) rfl) rfl) fun s16 =>
    (js_last (E1 := fun (s17 : ((List Int) × Int)) => [.shr (e_Li script'), .shr (D.int first'), .shr (D.int last'), .mu false (O.l (List.map D.int s17.1)), .un, .un, .un, .un]) (js_klN (E := fun (s17 : ((List Int) × Int)) => [.shr (e_Li script'), .shr (D.int first'), .shr (D.int last'), .mu false (O.l (List.map D.int s17.1)), .un, .un, .un, .shr (D.int s17.2)]) (js_forL (e := D.int) (xs := (rng 12)) (E := fun (s17 : ((List Int) × Int)) => [.shr (e_Li script'), .shr (D.int first'), .shr (D.int last'), .mu false (O.l (List.map D.int s17.1)), .un, .un, .un, .shr (D.int s17.2)]) (fun s17 x18 => [.shr (e_Li script'), .shr (D.int first'), .shr (D.int last'), .mu false (O.l (List.map D.int s17.1)), .un, .un, .shr (D.int x18), .shr (D.int s17.2)]) (e_rg1 e_C (by decide)) rfl (fun _ _ => rfl) (fun s17 x18 =>
    (js_seq (E := fun (s19 : Int) => [.shr (e_Li script'), .shr (D.int first'), .shr (D.int last'), .mu false (O.l (List.map D.int s17.1)), .un, .un, .un, .shr (D.int s19)]) (js_st (E := fun (s19 : Int) => [.shr (e_Li script'), .shr (D.int first'), .shr (D.int last'), .mu false (O.l (List.map D.int s17.1)), .un, .un, .un, .shr (D.int s19)]) (st_kl (st_set (e_modI (e_int1I (e_addI (e_addI (e_mulI (e_nm_s rfl) e_C (.inr (by decide))) (e_mulI e_C (e_nm_s rfl) (.inl (by decide)))) e_C)) e_C (by decide)) rfl rfl) rfl) rfl) fun s19 =>
    (js_last (E1 := fun (s21 : (List Int)) => [.shr (e_Li script'), .shr (D.int first'), .shr (D.int last'), .mu false (O.l (List.map D.int s21)), .un, .un, .un, .shr (D.int s19)]) (js_req fun hc20 => (js_st (E := fun (s21 : (List Int)) => [.shr (e_Li script'), .shr (D.int first'), .shr (D.int last'), .mu false (O.l (List.map D.int s21)), .un, .un, .un, .shr (D.int s19)]) (st_drop (e_app (e := D.int) (xs := s17.1) (z := ((s19 / 997) % 1000)) rfl (e_modI (e_int1I (e_divI (e_nm_s rfl) e_C (by decide))) e_C (by decide)) rfl rfl hc20)) rfl)) fun _ => rfl)))) (fun _ => rfl)) fun _ => rfl))) fun _ => rfl))))))) (fun _ => rfl)) fun s4 =>
    (js_rt (e_mv_m rfl) rfl rfl)))

noncomputable def t__law_draw (box' : ((List Int) × Int)) (many' : Int) : T (Int × ((List Int) × Int)) :=
  T.bind (T.ret box'.2) fun s1 =>
    T.bind (T.ret (box'.1, (s1 + 1))) fun s2 =>
    if (decide (s1 < (s2.1.length : Int))) = true then T.req (0 ≤ s1 ∧ s1 < s2.1.length) (T.req (0 < many') (T.ret (((ix s2.1 s1) % many'), s2))) else
    T.ret (0, s2)
abbrev q__law_draw (box' : ((List Int) × Int)) (many' : Int) : (Int × ((List Int) × Int)) → Prop := fun z => f__law_draw [.mu true (.lst [.d (e_Li box'.1), .d (D.int box'.2)]), .shr (D.int many')] = ((fun (z : (Int × ((List Int) × Int))) => FRes.ok (.d (D.int z.1)) [.mu true (.lst [.d (e_Li z.2.1), .d (D.int z.2.2)]), .un] : (Int × ((List Int) × Int)) → FRes)) z
theorem v__law_draw (box' : ((List Int) × Int)) (many' : Int) : J (t__law_draw box' many') (q__law_draw box' many') :=
  v_fn (as := [.mu true (.lst [.d (e_Li box'.1), .d (D.int box'.2)]), .shr (D.int many')]) (R' := fun (z : (Int × ((List Int) × Int))) => FRes.ok (.d (D.int z.1)) [.mu true (.lst [.d (e_Li z.2.1), .d (D.int z.2.2)]), .un]) f__law_draw_eq rfl (js_seq (E := fun (s1 : Int) => [.mu true (.lst [.d (e_Li box'.1), .d (D.int box'.2)]), .shr (D.int many'), .shr (D.int s1)]) (js_st (E := fun (s1 : Int) => [.mu true (.lst [.d (e_Li box'.1), .d (D.int box'.2)]), .shr (D.int many'), .shr (D.int s1)]) (st_set (e_pF 1 (e_nm_m rfl) rfl rfl) rfl rfl) rfl) fun s1 =>
    (js_seq (E := fun (s2 : ((List Int) × Int)) => [.mu true (.lst [.d (e_Li s2.1), .d (D.int s2.2)]), .shr (D.int many'), .shr (D.int s1)]) (js_st (E := fun (s2 : ((List Int) × Int)) => [.mu true (.lst [.d (e_Li s2.1), .d (D.int s2.2)]), .shr (D.int many'), .shr (D.int s1)]) (st_putF 1 rfl (e_args (e_addI (e_nm_s rfl) e_C) (e_args (e_mInt e_C) e_args0 rfl) rfl) rfl rfl rfl (Nat.le_of_ble_eq_true rfl)) rfl) fun s2 =>
    (js_ifr (e_test (e_lt (e_nm_s rfl) (e_lenL (e := D.int) (xs := s2.1) (e_pF 0 (e_nm_m rfl) rfl rfl)))) (js_req fun hc3 => (js_req fun hc4 => (js_rtS (e_modI (e_int1I (e_ixL (e := D.int) (xs := s2.1) (e_pF 0 (e_nm_m rfl) rfl rfl) (e_nm_s rfl) hc3)) (e_nm_s rfl) hc4) rfl rfl)))
    (js_rt e_C rfl rfl))))

noncomputable def t__law_run (box' : ((List Int) × Int)) (many' : Int) (chars' : (List Nat)) : T ((List Nat) × ((List Int) × Int)) :=
  T.bind (T.ret []) fun s1 =>
    T.bind (T.req (-1000000 ≤ many' ∧ many' ≤ 1000000) (T.forL (fun (s3 : (((List Int) × Int) × (List Nat))) (x4 : Int) =>
    T.bind (T.bind (t__law_draw s3.1 (chars'.length : Int)) fun p5 => T.req (0 ≤ p5.1 ∧ p5.1 < chars'.length) (T.req (s3.2.length + [ix chars' p5.1].length ≤ 1000000) (T.ret (p5.2, (s3.2 ++ [ix chars' p5.1]))))) fun s8 => T.ret (s8.1, s8.2)) (rng many') (box', s1))) fun s3 =>
    T.ret (s3.2, s3.1)
abbrev q__law_run (box' : ((List Int) × Int)) (many' : Int) (chars' : (List Nat)) : ((List Nat) × ((List Int) × Int)) → Prop := fun z => f__law_run [.mu true (.lst [.d (e_Li box'.1), .d (D.int box'.2)]), .shr (D.int many'), .shr (D.str chars')] = ((fun (z : ((List Nat) × ((List Int) × Int))) => FRes.ok (.d (D.str z.1)) [.mu true (.lst [.d (e_Li z.2.1), .d (D.int z.2.2)]), .un, .un] : ((List Nat) × ((List Int) × Int)) → FRes)) z
theorem v__law_run (box' : ((List Int) × Int)) (many' : Int) (chars' : (List Nat)) : J (t__law_run box' many' chars') (q__law_run box' many' chars') :=
  v_fn (as := [.mu true (.lst [.d (e_Li box'.1), .d (D.int box'.2)]), .shr (D.int many'), .shr (D.str chars')]) (R' := fun (z : ((List Nat) × ((List Int) × Int))) => FRes.ok (.d (D.str z.1)) [.mu true (.lst [.d (e_Li z.2.1), .d (D.int z.2.2)]), .un, .un]) f__law_run_eq rfl (js_seq (E := fun (s1 : (List Nat)) => [.mu true (.lst [.d (e_Li box'.1), .d (D.int box'.2)]), .shr (D.int many'), .shr (D.str chars'), .shr (D.str s1), .un]) (js_st (E := fun (s1 : (List Nat)) => [.mu true (.lst [.d (e_Li box'.1), .d (D.int box'.2)]), .shr (D.int many'), .shr (D.str chars'), .shr (D.str s1), .un]) (st_set e_C rfl rfl) rfl) fun s1 =>
    (js_seq (E := fun (s3 : (((List Int) × Int) × (List Nat))) => [.mu true (.lst [.d (e_Li s3.1.1), .d (D.int s3.1.2)]), .un, .un, .shr (D.str s3.2), .un]) (js_klN (E := fun (s3 : (((List Int) × Int) × (List Nat))) => [.mu true (.lst [.d (e_Li s3.1.1), .d (D.int s3.1.2)]), .shr (D.int many'), .shr (D.str chars'), .shr (D.str s3.2), .un]) (js_req fun hc2 => (js_forL (e := D.int) (xs := (rng many')) (E := fun (s3 : (((List Int) × Int) × (List Nat))) => [.mu true (.lst [.d (e_Li s3.1.1), .d (D.int s3.1.2)]), .shr (D.int many'), .shr (D.str chars'), .shr (D.str s3.2), .un]) (fun s3 x4 => [.mu true (.lst [.d (e_Li s3.1.1), .d (D.int s3.1.2)]), .shr (D.int many'), .shr (D.str chars'), .shr (D.str s3.2), .shr (D.int x4)]) (e_rg1 (e_nm_s rfl) hc2) rfl (fun _ _ => rfl) (fun s3 x4 =>
    (js_last (E1 := fun (s8 : (((List Int) × Int) × (List Nat))) => [.mu true (.lst [.d (e_Li s8.1.1), .d (D.int s8.1.2)]), .shr (D.int many'), .shr (D.str chars'), .shr (D.str s8.2), .un]) (js_bind (v__law_draw s3.1 (chars'.length : Int)) fun p5 hp5 => (js_req fun hc6 => (js_req fun hc7 => (js_st (E := fun (s8 : (((List Int) × Int) × (List Nat))) => [.mu true (.lst [.d (e_Li s8.1.1), .d (D.int s8.1.2)]), .shr (D.int many'), .shr (D.str chars'), .shr (D.str s8.2), .un]) (st_kl (st_set (e_addS (e_nm_s rfl) (e_ixS (e_fz_s rfl) (e_call (e_argBb (i := 0) rfl (e_argBv (e_lenS  (e_nm_s rfl)) e_argB0 rfl)) (e_lendm (i := 0) rfl (e_lendr rfl e_lend0)) hp5 rfl) hc6) hc7) rfl rfl) rfl) rfl)))) fun _ => rfl)))) (fun _ => rfl)) fun s3 =>
    (js_rt (e_mv_s rfl) rfl rfl)))

noncomputable def t__law_name (box' : ((List Int) × Int)) (taken' : (List (List Nat))) : T ((List Nat) × ((List Int) × Int)) :=
  T.bind (T.bind (t__law_draw box' 8) fun p1 => T.req (0 ≤ p1.1 ∧ p1.1 < [[119, 104, 101, 101, 108], [102, 114, 97, 109, 101], [98, 105, 99, 121, 99, 108, 101], [100, 97, 121, 115], [121, 105, 101, 108, 100, 115], [97], [98], [115, 112, 111, 107, 101]].length) (T.ret (p1.2, (ix [[119, 104, 101, 101, 108], [102, 114, 97, 109, 101], [98, 105, 99, 121, 99, 108, 101], [100, 97, 121, 115], [121, 105, 101, 108, 100, 115], [97], [98], [115, 112, 111, 107, 101]] p1.1)))) fun s3 =>
    T.bind (T.bind (t__law_draw s3.1 2) fun p4 => if (decide (p4.1 = 0)) = true then T.bind (T.bind (t__law_draw p4.2 2) fun p5 => T.req (0 ≤ p5.1 ∧ p5.1 < [3, 9].length) (T.bind (t__law_draw p5.2 (ix [3, 9] p5.1)) fun p7 => T.bind (t__law_run p7.2 (1 + p7.1) [97, 98, 99, 100, 101, 102, 103, 104, 105, 106, 107, 108, 109, 110, 111, 112, 113, 114, 115, 116, 117, 118, 119, 120, 121, 122]) fun p8 => T.ret (p8.2, p8.1))) fun s9 => T.ret (s9.1, s9.2) else T.ret (p4.2, s3.2)) fun s10 =>
    T.bind (T.forL (fun (s11 : (List Nat)) (x12 : Int) =>
    T.bind (if (decide (s11 ∈ taken')) = true then T.bind (T.req (0 ≤ x12 ∧ x12 < [97, 98, 99, 100, 101, 102, 103, 104, 105].length) (T.req ((cutA s11 none (some 11)).length + [ix [97, 98, 99, 100, 101, 102, 103, 104, 105] x12].length ≤ 1000000) (T.ret ((cutA s11 none (some 11)) ++ [ix [97, 98, 99, 100, 101, 102, 103, 104, 105] x12])))) fun s15 => T.ret s15 else T.ret s11) fun s16 => T.ret s16) (rng 9) s10.2) fun s11 =>
    T.ret (s11, s10.1)
abbrev q__law_name (box' : ((List Int) × Int)) (taken' : (List (List Nat))) : ((List Nat) × ((List Int) × Int)) → Prop := fun z => f__law_name [.mu true (.lst [.d (e_Li box'.1), .d (D.int box'.2)]), .mu true (O.l (List.map D.str taken'))] = ((fun (z : ((List Nat) × ((List Int) × Int))) => FRes.ok (.d (D.str z.1)) [.mu true (.lst [.d (e_Li z.2.1), .d (D.int z.2.2)]), .mu true (O.l (List.map D.str taken'))] : ((List Nat) × ((List Int) × Int)) → FRes)) z
theorem v__law_name (box' : ((List Int) × Int)) (taken' : (List (List Nat))) : J (t__law_name box' taken') (q__law_name box' taken') :=
  v_fn (as := [.mu true (.lst [.d (e_Li box'.1), .d (D.int box'.2)]), .mu true (O.l (List.map D.str taken'))]) (R' := fun (z : ((List Nat) × ((List Int) × Int))) => FRes.ok (.d (D.str z.1)) [.mu true (.lst [.d (e_Li z.2.1), .d (D.int z.2.2)]), .mu true (O.l (List.map D.str taken'))]) f__law_name_eq rfl (js_seq (E := fun (s3 : (((List Int) × Int) × (List Nat))) => [.mu true (.lst [.d (e_Li s3.1.1), .d (D.int s3.1.2)]), .mu true (O.l (List.map D.str taken')), .shr (D.str s3.2), .un]) (js_bind (v__law_draw box' 8) fun p1 hp1 => (js_req fun hc2 => (js_st (E := fun (s3 : (((List Int) × Int) × (List Nat))) => [.mu true (.lst [.d (e_Li s3.1.1), .d (D.int s3.1.2)]), .mu true (O.l (List.map D.str taken')), .shr (D.str s3.2), .un]) (st_set (e_ixO (e := D.str) (xs := [[119, 104, 101, 101, 108], [102, 114, 97, 109, 101], [98, 105, 99, 121, 99, 108, 101], [100, 97, 121, 115], [121, 105, 101, 108, 100, 115], [97], [98], [115, 112, 111, 107, 101]]) (e_cast (r' := .own (O.l (List.map D.str [[119, 104, 101, 101, 108], [102, 114, 97, 109, 101], [98, 105, 99, 121, 99, 108, 101], [100, 97, 121, 115], [121, 105, 101, 108, 100, 115], [97], [98], [115, 112, 111, 107, 101]]))) (e_lst (e_args e_C (e_args e_C (e_args e_C (e_args e_C (e_args e_C (e_args e_C (e_args e_C (e_args e_C e_args0 rfl) rfl) rfl) rfl) rfl) rfl) rfl) rfl) (e_sts rfl (e_sts rfl (e_sts rfl (e_sts rfl (e_sts rfl (e_sts rfl (e_sts rfl (e_sts rfl e_sts0)))))))) (Nat.le_of_ble_eq_true rfl)) rfl) (e_call (e_argBb (i := 0) rfl (e_argBv e_C e_argB0 rfl)) (e_lendm (i := 0) rfl (e_lendr rfl e_lend0)) hp1 rfl) hc2) rfl rfl) rfl))) fun s3 =>
    (js_seq (E := fun (s10 : (((List Int) × Int) × (List Nat))) => [.mu true (.lst [.d (e_Li s10.1.1), .d (D.int s10.1.2)]), .mu true (O.l (List.map D.str taken')), .shr (D.str s10.2), .un]) (js_bind (v__law_draw s3.1 2) fun p4 hp4 => (js_if (e_test (e_eqI (e_call (e_argBb (i := 0) rfl (e_argBv e_C e_argB0 rfl)) (e_lendm (i := 0) rfl (e_lendr rfl e_lend0)) hp4 rfl) e_C)) (js_last (E1 := fun (s9 : (((List Int) × Int) × (List Nat))) => [.mu true (.lst [.d (e_Li s9.1.1), .d (D.int s9.1.2)]), .mu true (O.l (List.map D.str taken')), .shr (D.str s9.2), .un]) (js_bind (v__law_draw p4.2 2) fun p5 hp5 => (js_req fun hc6 => (js_bind (v__law_draw p5.2 (ix [3, 9] p5.1)) fun p7 hp7 => (js_bind (v__law_run p7.2 (1 + p7.1) [97, 98, 99, 100, 101, 102, 103, 104, 105, 106, 107, 108, 109, 110, 111, 112, 113, 114, 115, 116, 117, 118, 119, 120, 121, 122]) fun p8 hp8 => (js_st (E := fun (s9 : (((List Int) × Int) × (List Nat))) => [.mu true (.lst [.d (e_Li s9.1.1), .d (D.int s9.1.2)]), .mu true (O.l (List.map D.str taken')), .shr (D.str s9.2), .un]) (st_set (e_call (e_argBb (i := 0) rfl (e_argBv (e_addI e_C (e_call (e_argBb (i := 0) rfl (e_argBv (e_ixO (e := D.int) (xs := [3, 9]) (e_cast (r' := .own (O.l (List.map D.int [3, 9]))) (e_lst (e_args e_C (e_args e_C e_args0 rfl) rfl) (e_sts rfl (e_sts rfl e_sts0)) (Nat.le_of_ble_eq_true rfl)) rfl) (e_call (e_argBb (i := 0) rfl (e_argBv e_C e_argB0 rfl)) (e_lendm (i := 0) rfl (e_lendr rfl e_lend0)) hp5 rfl) hc6) e_argB0 rfl)) (e_lendm (i := 0) rfl (e_lendr rfl e_lend0)) hp7 rfl)) (e_argBv e_C e_argB0 rfl) rfl)) (e_lendm (i := 0) rfl (e_lendr rfl (e_lendr rfl e_lend0))) hp8 rfl) rfl rfl) rfl))))) fun _ => rfl) (js_nx rfl))) fun s10 =>
    (js_seq (E := fun (s11 : (List Nat)) => [.mu true (.lst [.d (e_Li s10.1.1), .d (D.int s10.1.2)]), .mu true (O.l (List.map D.str taken')), .shr (D.str s11), .un]) (js_forL (e := D.int) (xs := (rng 9)) (E := fun (s11 : (List Nat)) => [.mu true (.lst [.d (e_Li s10.1.1), .d (D.int s10.1.2)]), .mu true (O.l (List.map D.str taken')), .shr (D.str s11), .un]) (fun s11 x12 => [.mu true (.lst [.d (e_Li s10.1.1), .d (D.int s10.1.2)]), .mu true (O.l (List.map D.str taken')), .shr (D.str s11), .shr (D.int x12)]) (e_rg1 e_C (by decide)) rfl (fun _ _ => rfl) (fun s11 x12 =>
    (js_last (E1 := fun (s16 : (List Nat)) => [.mu true (.lst [.d (e_Li s10.1.1), .d (D.int s10.1.2)]), .mu true (O.l (List.map D.str taken')), .shr (D.str s16), .un]) (js_if (e_test (e_in (e_nm_s rfl) (e_nm_m rfl) rfl (isInL_s (R.pl_pk _)))) (js_last (E1 := fun (s15 : (List Nat)) => [.mu true (.lst [.d (e_Li s10.1.1), .d (D.int s10.1.2)]), .mu true (O.l (List.map D.str taken')), .shr (D.str s15), .un]) (js_req fun hc13 => (js_req fun hc14 => (js_st (E := fun (s15 : (List Nat)) => [.mu true (.lst [.d (e_Li s10.1.1), .d (D.int s10.1.2)]), .mu true (O.l (List.map D.str taken')), .shr (D.str s15), .un]) (st_kl (st_set (e_addS (e_sl01 (e_nm_s rfl) e_C rfl lSl_S) (e_ixS e_C (e_nm_s rfl) hc13) hc14) rfl rfl) rfl) rfl))) fun _ => rfl) (fun _ => rfl)) fun _ => rfl))) fun s11 =>
    (js_rt (e_mv_s rfl) rfl rfl))))

noncomputable def t__law_bill (box' : ((List Int) × Int)) (most' : Int) : T ((List Item) × ((List Int) × Int)) :=
  T.bind (T.bind (t__law_draw box' most') fun p1 => T.ret (p1.2, (1 + p1.1))) fun s2 =>
    T.bind (T.ret ([] : (List (List Nat)))) fun s3 =>
    T.bind (T.req (-1000000 ≤ s2.2 ∧ s2.2 ≤ 1000000) (T.forL (fun (s5 : (((List Int) × Int) × (List (List Nat)))) (x6 : Int) =>
    T.bind (T.bind (t__law_name s5.1 s5.2) fun p7 => T.req (s5.2.length < 1000000) (T.ret (p7.2, (s5.2 ++ [p7.1])))) fun s9 => T.ret (s9.1, s9.2)) (rng s2.2) (s2.1, s3))) fun s5 =>
    T.bind (T.ret ([] : (List Int))) fun s10 =>
    T.bind (T.req (-1000000 ≤ s2.2 ∧ s2.2 ≤ 1000000) (T.forL (fun (s12 : (((List Int) × Int) × (List Int))) (x13 : Int) =>
    T.bind (T.bind (t__law_draw s12.1 ((s12.2.length : Int) + 1)) fun p14 => T.ret (p14.2, p14.1)) fun s15 =>
    T.bind (T.req ((cutA s12.2 none (some s15.2)).length + [x13].length ≤ 1000000) (T.req (((cutA s12.2 none (some s15.2)) ++ [x13]).length + (cutA s12.2 (some s15.2) none).length ≤ 1000000) (T.ret (((cutA s12.2 none (some s15.2)) ++ [x13]) ++ (cutA s12.2 (some s15.2) none))))) fun s18 => T.ret (s15.1, s18)) (rng s2.2) (s5.1, s10))) fun s12 =>
    T.bind (T.ret ([] : (List Item))) fun s19 =>
    T.bind (T.req (-1000000 ≤ s2.2 ∧ s2.2 ≤ 1000000) (T.forL (fun (s21 : (((List Int) × Int) × (List Item))) (x22 : Int) =>
    T.bind (T.req (x22 ∈ s12.2) (T.ret (cutA s12.2 none (some (idxI s12.2 x22))))) fun s24 =>
    T.bind (T.ret ([] : (List (Int × Int)))) fun s25 =>
    T.bind (T.bind (t__law_draw s21.1 5) fun p49 => T.req (-1000000 ≤ p49.1 ∧ p49.1 ≤ 1000000) (T.forL (fun (s51 : (((List Int) × Int) × (List (Int × Int)))) (x52 : Int) =>
    T.bind (if (decide (0 < (s24.length : Int))) = true then T.bind (T.bind (t__law_draw s51.1 3) fun p53 => T.ret (p53.2, (1 + p53.1))) fun s54 =>
    T.bind (T.bind (t__law_draw s54.1 9) fun p55 => if (decide (p55.1 = 0)) = true then T.bind (T.ret 20) fun s56 => T.ret (p55.2, s56) else T.ret (p55.2, s54.2)) fun s57 =>
    T.bind (T.bind (t__law_draw s57.1 (s24.length : Int)) fun p58 => T.req (0 ≤ p58.1 ∧ p58.1 < s24.length) (T.req (s51.2.length < 1000000) (T.ret (p58.2, (s51.2 ++ [((ix s24 p58.1), s57.2)]))))) fun s61 => T.ret (s61.1, s61.2) else T.ret (s51.1, s51.2)) fun s62 => T.ret (s62.1, s62.2)) (rng p49.1) (p49.2, s25))) fun s51 =>
    T.bind (T.bind (t__law_draw s51.1 5) fun p63 => T.bind (t__law_draw p63.2 11) fun p64 => T.bind (t__law_draw p64.2 5) fun p65 => T.req (0 ≤ (p65.1 / 4) ∧ (p65.1 / 4) < [p63.1, p64.1].length) (T.ret (p65.2, (ix [p63.1, p64.1] (p65.1 / 4))))) fun s67 =>
    T.bind (T.bind (t__law_draw s67.1 6) fun p68 => T.bind (t__law_draw p68.2 50) fun p69 => T.bind (t__law_draw p69.2 5) fun p70 => T.req (0 ≤ (p70.1 / 4) ∧ (p70.1 / 4) < [(1 + p68.1), (1 + p69.1)].length) (T.ret (p70.2, (ix [(1 + p68.1), (1 + p69.1)] (p70.1 / 4))))) fun s72 =>
    T.bind (T.req (0 ≤ x22 ∧ x22 < s5.2.length) (T.bind (t__law_draw s72.1 s72.2) fun p74 => T.req (s21.2.length < 1000000) (T.ret (p74.2, (s21.2 ++ [(Item.mk (ix s5.2 x22) s51.2 s67.2 s72.2 (1 + p74.1))]))))) fun s76 => T.ret (s76.1, s76.2)) (rng s2.2) (s12.1, s19))) fun s21 =>
    T.ret (s21.2, s21.1)
abbrev q__law_bill (box' : ((List Int) × Int)) (most' : Int) : ((List Item) × ((List Int) × Int)) → Prop := fun z => f__law_bill [.mu true (.lst [.d (e_Li box'.1), .d (D.int box'.2)]), .shr (D.int most')] = ((fun (z : ((List Item) × ((List Int) × Int))) => FRes.ok (.d (e_VItem z.1)) [.mu true (.lst [.d (e_Li z.2.1), .d (D.int z.2.2)]), .un] : ((List Item) × ((List Int) × Int)) → FRes)) z
theorem v__law_bill (box' : ((List Int) × Int)) (most' : Int) : J (t__law_bill box' most') (q__law_bill box' most') :=
  v_fn (as := [.mu true (.lst [.d (e_Li box'.1), .d (D.int box'.2)]), .shr (D.int most')]) (R' := fun (z : ((List Item) × ((List Int) × Int))) => FRes.ok (.d (e_VItem z.1)) [.mu true (.lst [.d (e_Li z.2.1), .d (D.int z.2.2)]), .un]) f__law_bill_eq rfl (js_seq (E := fun (s2 : (((List Int) × Int) × Int)) => [.mu true (.lst [.d (e_Li s2.1.1), .d (D.int s2.1.2)]), .un, .shr (D.int s2.2), .un, .un, .un, .un, .un, .un, .un, .un, .un, .un, .un]) (js_bind (v__law_draw box' most') fun p1 hp1 => (js_st (E := fun (s2 : (((List Int) × Int) × Int)) => [.mu true (.lst [.d (e_Li s2.1.1), .d (D.int s2.1.2)]), .un, .shr (D.int s2.2), .un, .un, .un, .un, .un, .un, .un, .un, .un, .un, .un]) (st_kl (st_set (e_addI e_C (e_call (e_argBb (i := 0) rfl (e_argBv (e_fz_s rfl) e_argB0 rfl)) (e_lendm (i := 0) rfl (e_lendr rfl e_lend0)) hp1 rfl)) rfl rfl) rfl) rfl)) fun s2 =>
    (js_seq (E := fun (s3 : (List (List Nat))) => [.mu true (.lst [.d (e_Li s2.1.1), .d (D.int s2.1.2)]), .un, .shr (D.int s2.2), .mu false (O.l (List.map D.str s3)), .un, .un, .un, .un, .un, .un, .un, .un, .un, .un]) (js_st (E := fun (s3 : (List (List Nat))) => [.mu true (.lst [.d (e_Li s2.1.1), .d (D.int s2.1.2)]), .un, .shr (D.int s2.2), .mu false (O.l (List.map D.str s3)), .un, .un, .un, .un, .un, .un, .un, .un, .un, .un]) (st_set (e_cast (r' := .own (O.l (List.map D.str ([] : (List (List Nat)))))) (e_lst e_args0 e_sts0 (Nat.le_of_ble_eq_true rfl)) rfl) rfl rfl) rfl) fun s3 =>
    (js_seq (E := fun (s5 : (((List Int) × Int) × (List (List Nat)))) => [.mu true (.lst [.d (e_Li s5.1.1), .d (D.int s5.1.2)]), .un, .shr (D.int s2.2), .mu false (O.l (List.map D.str s5.2)), .un, .un, .un, .un, .un, .un, .un, .un, .un, .un]) (js_req fun hc4 => (js_forL (e := D.int) (xs := (rng s2.2)) (E := fun (s5 : (((List Int) × Int) × (List (List Nat)))) => [.mu true (.lst [.d (e_Li s5.1.1), .d (D.int s5.1.2)]), .un, .shr (D.int s2.2), .mu false (O.l (List.map D.str s5.2)), .un, .un, .un, .un, .un, .un, .un, .un, .un, .un]) (fun s5 x6 => [.mu true (.lst [.d (e_Li s5.1.1), .d (D.int s5.1.2)]), .un, .shr (D.int s2.2), .mu false (O.l (List.map D.str s5.2)), .shr (D.int x6), .un, .un, .un, .un, .un, .un, .un, .un, .un]) (e_rg1 (e_nm_s rfl) hc4) rfl (fun _ _ => rfl) (fun s5 x6 =>
    (js_last (E1 := fun (s9 : (((List Int) × Int) × (List (List Nat)))) => [.mu true (.lst [.d (e_Li s9.1.1), .d (D.int s9.1.2)]), .un, .shr (D.int s2.2), .mu false (O.l (List.map D.str s9.2)), .un, .un, .un, .un, .un, .un, .un, .un, .un, .un]) (js_bind (v__law_name s5.1 s5.2) fun p7 hp7 => (js_req fun hc8 => (js_st (E := fun (s9 : (((List Int) × Int) × (List (List Nat)))) => [.mu true (.lst [.d (e_Li s9.1.1), .d (D.int s9.1.2)]), .un, .shr (D.int s2.2), .mu false (O.l (List.map D.str s9.2)), .un, .un, .un, .un, .un, .un, .un, .un, .un, .un]) (st_kl (st_drop (e_app (e := D.str) (xs := s5.2) (z := p7.1) rfl (e_call (e_argBb (i := 0) rfl (e_argBb (i := 3) rfl e_argB0)) (e_lendm (i := 0) rfl (e_lendm (i := 3) rfl e_lend0)) hp7 rfl) rfl rfl hc8)) rfl) rfl))) fun _ => rfl)))) fun s5 =>
    (js_seq (E := fun (s10 : (List Int)) => [.mu true (.lst [.d (e_Li s5.1.1), .d (D.int s5.1.2)]), .un, .shr (D.int s2.2), .mu false (O.l (List.map D.str s5.2)), .un, .mu false (O.l (List.map D.int s10)), .un, .un, .un, .un, .un, .un, .un, .un]) (js_st (E := fun (s10 : (List Int)) => [.mu true (.lst [.d (e_Li s5.1.1), .d (D.int s5.1.2)]), .un, .shr (D.int s2.2), .mu false (O.l (List.map D.str s5.2)), .un, .mu false (O.l (List.map D.int s10)), .un, .un, .un, .un, .un, .un, .un, .un]) (st_set (e_cast (r' := .own (O.l (List.map D.int ([] : (List Int))))) (e_lst e_args0 e_sts0 (Nat.le_of_ble_eq_true rfl)) rfl) rfl rfl) rfl) fun s10 =>
    (js_seq (E := fun (s12 : (((List Int) × Int) × (List Int))) => [.mu true (.lst [.d (e_Li s12.1.1), .d (D.int s12.1.2)]), .un, .shr (D.int s2.2), .mu false (O.l (List.map D.str s5.2)), .un, .mu false (O.l (List.map D.int s12.2)), .un, .un, .un, .un, .un, .un, .un, .un]) (js_req fun hc11 => (js_forL (e := D.int) (xs := (rng s2.2)) (E := fun (s12 : (((List Int) × Int) × (List Int))) => [.mu true (.lst [.d (e_Li s12.1.1), .d (D.int s12.1.2)]), .un, .shr (D.int s2.2), .mu false (O.l (List.map D.str s5.2)), .un, .mu false (O.l (List.map D.int s12.2)), .un, .un, .un, .un, .un, .un, .un, .un]) (fun s12 x13 => [.mu true (.lst [.d (e_Li s12.1.1), .d (D.int s12.1.2)]), .un, .shr (D.int s2.2), .mu false (O.l (List.map D.str s5.2)), .shr (D.int x13), .mu false (O.l (List.map D.int s12.2)), .un, .un, .un, .un, .un, .un, .un, .un]) (e_rg1 (e_nm_s rfl) hc11) rfl (fun _ _ => rfl) (fun s12 x13 =>
    (js_seq (E := fun (s15 : (((List Int) × Int) × Int)) => [.mu true (.lst [.d (e_Li s15.1.1), .d (D.int s15.1.2)]), .un, .shr (D.int s2.2), .mu false (O.l (List.map D.str s5.2)), .shr (D.int x13), .mu false (O.l (List.map D.int s12.2)), .shr (D.int s15.2), .un, .un, .un, .un, .un, .un, .un]) (js_bind (v__law_draw s12.1 ((s12.2.length : Int) + 1)) fun p14 hp14 => (js_st (E := fun (s15 : (((List Int) × Int) × Int)) => [.mu true (.lst [.d (e_Li s15.1.1), .d (D.int s15.1.2)]), .un, .shr (D.int s2.2), .mu false (O.l (List.map D.str s5.2)), .shr (D.int x13), .mu false (O.l (List.map D.int s12.2)), .shr (D.int s15.2), .un, .un, .un, .un, .un, .un, .un]) (st_set (e_call (e_argBb (i := 0) rfl (e_argBv (e_addI (e_lenP (e := D.int) (xs := s12.2) (e_nm_m rfl)) e_C) e_argB0 rfl)) (e_lendm (i := 0) rfl (e_lendr rfl e_lend0)) hp14 rfl) rfl rfl) rfl)) fun s15 =>
    (js_last (E1 := fun (s18 : (List Int)) => [.mu true (.lst [.d (e_Li s15.1.1), .d (D.int s15.1.2)]), .un, .shr (D.int s2.2), .mu false (O.l (List.map D.str s5.2)), .un, .mu false (O.l (List.map D.int s18)), .un, .un, .un, .un, .un, .un, .un, .un]) (js_req fun hc16 => (js_req fun hc17 => (js_st (E := fun (s18 : (List Int)) => [.mu true (.lst [.d (e_Li s15.1.1), .d (D.int s15.1.2)]), .un, .shr (D.int s2.2), .mu false (O.l (List.map D.str s5.2)), .un, .mu false (O.l (List.map D.int s18)), .un, .un, .un, .un, .un, .un, .un, .un]) (st_kl (st_set (e_addL (e := D.int) (xs := ((cutA s12.2 none (some s15.2)) ++ [x13])) (ys := (cutA s12.2 (some s15.2) none)) (e_addL (e := D.int) (xs := (cutA s12.2 none (some s15.2))) (ys := [x13]) (e_sl01 (e_nm_m rfl) (e_nm_s rfl) rfl (lSl_L (e := D.int) (xs := s12.2) (R.pl_pk _))) (e_cast (r' := .own (O.l (List.map D.int [x13]))) (e_lst (e_args (e_fz_s rfl) e_args0 rfl) (e_sts rfl e_sts0) (Nat.le_of_ble_eq_true rfl)) rfl) rfl (R.pl_own _) (R.pl_own _) hc16) (e_sl10 (e_nm_m rfl) (e_nm_s rfl) rfl (lSl_L (e := D.int) (xs := s12.2) (R.pl_pk _))) rfl (R.pl_own _) (R.pl_own _) hc17) rfl rfl) rfl) rfl))) fun _ => rfl))))) fun s12 =>
    (js_seq (E := fun (s19 : (List Item)) => [.mu true (.lst [.d (e_Li s12.1.1), .d (D.int s12.1.2)]), .un, .shr (D.int s2.2), .mu false (O.l (List.map D.str s5.2)), .un, .mu false (O.l (List.map D.int s12.2)), .un, .mu false (O.l (List.map e_Item s19)), .un, .un, .un, .un, .un, .un]) (js_st (E := fun (s19 : (List Item)) => [.mu true (.lst [.d (e_Li s12.1.1), .d (D.int s12.1.2)]), .un, .shr (D.int s2.2), .mu false (O.l (List.map D.str s5.2)), .un, .mu false (O.l (List.map D.int s12.2)), .un, .mu false (O.l (List.map e_Item s19)), .un, .un, .un, .un, .un, .un]) (st_set (e_cast (r' := .own (O.l (List.map e_Item ([] : (List Item))))) (e_lst e_args0 e_sts0 (Nat.le_of_ble_eq_true rfl)) rfl) rfl rfl) rfl) fun s19 =>
    (js_seq (E := fun (s21 : (((List Int) × Int) × (List Item))) => [.mu true (.lst [.d (e_Li s21.1.1), .d (D.int s21.1.2)]), .un, .un, .un, .un, .un, .un, .mu false (O.l (List.map e_Item s21.2)), .un, .un, .un, .un, .un, .un]) (js_klN (E := fun (s21 : (((List Int) × Int) × (List Item))) => [.mu true (.lst [.d (e_Li s21.1.1), .d (D.int s21.1.2)]), .un, .shr (D.int s2.2), .mu false (O.l (List.map D.str s5.2)), .un, .mu false (O.l (List.map D.int s12.2)), .un, .mu false (O.l (List.map e_Item s21.2)), .un, .un, .un, .un, .un, .un]) (js_req fun hc20 => (js_forL (e := D.int) (xs := (rng s2.2)) (E := fun (s21 : (((List Int) × Int) × (List Item))) => [.mu true (.lst [.d (e_Li s21.1.1), .d (D.int s21.1.2)]), .un, .shr (D.int s2.2), .mu false (O.l (List.map D.str s5.2)), .un, .mu false (O.l (List.map D.int s12.2)), .un, .mu false (O.l (List.map e_Item s21.2)), .un, .un, .un, .un, .un, .un]) (fun s21 x22 => [.mu true (.lst [.d (e_Li s21.1.1), .d (D.int s21.1.2)]), .un, .shr (D.int s2.2), .mu false (O.l (List.map D.str s5.2)), .shr (D.int x22), .mu false (O.l (List.map D.int s12.2)), .un, .mu false (O.l (List.map e_Item s21.2)), .un, .un, .un, .un, .un, .un]) (e_rg1 (e_nm_s rfl) hc20) rfl (fun _ _ => rfl) (fun s21 x22 =>
    (js_seq (E := fun (s24 : (List Int)) => [.mu true (.lst [.d (e_Li s21.1.1), .d (D.int s21.1.2)]), .un, .shr (D.int s2.2), .mu false (O.l (List.map D.str s5.2)), .shr (D.int x22), .mu false (O.l (List.map D.int s12.2)), .un, .mu false (O.l (List.map e_Item s21.2)), .mu false (O.l (List.map D.int s24)), .un, .un, .un, .un, .un]) (js_req fun hc23 => (js_st (E := fun (s24 : (List Int)) => [.mu true (.lst [.d (e_Li s21.1.1), .d (D.int s21.1.2)]), .un, .shr (D.int s2.2), .mu false (O.l (List.map D.str s5.2)), .shr (D.int x22), .mu false (O.l (List.map D.int s12.2)), .un, .mu false (O.l (List.map e_Item s21.2)), .mu false (O.l (List.map D.int s24)), .un, .un, .un, .un, .un]) (st_set (e_sl01 (e_nm_m rfl) (e_index (e_nm_m rfl) (e_nm_s rfl) rfl (R.pl_pk _) hc23) rfl (lSl_L (e := D.int) (xs := s12.2) (R.pl_pk _))) rfl rfl) rfl)) fun s24 =>
    (js_seq (E := fun (s25 : (List (Int × Int))) => [.mu true (.lst [.d (e_Li s21.1.1), .d (D.int s21.1.2)]), .un, .shr (D.int s2.2), .mu false (O.l (List.map D.str s5.2)), .shr (D.int x22), .mu false (O.l (List.map D.int s12.2)), .un, .mu false (O.l (List.map e_Item s21.2)), .mu false (O.l (List.map D.int s24)), .mu false (O.l (List.map e_T2ii s25)), .un, .un, .un, .un]) (js_st (E := fun (s25 : (List (Int × Int))) => [.mu true (.lst [.d (e_Li s21.1.1), .d (D.int s21.1.2)]), .un, .shr (D.int s2.2), .mu false (O.l (List.map D.str s5.2)), .shr (D.int x22), .mu false (O.l (List.map D.int s12.2)), .un, .mu false (O.l (List.map e_Item s21.2)), .mu false (O.l (List.map D.int s24)), .mu false (O.l (List.map e_T2ii s25)), .un, .un, .un, .un]) (st_set (e_cast (r' := .own (O.l (List.map e_T2ii ([] : (List (Int × Int)))))) (e_lst e_args0 e_sts0 (Nat.le_of_ble_eq_true rfl)) rfl) rfl rfl) rfl) fun s25 =>
    (js_fz rfl rfl (js_seq (E := fun (s51 : (((List Int) × Int) × (List (Int × Int)))) => [.mu true (.lst [.d (e_Li s51.1.1), .d (D.int s51.1.2)]), .un, .shr (D.int s2.2), .mu false (O.l (List.map D.str s5.2)), .shr (D.int x22), .mu false (O.l (List.map D.int s12.2)), .un, .mu false (O.l (List.map e_Item s21.2)), .un, .mu false (O.l (List.map e_T2ii s51.2)), .un, .un, .un, .un]) (js_klN (E := fun (s51 : (((List Int) × Int) × (List (Int × Int)))) => [.mu true (.lst [.d (e_Li s51.1.1), .d (D.int s51.1.2)]), .un, .shr (D.int s2.2), .mu false (O.l (List.map D.str s5.2)), .shr (D.int x22), .mu false (O.l (List.map D.int s12.2)), .un, .mu false (O.l (List.map e_Item s21.2)), .shr (e_Li s24), .mu false (O.l (List.map e_T2ii s51.2)), .un, .un, .un, .un]) (js_bind (v__law_draw s21.1 5) fun p49 hp49 => (js_req fun hc50 => (js_forL (e := D.int) (xs := (rng p49.1)) (E := fun (s51 : (((List Int) × Int) × (List (Int × Int)))) => [.mu true (.lst [.d (e_Li s51.1.1), .d (D.int s51.1.2)]), .un, .shr (D.int s2.2), .mu false (O.l (List.map D.str s5.2)), .shr (D.int x22), .mu false (O.l (List.map D.int s12.2)), .un, .mu false (O.l (List.map e_Item s21.2)), .shr (e_Li s24), .mu false (O.l (List.map e_T2ii s51.2)), .un, .un, .un, .un]) (fun s51 x52 => [.mu true (.lst [.d (e_Li s51.1.1), .d (D.int s51.1.2)]), .un, .shr (D.int s2.2), .mu false (O.l (List.map D.str s5.2)), .shr (D.int x22), .mu false (O.l (List.map D.int s12.2)), .un, .mu false (O.l (List.map e_Item s21.2)), .shr (e_Li s24), .mu false (O.l (List.map e_T2ii s51.2)), .shr (D.int x52), .un, .un, .un]) (e_rg1 (e_call (e_argBb (i := 0) rfl (e_argBv e_C e_argB0 rfl)) (e_lendm (i := 0) rfl (e_lendr rfl e_lend0)) hp49 rfl) hc50) rfl (fun _ _ => rfl) (fun s51 x52 =>
    (js_last (E1 := fun (s62 : (((List Int) × Int) × (List (Int × Int)))) => [.mu true (.lst [.d (e_Li s62.1.1), .d (D.int s62.1.2)]), .un, .shr (D.int s2.2), .mu false (O.l (List.map D.str s5.2)), .shr (D.int x22), .mu false (O.l (List.map D.int s12.2)), .un, .mu false (O.l (List.map e_Item s21.2)), .shr (e_Li s24), .mu false (O.l (List.map e_T2ii s62.2)), .un, .un, .un, .un]) (js_if (e_test (e_gt (e_lenL (e := D.int) (xs := s24) (e_nm_s rfl)) e_C)) (js_seq (E := fun (s54 : (((List Int) × Int) × Int)) => [.mu true (.lst [.d (e_Li s54.1.1), .d (D.int s54.1.2)]), .un, .shr (D.int s2.2), .mu false (O.l (List.map D.str s5.2)), .shr (D.int x22), .mu false (O.l (List.map D.int s12.2)), .un, .mu false (O.l (List.map e_Item s21.2)), .shr (e_Li s24), .mu false (O.l (List.map e_T2ii s51.2)), .un, .shr (D.int s54.2), .un, .un]) (js_bind (v__law_draw s51.1 3) fun p53 hp53 => (js_st (E := fun (s54 : (((List Int) × Int) × Int)) => [.mu true (.lst [.d (e_Li s54.1.1), .d (D.int s54.1.2)]), .un, .shr (D.int s2.2), .mu false (O.l (List.map D.str s5.2)), .shr (D.int x22), .mu false (O.l (List.map D.int s12.2)), .un, .mu false (O.l (List.map e_Item s21.2)), .shr (e_Li s24), .mu false (O.l (List.map e_T2ii s51.2)), .un, .shr (D.int s54.2), .un, .un]) (st_kl (st_set (e_addI e_C (e_call (e_argBb (i := 0) rfl (e_argBv e_C e_argB0 rfl)) (e_lendm (i := 0) rfl (e_lendr rfl e_lend0)) hp53 rfl)) rfl rfl) rfl) rfl)) fun s54 =>
    (js_seq (E := fun (s57 : (((List Int) × Int) × Int)) => [.mu true (.lst [.d (e_Li s57.1.1), .d (D.int s57.1.2)]), .un, .shr (D.int s2.2), .mu false (O.l (List.map D.str s5.2)), .shr (D.int x22), .mu false (O.l (List.map D.int s12.2)), .un, .mu false (O.l (List.map e_Item s21.2)), .shr (e_Li s24), .mu false (O.l (List.map e_T2ii s51.2)), .un, .shr (D.int s57.2), .un, .un]) (js_bind (v__law_draw s54.1 9) fun p55 hp55 => (js_if (e_test (e_eqI (e_call (e_argBb (i := 0) rfl (e_argBv e_C e_argB0 rfl)) (e_lendm (i := 0) rfl (e_lendr rfl e_lend0)) hp55 rfl) e_C)) (js_last (E1 := fun (s56 : Int) => [.mu true (.lst [.d (e_Li p55.2.1), .d (D.int p55.2.2)]), .un, .shr (D.int s2.2), .mu false (O.l (List.map D.str s5.2)), .shr (D.int x22), .mu false (O.l (List.map D.int s12.2)), .un, .mu false (O.l (List.map e_Item s21.2)), .shr (e_Li s24), .mu false (O.l (List.map e_T2ii s51.2)), .un, .shr (D.int s56), .un, .un]) (js_st (E := fun (s56 : Int) => [.mu true (.lst [.d (e_Li p55.2.1), .d (D.int p55.2.2)]), .un, .shr (D.int s2.2), .mu false (O.l (List.map D.str s5.2)), .shr (D.int x22), .mu false (O.l (List.map D.int s12.2)), .un, .mu false (O.l (List.map e_Item s21.2)), .shr (e_Li s24), .mu false (O.l (List.map e_T2ii s51.2)), .un, .shr (D.int s56), .un, .un]) (st_set e_C rfl rfl) rfl) fun _ => rfl) (js_nx rfl))) fun s57 =>
    (js_last (E1 := fun (s61 : (((List Int) × Int) × (List (Int × Int)))) => [.mu true (.lst [.d (e_Li s61.1.1), .d (D.int s61.1.2)]), .un, .shr (D.int s2.2), .mu false (O.l (List.map D.str s5.2)), .shr (D.int x22), .mu false (O.l (List.map D.int s12.2)), .un, .mu false (O.l (List.map e_Item s21.2)), .shr (e_Li s24), .mu false (O.l (List.map e_T2ii s61.2)), .un, .un, .un, .un]) (js_bind (v__law_draw s57.1 (s24.length : Int)) fun p58 hp58 => (js_req fun hc59 => (js_req fun hc60 => (js_st (E := fun (s61 : (((List Int) × Int) × (List (Int × Int)))) => [.mu true (.lst [.d (e_Li s61.1.1), .d (D.int s61.1.2)]), .un, .shr (D.int s2.2), .mu false (O.l (List.map D.str s5.2)), .shr (D.int x22), .mu false (O.l (List.map D.int s12.2)), .un, .mu false (O.l (List.map e_Item s21.2)), .shr (e_Li s24), .mu false (O.l (List.map e_T2ii s61.2)), .un, .un, .un, .un]) (st_kl (st_drop (e_app (e := e_T2ii) (xs := s51.2) (z := ((ix s24 p58.1), s57.2)) rfl (e_cast (r' := .d (e_T2ii ((ix s24 p58.1), s57.2))) (e_tup (e_args (e_ixL (e := D.int) (xs := s24) (e_fz_s rfl) (e_call (e_argBb (i := 0) rfl (e_argBv (e_lenL (e := D.int) (xs := s24) (e_nm_s rfl)) e_argB0 rfl)) (e_lendm (i := 0) rfl (e_lendr rfl e_lend0)) hp58 rfl) hc59) (e_args (e_fz_s rfl) e_args0 rfl) rfl) (e_sts rfl (e_sts rfl e_sts0)) (Nat.le_of_ble_eq_true rfl)) rfl) rfl rfl hc60)) rfl) rfl)))) fun _ => rfl))) (fun _ => rfl)) fun _ => rfl))))) (fun _ => rfl)) fun s51 =>
    (js_seq (E := fun (s67 : (((List Int) × Int) × Int)) => [.mu true (.lst [.d (e_Li s67.1.1), .d (D.int s67.1.2)]), .un, .shr (D.int s2.2), .mu false (O.l (List.map D.str s5.2)), .shr (D.int x22), .mu false (O.l (List.map D.int s12.2)), .un, .mu false (O.l (List.map e_Item s21.2)), .un, .mu false (O.l (List.map e_T2ii s51.2)), .un, .un, .shr (D.int s67.2), .un]) (js_bind (v__law_draw s51.1 5) fun p63 hp63 => (js_bind (v__law_draw p63.2 11) fun p64 hp64 => (js_bind (v__law_draw p64.2 5) fun p65 hp65 => (js_req fun hc66 => (js_st (E := fun (s67 : (((List Int) × Int) × Int)) => [.mu true (.lst [.d (e_Li s67.1.1), .d (D.int s67.1.2)]), .un, .shr (D.int s2.2), .mu false (O.l (List.map D.str s5.2)), .shr (D.int x22), .mu false (O.l (List.map D.int s12.2)), .un, .mu false (O.l (List.map e_Item s21.2)), .un, .mu false (O.l (List.map e_T2ii s51.2)), .un, .un, .shr (D.int s67.2), .un]) (st_set (e_ixO (e := D.int) (xs := [p63.1, p64.1]) (e_cast (r' := .own (O.l (List.map D.int [p63.1, p64.1]))) (e_lst (e_args (e_call (e_argBb (i := 0) rfl (e_argBv e_C e_argB0 rfl)) (e_lendm (i := 0) rfl (e_lendr rfl e_lend0)) hp63 rfl) (e_args (e_call (e_argBb (i := 0) rfl (e_argBv e_C e_argB0 rfl)) (e_lendm (i := 0) rfl (e_lendr rfl e_lend0)) hp64 rfl) e_args0 rfl) rfl) (e_sts rfl (e_sts rfl e_sts0)) (Nat.le_of_ble_eq_true rfl)) rfl) (e_divI (e_call (e_argBb (i := 0) rfl (e_argBv e_C e_argB0 rfl)) (e_lendm (i := 0) rfl (e_lendr rfl e_lend0)) hp65 rfl) e_C (by decide)) hc66) rfl rfl) rfl))))) fun s67 =>
    (js_seq (E := fun (s72 : (((List Int) × Int) × Int)) => [.mu true (.lst [.d (e_Li s72.1.1), .d (D.int s72.1.2)]), .un, .shr (D.int s2.2), .mu false (O.l (List.map D.str s5.2)), .shr (D.int x22), .mu false (O.l (List.map D.int s12.2)), .un, .mu false (O.l (List.map e_Item s21.2)), .un, .mu false (O.l (List.map e_T2ii s51.2)), .un, .un, .shr (D.int s67.2), .shr (D.int s72.2)]) (js_bind (v__law_draw s67.1 6) fun p68 hp68 => (js_bind (v__law_draw p68.2 50) fun p69 hp69 => (js_bind (v__law_draw p69.2 5) fun p70 hp70 => (js_req fun hc71 => (js_st (E := fun (s72 : (((List Int) × Int) × Int)) => [.mu true (.lst [.d (e_Li s72.1.1), .d (D.int s72.1.2)]), .un, .shr (D.int s2.2), .mu false (O.l (List.map D.str s5.2)), .shr (D.int x22), .mu false (O.l (List.map D.int s12.2)), .un, .mu false (O.l (List.map e_Item s21.2)), .un, .mu false (O.l (List.map e_T2ii s51.2)), .un, .un, .shr (D.int s67.2), .shr (D.int s72.2)]) (st_set (e_ixO (e := D.int) (xs := [(1 + p68.1), (1 + p69.1)]) (e_cast (r' := .own (O.l (List.map D.int [(1 + p68.1), (1 + p69.1)]))) (e_lst (e_args (e_addI e_C (e_call (e_argBb (i := 0) rfl (e_argBv e_C e_argB0 rfl)) (e_lendm (i := 0) rfl (e_lendr rfl e_lend0)) hp68 rfl)) (e_args (e_addI e_C (e_call (e_argBb (i := 0) rfl (e_argBv e_C e_argB0 rfl)) (e_lendm (i := 0) rfl (e_lendr rfl e_lend0)) hp69 rfl)) e_args0 rfl) rfl) (e_sts rfl (e_sts rfl e_sts0)) (Nat.le_of_ble_eq_true rfl)) rfl) (e_divI (e_call (e_argBb (i := 0) rfl (e_argBv e_C e_argB0 rfl)) (e_lendm (i := 0) rfl (e_lendr rfl e_lend0)) hp70 rfl) e_C (by decide)) hc71) rfl rfl) rfl))))) fun s72 =>
    (js_last (E1 := fun (s76 : (((List Int) × Int) × (List Item))) => [.mu true (.lst [.d (e_Li s76.1.1), .d (D.int s76.1.2)]), .un, .shr (D.int s2.2), .mu false (O.l (List.map D.str s5.2)), .un, .mu false (O.l (List.map D.int s12.2)), .un, .mu false (O.l (List.map e_Item s76.2)), .un, .un, .un, .un, .un, .un]) (js_req fun hc73 => (js_bind (v__law_draw s72.1 s72.2) fun p74 hp74 => (js_req fun hc75 => (js_st (E := fun (s76 : (((List Int) × Int) × (List Item))) => [.mu true (.lst [.d (e_Li s76.1.1), .d (D.int s76.1.2)]), .un, .shr (D.int s2.2), .mu false (O.l (List.map D.str s5.2)), .un, .mu false (O.l (List.map D.int s12.2)), .un, .mu false (O.l (List.map e_Item s76.2)), .un, .un, .un, .un, .un, .un]) (st_kl (st_drop (e_app (e := e_Item) (xs := s21.2) (z := (Item.mk (ix s5.2 x22) s51.2 s67.2 s72.2 (1 + p74.1))) rfl (e_cast (r' := .d (e_Item (Item.mk (ix s5.2 x22) s51.2 s67.2 s72.2 (1 + p74.1)))) (e_tup (e_args (e_ixP (e := D.str) (xs := s5.2) (e_nm_m rfl) (e_nm_s rfl) rfl hc73) (e_args (e_tupL (e := e_T2ii) (xs := s51.2) (e_nm_m rfl) (R.pl_pk _)) (e_args (e_fz_s rfl) (e_args (e_fz_s rfl) (e_args (e_addI e_C (e_call (e_argBb (i := 0) rfl (e_argBv (e_fz_s rfl) e_argB0 rfl)) (e_lendm (i := 0) rfl (e_lendr rfl e_lend0)) hp74 rfl)) e_args0 rfl) rfl) rfl) rfl) rfl) (e_sts rfl (e_sts rfl (e_sts rfl (e_sts rfl (e_sts rfl e_sts0))))) (Nat.le_of_ble_eq_true rfl)) rfl) rfl rfl hc75)) rfl) rfl)))) fun _ => rfl)))))))))) (fun _ => rfl)) fun s21 =>
    (js_rt (e_tupL (e := e_Item) (xs := s21.2) (e_nm_m rfl) (R.pl_pk _)) rfl rfl))))))))

noncomputable def t__law_users (bill' : (List Item)) (item' : Int) : T (List (Int × Int)) :=
  T.bind (T.ret ([] : (List (Int × Int)))) fun s1 =>
    T.bind (T.req (-1000000 ≤ (bill'.length : Int) ∧ (bill'.length : Int) ≤ 1000000) (T.forL (fun (s3 : (List (Int × Int))) (x4 : Int) =>
    T.bind (T.req (0 ≤ x4 ∧ x4 < bill'.length) (T.req (((ix bill' x4).parts).length ≤ 1000000) (T.req ((T.lcP (fun (x6 : (Int × Int)) => T.ret (decide (x6.1 = item'))) (fun x6 => T.ret x6.2) ((ix bill' x4).parts)).ok) (T.ret (((T.lcP (fun (x6 : (Int × Int)) => T.ret (decide (x6.1 = item'))) (fun x6 => T.ret x6.2) ((ix bill' x4).parts)).val).sum))))) fun s10 =>
    T.bind (if (decide (0 < s10)) = true then T.bind (T.req (s3.length < 1000000) (T.ret (s3 ++ [(x4, s10)]))) fun s12 => T.ret s12 else T.ret s3) fun s13 => T.ret s13) (rng (bill'.length : Int)) s1)) fun s3 =>
    T.ret s3
abbrev q__law_users (bill' : (List Item)) (item' : Int) : (List (Int × Int)) → Prop := fun z => f__law_users [.shr (e_VItem bill'), .shr (D.int item')] = ((fun (z : (List (Int × Int))) => FRes.ok (.own (O.l (List.map e_T2ii z))) [.un, .un] : (List (Int × Int)) → FRes)) z
theorem v__law_users (bill' : (List Item)) (item' : Int) : J (t__law_users bill' item') (q__law_users bill' item') :=
  v_fn (as := [.shr (e_VItem bill'), .shr (D.int item')]) (R' := fun (z : (List (Int × Int))) => FRes.ok (.own (O.l (List.map e_T2ii z))) [.un, .un]) f__law_users_eq rfl (js_seq (E := fun (s1 : (List (Int × Int))) => [.shr (e_VItem bill'), .shr (D.int item'), .mu false (O.l (List.map e_T2ii s1)), .un, .un, .un]) (js_st (E := fun (s1 : (List (Int × Int))) => [.shr (e_VItem bill'), .shr (D.int item'), .mu false (O.l (List.map e_T2ii s1)), .un, .un, .un]) (st_set (e_cast (r' := .own (O.l (List.map e_T2ii ([] : (List (Int × Int)))))) (e_lst e_args0 e_sts0 (Nat.le_of_ble_eq_true rfl)) rfl) rfl rfl) rfl) fun s1 =>
    (js_seq (E := fun (s3 : (List (Int × Int))) => [.un, .un, .mu false (O.l (List.map e_T2ii s3)), .un, .un, .un]) (js_klN (E := fun (s3 : (List (Int × Int))) => [.shr (e_VItem bill'), .shr (D.int item'), .mu false (O.l (List.map e_T2ii s3)), .un, .un, .un]) (js_req fun hc2 => (js_forL (e := D.int) (xs := (rng (bill'.length : Int))) (E := fun (s3 : (List (Int × Int))) => [.shr (e_VItem bill'), .shr (D.int item'), .mu false (O.l (List.map e_T2ii s3)), .un, .un, .un]) (fun s3 x4 => [.shr (e_VItem bill'), .shr (D.int item'), .mu false (O.l (List.map e_T2ii s3)), .shr (D.int x4), .un, .un]) (e_rg1 (e_lenT (e := e_Item) (xs := bill') (e_nm_s rfl)) hc2) rfl (fun _ _ => rfl) (fun s3 x4 =>
    (js_seq (E := fun (s10 : Int) => [.shr (e_VItem bill'), .shr (D.int item'), .mu false (O.l (List.map e_T2ii s3)), .shr (D.int x4), .shr (D.int s10), .un]) (js_req fun hc5 => (js_req fun hc8 => (js_req fun hc9 => (js_st (E := fun (s10 : Int) => [.shr (e_VItem bill'), .shr (D.int item'), .mu false (O.l (List.map e_T2ii s3)), .shr (D.int x4), .shr (D.int s10), .un]) (st_set (e_sum ((e_lcJ (e := e_T2ii) (xs := (ix bill' x4).parts) (eb := D.int) (fun x6 => [.shr (e_VItem bill'), .shr (D.int item'), .mu false (O.l (List.map e_T2ii s3)), .shr (D.int x4), .un, .shr (e_T2ii x6)]) (e_it (e_tF 1 (e_ixT (e := e_Item) (xs := bill') (e_nm_s rfl) (e_nm_s rfl) hc5) rfl rfl) rfl) hc8 rfl rfl (fun _ => rfl) (fun _ => rfl) rfl (fun x6 => (jj_ret (e_test (e_eqI (e_tF 0 (e_nm_s rfl) rfl rfl) (e_nm_s rfl))))) (fun x6 => (jj_ret ⟨_, (e_tF 1 (e_nm_s rfl) rfl rfl), rfl⟩))) hc9) (R.pl_own _)) rfl rfl) rfl)))) fun s10 =>
    (js_last (E1 := fun (s13 : (List (Int × Int))) => [.shr (e_VItem bill'), .shr (D.int item'), .mu false (O.l (List.map e_T2ii s13)), .un, .un, .un]) (js_if (e_test (e_gt (e_nm_s rfl) e_C)) (js_last (E1 := fun (s12 : (List (Int × Int))) => [.shr (e_VItem bill'), .shr (D.int item'), .mu false (O.l (List.map e_T2ii s12)), .un, .un, .un]) (js_req fun hc11 => (js_st (E := fun (s12 : (List (Int × Int))) => [.shr (e_VItem bill'), .shr (D.int item'), .mu false (O.l (List.map e_T2ii s12)), .un, .un, .un]) (st_kl (st_drop (e_app (e := e_T2ii) (xs := s3) (z := (x4, s10)) rfl (e_cast (r' := .d (e_T2ii (x4, s10))) (e_tup (e_args (e_fz_s rfl) (e_args (e_fz_s rfl) e_args0 rfl) rfl) (e_sts rfl (e_sts rfl e_sts0)) (Nat.le_of_ble_eq_true rfl)) rfl) rfl rfl hc11)) rfl) rfl)) fun _ => rfl) (fun _ => rfl)) fun _ => rfl))))) (fun _ => rfl)) fun s3 =>
    (js_rt (e_mv_m rfl) rfl rfl)))

noncomputable def t__law_first (bill' : (List Item)) : T (List Int) :=
  T.bind (T.ret ([] : (List Int))) fun s1 =>
    T.bind (T.req (-1000000 ≤ (bill'.length : Int) ∧ (bill'.length : Int) ≤ 1000000) (T.forL (fun (s3 : (List Int)) (x4 : Int) =>
    T.bind (T.req (-1000000 ≤ (bill'.length : Int) ∧ (bill'.length : Int) ≤ 1000000) (T.unC (T.forC (fun (s6 : (List Int)) (x7 : Int) =>
    T.bind (T.bind (t__law_users bill' x7) fun p8 => T.req (p8.length ≤ 1000000) (T.req ((T.lcP (fun (x9 : (Int × Int)) => T.ret (!decide (x9.1 ∈ s6))) (fun x9 => T.ret x9) p8).ok) (T.ret ((T.lcP (fun (x9 : (Int × Int)) => T.ret (!decide (x9.1 ∈ s6))) (fun x9 => T.ret x9) p8).val)))) fun s13 =>
    T.ctc (if ((!decide (x7 ∈ s6)) && (decide ((s13.length : Int) = 0))) = true then T.bind (T.req (s6.length < 1000000) (T.ret (s6 ++ [x7]))) fun s16 =>
    T.ret (.bk s16) else T.ret (.nx s6)) fun s17 => T.ret (.nx s17)) (rng (bill'.length : Int)) s3))) fun s6 => T.ret s6) (rng (bill'.length : Int)) s1)) fun s3 =>
    T.ret s3
abbrev q__law_first (bill' : (List Item)) : (List Int) → Prop := fun z => f__law_first [.shr (e_VItem bill')] = ((fun (z : (List Int)) => FRes.ok (.own (O.l (List.map D.int z))) [.un] : (List Int) → FRes)) z
theorem v__law_first (bill' : (List Item)) : J (t__law_first bill') (q__law_first bill') :=
  v_fn (as := [.shr (e_VItem bill')]) (R' := fun (z : (List Int)) => FRes.ok (.own (O.l (List.map D.int z))) [.un]) f__law_first_eq rfl (js_seq (E := fun (s1 : (List Int)) => [.shr (e_VItem bill'), .mu false (O.l (List.map D.int s1)), .un, .un, .un, .un]) (js_st (E := fun (s1 : (List Int)) => [.shr (e_VItem bill'), .mu false (O.l (List.map D.int s1)), .un, .un, .un, .un]) (st_set (e_cast (r' := .own (O.l (List.map D.int ([] : (List Int))))) (e_lst e_args0 e_sts0 (Nat.le_of_ble_eq_true rfl)) rfl) rfl rfl) rfl) fun s1 =>
    (js_seq (E := fun (s3 : (List Int)) => [.un, .mu false (O.l (List.map D.int s3)), .un, .un, .un, .un]) (js_klN (E := fun (s3 : (List Int)) => [.shr (e_VItem bill'), .mu false (O.l (List.map D.int s3)), .un, .un, .un, .un]) (js_req fun hc2 => (js_forL (e := D.int) (xs := (rng (bill'.length : Int))) (E := fun (s3 : (List Int)) => [.shr (e_VItem bill'), .mu false (O.l (List.map D.int s3)), .un, .un, .un, .un]) (fun s3 x4 => [.shr (e_VItem bill'), .mu false (O.l (List.map D.int s3)), .shr (D.int x4), .un, .un, .un]) (e_rg1 (e_lenT (e := e_Item) (xs := bill') (e_nm_s rfl)) hc2) rfl (fun _ _ => rfl) (fun s3 x4 =>
    (js_last (E1 := fun (s6 : (List Int)) => [.shr (e_VItem bill'), .mu false (O.l (List.map D.int s6)), .un, .un, .un, .un]) (js_klN (E := fun (s6 : (List Int)) => [.shr (e_VItem bill'), .mu false (O.l (List.map D.int s6)), .shr (D.int x4), .un, .un, .un]) (js_req fun hc5 => (js_unC (as := []) (js_forC (e := D.int) (xs := (rng (bill'.length : Int))) (E := fun (s6 : (List Int)) => [.shr (e_VItem bill'), .mu false (O.l (List.map D.int s6)), .shr (D.int x4), .un, .un, .un]) (fun s6 x7 => [.shr (e_VItem bill'), .mu false (O.l (List.map D.int s6)), .shr (D.int x4), .shr (D.int x7), .un, .un]) (e_rg1 (e_lenT (e := e_Item) (xs := bill') (e_nm_s rfl)) hc5) rfl (fun _ _ => rfl) (fun s6 x7 =>
    (js_seq (E := fun (s13 : (List (Int × Int))) => [.shr (e_VItem bill'), .mu false (O.l (List.map D.int s6)), .shr (D.int x4), .shr (D.int x7), .mu false (O.l (List.map e_T2ii s13)), .un]) (js_bind (v__law_users bill' x7) fun p8 hp8 => (js_req fun hc11 => (js_req fun hc12 => (js_st (E := fun (s13 : (List (Int × Int))) => [.shr (e_VItem bill'), .mu false (O.l (List.map D.int s6)), .shr (D.int x4), .shr (D.int x7), .mu false (O.l (List.map e_T2ii s13)), .un]) (st_set ((e_lcJ (e := e_T2ii) (xs := p8) (eb := e_T2ii) (fun x9 => [.shr (e_VItem bill'), .mu false (O.l (List.map D.int s6)), .shr (D.int x4), .shr (D.int x7), .un, .shr (e_T2ii x9)]) (e_it (e_call (e_argBv (e_fz_s rfl) (e_argBv (e_fz_s rfl) e_argB0 rfl) rfl) (e_lendr rfl (e_lendr rfl e_lend0)) hp8 rfl) (its_O (e := e_T2ii) (xs := p8))) hc11 rfl rfl (fun _ => rfl) (fun _ => rfl) rfl (fun x9 => (jj_ret (e_test (e_notin (e_tF 0 (e_nm_s rfl) rfl rfl) (e_nm_m rfl) rfl (isInL_i (R.pl_pk _)))))) (fun x9 => (jj_ret ⟨_, (e_fz_s rfl), rfl⟩))) hc12) rfl rfl) rfl)))) fun s13 =>
    (js_ctcL (E1 := fun (s17 : (List Int)) => [.shr (e_VItem bill'), .mu false (O.l (List.map D.int s17)), .shr (D.int x4), .un, .un, .un]) (js_if (e_and (e_test (e_notin (e_nm_s rfl) (e_nm_m rfl) rfl (isInL_i (R.pl_pk _)))) fun g14 => (e_test (e_eqI (e_lenP (e := e_T2ii) (xs := s13) (e_nm_m rfl)) e_C))) (js_seq (E := fun (s16 : (List Int)) => [.shr (e_VItem bill'), .mu false (O.l (List.map D.int s16)), .shr (D.int x4), .un, .un, .un]) (js_req fun hc15 => (js_st (E := fun (s16 : (List Int)) => [.shr (e_VItem bill'), .mu false (O.l (List.map D.int s16)), .shr (D.int x4), .un, .un, .un]) (st_kl (st_drop (e_app (e := D.int) (xs := s6) (z := x7) rfl (e_fz_s rfl) rfl rfl hc15)) rfl) rfl)) fun s16 =>
    (js_bk rfl)) (fun _ => rfl)) fun _ => rfl)))))) (fun _ => rfl)) fun _ => rfl)))) (fun _ => rfl)) fun s3 =>
    (js_rt (e_mv_m rfl) rfl rfl)))

noncomputable def t_quantity_in (bill' : (List Item)) (parent' : Int) (item' : Int) : T Int :=
  T.req (0 ≤ parent' ∧ parent' < bill'.length) (T.req (((ix bill' parent').parts).length ≤ 1000000) (T.req ((T.lcP (fun (x2 : (Int × Int)) => T.ret (decide (x2.1 = item'))) (fun x2 => T.ret x2.2) ((ix bill' parent').parts)).ok) (T.ret (((T.lcP (fun (x2 : (Int × Int)) => T.ret (decide (x2.1 = item'))) (fun x2 => T.ret x2.2) ((ix bill' parent').parts)).val).sum))))
abbrev q_quantity_in (bill' : (List Item)) (parent' : Int) (item' : Int) : Int → Prop := fun z => f_quantity_in [.shr (e_VItem bill'), .shr (D.int parent'), .shr (D.int item')] = ((fun (z : Int) => FRes.ok (.d (D.int z)) [.un, .un, .un] : Int → FRes)) z
theorem v_quantity_in (bill' : (List Item)) (parent' : Int) (item' : Int) : J (t_quantity_in bill' parent' item') (q_quantity_in bill' parent' item') :=
  v_fn (as := [.shr (e_VItem bill'), .shr (D.int parent'), .shr (D.int item')]) (R' := fun (z : Int) => FRes.ok (.d (D.int z)) [.un, .un, .un]) f_quantity_in_eq rfl (js_req fun hc1 => (js_req fun hc4 => (js_req fun hc5 => (js_rt (e_sum ((e_lcJ (e := e_T2ii) (xs := (ix bill' parent').parts) (eb := D.int) (fun x2 => [.shr (e_VItem bill'), .shr (D.int parent'), .shr (D.int item'), .shr (D.int x2.1), .shr (D.int x2.2)]) (e_it (e_tF 1 (e_ixT (e := e_Item) (xs := bill') (e_nm_s rfl) (e_nm_s rfl) hc1) rfl rfl) rfl) hc4 rfl rfl (fun _ => rfl) (fun _ => rfl) rfl (fun x2 => (jj_ret (e_test (e_eqI (e_nm_s rfl) (e_nm_s rfl))))) (fun x2 => (jj_ret ⟨_, (e_fz_s rfl), rfl⟩))) hc5) (R.pl_own _)) rfl rfl))))

noncomputable def t_used_by (bill' : (List Item)) (item' : Int) : T (List (Int × Int)) :=
  T.bind (T.ret ([] : (List (Int × Int)))) fun s1 =>
    T.bind (T.req (-1000000 ≤ (bill'.length : Int) ∧ (bill'.length : Int) ≤ 1000000) (T.forL (fun (s3 : (List (Int × Int))) (x4 : Int) =>
    T.bind (T.bind (t_quantity_in bill' x4 item') fun p5 => T.ret p5) fun s6 =>
    T.bind (if (decide (0 < s6)) = true then T.bind (T.req (s3.length < 1000000) (T.ret (s3 ++ [(x4, s6)]))) fun s8 => T.ret s8 else T.ret s3) fun s9 => T.ret s9) (rng (bill'.length : Int)) s1)) fun s3 =>
    T.ret s3
abbrev q_used_by (bill' : (List Item)) (item' : Int) : (List (Int × Int)) → Prop := fun z => f_used_by [.shr (e_VItem bill'), .shr (D.int item')] = ((fun (z : (List (Int × Int))) => FRes.ok (.own (O.l (List.map e_T2ii z))) [.un, .un] : (List (Int × Int)) → FRes)) z
theorem v_used_by (bill' : (List Item)) (item' : Int) : J (t_used_by bill' item') (q_used_by bill' item') :=
  v_fn (as := [.shr (e_VItem bill'), .shr (D.int item')]) (R' := fun (z : (List (Int × Int))) => FRes.ok (.own (O.l (List.map e_T2ii z))) [.un, .un]) f_used_by_eq rfl (js_seq (E := fun (s1 : (List (Int × Int))) => [.shr (e_VItem bill'), .shr (D.int item'), .mu false (O.l (List.map e_T2ii s1)), .un, .un]) (js_st (E := fun (s1 : (List (Int × Int))) => [.shr (e_VItem bill'), .shr (D.int item'), .mu false (O.l (List.map e_T2ii s1)), .un, .un]) (st_set (e_cast (r' := .own (O.l (List.map e_T2ii ([] : (List (Int × Int)))))) (e_lst e_args0 e_sts0 (Nat.le_of_ble_eq_true rfl)) rfl) rfl rfl) rfl) fun s1 =>
    (js_seq (E := fun (s3 : (List (Int × Int))) => [.un, .un, .mu false (O.l (List.map e_T2ii s3)), .un, .un]) (js_klN (E := fun (s3 : (List (Int × Int))) => [.shr (e_VItem bill'), .shr (D.int item'), .mu false (O.l (List.map e_T2ii s3)), .un, .un]) (js_req fun hc2 => (js_forL (e := D.int) (xs := (rng (bill'.length : Int))) (E := fun (s3 : (List (Int × Int))) => [.shr (e_VItem bill'), .shr (D.int item'), .mu false (O.l (List.map e_T2ii s3)), .un, .un]) (fun s3 x4 => [.shr (e_VItem bill'), .shr (D.int item'), .mu false (O.l (List.map e_T2ii s3)), .shr (D.int x4), .un]) (e_rg1 (e_lenT (e := e_Item) (xs := bill') (e_nm_s rfl)) hc2) rfl (fun _ _ => rfl) (fun s3 x4 =>
    (js_seq (E := fun (s6 : Int) => [.shr (e_VItem bill'), .shr (D.int item'), .mu false (O.l (List.map e_T2ii s3)), .shr (D.int x4), .shr (D.int s6)]) (js_bind (v_quantity_in bill' x4 item') fun p5 hp5 => (js_st (E := fun (s6 : Int) => [.shr (e_VItem bill'), .shr (D.int item'), .mu false (O.l (List.map e_T2ii s3)), .shr (D.int x4), .shr (D.int s6)]) (st_set (e_call (e_argBv (e_fz_s rfl) (e_argBv (e_fz_s rfl) (e_argBv (e_fz_s rfl) e_argB0 rfl) rfl) rfl) (e_lendr rfl (e_lendr rfl (e_lendr rfl e_lend0))) hp5 rfl) rfl rfl) rfl)) fun s6 =>
    (js_last (E1 := fun (s9 : (List (Int × Int))) => [.shr (e_VItem bill'), .shr (D.int item'), .mu false (O.l (List.map e_T2ii s9)), .un, .un]) (js_if (e_test (e_gt (e_nm_s rfl) e_C)) (js_last (E1 := fun (s8 : (List (Int × Int))) => [.shr (e_VItem bill'), .shr (D.int item'), .mu false (O.l (List.map e_T2ii s8)), .un, .un]) (js_req fun hc7 => (js_st (E := fun (s8 : (List (Int × Int))) => [.shr (e_VItem bill'), .shr (D.int item'), .mu false (O.l (List.map e_T2ii s8)), .un, .un]) (st_kl (st_drop (e_app (e := e_T2ii) (xs := s3) (z := (x4, s6)) rfl (e_cast (r' := .d (e_T2ii (x4, s6))) (e_tup (e_args (e_fz_s rfl) (e_args (e_fz_s rfl) e_args0 rfl) rfl) (e_sts rfl (e_sts rfl e_sts0)) (Nat.le_of_ble_eq_true rfl)) rfl) rfl rfl hc7)) rfl) rfl)) fun _ => rfl) (fun _ => rfl)) fun _ => rfl))))) (fun _ => rfl)) fun s3 =>
    (js_rt (e_mv_m rfl) rfl rfl)))

noncomputable def t_parents_first (bill' : (List Item)) : T (List Int) :=
  T.bind (T.ret ([] : (List Int))) fun s1 =>
    T.bind (T.whL (fun (s2 : (List Int)) => T.ret (decide ((s2.length : Int) < (bill'.length : Int)))) (fun s2 =>
    T.bind (T.req (-1000000 ≤ (bill'.length : Int) ∧ (bill'.length : Int) ≤ 1000000) (T.unC (T.forC (fun (s5 : (List Int)) (x6 : Int) =>
    T.ctc (T.req ((!decide (x6 ∈ s5)) = true → (t_used_by bill' x6).ok) (T.req ((!decide (x6 ∈ s5)) = true → ((t_used_by bill' x6).val).length ≤ 1000000) (T.req ((!decide (x6 ∈ s5)) = true → (T.lcP (fun (x9 : (Int × Int)) => T.ret true) (fun x9 => T.ret (decide (x9.1 ∈ s5))) ((t_used_by bill' x6).val)).ok) (if ((!decide (x6 ∈ s5)) && (((T.lcP (fun (x9 : (Int × Int)) => T.ret true) (fun x9 => T.ret (decide (x9.1 ∈ s5))) ((t_used_by bill' x6).val)).val).all id)) = true then T.bind (T.req (s5.length < 1000000) (T.ret (s5 ++ [x6]))) fun s14 =>
    T.ret (.bk s14) else T.ret (.nx s5))))) fun s15 => T.ret (.nx s15)) (rng (bill'.length : Int)) s2))) fun s5 => T.ret s5) s1) fun s2 =>
    T.ret s2
abbrev q_parents_first (bill' : (List Item)) : (List Int) → Prop := fun z => f_parents_first [.shr (e_VItem bill')] = ((fun (z : (List Int)) => FRes.ok (.d (e_Vi z)) [.un] : (List Int) → FRes)) z
theorem v_parents_first (bill' : (List Item)) : J (t_parents_first bill') (q_parents_first bill') :=
  v_fn (as := [.shr (e_VItem bill')]) (R' := fun (z : (List Int)) => FRes.ok (.d (e_Vi z)) [.un]) f_parents_first_eq rfl (js_seq (E := fun (s1 : (List Int)) => [.shr (e_VItem bill'), .mu false (O.l (List.map D.int s1)), .un, .un]) (js_st (E := fun (s1 : (List Int)) => [.shr (e_VItem bill'), .mu false (O.l (List.map D.int s1)), .un, .un]) (st_set (e_cast (r' := .own (O.l (List.map D.int ([] : (List Int))))) (e_lst e_args0 e_sts0 (Nat.le_of_ble_eq_true rfl)) rfl) rfl rfl) rfl) fun s1 =>
    (js_seq (E := fun (s2 : (List Int)) => [.un, .mu false (O.l (List.map D.int s2)), .un, .un]) (js_klN (E := fun (s2 : (List Int)) => [.shr (e_VItem bill'), .mu false (O.l (List.map D.int s2)), .un, .un]) (js_whL (E := fun (s2 : (List Int)) => [.shr (e_VItem bill'), .mu false (O.l (List.map D.int s2)), .un, .un]) rfl (fun s2 => (jj_ret ⟨_, (e_test (e_lt (e_lenP (e := D.int) (xs := s2) (e_nm_m rfl)) (e_lenT (e := e_Item) (xs := bill') (e_nm_s rfl))))⟩)) (fun s2 =>
    (js_last (E1 := fun (s5 : (List Int)) => [.shr (e_VItem bill'), .mu false (O.l (List.map D.int s5)), .un, .un]) (js_req fun hc4 => (js_unC (as := []) (js_forC (e := D.int) (xs := (rng (bill'.length : Int))) (E := fun (s5 : (List Int)) => [.shr (e_VItem bill'), .mu false (O.l (List.map D.int s5)), .un, .un]) (fun s5 x6 => [.shr (e_VItem bill'), .mu false (O.l (List.map D.int s5)), .shr (D.int x6), .un]) (e_rg1 (e_lenT (e := e_Item) (xs := bill') (e_nm_s rfl)) hc4) rfl (fun _ _ => rfl) (fun s5 x6 =>
    (js_ctcL (E1 := fun (s15 : (List Int)) => [.shr (e_VItem bill'), .mu false (O.l (List.map D.int s15)), .un, .un]) (js_req fun hc8 => (js_req fun hc11 => (js_req fun hc12 => (js_if (e_and (e_test (e_notin (e_nm_s rfl) (e_nm_m rfl) rfl (isInL_i (R.pl_pk _)))) fun g7 => (e_test (e_all ((e_lcJ (e := e_T2ii) (xs := (t_used_by bill' x6).val) (eb := D.bl) (fun x9 => [.shr (e_VItem bill'), .mu false (O.l (List.map D.int s5)), .shr (D.int x6), .shr (e_T2ii x9)]) (e_it (e_call (e_argBv (e_fz_s rfl) (e_argBv (e_fz_s rfl) e_argB0 rfl) rfl) (e_lendr rfl (e_lendr rfl e_lend0)) ((v_used_by bill' x6) (hc8 g7)) rfl) (its_O (e := e_T2ii) (xs := (t_used_by bill' x6).val))) (hc11 g7) rfl rfl (fun _ => rfl) (fun _ => rfl) rfl (fun x9 => j_yes) (fun x9 => (jj_ret ⟨_, (e_in (e_tF 0 (e_nm_s rfl) rfl rfl) (e_nm_m rfl) rfl (isInL_i (R.pl_pk _))), rfl⟩))) (hc12 g7)) (R.pl_own _)))) (js_seq (E := fun (s14 : (List Int)) => [.shr (e_VItem bill'), .mu false (O.l (List.map D.int s14)), .un, .un]) (js_req fun hc13 => (js_st (E := fun (s14 : (List Int)) => [.shr (e_VItem bill'), .mu false (O.l (List.map D.int s14)), .un, .un]) (st_kl (st_drop (e_app (e := D.int) (xs := s5) (z := x6) rfl (e_fz_s rfl) rfl rfl hc13)) rfl) rfl)) fun s14 =>
    (js_bk rfl)) (fun _ => rfl))))) fun _ => rfl))))) fun _ => rfl))) (fun _ => rfl)) fun s2 =>
    (js_rt (e_tupL (e := D.int) (xs := s2) (e_nm_m rfl) (R.pl_pk _)) rfl rfl)))

noncomputable def t__law_books (box' : ((List Int) × Int)) (bill' : (List Item)) : T (Books × ((List Int) × Int)) :=
  T.bind (T.bind (t__law_draw box' 12) fun p1 => T.bind (t__law_draw p1.2 7) fun p2 => T.req (0 ≤ (p2.1 / 3) ∧ (p2.1 / 3) < [p1.1, 0, 150].length) (T.ret (p2.2, (ix [p1.1, 0, 150] (p2.1 / 3))))) fun s4 =>
    T.bind (T.req (bill'.length ≤ 1000000) (T.bind (T.lcS (fun s6 (x5 : Item) => T.bind (t__law_draw s6 30) fun p7 => T.bind (t__law_draw p7.2 2) fun p8 => T.req ((-1000000000 ≤ p7.1 ∧ p7.1 ≤ 1000000000) ∨ (-1000000000 ≤ p8.1 ∧ p8.1 ≤ 1000000000)) (T.ret ((p7.1 * p8.1), p8.2))) bill' s4.1) fun p11 => T.ret (p11.2, p11.1))) fun s12 =>
    T.bind (T.ret ([] : (List (Int × Int × Int)))) fun s13 =>
    T.bind (T.bind (t__law_draw s12.1 5) fun p14 => T.req (-1000000 ≤ p14.1 ∧ p14.1 ≤ 1000000) (T.forL (fun (s16 : (((List Int) × Int) × (List (Int × Int × Int)))) (x17 : Int) =>
    T.bind (T.bind (t__law_draw s16.1 (bill'.length : Int)) fun p18 => T.bind (t__law_draw p18.2 25) fun p19 => T.bind (t__law_draw p19.2 30) fun p20 => T.req (s16.2.length < 1000000) (T.ret (p20.2, (s16.2 ++ [(p18.1, (s4.2 + p19.1), (1 + p20.1))])))) fun s22 => T.ret (s22.1, s22.2)) (rng p14.1) (p14.2, s13))) fun s16 =>
    T.bind (T.ret ([] : (List (Int × Int × Int × Int)))) fun s23 =>
    T.bind (T.ret 0) fun s24 =>
    T.bind (T.bind (t__law_draw s16.1 5) fun p25 => T.req (-1000000 ≤ p25.1 ∧ p25.1 ≤ 1000000) (T.forL (fun (s27 : (((List Int) × Int) × (List (Int × Int × Int × Int)) × Int)) (x28 : Int) =>
    T.bind (T.bind (t__law_draw s27.1 9) fun p29 => T.ret (p29.2, ((s27.2.2 + 1) + p29.1))) fun s30 =>
    T.bind (T.bind (t__law_draw s30.1 (bill'.length : Int)) fun p31 => T.bind (t__law_draw p31.2 20) fun p32 => T.bind (t__law_draw p32.2 30) fun p33 => T.req (s27.2.1.length < 1000000) (T.ret (p33.2, (s27.2.1 ++ [(s30.2, p31.1, (1 + p32.1), (s4.2 + p33.1))])))) fun s35 => T.ret (s35.1, s35.2, s30.2)) (rng p25.1) (p25.2, s23, s24))) fun s27 =>
    T.ret ((Books.mk s4.2 s12.2 s16.2 s27.2.1), s27.1)
abbrev q__law_books (box' : ((List Int) × Int)) (bill' : (List Item)) : (Books × ((List Int) × Int)) → Prop := fun z => f__law_books [.mu true (.lst [.d (e_Li box'.1), .d (D.int box'.2)]), .shr (e_VItem bill')] = ((fun (z : (Books × ((List Int) × Int))) => FRes.ok (.d (e_Books z.1)) [.mu true (.lst [.d (e_Li z.2.1), .d (D.int z.2.2)]), .un] : (Books × ((List Int) × Int)) → FRes)) z
theorem v__law_books (box' : ((List Int) × Int)) (bill' : (List Item)) : J (t__law_books box' bill') (q__law_books box' bill') :=
  v_fn (as := [.mu true (.lst [.d (e_Li box'.1), .d (D.int box'.2)]), .shr (e_VItem bill')]) (R' := fun (z : (Books × ((List Int) × Int))) => FRes.ok (.d (e_Books z.1)) [.mu true (.lst [.d (e_Li z.2.1), .d (D.int z.2.2)]), .un]) f__law_books_eq rfl (js_seq (E := fun (s4 : (((List Int) × Int) × Int)) => [.mu true (.lst [.d (e_Li s4.1.1), .d (D.int s4.1.2)]), .shr (e_VItem bill'), .shr (D.int s4.2), .un, .un, .un, .un, .un, .un]) (js_bind (v__law_draw box' 12) fun p1 hp1 => (js_bind (v__law_draw p1.2 7) fun p2 hp2 => (js_req fun hc3 => (js_st (E := fun (s4 : (((List Int) × Int) × Int)) => [.mu true (.lst [.d (e_Li s4.1.1), .d (D.int s4.1.2)]), .shr (e_VItem bill'), .shr (D.int s4.2), .un, .un, .un, .un, .un, .un]) (st_set (e_ixO (e := D.int) (xs := [p1.1, 0, 150]) (e_cast (r' := .own (O.l (List.map D.int [p1.1, 0, 150]))) (e_lst (e_args (e_call (e_argBb (i := 0) rfl (e_argBv e_C e_argB0 rfl)) (e_lendm (i := 0) rfl (e_lendr rfl e_lend0)) hp1 rfl) (e_args e_C (e_args e_C e_args0 rfl) rfl) rfl) (e_sts rfl (e_sts rfl (e_sts rfl e_sts0))) (Nat.le_of_ble_eq_true rfl)) rfl) (e_divI (e_call (e_argBb (i := 0) rfl (e_argBv e_C e_argB0 rfl)) (e_lendm (i := 0) rfl (e_lendr rfl e_lend0)) hp2 rfl) e_C (by decide)) hc3) rfl rfl) rfl)))) fun s4 =>
    (js_seq (E := fun (s12 : (((List Int) × Int) × (List Int))) => [.mu true (.lst [.d (e_Li s12.1.1), .d (D.int s12.1.2)]), .shr (e_VItem bill'), .shr (D.int s4.2), .shr (e_Vi s12.2), .un, .un, .un, .un, .un]) (js_req fun hc10 => (js_bind (Φ := fun p11 => ∃ q, (mLc (mIt (fz 1)) (.nm 8) mYes le__law_books_1 [8]) [.mu true (.lst [.d (e_Li s4.1.1), .d (D.int s4.1.2)]), .shr (e_VItem bill'), .shr (D.int s4.2), .un, .un, .un, .un, .un, .un] = .ok (.own (O.l (List.map D.int p11.1))) [.mu true (.lst [.d (e_Li p11.2.1), .d (D.int p11.2.2)]), .shr (e_VItem bill'), .shr (D.int s4.2), .un, .un, .un, .un, .un, .un] q) (e_lcS (e := e_Item) (xs := bill') (eb := D.int) (E := fun (s6 : ((List Int) × Int)) => [.mu true (.lst [.d (e_Li s6.1), .d (D.int s6.2)]), .shr (e_VItem bill'), .shr (D.int s4.2), .un, .un, .un, .un, .un, .un]) (Ew := fun (s6 : ((List Int) × Int)) => [.mu true (.lst [.d (e_Li s6.1), .d (D.int s6.2)]), .shr (e_VItem bill'), .shr (D.int s4.2), .un, .un, .un, .un, .un, .un]) (fun s6 x5 => [.mu true (.lst [.d (e_Li s6.1), .d (D.int s6.2)]), .shr (e_VItem bill'), .shr (D.int s4.2), .un, .un, .un, .un, .un, .shr (e_Item x5)]) (e_it (e_fz_s rfl) rfl) hc10 rfl rfl (fun _ _ => rfl) (fun _ => rfl) (fun s6 x5 => (jj_bind (v__law_draw s6 30) fun p7 hp7 => (jj_bind (v__law_draw p7.2 2) fun p8 hp8 => (jj_req fun hc9 => (jj_ret ⟨_, _, _, (e_mulI (e_call (e_argBb (i := 0) rfl (e_argBv e_C e_argB0 rfl)) (e_lendm (i := 0) rfl (e_lendr rfl e_lend0)) hp7 rfl) (e_call (e_argBb (i := 0) rfl (e_argBv e_C e_argB0 rfl)) (e_lendm (i := 0) rfl (e_lendr rfl e_lend0)) hp8 rfl) hc9), rfl, rfl⟩)))))) fun p11 ⟨qp11, hp11⟩ => (js_st (E := fun (s12 : (((List Int) × Int) × (List Int))) => [.mu true (.lst [.d (e_Li s12.1.1), .d (D.int s12.1.2)]), .shr (e_VItem bill'), .shr (D.int s4.2), .shr (e_Vi s12.2), .un, .un, .un, .un, .un]) (st_set (e_tupL (e := D.int) (xs := p11.1) hp11 (R.pl_own _)) rfl rfl) rfl))) fun s12 =>
    (js_seq (E := fun (s13 : (List (Int × Int × Int))) => [.mu true (.lst [.d (e_Li s12.1.1), .d (D.int s12.1.2)]), .shr (e_VItem bill'), .shr (D.int s4.2), .shr (e_Vi s12.2), .mu false (O.l (List.map e_T3iii s13)), .un, .un, .un, .un]) (js_st (E := fun (s13 : (List (Int × Int × Int))) => [.mu true (.lst [.d (e_Li s12.1.1), .d (D.int s12.1.2)]), .shr (e_VItem bill'), .shr (D.int s4.2), .shr (e_Vi s12.2), .mu false (O.l (List.map e_T3iii s13)), .un, .un, .un, .un]) (st_set (e_cast (r' := .own (O.l (List.map e_T3iii ([] : (List (Int × Int × Int)))))) (e_lst e_args0 e_sts0 (Nat.le_of_ble_eq_true rfl)) rfl) rfl rfl) rfl) fun s13 =>
    (js_seq (E := fun (s16 : (((List Int) × Int) × (List (Int × Int × Int)))) => [.mu true (.lst [.d (e_Li s16.1.1), .d (D.int s16.1.2)]), .shr (e_VItem bill'), .shr (D.int s4.2), .shr (e_Vi s12.2), .mu false (O.l (List.map e_T3iii s16.2)), .un, .un, .un, .un]) (js_bind (v__law_draw s12.1 5) fun p14 hp14 => (js_req fun hc15 => (js_forL (e := D.int) (xs := (rng p14.1)) (E := fun (s16 : (((List Int) × Int) × (List (Int × Int × Int)))) => [.mu true (.lst [.d (e_Li s16.1.1), .d (D.int s16.1.2)]), .shr (e_VItem bill'), .shr (D.int s4.2), .shr (e_Vi s12.2), .mu false (O.l (List.map e_T3iii s16.2)), .un, .un, .un, .un]) (fun s16 x17 => [.mu true (.lst [.d (e_Li s16.1.1), .d (D.int s16.1.2)]), .shr (e_VItem bill'), .shr (D.int s4.2), .shr (e_Vi s12.2), .mu false (O.l (List.map e_T3iii s16.2)), .shr (D.int x17), .un, .un, .un]) (e_rg1 (e_call (e_argBb (i := 0) rfl (e_argBv e_C e_argB0 rfl)) (e_lendm (i := 0) rfl (e_lendr rfl e_lend0)) hp14 rfl) hc15) rfl (fun _ _ => rfl) (fun s16 x17 =>
    (js_last (E1 := fun (s22 : (((List Int) × Int) × (List (Int × Int × Int)))) => [.mu true (.lst [.d (e_Li s22.1.1), .d (D.int s22.1.2)]), .shr (e_VItem bill'), .shr (D.int s4.2), .shr (e_Vi s12.2), .mu false (O.l (List.map e_T3iii s22.2)), .un, .un, .un, .un]) (js_bind (v__law_draw s16.1 (bill'.length : Int)) fun p18 hp18 => (js_bind (v__law_draw p18.2 25) fun p19 hp19 => (js_bind (v__law_draw p19.2 30) fun p20 hp20 => (js_req fun hc21 => (js_st (E := fun (s22 : (((List Int) × Int) × (List (Int × Int × Int)))) => [.mu true (.lst [.d (e_Li s22.1.1), .d (D.int s22.1.2)]), .shr (e_VItem bill'), .shr (D.int s4.2), .shr (e_Vi s12.2), .mu false (O.l (List.map e_T3iii s22.2)), .un, .un, .un, .un]) (st_kl (st_drop (e_app (e := e_T3iii) (xs := s16.2) (z := (p18.1, (s4.2 + p19.1), (1 + p20.1))) rfl (e_cast (r' := .d (e_T3iii (p18.1, (s4.2 + p19.1), (1 + p20.1)))) (e_tup (e_args (e_call (e_argBb (i := 0) rfl (e_argBv (e_lenT (e := e_Item) (xs := bill') (e_nm_s rfl)) e_argB0 rfl)) (e_lendm (i := 0) rfl (e_lendr rfl e_lend0)) hp18 rfl) (e_args (e_addI (e_nm_s rfl) (e_call (e_argBb (i := 0) rfl (e_argBv e_C e_argB0 rfl)) (e_lendm (i := 0) rfl (e_lendr rfl e_lend0)) hp19 rfl)) (e_args (e_addI e_C (e_call (e_argBb (i := 0) rfl (e_argBv e_C e_argB0 rfl)) (e_lendm (i := 0) rfl (e_lendr rfl e_lend0)) hp20 rfl)) e_args0 rfl) rfl) rfl) (e_sts rfl (e_sts rfl (e_sts rfl e_sts0))) (Nat.le_of_ble_eq_true rfl)) rfl) rfl rfl hc21)) rfl) rfl))))) fun _ => rfl))))) fun s16 =>
    (js_seq (E := fun (s23 : (List (Int × Int × Int × Int))) => [.mu true (.lst [.d (e_Li s16.1.1), .d (D.int s16.1.2)]), .shr (e_VItem bill'), .shr (D.int s4.2), .shr (e_Vi s12.2), .mu false (O.l (List.map e_T3iii s16.2)), .un, .mu false (O.l (List.map e_T4iiii s23)), .un, .un]) (js_st (E := fun (s23 : (List (Int × Int × Int × Int))) => [.mu true (.lst [.d (e_Li s16.1.1), .d (D.int s16.1.2)]), .shr (e_VItem bill'), .shr (D.int s4.2), .shr (e_Vi s12.2), .mu false (O.l (List.map e_T3iii s16.2)), .un, .mu false (O.l (List.map e_T4iiii s23)), .un, .un]) (st_set (e_cast (r' := .own (O.l (List.map e_T4iiii ([] : (List (Int × Int × Int × Int)))))) (e_lst e_args0 e_sts0 (Nat.le_of_ble_eq_true rfl)) rfl) rfl rfl) rfl) fun s23 =>
    (js_seq (E := fun (s24 : Int) => [.mu true (.lst [.d (e_Li s16.1.1), .d (D.int s16.1.2)]), .shr (e_VItem bill'), .shr (D.int s4.2), .shr (e_Vi s12.2), .mu false (O.l (List.map e_T3iii s16.2)), .un, .mu false (O.l (List.map e_T4iiii s23)), .shr (D.int s24), .un]) (js_st (E := fun (s24 : Int) => [.mu true (.lst [.d (e_Li s16.1.1), .d (D.int s16.1.2)]), .shr (e_VItem bill'), .shr (D.int s4.2), .shr (e_Vi s12.2), .mu false (O.l (List.map e_T3iii s16.2)), .un, .mu false (O.l (List.map e_T4iiii s23)), .shr (D.int s24), .un]) (st_set e_C rfl rfl) rfl) fun s24 =>
    (js_seq (E := fun (s27 : (((List Int) × Int) × (List (Int × Int × Int × Int)) × Int)) => [.mu true (.lst [.d (e_Li s27.1.1), .d (D.int s27.1.2)]), .un, .shr (D.int s4.2), .shr (e_Vi s12.2), .mu false (O.l (List.map e_T3iii s16.2)), .un, .mu false (O.l (List.map e_T4iiii s27.2.1)), .un, .un]) (js_klN (E := fun (s27 : (((List Int) × Int) × (List (Int × Int × Int × Int)) × Int)) => [.mu true (.lst [.d (e_Li s27.1.1), .d (D.int s27.1.2)]), .shr (e_VItem bill'), .shr (D.int s4.2), .shr (e_Vi s12.2), .mu false (O.l (List.map e_T3iii s16.2)), .un, .mu false (O.l (List.map e_T4iiii s27.2.1)), .shr (D.int s27.2.2), .un]) (js_bind (v__law_draw s16.1 5) fun p25 hp25 => (js_req fun hc26 => (js_forL (e := D.int) (xs := (rng p25.1)) (E := fun (s27 : (((List Int) × Int) × (List (Int × Int × Int × Int)) × Int)) => [.mu true (.lst [.d (e_Li s27.1.1), .d (D.int s27.1.2)]), .shr (e_VItem bill'), .shr (D.int s4.2), .shr (e_Vi s12.2), .mu false (O.l (List.map e_T3iii s16.2)), .un, .mu false (O.l (List.map e_T4iiii s27.2.1)), .shr (D.int s27.2.2), .un]) (fun s27 x28 => [.mu true (.lst [.d (e_Li s27.1.1), .d (D.int s27.1.2)]), .shr (e_VItem bill'), .shr (D.int s4.2), .shr (e_Vi s12.2), .mu false (O.l (List.map e_T3iii s16.2)), .shr (D.int x28), .mu false (O.l (List.map e_T4iiii s27.2.1)), .shr (D.int s27.2.2), .un]) (e_rg1 (e_call (e_argBb (i := 0) rfl (e_argBv e_C e_argB0 rfl)) (e_lendm (i := 0) rfl (e_lendr rfl e_lend0)) hp25 rfl) hc26) rfl (fun _ _ => rfl) (fun s27 x28 =>
    (js_seq (E := fun (s30 : (((List Int) × Int) × Int)) => [.mu true (.lst [.d (e_Li s30.1.1), .d (D.int s30.1.2)]), .shr (e_VItem bill'), .shr (D.int s4.2), .shr (e_Vi s12.2), .mu false (O.l (List.map e_T3iii s16.2)), .un, .mu false (O.l (List.map e_T4iiii s27.2.1)), .shr (D.int s30.2), .un]) (js_bind (v__law_draw s27.1 9) fun p29 hp29 => (js_st (E := fun (s30 : (((List Int) × Int) × Int)) => [.mu true (.lst [.d (e_Li s30.1.1), .d (D.int s30.1.2)]), .shr (e_VItem bill'), .shr (D.int s4.2), .shr (e_Vi s12.2), .mu false (O.l (List.map e_T3iii s16.2)), .un, .mu false (O.l (List.map e_T4iiii s27.2.1)), .shr (D.int s30.2), .un]) (st_kl (st_set (e_addI (e_addI (e_nm_s rfl) e_C) (e_call (e_argBb (i := 0) rfl (e_argBv e_C e_argB0 rfl)) (e_lendm (i := 0) rfl (e_lendr rfl e_lend0)) hp29 rfl)) rfl rfl) rfl) rfl)) fun s30 =>
    (js_last (E1 := fun (s35 : (((List Int) × Int) × (List (Int × Int × Int × Int)))) => [.mu true (.lst [.d (e_Li s35.1.1), .d (D.int s35.1.2)]), .shr (e_VItem bill'), .shr (D.int s4.2), .shr (e_Vi s12.2), .mu false (O.l (List.map e_T3iii s16.2)), .un, .mu false (O.l (List.map e_T4iiii s35.2)), .shr (D.int s30.2), .un]) (js_bind (v__law_draw s30.1 (bill'.length : Int)) fun p31 hp31 => (js_bind (v__law_draw p31.2 20) fun p32 hp32 => (js_bind (v__law_draw p32.2 30) fun p33 hp33 => (js_req fun hc34 => (js_st (E := fun (s35 : (((List Int) × Int) × (List (Int × Int × Int × Int)))) => [.mu true (.lst [.d (e_Li s35.1.1), .d (D.int s35.1.2)]), .shr (e_VItem bill'), .shr (D.int s4.2), .shr (e_Vi s12.2), .mu false (O.l (List.map e_T3iii s16.2)), .un, .mu false (O.l (List.map e_T4iiii s35.2)), .shr (D.int s30.2), .un]) (st_drop (e_app (e := e_T4iiii) (xs := s27.2.1) (z := (s30.2, p31.1, (1 + p32.1), (s4.2 + p33.1))) rfl (e_cast (r' := .d (e_T4iiii (s30.2, p31.1, (1 + p32.1), (s4.2 + p33.1)))) (e_tup (e_args (e_fz_s rfl) (e_args (e_call (e_argBb (i := 0) rfl (e_argBv (e_lenT (e := e_Item) (xs := bill') (e_nm_s rfl)) e_argB0 rfl)) (e_lendm (i := 0) rfl (e_lendr rfl e_lend0)) hp31 rfl) (e_args (e_addI e_C (e_call (e_argBb (i := 0) rfl (e_argBv e_C e_argB0 rfl)) (e_lendm (i := 0) rfl (e_lendr rfl e_lend0)) hp32 rfl)) (e_args (e_addI (e_nm_s rfl) (e_call (e_argBb (i := 0) rfl (e_argBv e_C e_argB0 rfl)) (e_lendm (i := 0) rfl (e_lendr rfl e_lend0)) hp33 rfl)) e_args0 rfl) rfl) rfl) rfl) (e_sts rfl (e_sts rfl (e_sts rfl (e_sts rfl e_sts0)))) (Nat.le_of_ble_eq_true rfl)) rfl) rfl rfl hc34)) rfl))))) fun _ => rfl)))))) (fun _ => rfl)) fun s27 =>
    (js_rt (e_cast (r' := .d (e_Books (Books.mk s4.2 s12.2 s16.2 s27.2.1))) (e_tup (e_args (e_fz_s rfl) (e_args (e_fz_s rfl) (e_args (e_tupL (e := e_T3iii) (xs := s16.2) (e_nm_m rfl) (R.pl_pk _)) (e_args (e_tupL (e := e_T4iiii) (xs := s27.2.1) (e_nm_m rfl) (R.pl_pk _)) e_args0 rfl) rfl) rfl) rfl) (e_sts rfl (e_sts rfl (e_sts rfl (e_sts rfl e_sts0)))) (Nat.le_of_ble_eq_true rfl)) rfl) rfl rfl))))))))

noncomputable def t__days_of (bill' : (List Item)) (books' : Books) (found' : (List (List (Int × Int)))) (item' : Int) : T (List Int) :=
  T.bind (T.req (books'.ords.length ≤ 1000000) (T.req ((T.lcP (fun (x1 : (Int × Int × Int × Int)) => T.ret (decide (x1.2.1 = item'))) (fun x1 => T.ret x1.2.2.2) books'.ords).ok) (T.ret ((T.lcP (fun (x1 : (Int × Int × Int × Int)) => T.ret (decide (x1.2.1 = item'))) (fun x1 => T.ret x1.2.2.2) books'.ords).val)))) fun s5 =>
    T.bind (T.bind (t_used_by bill' item') fun p6 => T.forL (fun (s7 : (List Int)) (x8 : (Int × Int)) =>
    T.bind (T.req (0 ≤ x8.1 ∧ x8.1 < found'.length) (T.req ((ix found' x8.1).length ≤ 1000000) (T.req ((T.lcP (fun (x10 : (Int × Int)) => T.ret true) (fun x10 => T.ret x10.1) (ix found' x8.1)).ok) (T.req (s7.length + ((T.lcP (fun (x10 : (Int × Int)) => T.ret true) (fun x10 => T.ret x10.1) (ix found' x8.1)).val).length ≤ 1000000) (T.ret (s7 ++ (T.lcP (fun (x10 : (Int × Int)) => T.ret true) (fun x10 => T.ret x10.1) (ix found' x8.1)).val)))))) fun s15 => T.ret s15) p6 s5) fun s7 =>
    T.ret (srtI s7)
abbrev q__days_of (bill' : (List Item)) (books' : Books) (found' : (List (List (Int × Int)))) (item' : Int) : (List Int) → Prop := fun z => f__days_of [.shr (e_VItem bill'), .shr (e_Books books'), .mu true (O.l (List.map e_VT2ii found')), .shr (D.int item')] = ((fun (z : (List Int)) => FRes.ok (.own (O.l (List.map D.int z))) [.un, .un, .mu true (O.l (List.map e_VT2ii found')), .un] : (List Int) → FRes)) z
theorem v__days_of (bill' : (List Item)) (books' : Books) (found' : (List (List (Int × Int)))) (item' : Int) : J (t__days_of bill' books' found' item') (q__days_of bill' books' found' item') :=
  v_fn (as := [.shr (e_VItem bill'), .shr (e_Books books'), .mu true (O.l (List.map e_VT2ii found')), .shr (D.int item')]) (R' := fun (z : (List Int)) => FRes.ok (.own (O.l (List.map D.int z))) [.un, .un, .mu true (O.l (List.map e_VT2ii found')), .un]) f__days_of_eq rfl (js_seq (E := fun (s5 : (List Int)) => [.shr (e_VItem bill'), .un, .mu true (O.l (List.map e_VT2ii found')), .shr (D.int item'), .mu false (O.l (List.map D.int s5)), .un, .un, .un, .un]) (js_req fun hc3 => (js_req fun hc4 => (js_st (E := fun (s5 : (List Int)) => [.shr (e_VItem bill'), .un, .mu true (O.l (List.map e_VT2ii found')), .shr (D.int item'), .mu false (O.l (List.map D.int s5)), .un, .un, .un, .un]) (st_kl (st_set ((e_lcJ (e := e_T4iiii) (xs := books'.ords) (eb := D.int) (fun x1 => [.shr (e_VItem bill'), .shr (e_Books books'), .mu true (O.l (List.map e_VT2ii found')), .shr (D.int item'), .un, .un, .un, .shr (e_T4iiii x1), .un]) (e_it (e_tF 3 (e_nm_s rfl) rfl rfl) rfl) hc3 rfl rfl (fun _ => rfl) (fun _ => rfl) rfl (fun x1 => (jj_ret (e_test (e_eqI (e_tF 1 (e_nm_s rfl) rfl rfl) (e_nm_s rfl))))) (fun x1 => (jj_ret ⟨_, (e_tF 3 (e_nm_s rfl) rfl rfl), rfl⟩))) hc4) rfl rfl) rfl) rfl))) fun s5 =>
    (js_seq (E := fun (s7 : (List Int)) => [.un, .un, .mu true (O.l (List.map e_VT2ii found')), .un, .mu false (O.l (List.map D.int s7)), .un, .un, .un, .un]) (js_klN (E := fun (s7 : (List Int)) => [.shr (e_VItem bill'), .un, .mu true (O.l (List.map e_VT2ii found')), .shr (D.int item'), .mu false (O.l (List.map D.int s7)), .un, .un, .un, .un]) (js_bind (v_used_by bill' item') fun p6 hp6 => (js_forL (e := e_T2ii) (xs := p6) (E := fun (s7 : (List Int)) => [.shr (e_VItem bill'), .un, .mu true (O.l (List.map e_VT2ii found')), .shr (D.int item'), .mu false (O.l (List.map D.int s7)), .un, .un, .un, .un]) (fun s7 x8 => [.shr (e_VItem bill'), .un, .mu true (O.l (List.map e_VT2ii found')), .shr (D.int item'), .mu false (O.l (List.map D.int s7)), .shr (D.int x8.1), .shr (D.int x8.2), .un, .un]) (e_it (e_call (e_argBv (e_fz_s rfl) (e_argBv (e_fz_s rfl) e_argB0 rfl) rfl) (e_lendr rfl (e_lendr rfl e_lend0)) hp6 rfl) (its_O (e := e_T2ii) (xs := p6))) rfl (fun _ _ => rfl) (fun s7 x8 =>
    (js_last (E1 := fun (s15 : (List Int)) => [.shr (e_VItem bill'), .un, .mu true (O.l (List.map e_VT2ii found')), .shr (D.int item'), .mu false (O.l (List.map D.int s15)), .un, .un, .un, .un]) (js_req fun hc9 => (js_req fun hc12 => (js_req fun hc13 => (js_req fun hc14 => (js_st (E := fun (s15 : (List Int)) => [.shr (e_VItem bill'), .un, .mu true (O.l (List.map e_VT2ii found')), .shr (D.int item'), .mu false (O.l (List.map D.int s15)), .un, .un, .un, .un]) (st_kl (st_drop (e_ext (e := D.int) (xs := s7) (ys := (T.lcP (fun (x10 : (Int × Int)) => T.ret true) (fun x10 => T.ret x10.1) (ix found' x8.1)).val) rfl ((e_lcJ (e := e_T2ii) (xs := (ix found' x8.1)) (eb := D.int) (fun x10 => [.shr (e_VItem bill'), .un, .mu true (O.l (List.map e_VT2ii found')), .shr (D.int item'), .mu false (O.l (List.map D.int s7)), .shr (D.int x8.1), .shr (D.int x8.2), .un, .shr (e_T2ii x10)]) (e_it (e_ixP (e := e_VT2ii) (xs := found') (e_nm_m rfl) (e_nm_s rfl) rfl hc9) rfl) hc12 rfl rfl (fun _ => rfl) (fun _ => rfl) rfl (fun x10 => j_yes) (fun x10 => (jj_ret ⟨_, (e_tF 0 (e_nm_s rfl) rfl rfl), rfl⟩))) hc13) (R.ol_own _) rfl hc14)) rfl) rfl))))) fun _ => rfl)))) (fun _ => rfl)) fun s7 =>
    (js_rt (e_sortI (e_nm_m rfl) (R.pl_pk _)) rfl rfl)))

noncomputable def t_ordered (books' : Books) (item' : Int) (day' : Int) : T Int :=
  T.req (books'.ords.length ≤ 1000000) (T.req ((T.lcP (fun (x1 : (Int × Int × Int × Int)) => T.ret ((decide (x1.2.1 = item')) && (decide (x1.2.2.2 ≤ day')))) (fun x1 => T.ret x1.2.2.1) books'.ords).ok) (T.ret (((T.lcP (fun (x1 : (Int × Int × Int × Int)) => T.ret ((decide (x1.2.1 = item')) && (decide (x1.2.2.2 ≤ day')))) (fun x1 => T.ret x1.2.2.1) books'.ords).val).sum)))
abbrev q_ordered (books' : Books) (item' : Int) (day' : Int) : Int → Prop := fun z => f_ordered [.shr (e_Books books'), .shr (D.int item'), .shr (D.int day')] = ((fun (z : Int) => FRes.ok (.d (D.int z)) [.un, .un, .un] : Int → FRes)) z
theorem v_ordered (books' : Books) (item' : Int) (day' : Int) : J (t_ordered books' item' day') (q_ordered books' item' day') :=
  v_fn (as := [.shr (e_Books books'), .shr (D.int item'), .shr (D.int day')]) (R' := fun (z : Int) => FRes.ok (.d (D.int z)) [.un, .un, .un]) f_ordered_eq rfl (js_req fun hc4 => (js_req fun hc5 => (js_rt (e_sum ((e_lcJ (e := e_T4iiii) (xs := books'.ords) (eb := D.int) (fun x1 => [.shr (e_Books books'), .shr (D.int item'), .shr (D.int day'), .shr (e_T4iiii x1)]) (e_it (e_tF 3 (e_nm_s rfl) rfl rfl) rfl) hc4 rfl rfl (fun _ => rfl) (fun _ => rfl) rfl (fun x1 => (jj_ret (e_and (e_test (e_eqI (e_tF 1 (e_nm_s rfl) rfl rfl) (e_nm_s rfl))) fun g3 => (e_test (e_le (e_tF 3 (e_nm_s rfl) rfl rfl) (e_nm_s rfl)))))) (fun x1 => (jj_ret ⟨_, (e_tF 2 (e_nm_s rfl) rfl rfl), rfl⟩))) hc5) (R.pl_own _)) rfl rfl)))

noncomputable def t__lots_at (rows' : (List (Int × Int))) (day' : Int) : T Int :=
  T.bind (T.ret 0) fun s1 =>
    T.bind (T.forL (fun (s2 : Int) (x3 : (Int × Int)) =>
    T.bind (if (decide (x3.1 ≤ day')) = true then T.bind (T.ret x3.2) fun s4 => T.ret s4 else T.ret s2) fun s5 => T.ret s5) rows' s1) fun s2 =>
    T.ret s2
abbrev q__lots_at (rows' : (List (Int × Int))) (day' : Int) : Int → Prop := fun z => f__lots_at [.shr (e_VT2ii rows'), .shr (D.int day')] = ((fun (z : Int) => FRes.ok (.d (D.int z)) [.un, .un] : Int → FRes)) z
theorem v__lots_at (rows' : (List (Int × Int))) (day' : Int) : J (t__lots_at rows' day') (q__lots_at rows' day') :=
  v_fn (as := [.shr (e_VT2ii rows'), .shr (D.int day')]) (R' := fun (z : Int) => FRes.ok (.d (D.int z)) [.un, .un]) f__lots_at_eq rfl (js_seq (E := fun (s1 : Int) => [.shr (e_VT2ii rows'), .shr (D.int day'), .shr (D.int s1), .un, .un]) (js_st (E := fun (s1 : Int) => [.shr (e_VT2ii rows'), .shr (D.int day'), .shr (D.int s1), .un, .un]) (st_set e_C rfl rfl) rfl) fun s1 =>
    (js_seq (E := fun (s2 : Int) => [.un, .un, .shr (D.int s2), .un, .un]) (js_klN (E := fun (s2 : Int) => [.shr (e_VT2ii rows'), .shr (D.int day'), .shr (D.int s2), .un, .un]) (js_forL (e := e_T2ii) (xs := rows') (E := fun (s2 : Int) => [.shr (e_VT2ii rows'), .shr (D.int day'), .shr (D.int s2), .un, .un]) (fun s2 x3 => [.shr (e_VT2ii rows'), .shr (D.int day'), .shr (D.int s2), .shr (D.int x3.1), .shr (D.int x3.2)]) (e_it (e_fz_s rfl) rfl) rfl (fun _ _ => rfl) (fun s2 x3 =>
    (js_last (E1 := fun (s5 : Int) => [.shr (e_VT2ii rows'), .shr (D.int day'), .shr (D.int s5), .un, .un]) (js_if (e_test (e_le (e_nm_s rfl) (e_nm_s rfl))) (js_last (E1 := fun (s4 : Int) => [.shr (e_VT2ii rows'), .shr (D.int day'), .shr (D.int s4), .un, .un]) (js_st (E := fun (s4 : Int) => [.shr (e_VT2ii rows'), .shr (D.int day'), .shr (D.int s4), .un, .un]) (st_kl (st_set (e_fz_s rfl) rfl rfl) rfl) rfl) fun _ => rfl) (fun _ => rfl)) fun _ => rfl))) (fun _ => rfl)) fun s2 =>
    (js_rt (e_mv_s rfl) rfl rfl)))

noncomputable def t__taken (bill' : (List Item)) (books' : Books) (found' : (List (List (Int × Int)))) (item' : Int) (day' : Int) : T Int :=
  T.bind (T.bind (t_ordered books' item' day') fun p1 => T.ret p1) fun s2 =>
    T.bind (T.bind (t_used_by bill' item') fun p3 => T.forL (fun (s4 : Int) (x5 : (Int × Int)) =>
    T.bind (T.req (0 ≤ x5.1 ∧ x5.1 < bill'.length) (T.req ((-1000000000 ≤ x5.2 ∧ x5.2 ≤ 1000000000) ∨ (-1000000000 ≤ (ix bill' x5.1).lot ∧ (ix bill' x5.1).lot ≤ 1000000000)) (T.req (0 ≤ x5.1 ∧ x5.1 < found'.length) (T.bind (t__lots_at (ix found' x5.1) day') fun p9 => T.req ((-1000000000 ≤ (x5.2 * (ix bill' x5.1).lot) ∧ (x5.2 * (ix bill' x5.1).lot) ≤ 1000000000) ∨ (-1000000000 ≤ p9 ∧ p9 ≤ 1000000000)) (T.ret (s4 + ((x5.2 * (ix bill' x5.1).lot) * p9))))))) fun s11 => T.ret s11) p3 s2) fun s4 =>
    T.ret s4
abbrev q__taken (bill' : (List Item)) (books' : Books) (found' : (List (List (Int × Int)))) (item' : Int) (day' : Int) : Int → Prop := fun z => f__taken [.shr (e_VItem bill'), .shr (e_Books books'), .mu true (O.l (List.map e_VT2ii found')), .shr (D.int item'), .shr (D.int day')] = ((fun (z : Int) => FRes.ok (.d (D.int z)) [.un, .un, .mu true (O.l (List.map e_VT2ii found')), .un, .un] : Int → FRes)) z
theorem v__taken (bill' : (List Item)) (books' : Books) (found' : (List (List (Int × Int)))) (item' : Int) (day' : Int) : J (t__taken bill' books' found' item' day') (q__taken bill' books' found' item' day') :=
  v_fn (as := [.shr (e_VItem bill'), .shr (e_Books books'), .mu true (O.l (List.map e_VT2ii found')), .shr (D.int item'), .shr (D.int day')]) (R' := fun (z : Int) => FRes.ok (.d (D.int z)) [.un, .un, .mu true (O.l (List.map e_VT2ii found')), .un, .un]) f__taken_eq rfl (js_seq (E := fun (s2 : Int) => [.shr (e_VItem bill'), .un, .mu true (O.l (List.map e_VT2ii found')), .shr (D.int item'), .shr (D.int day'), .shr (D.int s2), .un, .un]) (js_bind (v_ordered books' item' day') fun p1 hp1 => (js_st (E := fun (s2 : Int) => [.shr (e_VItem bill'), .un, .mu true (O.l (List.map e_VT2ii found')), .shr (D.int item'), .shr (D.int day'), .shr (D.int s2), .un, .un]) (st_kl (st_set (e_call (e_argBv (e_fz_s rfl) (e_argBv (e_fz_s rfl) (e_argBv (e_fz_s rfl) e_argB0 rfl) rfl) rfl) (e_lendr rfl (e_lendr rfl (e_lendr rfl e_lend0))) hp1 rfl) rfl rfl) rfl) rfl)) fun s2 =>
    (js_seq (E := fun (s4 : Int) => [.un, .un, .mu true (O.l (List.map e_VT2ii found')), .un, .un, .shr (D.int s4), .un, .un]) (js_klN (E := fun (s4 : Int) => [.shr (e_VItem bill'), .un, .mu true (O.l (List.map e_VT2ii found')), .shr (D.int item'), .shr (D.int day'), .shr (D.int s4), .un, .un]) (js_bind (v_used_by bill' item') fun p3 hp3 => (js_forL (e := e_T2ii) (xs := p3) (E := fun (s4 : Int) => [.shr (e_VItem bill'), .un, .mu true (O.l (List.map e_VT2ii found')), .shr (D.int item'), .shr (D.int day'), .shr (D.int s4), .un, .un]) (fun s4 x5 => [.shr (e_VItem bill'), .un, .mu true (O.l (List.map e_VT2ii found')), .shr (D.int item'), .shr (D.int day'), .shr (D.int s4), .shr (D.int x5.1), .shr (D.int x5.2)]) (e_it (e_call (e_argBv (e_fz_s rfl) (e_argBv (e_fz_s rfl) e_argB0 rfl) rfl) (e_lendr rfl (e_lendr rfl e_lend0)) hp3 rfl) (its_O (e := e_T2ii) (xs := p3))) rfl (fun _ _ => rfl) (fun s4 x5 =>
    (js_last (E1 := fun (s11 : Int) => [.shr (e_VItem bill'), .un, .mu true (O.l (List.map e_VT2ii found')), .shr (D.int item'), .shr (D.int day'), .shr (D.int s11), .un, .un]) (js_req fun hc6 => (js_req fun hc7 => (js_req fun hc8 => (js_bind (v__lots_at (ix found' x5.1) day') fun p9 hp9 => (js_req fun hc10 => (js_st (E := fun (s11 : Int) => [.shr (e_VItem bill'), .un, .mu true (O.l (List.map e_VT2ii found')), .shr (D.int item'), .shr (D.int day'), .shr (D.int s11), .un, .un]) (st_kl (st_augI rfl (e_mulI (e_mulI (e_nm_s rfl) (e_tF 3 (e_ixT (e := e_Item) (xs := bill') (e_nm_s rfl) (e_nm_s rfl) hc6) rfl rfl) hc7) (e_call (e_argBv (e_ixP (e := e_VT2ii) (xs := found') (e_nm_m rfl) (e_nm_s rfl) rfl hc8) (e_argBv (e_fz_s rfl) e_argB0 rfl) rfl) (e_lendr rfl (e_lendr rfl e_lend0)) hp9 rfl) hc10) rfl) rfl) rfl)))))) fun _ => rfl)))) (fun _ => rfl)) fun s4 =>
    (js_rt (e_mv_s rfl) rfl rfl)))

noncomputable def t_supplied (books' : Books) (item' : Int) (day' : Int) : T Int :=
  T.req (0 ≤ item' ∧ item' < books'.stock.length) (T.req (books'.recs.length ≤ 1000000) (T.req ((T.lcP (fun (x2 : (Int × Int × Int)) => T.ret ((decide (x2.1 = item')) && (decide (x2.2.1 ≤ day')))) (fun x2 => T.ret x2.2.2) books'.recs).ok) (T.ret ((ix books'.stock item') + ((T.lcP (fun (x2 : (Int × Int × Int)) => T.ret ((decide (x2.1 = item')) && (decide (x2.2.1 ≤ day')))) (fun x2 => T.ret x2.2.2) books'.recs).val).sum))))
abbrev q_supplied (books' : Books) (item' : Int) (day' : Int) : Int → Prop := fun z => f_supplied [.shr (e_Books books'), .shr (D.int item'), .shr (D.int day')] = ((fun (z : Int) => FRes.ok (.d (D.int z)) [.un, .un, .un] : Int → FRes)) z
theorem v_supplied (books' : Books) (item' : Int) (day' : Int) : J (t_supplied books' item' day') (q_supplied books' item' day') :=
  v_fn (as := [.shr (e_Books books'), .shr (D.int item'), .shr (D.int day')]) (R' := fun (z : Int) => FRes.ok (.d (D.int z)) [.un, .un, .un]) f_supplied_eq rfl (js_req fun hc1 => (js_req fun hc5 => (js_req fun hc6 => (js_rt (e_addI (e_ixT (e := D.int) (xs := books'.stock) (e_tF 1 (e_nm_s rfl) rfl rfl) (e_nm_s rfl) hc1) (e_sum ((e_lcJ (e := e_T3iii) (xs := books'.recs) (eb := D.int) (fun x2 => [.shr (e_Books books'), .shr (D.int item'), .shr (D.int day'), .shr (e_T3iii x2)]) (e_it (e_tF 2 (e_nm_s rfl) rfl rfl) rfl) hc5 rfl rfl (fun _ => rfl) (fun _ => rfl) rfl (fun x2 => (jj_ret (e_and (e_test (e_eqI (e_tF 0 (e_nm_s rfl) rfl rfl) (e_nm_s rfl))) fun g4 => (e_test (e_le (e_tF 1 (e_nm_s rfl) rfl rfl) (e_nm_s rfl)))))) (fun x2 => (jj_ret ⟨_, (e_tF 2 (e_nm_s rfl) rfl rfl), rfl⟩))) hc6) (R.pl_own _))) rfl rfl))))

noncomputable def t_rounded_up (number' : Int) (divisor' : Int) : T Int :=
  T.req (0 < divisor' ∧ divisor' < 1000000000) (T.ret (-(-number' / divisor')))
abbrev q_rounded_up (number' : Int) (divisor' : Int) : Int → Prop := fun z => f_rounded_up [.shr (D.int number'), .shr (D.int divisor')] = ((fun (z : Int) => FRes.ok (.d (D.int z)) [.un, .un] : Int → FRes)) z
theorem v_rounded_up (number' : Int) (divisor' : Int) : J (t_rounded_up number' divisor') (q_rounded_up number' divisor') :=
  v_fn (as := [.shr (D.int number'), .shr (D.int divisor')]) (R' := fun (z : Int) => FRes.ok (.d (D.int z)) [.un, .un]) f_rounded_up_eq rfl (js_req fun hc1 => (js_rt (e_negI (e_divI (e_negI (e_nm_s rfl)) (e_nm_s rfl) hc1)) rfl rfl))

noncomputable def t_rows_of (bill' : (List Item)) (books' : Books) (found' : (List (List (Int × Int)))) (item' : Int) : T (List (Int × Int)) :=
  T.bind (T.ret ([] : (List (Int × Int)))) fun s1 =>
    T.bind (T.ret 0) fun s2 =>
    T.bind (T.bind (t__days_of bill' books' found' item') fun p3 => T.forL (fun (s4 : ((List (Int × Int)) × Int)) (x5 : Int) =>
    T.bind (T.bind (t__taken bill' books' found' item' x5) fun p6 => T.bind (t_supplied books' item' x5) fun p7 => T.ret (p6 - p7)) fun s8 =>
    T.bind (T.req (0 ≤ item' ∧ item' < bill'.length) (T.bind (t_rounded_up s8 ((ix bill' item').good)) fun p10 => T.ret p10)) fun s11 =>
    T.bind (if (decide (s4.2 < s11)) = true then T.bind (T.ret s11) fun s12 =>
    T.bind (T.req (0 ≤ item' ∧ item' < bill'.length) (T.req (s4.1.length < 1000000) (T.ret (s4.1 ++ [((x5 - (ix bill' item').lead), s12)])))) fun s15 => T.ret (s15, s12) else T.ret (s4.1, s4.2)) fun s16 => T.ret (s16.1, s16.2)) p3 (s1, s2)) fun s4 =>
    T.ret s4.1
abbrev q_rows_of (bill' : (List Item)) (books' : Books) (found' : (List (List (Int × Int)))) (item' : Int) : (List (Int × Int)) → Prop := fun z => f_rows_of [.shr (e_VItem bill'), .shr (e_Books books'), .mu true (O.l (List.map e_VT2ii found')), .shr (D.int item')] = ((fun (z : (List (Int × Int))) => FRes.ok (.d (e_VT2ii z)) [.un, .un, .mu true (O.l (List.map e_VT2ii found')), .un] : (List (Int × Int)) → FRes)) z
theorem v_rows_of (bill' : (List Item)) (books' : Books) (found' : (List (List (Int × Int)))) (item' : Int) : J (t_rows_of bill' books' found' item') (q_rows_of bill' books' found' item') :=
  v_fn (as := [.shr (e_VItem bill'), .shr (e_Books books'), .mu true (O.l (List.map e_VT2ii found')), .shr (D.int item')]) (R' := fun (z : (List (Int × Int))) => FRes.ok (.d (e_VT2ii z)) [.un, .un, .mu true (O.l (List.map e_VT2ii found')), .un]) f_rows_of_eq rfl (js_seq (E := fun (s1 : (List (Int × Int))) => [.shr (e_VItem bill'), .shr (e_Books books'), .mu true (O.l (List.map e_VT2ii found')), .shr (D.int item'), .mu false (O.l (List.map e_T2ii s1)), .un, .un, .un, .un]) (js_st (E := fun (s1 : (List (Int × Int))) => [.shr (e_VItem bill'), .shr (e_Books books'), .mu true (O.l (List.map e_VT2ii found')), .shr (D.int item'), .mu false (O.l (List.map e_T2ii s1)), .un, .un, .un, .un]) (st_set (e_cast (r' := .own (O.l (List.map e_T2ii ([] : (List (Int × Int)))))) (e_lst e_args0 e_sts0 (Nat.le_of_ble_eq_true rfl)) rfl) rfl rfl) rfl) fun s1 =>
    (js_seq (E := fun (s2 : Int) => [.shr (e_VItem bill'), .shr (e_Books books'), .mu true (O.l (List.map e_VT2ii found')), .shr (D.int item'), .mu false (O.l (List.map e_T2ii s1)), .shr (D.int s2), .un, .un, .un]) (js_st (E := fun (s2 : Int) => [.shr (e_VItem bill'), .shr (e_Books books'), .mu true (O.l (List.map e_VT2ii found')), .shr (D.int item'), .mu false (O.l (List.map e_T2ii s1)), .shr (D.int s2), .un, .un, .un]) (st_set e_C rfl rfl) rfl) fun s2 =>
    (js_seq (E := fun (s4 : ((List (Int × Int)) × Int)) => [.un, .un, .mu true (O.l (List.map e_VT2ii found')), .un, .mu false (O.l (List.map e_T2ii s4.1)), .un, .un, .un, .un]) (js_klN (E := fun (s4 : ((List (Int × Int)) × Int)) => [.shr (e_VItem bill'), .shr (e_Books books'), .mu true (O.l (List.map e_VT2ii found')), .shr (D.int item'), .mu false (O.l (List.map e_T2ii s4.1)), .shr (D.int s4.2), .un, .un, .un]) (js_bind (v__days_of bill' books' found' item') fun p3 hp3 => (js_forL (e := D.int) (xs := p3) (E := fun (s4 : ((List (Int × Int)) × Int)) => [.shr (e_VItem bill'), .shr (e_Books books'), .mu true (O.l (List.map e_VT2ii found')), .shr (D.int item'), .mu false (O.l (List.map e_T2ii s4.1)), .shr (D.int s4.2), .un, .un, .un]) (fun s4 x5 => [.shr (e_VItem bill'), .shr (e_Books books'), .mu true (O.l (List.map e_VT2ii found')), .shr (D.int item'), .mu false (O.l (List.map e_T2ii s4.1)), .shr (D.int s4.2), .shr (D.int x5), .un, .un]) (e_it (e_call (e_argBv (e_fz_s rfl) (e_argBv (e_fz_s rfl) (e_argBb (i := 2) rfl (e_argBv (e_fz_s rfl) e_argB0 rfl)) rfl) rfl) (e_lendr rfl (e_lendr rfl (e_lendm (i := 2) rfl (e_lendr rfl e_lend0)))) hp3 rfl) (its_O (e := D.int) (xs := p3))) rfl (fun _ _ => rfl) (fun s4 x5 =>
    (js_seq (E := fun (s8 : Int) => [.shr (e_VItem bill'), .shr (e_Books books'), .mu true (O.l (List.map e_VT2ii found')), .shr (D.int item'), .mu false (O.l (List.map e_T2ii s4.1)), .shr (D.int s4.2), .shr (D.int x5), .shr (D.int s8), .un]) (js_bind (v__taken bill' books' found' item' x5) fun p6 hp6 => (js_bind (v_supplied books' item' x5) fun p7 hp7 => (js_st (E := fun (s8 : Int) => [.shr (e_VItem bill'), .shr (e_Books books'), .mu true (O.l (List.map e_VT2ii found')), .shr (D.int item'), .mu false (O.l (List.map e_T2ii s4.1)), .shr (D.int s4.2), .shr (D.int x5), .shr (D.int s8), .un]) (st_set (e_subI (e_call (e_argBv (e_fz_s rfl) (e_argBv (e_fz_s rfl) (e_argBb (i := 2) rfl (e_argBv (e_fz_s rfl) (e_argBv (e_fz_s rfl) e_argB0 rfl) rfl)) rfl) rfl) (e_lendr rfl (e_lendr rfl (e_lendm (i := 2) rfl (e_lendr rfl (e_lendr rfl e_lend0))))) hp6 rfl) (e_call (e_argBv (e_fz_s rfl) (e_argBv (e_fz_s rfl) (e_argBv (e_fz_s rfl) e_argB0 rfl) rfl) rfl) (e_lendr rfl (e_lendr rfl (e_lendr rfl e_lend0))) hp7 rfl)) rfl rfl) rfl))) fun s8 =>
    (js_seq (E := fun (s11 : Int) => [.shr (e_VItem bill'), .shr (e_Books books'), .mu true (O.l (List.map e_VT2ii found')), .shr (D.int item'), .mu false (O.l (List.map e_T2ii s4.1)), .shr (D.int s4.2), .shr (D.int x5), .un, .shr (D.int s11)]) (js_req fun hc9 => (js_bind (v_rounded_up s8 ((ix bill' item').good)) fun p10 hp10 => (js_st (E := fun (s11 : Int) => [.shr (e_VItem bill'), .shr (e_Books books'), .mu true (O.l (List.map e_VT2ii found')), .shr (D.int item'), .mu false (O.l (List.map e_T2ii s4.1)), .shr (D.int s4.2), .shr (D.int x5), .un, .shr (D.int s11)]) (st_kl (st_set (e_call (e_argBv (e_fz_s rfl) (e_argBv (e_tF 4 (e_ixT (e := e_Item) (xs := bill') (e_nm_s rfl) (e_nm_s rfl) hc9) rfl rfl) e_argB0 rfl) rfl) (e_lendr rfl (e_lendr rfl e_lend0)) hp10 rfl) rfl rfl) rfl) rfl))) fun s11 =>
    (js_last (E1 := fun (s16 : ((List (Int × Int)) × Int)) => [.shr (e_VItem bill'), .shr (e_Books books'), .mu true (O.l (List.map e_VT2ii found')), .shr (D.int item'), .mu false (O.l (List.map e_T2ii s16.1)), .shr (D.int s16.2), .un, .un, .un]) (js_if (e_test (e_gt (e_nm_s rfl) (e_nm_s rfl))) (js_seq (E := fun (s12 : Int) => [.shr (e_VItem bill'), .shr (e_Books books'), .mu true (O.l (List.map e_VT2ii found')), .shr (D.int item'), .mu false (O.l (List.map e_T2ii s4.1)), .shr (D.int s12), .shr (D.int x5), .un, .un]) (js_st (E := fun (s12 : Int) => [.shr (e_VItem bill'), .shr (e_Books books'), .mu true (O.l (List.map e_VT2ii found')), .shr (D.int item'), .mu false (O.l (List.map e_T2ii s4.1)), .shr (D.int s12), .shr (D.int x5), .un, .un]) (st_kl (st_set (e_fz_s rfl) rfl rfl) rfl) rfl) fun s12 =>
    (js_last (E1 := fun (s15 : (List (Int × Int))) => [.shr (e_VItem bill'), .shr (e_Books books'), .mu true (O.l (List.map e_VT2ii found')), .shr (D.int item'), .mu false (O.l (List.map e_T2ii s15)), .shr (D.int s12), .un, .un, .un]) (js_req fun hc13 => (js_req fun hc14 => (js_st (E := fun (s15 : (List (Int × Int))) => [.shr (e_VItem bill'), .shr (e_Books books'), .mu true (O.l (List.map e_VT2ii found')), .shr (D.int item'), .mu false (O.l (List.map e_T2ii s15)), .shr (D.int s12), .un, .un, .un]) (st_kl (st_drop (e_app (e := e_T2ii) (xs := s4.1) (z := ((x5 - (ix bill' item').lead), s12)) rfl (e_cast (r' := .d (e_T2ii ((x5 - (ix bill' item').lead), s12))) (e_tup (e_args (e_subI (e_nm_s rfl) (e_tF 2 (e_ixT (e := e_Item) (xs := bill') (e_nm_s rfl) (e_nm_s rfl) hc13) rfl rfl)) (e_args (e_fz_s rfl) e_args0 rfl) rfl) (e_sts rfl (e_sts rfl e_sts0)) (Nat.le_of_ble_eq_true rfl)) rfl) rfl rfl hc14)) rfl) rfl))) fun _ => rfl)) (fun _ => rfl)) fun _ => rfl)))))) (fun _ => rfl)) fun s4 =>
    (js_rt (e_tupL (e := e_T2ii) (xs := s4.1) (e_nm_m rfl) (R.pl_pk _)) rfl rfl))))

noncomputable def t_needed (bill' : (List Item)) (books' : Books) : T (List (List (Int × Int))) :=
  T.bind (T.req (0 ≤ (bill'.length : Int) ∧ (bill'.length : Int) ≤ 1000 ∧ [([] : (List (Int × Int)))].length ≤ 1000) (T.ret (repl (bill'.length : Int) [([] : (List (Int × Int)))]))) fun s2 =>
    T.bind (T.bind (t_parents_first bill') fun p3 => T.forL (fun (s4 : (List (List (Int × Int)))) (x5 : Int) =>
    T.bind (T.bind (t_rows_of bill' books' s4 x5) fun p6 => T.req (0 ≤ x5 ∧ x5 < s4.length) (T.ret (sx s4 x5 p6))) fun s8 => T.ret s8) p3 s2) fun s4 =>
    T.ret s4
abbrev q_needed (bill' : (List Item)) (books' : Books) : (List (List (Int × Int))) → Prop := fun z => f_needed [.shr (e_VItem bill'), .shr (e_Books books')] = ((fun (z : (List (List (Int × Int)))) => FRes.ok (.d (e_VVT2ii z)) [.un, .un] : (List (List (Int × Int))) → FRes)) z
theorem v_needed (bill' : (List Item)) (books' : Books) : J (t_needed bill' books') (q_needed bill' books') :=
  v_fn (as := [.shr (e_VItem bill'), .shr (e_Books books')]) (R' := fun (z : (List (List (Int × Int)))) => FRes.ok (.d (e_VVT2ii z)) [.un, .un]) f_needed_eq rfl (js_seq (E := fun (s2 : (List (List (Int × Int)))) => [.shr (e_VItem bill'), .shr (e_Books books'), .mu false (O.l (List.map e_VT2ii s2)), .un]) (js_req fun hc1 => (js_st (E := fun (s2 : (List (List (Int × Int)))) => [.shr (e_VItem bill'), .shr (e_Books books'), .mu false (O.l (List.map e_VT2ii s2)), .un]) (st_set (e_mulL (e := e_VT2ii) (xs := [([] : (List (Int × Int)))]) (e_cast (r' := .own (O.l (List.map e_VT2ii [([] : (List (Int × Int)))]))) (e_lst (e_args (e_cast (r' := .d (e_VT2ii ([] : (List (Int × Int))))) (e_cast (r' := .d (e_T0 ())) (e_tup e_args0 e_sts0 (Nat.le_of_ble_eq_true rfl)) rfl) rfl) e_args0 rfl) (e_sts rfl e_sts0) (Nat.le_of_ble_eq_true rfl)) rfl) (e_lenT (e := e_Item) (xs := bill') (e_nm_s rfl)) hc1) rfl rfl) rfl)) fun s2 =>
    (js_seq (E := fun (s4 : (List (List (Int × Int)))) => [.un, .un, .mu false (O.l (List.map e_VT2ii s4)), .un]) (js_klN (E := fun (s4 : (List (List (Int × Int)))) => [.shr (e_VItem bill'), .shr (e_Books books'), .mu false (O.l (List.map e_VT2ii s4)), .un]) (js_bind (v_parents_first bill') fun p3 hp3 => (js_forL (e := D.int) (xs := p3) (E := fun (s4 : (List (List (Int × Int)))) => [.shr (e_VItem bill'), .shr (e_Books books'), .mu false (O.l (List.map e_VT2ii s4)), .un]) (fun s4 x5 => [.shr (e_VItem bill'), .shr (e_Books books'), .mu false (O.l (List.map e_VT2ii s4)), .shr (D.int x5)]) (e_it (e_call (e_argBv (e_fz_s rfl) e_argB0 rfl) (e_lendr rfl e_lend0) hp3 rfl) rfl) rfl (fun _ _ => rfl) (fun s4 x5 =>
    (js_last (E1 := fun (s8 : (List (List (Int × Int)))) => [.shr (e_VItem bill'), .shr (e_Books books'), .mu false (O.l (List.map e_VT2ii s8)), .un]) (js_bind (v_rows_of bill' books' s4 x5) fun p6 hp6 => (js_req fun hc7 => (js_st (E := fun (s8 : (List (List (Int × Int)))) => [.shr (e_VItem bill'), .shr (e_Books books'), .mu false (O.l (List.map e_VT2ii s8)), .un]) (st_kl (st_put (e := e_VT2ii) (xs := s4) (z := p6) rfl (e_args (e_call (e_argBv (e_fz_s rfl) (e_argBv (e_fz_s rfl) (e_argBb (i := 2) rfl (e_argBv (e_fz_s rfl) e_argB0 rfl)) rfl) rfl) (e_lendr rfl (e_lendr rfl (e_lendm (i := 2) rfl (e_lendr rfl e_lend0)))) hp6 rfl) (e_args (e_mInt (e_nm_s rfl)) e_args0 rfl) rfl) rfl rfl hc7) rfl) rfl))) fun _ => rfl)))) (fun _ => rfl)) fun s4 =>
    (js_rt (e_tupL (e := e_VT2ii) (xs := s4) (e_nm_m rfl) (R.pl_pk _)) rfl rfl)))

noncomputable def t_paper_of (bill' : (List Item)) (books' : Books) : T (List (Int × Int × Int)) :=
  T.bind (T.bind (t_needed bill' books') fun p1 => T.ret p1) fun s2 =>
    T.bind (T.ret ([] : (List (Int × Int × Int)))) fun s3 =>
    T.bind (T.bind (t_parents_first bill') fun p4 => T.forL (fun (s5 : (List (Int × Int × Int))) (x6 : Int) =>
    T.bind (T.req (0 ≤ x6 ∧ x6 < s2.length) (T.req ((ix s2 x6).length ≤ 1000000) (T.req ((T.lcP (fun (x8 : (Int × Int)) => T.ret true) (fun x8 => T.ret (x6, x8.1, x8.2)) (ix s2 x6)).ok) (T.req (s5.length + ((T.lcP (fun (x8 : (Int × Int)) => T.ret true) (fun x8 => T.ret (x6, x8.1, x8.2)) (ix s2 x6)).val).length ≤ 1000000) (T.ret (s5 ++ (T.lcP (fun (x8 : (Int × Int)) => T.ret true) (fun x8 => T.ret (x6, x8.1, x8.2)) (ix s2 x6)).val)))))) fun s13 => T.ret s13) p4 s3) fun s5 =>
    T.ret s5
abbrev q_paper_of (bill' : (List Item)) (books' : Books) : (List (Int × Int × Int)) → Prop := fun z => f_paper_of [.shr (e_VItem bill'), .shr (e_Books books')] = ((fun (z : (List (Int × Int × Int))) => FRes.ok (.own (O.l (List.map e_T3iii z))) [.un, .un] : (List (Int × Int × Int)) → FRes)) z
theorem v_paper_of (bill' : (List Item)) (books' : Books) : J (t_paper_of bill' books') (q_paper_of bill' books') :=
  v_fn (as := [.shr (e_VItem bill'), .shr (e_Books books')]) (R' := fun (z : (List (Int × Int × Int))) => FRes.ok (.own (O.l (List.map e_T3iii z))) [.un, .un]) f_paper_of_eq rfl (js_seq (E := fun (s2 : (List (List (Int × Int)))) => [.shr (e_VItem bill'), .un, .shr (e_VVT2ii s2), .un, .un, .un, .un]) (js_bind (v_needed bill' books') fun p1 hp1 => (js_st (E := fun (s2 : (List (List (Int × Int)))) => [.shr (e_VItem bill'), .un, .shr (e_VVT2ii s2), .un, .un, .un, .un]) (st_kl (st_set (e_call (e_argBv (e_fz_s rfl) (e_argBv (e_fz_s rfl) e_argB0 rfl) rfl) (e_lendr rfl (e_lendr rfl e_lend0)) hp1 rfl) rfl rfl) rfl) rfl)) fun s2 =>
    (js_seq (E := fun (s3 : (List (Int × Int × Int))) => [.shr (e_VItem bill'), .un, .shr (e_VVT2ii s2), .mu false (O.l (List.map e_T3iii s3)), .un, .un, .un]) (js_st (E := fun (s3 : (List (Int × Int × Int))) => [.shr (e_VItem bill'), .un, .shr (e_VVT2ii s2), .mu false (O.l (List.map e_T3iii s3)), .un, .un, .un]) (st_set (e_cast (r' := .own (O.l (List.map e_T3iii ([] : (List (Int × Int × Int)))))) (e_lst e_args0 e_sts0 (Nat.le_of_ble_eq_true rfl)) rfl) rfl rfl) rfl) fun s3 =>
    (js_seq (E := fun (s5 : (List (Int × Int × Int))) => [.un, .un, .un, .mu false (O.l (List.map e_T3iii s5)), .un, .un, .un]) (js_klN (E := fun (s5 : (List (Int × Int × Int))) => [.shr (e_VItem bill'), .un, .shr (e_VVT2ii s2), .mu false (O.l (List.map e_T3iii s5)), .un, .un, .un]) (js_bind (v_parents_first bill') fun p4 hp4 => (js_forL (e := D.int) (xs := p4) (E := fun (s5 : (List (Int × Int × Int))) => [.shr (e_VItem bill'), .un, .shr (e_VVT2ii s2), .mu false (O.l (List.map e_T3iii s5)), .un, .un, .un]) (fun s5 x6 => [.shr (e_VItem bill'), .un, .shr (e_VVT2ii s2), .mu false (O.l (List.map e_T3iii s5)), .shr (D.int x6), .un, .un]) (e_it (e_call (e_argBv (e_fz_s rfl) e_argB0 rfl) (e_lendr rfl e_lend0) hp4 rfl) rfl) rfl (fun _ _ => rfl) (fun s5 x6 =>
    (js_last (E1 := fun (s13 : (List (Int × Int × Int))) => [.shr (e_VItem bill'), .un, .shr (e_VVT2ii s2), .mu false (O.l (List.map e_T3iii s13)), .un, .un, .un]) (js_req fun hc7 => (js_req fun hc10 => (js_req fun hc11 => (js_req fun hc12 => (js_st (E := fun (s13 : (List (Int × Int × Int))) => [.shr (e_VItem bill'), .un, .shr (e_VVT2ii s2), .mu false (O.l (List.map e_T3iii s13)), .un, .un, .un]) (st_kl (st_drop (e_ext (e := e_T3iii) (xs := s5) (ys := (T.lcP (fun (x8 : (Int × Int)) => T.ret true) (fun x8 => T.ret (x6, x8.1, x8.2)) (ix s2 x6)).val) rfl ((e_lcJ (e := e_T2ii) (xs := (ix s2 x6)) (eb := e_T3iii) (fun x8 => [.shr (e_VItem bill'), .un, .shr (e_VVT2ii s2), .mu false (O.l (List.map e_T3iii s5)), .shr (D.int x6), .shr (D.int x8.1), .shr (D.int x8.2)]) (e_it (e_ixT (e := e_VT2ii) (xs := s2) (e_nm_s rfl) (e_nm_s rfl) hc7) rfl) hc10 rfl rfl (fun _ => rfl) (fun _ => rfl) rfl (fun x8 => j_yes) (fun x8 => (jj_ret ⟨_, (e_cast (r' := .d (e_T3iii (x6, x8.1, x8.2))) (e_tup (e_args (e_fz_s rfl) (e_args (e_fz_s rfl) (e_args (e_fz_s rfl) e_args0 rfl) rfl) rfl) (e_sts rfl (e_sts rfl (e_sts rfl e_sts0))) (Nat.le_of_ble_eq_true rfl)) rfl), rfl⟩))) hc11) (R.ol_own _) rfl hc12)) rfl) rfl))))) fun _ => rfl)))) (fun _ => rfl)) fun s5 =>
    (js_rt (e_mv_m rfl) rfl rfl))))

noncomputable def t__law_ordered (books' : Books) (item' : Int) (day' : Int) : T Int :=
  T.bind (T.ret 0) fun s1 =>
    T.bind (T.forL (fun (s2 : Int) (x3 : (Int × Int × Int × Int)) =>
    T.bind (if ((decide (x3.2.1 = item')) && (decide (x3.2.2.2 ≤ day'))) = true then T.bind (T.ret (s2 + x3.2.2.1)) fun s5 => T.ret s5 else T.ret s2) fun s6 => T.ret s6) books'.ords s1) fun s2 =>
    T.ret s2
abbrev q__law_ordered (books' : Books) (item' : Int) (day' : Int) : Int → Prop := fun z => f__law_ordered [.shr (e_Books books'), .shr (D.int item'), .shr (D.int day')] = ((fun (z : Int) => FRes.ok (.d (D.int z)) [.un, .un, .un] : Int → FRes)) z
theorem v__law_ordered (books' : Books) (item' : Int) (day' : Int) : J (t__law_ordered books' item' day') (q__law_ordered books' item' day') :=
  v_fn (as := [.shr (e_Books books'), .shr (D.int item'), .shr (D.int day')]) (R' := fun (z : Int) => FRes.ok (.d (D.int z)) [.un, .un, .un]) f__law_ordered_eq rfl (js_seq (E := fun (s1 : Int) => [.shr (e_Books books'), .shr (D.int item'), .shr (D.int day'), .shr (D.int s1), .un]) (js_st (E := fun (s1 : Int) => [.shr (e_Books books'), .shr (D.int item'), .shr (D.int day'), .shr (D.int s1), .un]) (st_set e_C rfl rfl) rfl) fun s1 =>
    (js_seq (E := fun (s2 : Int) => [.un, .un, .un, .shr (D.int s2), .un]) (js_klN (E := fun (s2 : Int) => [.shr (e_Books books'), .shr (D.int item'), .shr (D.int day'), .shr (D.int s2), .un]) (js_forL (e := e_T4iiii) (xs := books'.ords) (E := fun (s2 : Int) => [.shr (e_Books books'), .shr (D.int item'), .shr (D.int day'), .shr (D.int s2), .un]) (fun s2 x3 => [.shr (e_Books books'), .shr (D.int item'), .shr (D.int day'), .shr (D.int s2), .shr (e_T4iiii x3)]) (e_it (e_tF 3 (e_nm_s rfl) rfl rfl) rfl) rfl (fun _ _ => rfl) (fun s2 x3 =>
    (js_last (E1 := fun (s6 : Int) => [.shr (e_Books books'), .shr (D.int item'), .shr (D.int day'), .shr (D.int s6), .un]) (js_if (e_and (e_test (e_eqI (e_tF 1 (e_nm_s rfl) rfl rfl) (e_nm_s rfl))) fun g4 => (e_test (e_le (e_tF 3 (e_nm_s rfl) rfl rfl) (e_nm_s rfl)))) (js_last (E1 := fun (s5 : Int) => [.shr (e_Books books'), .shr (D.int item'), .shr (D.int day'), .shr (D.int s5), .un]) (js_st (E := fun (s5 : Int) => [.shr (e_Books books'), .shr (D.int item'), .shr (D.int day'), .shr (D.int s5), .un]) (st_kl (st_set (e_addI (e_nm_s rfl) (e_tF 2 (e_nm_s rfl) rfl rfl)) rfl rfl) rfl) rfl) fun _ => rfl) (fun _ => rfl)) fun _ => rfl))) (fun _ => rfl)) fun s2 =>
    (js_rt (e_mv_s rfl) rfl rfl)))

noncomputable def t__law_supplied (books' : Books) (item' : Int) (day' : Int) : T Int :=
  T.bind (T.req (0 ≤ item' ∧ item' < books'.stock.length) (T.ret (ix books'.stock item'))) fun s2 =>
    T.bind (T.forL (fun (s3 : Int) (x4 : (Int × Int × Int)) =>
    T.bind (if ((decide (x4.1 = item')) && (decide (x4.2.1 ≤ day'))) = true then T.bind (T.ret (s3 + x4.2.2)) fun s6 => T.ret s6 else T.ret s3) fun s7 => T.ret s7) books'.recs s2) fun s3 =>
    T.ret s3
abbrev q__law_supplied (books' : Books) (item' : Int) (day' : Int) : Int → Prop := fun z => f__law_supplied [.shr (e_Books books'), .shr (D.int item'), .shr (D.int day')] = ((fun (z : Int) => FRes.ok (.d (D.int z)) [.un, .un, .un] : Int → FRes)) z
theorem v__law_supplied (books' : Books) (item' : Int) (day' : Int) : J (t__law_supplied books' item' day') (q__law_supplied books' item' day') :=
  v_fn (as := [.shr (e_Books books'), .shr (D.int item'), .shr (D.int day')]) (R' := fun (z : Int) => FRes.ok (.d (D.int z)) [.un, .un, .un]) f__law_supplied_eq rfl (js_seq (E := fun (s2 : Int) => [.shr (e_Books books'), .shr (D.int item'), .shr (D.int day'), .shr (D.int s2), .un]) (js_req fun hc1 => (js_st (E := fun (s2 : Int) => [.shr (e_Books books'), .shr (D.int item'), .shr (D.int day'), .shr (D.int s2), .un]) (st_set (e_ixT (e := D.int) (xs := books'.stock) (e_tF 1 (e_nm_s rfl) rfl rfl) (e_nm_s rfl) hc1) rfl rfl) rfl)) fun s2 =>
    (js_seq (E := fun (s3 : Int) => [.un, .un, .un, .shr (D.int s3), .un]) (js_klN (E := fun (s3 : Int) => [.shr (e_Books books'), .shr (D.int item'), .shr (D.int day'), .shr (D.int s3), .un]) (js_forL (e := e_T3iii) (xs := books'.recs) (E := fun (s3 : Int) => [.shr (e_Books books'), .shr (D.int item'), .shr (D.int day'), .shr (D.int s3), .un]) (fun s3 x4 => [.shr (e_Books books'), .shr (D.int item'), .shr (D.int day'), .shr (D.int s3), .shr (e_T3iii x4)]) (e_it (e_tF 2 (e_nm_s rfl) rfl rfl) rfl) rfl (fun _ _ => rfl) (fun s3 x4 =>
    (js_last (E1 := fun (s7 : Int) => [.shr (e_Books books'), .shr (D.int item'), .shr (D.int day'), .shr (D.int s7), .un]) (js_if (e_and (e_test (e_eqI (e_tF 0 (e_nm_s rfl) rfl rfl) (e_nm_s rfl))) fun g5 => (e_test (e_le (e_tF 1 (e_nm_s rfl) rfl rfl) (e_nm_s rfl)))) (js_last (E1 := fun (s6 : Int) => [.shr (e_Books books'), .shr (D.int item'), .shr (D.int day'), .shr (D.int s6), .un]) (js_st (E := fun (s6 : Int) => [.shr (e_Books books'), .shr (D.int item'), .shr (D.int day'), .shr (D.int s6), .un]) (st_kl (st_set (e_addI (e_nm_s rfl) (e_tF 2 (e_nm_s rfl) rfl rfl)) rfl rfl) rfl) rfl) fun _ => rfl) (fun _ => rfl)) fun _ => rfl))) (fun _ => rfl)) fun s3 =>
    (js_rt (e_mv_s rfl) rfl rfl)))

noncomputable def t__law_follows (bill' : (List Item)) (books' : Books) (facts' : (List (Int × Int × Int))) (fact' : (Int × Int × Int)) : T Bool :=
  T.bind (T.req (0 ≤ fact'.1 ∧ fact'.1 < bill'.length) (T.ret (fact'.2.1 + (ix bill' fact'.1).lead))) fun s2 =>
    T.bind (T.bind (t__law_ordered books' fact'.1 s2) fun p3 => T.ret p3) fun s4 =>
    T.bind (T.req (-1000000 ≤ (bill'.length : Int) ∧ (bill'.length : Int) ≤ 1000000) (T.forL (fun (s6 : Int) (x7 : Int) =>
    T.bind (T.ret 0) fun s8 =>
    T.bind (T.forL (fun (s9 : Int) (x10 : (Int × Int × Int)) =>
    T.bind (if ((decide (x10.1 = x7)) && (decide (x10.2.1 ≤ s2))) = true then T.bind (T.ret (max s9 x10.2.2)) fun s12 => T.ret s12 else T.ret s9) fun s13 => T.ret s13) facts' s8) fun s9 =>
    T.bind (T.req (0 ≤ x7 ∧ x7 < bill'.length) (T.forL (fun (s15 : Int) (x16 : (Int × Int)) =>
    T.bind (if (decide (x16.1 = fact'.1)) = true then T.bind (T.req (0 ≤ x7 ∧ x7 < bill'.length) (T.req ((-1000000000 ≤ x16.2 ∧ x16.2 ≤ 1000000000) ∨ (-1000000000 ≤ (ix bill' x7).lot ∧ (ix bill' x7).lot ≤ 1000000000)) (T.req ((-1000000000 ≤ (x16.2 * (ix bill' x7).lot) ∧ (x16.2 * (ix bill' x7).lot) ≤ 1000000000) ∨ (-1000000000 ≤ s9 ∧ s9 ≤ 1000000000)) (T.ret (s15 + ((x16.2 * (ix bill' x7).lot) * s9)))))) fun s20 => T.ret s20 else T.ret s15) fun s21 => T.ret s21) ((ix bill' x7).parts) s6)) fun s15 => T.ret s15) (rng (bill'.length : Int)) s4)) fun s6 =>
    T.bind (t__law_supplied books' fact'.1 s2) fun p22 => T.req (0 ≤ fact'.1 ∧ fact'.1 < bill'.length) (T.req ((-1000000000 ≤ (fact'.2.2 - 1) ∧ (fact'.2.2 - 1) ≤ 1000000000) ∨ (-1000000000 ≤ (ix bill' fact'.1).good ∧ (ix bill' fact'.1).good ≤ 1000000000)) (T.ret (decide ((p22 + ((fact'.2.2 - 1) * (ix bill' fact'.1).good)) < s6))))
abbrev q__law_follows (bill' : (List Item)) (books' : Books) (facts' : (List (Int × Int × Int))) (fact' : (Int × Int × Int)) : Bool → Prop := fun z => f__law_follows [.shr (e_VItem bill'), .shr (e_Books books'), .shr (e_LT3iii facts'), .shr (e_T3iii fact')] = ((fun (z : Bool) => FRes.ok (.d (D.bl z)) [.un, .un, .un, .un] : Bool → FRes)) z
theorem v__law_follows (bill' : (List Item)) (books' : Books) (facts' : (List (Int × Int × Int))) (fact' : (Int × Int × Int)) : J (t__law_follows bill' books' facts' fact') (q__law_follows bill' books' facts' fact') :=
  v_fn (as := [.shr (e_VItem bill'), .shr (e_Books books'), .shr (e_LT3iii facts'), .shr (e_T3iii fact')]) (R' := fun (z : Bool) => FRes.ok (.d (D.bl z)) [.un, .un, .un, .un]) f__law_follows_eq rfl (js_seq (E := fun (s2 : Int) => [.shr (e_VItem bill'), .shr (e_Books books'), .shr (e_LT3iii facts'), .shr (e_T3iii fact'), .shr (D.int s2), .un, .un, .un, .un, .un]) (js_req fun hc1 => (js_st (E := fun (s2 : Int) => [.shr (e_VItem bill'), .shr (e_Books books'), .shr (e_LT3iii facts'), .shr (e_T3iii fact'), .shr (D.int s2), .un, .un, .un, .un, .un]) (st_set (e_addI (e_tF 1 (e_nm_s rfl) rfl rfl) (e_tF 2 (e_ixT (e := e_Item) (xs := bill') (e_nm_s rfl) (e_tF 0 (e_nm_s rfl) rfl rfl) hc1) rfl rfl)) rfl rfl) rfl)) fun s2 =>
    (js_seq (E := fun (s4 : Int) => [.shr (e_VItem bill'), .shr (e_Books books'), .shr (e_LT3iii facts'), .shr (e_T3iii fact'), .shr (D.int s2), .shr (D.int s4), .un, .un, .un, .un]) (js_bind (v__law_ordered books' fact'.1 s2) fun p3 hp3 => (js_st (E := fun (s4 : Int) => [.shr (e_VItem bill'), .shr (e_Books books'), .shr (e_LT3iii facts'), .shr (e_T3iii fact'), .shr (D.int s2), .shr (D.int s4), .un, .un, .un, .un]) (st_set (e_call (e_argBv (e_fz_s rfl) (e_argBv (e_tF 0 (e_nm_s rfl) rfl rfl) (e_argBv (e_fz_s rfl) e_argB0 rfl) rfl) rfl) (e_lendr rfl (e_lendr rfl (e_lendr rfl e_lend0))) hp3 rfl) rfl rfl) rfl)) fun s4 =>
    (js_seq (E := fun (s6 : Int) => [.shr (e_VItem bill'), .shr (e_Books books'), .un, .shr (e_T3iii fact'), .shr (D.int s2), .shr (D.int s6), .un, .un, .un, .un]) (js_klN (E := fun (s6 : Int) => [.shr (e_VItem bill'), .shr (e_Books books'), .shr (e_LT3iii facts'), .shr (e_T3iii fact'), .shr (D.int s2), .shr (D.int s6), .un, .un, .un, .un]) (js_req fun hc5 => (js_forL (e := D.int) (xs := (rng (bill'.length : Int))) (E := fun (s6 : Int) => [.shr (e_VItem bill'), .shr (e_Books books'), .shr (e_LT3iii facts'), .shr (e_T3iii fact'), .shr (D.int s2), .shr (D.int s6), .un, .un, .un, .un]) (fun s6 x7 => [.shr (e_VItem bill'), .shr (e_Books books'), .shr (e_LT3iii facts'), .shr (e_T3iii fact'), .shr (D.int s2), .shr (D.int s6), .shr (D.int x7), .un, .un, .un]) (e_rg1 (e_lenT (e := e_Item) (xs := bill') (e_nm_s rfl)) hc5) rfl (fun _ _ => rfl) (fun s6 x7 =>
    (js_seq (E := fun (s8 : Int) => [.shr (e_VItem bill'), .shr (e_Books books'), .shr (e_LT3iii facts'), .shr (e_T3iii fact'), .shr (D.int s2), .shr (D.int s6), .shr (D.int x7), .shr (D.int s8), .un, .un]) (js_st (E := fun (s8 : Int) => [.shr (e_VItem bill'), .shr (e_Books books'), .shr (e_LT3iii facts'), .shr (e_T3iii fact'), .shr (D.int s2), .shr (D.int s6), .shr (D.int x7), .shr (D.int s8), .un, .un]) (st_set e_C rfl rfl) rfl) fun s8 =>
    (js_seq (E := fun (s9 : Int) => [.shr (e_VItem bill'), .shr (e_Books books'), .shr (e_LT3iii facts'), .shr (e_T3iii fact'), .shr (D.int s2), .shr (D.int s6), .shr (D.int x7), .shr (D.int s9), .un, .un]) (js_forL (e := e_T3iii) (xs := facts') (E := fun (s9 : Int) => [.shr (e_VItem bill'), .shr (e_Books books'), .shr (e_LT3iii facts'), .shr (e_T3iii fact'), .shr (D.int s2), .shr (D.int s6), .shr (D.int x7), .shr (D.int s9), .un, .un]) (fun s9 x10 => [.shr (e_VItem bill'), .shr (e_Books books'), .shr (e_LT3iii facts'), .shr (e_T3iii fact'), .shr (D.int s2), .shr (D.int s6), .shr (D.int x7), .shr (D.int s9), .shr (e_T3iii x10), .un]) (e_it (e_fz_s rfl) rfl) rfl (fun _ _ => rfl) (fun s9 x10 =>
    (js_last (E1 := fun (s13 : Int) => [.shr (e_VItem bill'), .shr (e_Books books'), .shr (e_LT3iii facts'), .shr (e_T3iii fact'), .shr (D.int s2), .shr (D.int s6), .shr (D.int x7), .shr (D.int s13), .un, .un]) (js_if (e_and (e_test (e_eqI (e_tF 0 (e_nm_s rfl) rfl rfl) (e_nm_s rfl))) fun g11 => (e_test (e_le (e_tF 1 (e_nm_s rfl) rfl rfl) (e_nm_s rfl)))) (js_last (E1 := fun (s12 : Int) => [.shr (e_VItem bill'), .shr (e_Books books'), .shr (e_LT3iii facts'), .shr (e_T3iii fact'), .shr (D.int s2), .shr (D.int s6), .shr (D.int x7), .shr (D.int s12), .un, .un]) (js_st (E := fun (s12 : Int) => [.shr (e_VItem bill'), .shr (e_Books books'), .shr (e_LT3iii facts'), .shr (e_T3iii fact'), .shr (D.int s2), .shr (D.int s6), .shr (D.int x7), .shr (D.int s12), .un, .un]) (st_kl (st_set (e_max2 (e_nm_s rfl) (e_tF 2 (e_nm_s rfl) rfl rfl)) rfl rfl) rfl) rfl) fun _ => rfl) (fun _ => rfl)) fun _ => rfl))) fun s9 =>
    (js_last (E1 := fun (s15 : Int) => [.shr (e_VItem bill'), .shr (e_Books books'), .shr (e_LT3iii facts'), .shr (e_T3iii fact'), .shr (D.int s2), .shr (D.int s15), .un, .un, .un, .un]) (js_klN (E := fun (s15 : Int) => [.shr (e_VItem bill'), .shr (e_Books books'), .shr (e_LT3iii facts'), .shr (e_T3iii fact'), .shr (D.int s2), .shr (D.int s15), .shr (D.int x7), .shr (D.int s9), .un, .un]) (js_req fun hc14 => (js_forL (e := e_T2ii) (xs := (ix bill' x7).parts) (E := fun (s15 : Int) => [.shr (e_VItem bill'), .shr (e_Books books'), .shr (e_LT3iii facts'), .shr (e_T3iii fact'), .shr (D.int s2), .shr (D.int s15), .shr (D.int x7), .shr (D.int s9), .un, .un]) (fun s15 x16 => [.shr (e_VItem bill'), .shr (e_Books books'), .shr (e_LT3iii facts'), .shr (e_T3iii fact'), .shr (D.int s2), .shr (D.int s15), .shr (D.int x7), .shr (D.int s9), .un, .shr (e_T2ii x16)]) (e_it (e_tF 1 (e_ixT (e := e_Item) (xs := bill') (e_nm_s rfl) (e_nm_s rfl) hc14) rfl rfl) rfl) rfl (fun _ _ => rfl) (fun s15 x16 =>
    (js_last (E1 := fun (s21 : Int) => [.shr (e_VItem bill'), .shr (e_Books books'), .shr (e_LT3iii facts'), .shr (e_T3iii fact'), .shr (D.int s2), .shr (D.int s21), .shr (D.int x7), .shr (D.int s9), .un, .un]) (js_if (e_test (e_eqI (e_tF 0 (e_nm_s rfl) rfl rfl) (e_tF 0 (e_nm_s rfl) rfl rfl))) (js_last (E1 := fun (s20 : Int) => [.shr (e_VItem bill'), .shr (e_Books books'), .shr (e_LT3iii facts'), .shr (e_T3iii fact'), .shr (D.int s2), .shr (D.int s20), .shr (D.int x7), .shr (D.int s9), .un, .un]) (js_req fun hc17 => (js_req fun hc18 => (js_req fun hc19 => (js_st (E := fun (s20 : Int) => [.shr (e_VItem bill'), .shr (e_Books books'), .shr (e_LT3iii facts'), .shr (e_T3iii fact'), .shr (D.int s2), .shr (D.int s20), .shr (D.int x7), .shr (D.int s9), .un, .un]) (st_kl (st_set (e_addI (e_nm_s rfl) (e_mulI (e_mulI (e_tF 1 (e_nm_s rfl) rfl rfl) (e_tF 3 (e_ixT (e := e_Item) (xs := bill') (e_nm_s rfl) (e_nm_s rfl) hc17) rfl rfl) hc18) (e_nm_s rfl) hc19)) rfl rfl) rfl) rfl)))) fun _ => rfl) (fun _ => rfl)) fun _ => rfl)))) (fun _ => rfl)) fun _ => rfl)))))) (fun _ => rfl)) fun s6 =>
    (js_bind (v__law_supplied books' fact'.1 s2) fun p22 hp22 => (js_req fun hc23 => (js_req fun hc24 => (js_rt (e_gt (e_nm_s rfl) (e_addI (e_call (e_argBv (e_fz_s rfl) (e_argBv (e_tF 0 (e_nm_s rfl) rfl rfl) (e_argBv (e_fz_s rfl) e_argB0 rfl) rfl) rfl) (e_lendr rfl (e_lendr rfl (e_lendr rfl e_lend0))) hp22 rfl) (e_mulI (e_subI (e_tF 2 (e_nm_s rfl) rfl rfl) e_C) (e_tF 4 (e_ixT (e := e_Item) (xs := bill') (e_nm_s rfl) (e_tF 0 (e_nm_s rfl) rfl rfl) hc23) rfl rfl) hc24))) rfl rfl)))))))

noncomputable def t__law_wrong (bill' : (List Item)) (books' : Books) (paper' : (List (Int × Int × Int))) : T (Option Int) :=
  T.ctl (T.req (-1000000 ≤ (paper'.length : Int) ∧ (paper'.length : Int) ≤ 1000000) (T.forC (fun (s2 : Unit) (x3 : Int) =>
    T.ctc (T.req (0 ≤ x3 ∧ x3 < paper'.length) (T.bind (t__law_follows bill' books' (cutA paper' none (some x3)) (ix paper' x3)) fun p5 => if (!p5) = true then T.ret (.rt (some x3)) else T.ret (.nx ()))) fun s6 => T.ret (.nx ())) (rng (paper'.length : Int)) ())) fun s2 =>
    T.ret none
abbrev q__law_wrong (bill' : (List Item)) (books' : Books) (paper' : (List (Int × Int × Int))) : (Option Int) → Prop := fun z => f__law_wrong [.shr (e_VItem bill'), .shr (e_Books books'), .shr (e_LT3iii paper')] = ((fun (z : (Option Int)) => FRes.ok (.d (e_Oi z)) [.un, .un, .un] : (Option Int) → FRes)) z
theorem v__law_wrong (bill' : (List Item)) (books' : Books) (paper' : (List (Int × Int × Int))) : J (t__law_wrong bill' books' paper') (q__law_wrong bill' books' paper') :=
  v_fn (as := [.shr (e_VItem bill'), .shr (e_Books books'), .shr (e_LT3iii paper')]) (R' := fun (z : (Option Int)) => FRes.ok (.d (e_Oi z)) [.un, .un, .un]) f__law_wrong_eq rfl (js_ctl (E := fun (s2 : Unit) => [.un, .un, .un, .un]) (L := Empty.elim) (js_klC (E := fun (s2 : Unit) => [.shr (e_VItem bill'), .shr (e_Books books'), .shr (e_LT3iii paper'), .un]) (E' := fun (s2 : Unit) => [.un, .un, .un, .un]) (L := Empty.elim) (L' := Empty.elim) (js_req fun hc1 => (js_forC (e := D.int) (xs := (rng (paper'.length : Int))) (E := fun (s2 : Unit) => [.shr (e_VItem bill'), .shr (e_Books books'), .shr (e_LT3iii paper'), .un]) (fun s2 x3 => [.shr (e_VItem bill'), .shr (e_Books books'), .shr (e_LT3iii paper'), .shr (D.int x3)]) (e_rg1 (e_lenL (e := e_T3iii) (xs := paper') (e_nm_s rfl)) hc1) rfl (fun _ _ => rfl) (fun s2 x3 =>
    (js_ctcL (E1 := fun (s6 : Unit) => [.shr (e_VItem bill'), .shr (e_Books books'), .shr (e_LT3iii paper'), .un]) (js_req fun hc4 => (js_bind (v__law_follows bill' books' (cutA paper' none (some x3)) (ix paper' x3)) fun p5 hp5 => (js_if (e_not (e_test (e_call (e_argBv (e_fz_s rfl) (e_argBv (e_fz_s rfl) (e_argBv (e_sl01 (e_nm_s rfl) (e_nm_s rfl) rfl (lSl_L (e := e_T3iii) (xs := paper') rfl)) (e_argBv (e_ixL (e := e_T3iii) (xs := paper') (e_nm_s rfl) (e_nm_s rfl) hc4) e_argB0 rfl) rfl) rfl) rfl) (e_lendr rfl (e_lendr rfl (e_lendr (R.st_own _) (e_lendr rfl e_lend0)))) hp5 rfl))) (js_rtC (e_cast (r' := .d (e_Oi (some x3))) (e_mv_s rfl) rfl) rfl rfl) (fun _ => rfl)))) fun _ => rfl)))) (fun _ => rfl) (fun x => x.elim)) fun s2 =>
    (js_rt (e_cast (r' := .d (e_Oi none)) e_C rfl) rfl rfl))

noncomputable def t__told (facts' : (List (Int × Int × Int))) (item' : Int) (day' : Int) : T Int :=
  T.req (facts'.length ≤ 1000000) (T.req ((T.lcP (fun (x1 : (Int × Int × Int)) => T.ret ((decide (x1.1 = item')) && (decide (x1.2.1 ≤ day')))) (fun x1 => T.ret x1.2.2) facts').ok) (T.req ([0].length + ((T.lcP (fun (x1 : (Int × Int × Int)) => T.ret ((decide (x1.1 = item')) && (decide (x1.2.1 ≤ day')))) (fun x1 => T.ret x1.2.2) facts').val).length ≤ 1000000) (T.req (0 < ([0] ++ (T.lcP (fun (x1 : (Int × Int × Int)) => T.ret ((decide (x1.1 = item')) && (decide (x1.2.1 ≤ day')))) (fun x1 => T.ret x1.2.2) facts').val).length) (T.ret (maxL ([0] ++ (T.lcP (fun (x1 : (Int × Int × Int)) => T.ret ((decide (x1.1 = item')) && (decide (x1.2.1 ≤ day')))) (fun x1 => T.ret x1.2.2) facts').val))))))
abbrev q__told (facts' : (List (Int × Int × Int))) (item' : Int) (day' : Int) : Int → Prop := fun z => f__told [.shr (e_LT3iii facts'), .shr (D.int item'), .shr (D.int day')] = ((fun (z : Int) => FRes.ok (.d (D.int z)) [.un, .un, .un] : Int → FRes)) z
theorem v__told (facts' : (List (Int × Int × Int))) (item' : Int) (day' : Int) : J (t__told facts' item' day') (q__told facts' item' day') :=
  v_fn (as := [.shr (e_LT3iii facts'), .shr (D.int item'), .shr (D.int day')]) (R' := fun (z : Int) => FRes.ok (.d (D.int z)) [.un, .un, .un]) f__told_eq rfl (js_req fun hc4 => (js_req fun hc5 => (js_req fun hc6 => (js_req fun hc7 => (js_rt (e_max (e_addL (e := D.int) (xs := [0]) (ys := (T.lcP (fun (x1 : (Int × Int × Int)) => T.ret ((decide (x1.1 = item')) && (decide (x1.2.1 ≤ day')))) (fun x1 => T.ret x1.2.2) facts').val) (e_cast (r' := .own (O.l (List.map D.int [0]))) (e_lst (e_args e_C e_args0 rfl) (e_sts rfl e_sts0) (Nat.le_of_ble_eq_true rfl)) rfl) ((e_lcJ (e := e_T3iii) (xs := facts') (eb := D.int) (fun x1 => [.shr (e_LT3iii facts'), .shr (D.int item'), .shr (D.int day'), .shr (e_T3iii x1)]) (e_it (e_fz_s rfl) rfl) hc4 rfl rfl (fun _ => rfl) (fun _ => rfl) rfl (fun x1 => (jj_ret (e_and (e_test (e_eqI (e_tF 0 (e_nm_s rfl) rfl rfl) (e_nm_s rfl))) fun g3 => (e_test (e_le (e_tF 1 (e_nm_s rfl) rfl rfl) (e_nm_s rfl)))))) (fun x1 => (jj_ret ⟨_, (e_tF 2 (e_nm_s rfl) rfl rfl), rfl⟩))) hc5) rfl (R.pl_own _) (R.pl_own _) hc6) (R.pl_own _) hc7) rfl rfl)))))

noncomputable def t_follows (bill' : (List Item)) (books' : Books) (facts' : (List (Int × Int × Int))) (fact' : (Int × Int × Int)) : T Bool :=
  T.bind (T.ret (fact'.1, fact'.2.1, fact'.2.2)) fun s1 =>
    T.bind (T.req (0 ≤ s1.1 ∧ s1.1 < bill'.length) (T.ret (s1.2.1 + (ix bill' s1.1).lead))) fun s3 =>
    T.bind (T.bind (t_ordered books' s1.1 s3) fun p4 => T.ret p4) fun s5 =>
    T.bind (T.bind (t_used_by bill' s1.1) fun p6 => T.forL (fun (s7 : Int) (x8 : (Int × Int)) =>
    T.bind (T.req (0 ≤ x8.1 ∧ x8.1 < bill'.length) (T.req ((-1000000000 ≤ x8.2 ∧ x8.2 ≤ 1000000000) ∨ (-1000000000 ≤ (ix bill' x8.1).lot ∧ (ix bill' x8.1).lot ≤ 1000000000)) (T.bind (t__told facts' x8.1 s3) fun p11 => T.req ((-1000000000 ≤ (x8.2 * (ix bill' x8.1).lot) ∧ (x8.2 * (ix bill' x8.1).lot) ≤ 1000000000) ∨ (-1000000000 ≤ p11 ∧ p11 ≤ 1000000000)) (T.ret (s7 + ((x8.2 * (ix bill' x8.1).lot) * p11)))))) fun s13 => T.ret s13) p6 s5) fun s7 =>
    T.bind (t_supplied books' s1.1 s3) fun p14 => T.req (0 ≤ s1.1 ∧ s1.1 < bill'.length) (T.req ((-1000000000 ≤ (s1.2.2 - 1) ∧ (s1.2.2 - 1) ≤ 1000000000) ∨ (-1000000000 ≤ (ix bill' s1.1).good ∧ (ix bill' s1.1).good ≤ 1000000000)) (T.ret (decide ((p14 + ((s1.2.2 - 1) * (ix bill' s1.1).good)) < s7))))
abbrev q_follows (bill' : (List Item)) (books' : Books) (facts' : (List (Int × Int × Int))) (fact' : (Int × Int × Int)) : Bool → Prop := fun z => f_follows [.shr (e_VItem bill'), .shr (e_Books books'), .shr (e_LT3iii facts'), .shr (e_T3iii fact')] = ((fun (z : Bool) => FRes.ok (.d (D.bl z)) [.un, .un, .un, .un] : Bool → FRes)) z
theorem v_follows (bill' : (List Item)) (books' : Books) (facts' : (List (Int × Int × Int))) (fact' : (Int × Int × Int)) : J (t_follows bill' books' facts' fact') (q_follows bill' books' facts' fact') :=
  v_fn (as := [.shr (e_VItem bill'), .shr (e_Books books'), .shr (e_LT3iii facts'), .shr (e_T3iii fact')]) (R' := fun (z : Bool) => FRes.ok (.d (D.bl z)) [.un, .un, .un, .un]) f_follows_eq rfl (js_seq (E := fun (s1 : (Int × Int × Int)) => [.shr (e_VItem bill'), .shr (e_Books books'), .shr (e_LT3iii facts'), .un, .shr (D.int s1.1), .shr (D.int s1.2.1), .shr (D.int s1.2.2), .un, .un, .un, .un]) (js_st (E := fun (s1 : (Int × Int × Int)) => [.shr (e_VItem bill'), .shr (e_Books books'), .shr (e_LT3iii facts'), .un, .shr (D.int s1.1), .shr (D.int s1.2.1), .shr (D.int s1.2.2), .un, .un, .un, .un]) (st_kl (st_asg (e_fz_s rfl) rfl) rfl) rfl) fun s1 =>
    (js_seq (E := fun (s3 : Int) => [.shr (e_VItem bill'), .shr (e_Books books'), .shr (e_LT3iii facts'), .un, .shr (D.int s1.1), .un, .shr (D.int s1.2.2), .shr (D.int s3), .un, .un, .un]) (js_req fun hc2 => (js_st (E := fun (s3 : Int) => [.shr (e_VItem bill'), .shr (e_Books books'), .shr (e_LT3iii facts'), .un, .shr (D.int s1.1), .un, .shr (D.int s1.2.2), .shr (D.int s3), .un, .un, .un]) (st_kl (st_set (e_addI (e_nm_s rfl) (e_tF 2 (e_ixT (e := e_Item) (xs := bill') (e_nm_s rfl) (e_nm_s rfl) hc2) rfl rfl)) rfl rfl) rfl) rfl)) fun s3 =>
    (js_seq (E := fun (s5 : Int) => [.shr (e_VItem bill'), .shr (e_Books books'), .shr (e_LT3iii facts'), .un, .shr (D.int s1.1), .un, .shr (D.int s1.2.2), .shr (D.int s3), .shr (D.int s5), .un, .un]) (js_bind (v_ordered books' s1.1 s3) fun p4 hp4 => (js_st (E := fun (s5 : Int) => [.shr (e_VItem bill'), .shr (e_Books books'), .shr (e_LT3iii facts'), .un, .shr (D.int s1.1), .un, .shr (D.int s1.2.2), .shr (D.int s3), .shr (D.int s5), .un, .un]) (st_set (e_call (e_argBv (e_fz_s rfl) (e_argBv (e_fz_s rfl) (e_argBv (e_fz_s rfl) e_argB0 rfl) rfl) rfl) (e_lendr rfl (e_lendr rfl (e_lendr rfl e_lend0))) hp4 rfl) rfl rfl) rfl)) fun s5 =>
    (js_seq (E := fun (s7 : Int) => [.shr (e_VItem bill'), .shr (e_Books books'), .un, .un, .shr (D.int s1.1), .un, .shr (D.int s1.2.2), .shr (D.int s3), .shr (D.int s7), .un, .un]) (js_klN (E := fun (s7 : Int) => [.shr (e_VItem bill'), .shr (e_Books books'), .shr (e_LT3iii facts'), .un, .shr (D.int s1.1), .un, .shr (D.int s1.2.2), .shr (D.int s3), .shr (D.int s7), .un, .un]) (js_bind (v_used_by bill' s1.1) fun p6 hp6 => (js_forL (e := e_T2ii) (xs := p6) (E := fun (s7 : Int) => [.shr (e_VItem bill'), .shr (e_Books books'), .shr (e_LT3iii facts'), .un, .shr (D.int s1.1), .un, .shr (D.int s1.2.2), .shr (D.int s3), .shr (D.int s7), .un, .un]) (fun s7 x8 => [.shr (e_VItem bill'), .shr (e_Books books'), .shr (e_LT3iii facts'), .un, .shr (D.int s1.1), .un, .shr (D.int s1.2.2), .shr (D.int s3), .shr (D.int s7), .shr (D.int x8.1), .shr (D.int x8.2)]) (e_it (e_call (e_argBv (e_fz_s rfl) (e_argBv (e_fz_s rfl) e_argB0 rfl) rfl) (e_lendr rfl (e_lendr rfl e_lend0)) hp6 rfl) (its_O (e := e_T2ii) (xs := p6))) rfl (fun _ _ => rfl) (fun s7 x8 =>
    (js_last (E1 := fun (s13 : Int) => [.shr (e_VItem bill'), .shr (e_Books books'), .shr (e_LT3iii facts'), .un, .shr (D.int s1.1), .un, .shr (D.int s1.2.2), .shr (D.int s3), .shr (D.int s13), .un, .un]) (js_req fun hc9 => (js_req fun hc10 => (js_bind (v__told facts' x8.1 s3) fun p11 hp11 => (js_req fun hc12 => (js_st (E := fun (s13 : Int) => [.shr (e_VItem bill'), .shr (e_Books books'), .shr (e_LT3iii facts'), .un, .shr (D.int s1.1), .un, .shr (D.int s1.2.2), .shr (D.int s3), .shr (D.int s13), .un, .un]) (st_kl (st_augI rfl (e_mulI (e_mulI (e_nm_s rfl) (e_tF 3 (e_ixT (e := e_Item) (xs := bill') (e_nm_s rfl) (e_nm_s rfl) hc9) rfl rfl) hc10) (e_call (e_argBv (e_fz_s rfl) (e_argBv (e_fz_s rfl) (e_argBv (e_fz_s rfl) e_argB0 rfl) rfl) rfl) (e_lendr rfl (e_lendr rfl (e_lendr rfl e_lend0))) hp11 rfl) hc12) rfl) rfl) rfl))))) fun _ => rfl)))) (fun _ => rfl)) fun s7 =>
    (js_bind (v_supplied books' s1.1 s3) fun p14 hp14 => (js_req fun hc15 => (js_req fun hc16 => (js_rt (e_gt (e_nm_s rfl) (e_addI (e_call (e_argBv (e_fz_s rfl) (e_argBv (e_fz_s rfl) (e_argBv (e_fz_s rfl) e_argB0 rfl) rfl) rfl) (e_lendr rfl (e_lendr rfl (e_lendr rfl e_lend0))) hp14 rfl) (e_mulI (e_subI (e_nm_s rfl) e_C) (e_tF 4 (e_ixT (e := e_Item) (xs := bill') (e_nm_s rfl) (e_nm_s rfl) hc15) rfl rfl) hc16))) rfl rfl))))))))

noncomputable def t_first_wrong (bill' : (List Item)) (books' : Books) (paper' : (List (Int × Int × Int))) : T (Option Int) :=
  T.ctl (T.forC (fun (s1 : Unit) (x2 : (Int × (Int × Int × Int))) =>
    T.ctc (T.bind (t_follows bill' books' (cutA paper' none (some x2.1)) x2.2) fun p3 => if (!p3) = true then T.ret (.rt (some x2.1)) else T.ret (.nx ())) fun s4 => T.ret (.nx ())) (enumL 0 paper') ()) fun s1 =>
    T.ret none
abbrev q_first_wrong (bill' : (List Item)) (books' : Books) (paper' : (List (Int × Int × Int))) : (Option Int) → Prop := fun z => f_first_wrong [.shr (e_VItem bill'), .shr (e_Books books'), .shr (e_LT3iii paper')] = ((fun (z : (Option Int)) => FRes.ok (.d (e_Oi z)) [.un, .un, .un] : (Option Int) → FRes)) z
theorem v_first_wrong (bill' : (List Item)) (books' : Books) (paper' : (List (Int × Int × Int))) : J (t_first_wrong bill' books' paper') (q_first_wrong bill' books' paper') :=
  v_fn (as := [.shr (e_VItem bill'), .shr (e_Books books'), .shr (e_LT3iii paper')]) (R' := fun (z : (Option Int)) => FRes.ok (.d (e_Oi z)) [.un, .un, .un]) f_first_wrong_eq rfl (js_ctl (E := fun (s1 : Unit) => [.un, .un, .un, .un, .un]) (L := Empty.elim) (js_klC (E := fun (s1 : Unit) => [.shr (e_VItem bill'), .shr (e_Books books'), .shr (e_LT3iii paper'), .un, .un]) (E' := fun (s1 : Unit) => [.un, .un, .un, .un, .un]) (L := Empty.elim) (L' := Empty.elim) (js_forC (e := (eEn e_T3iii)) (xs := (enumL 0 paper')) (E := fun (s1 : Unit) => [.shr (e_VItem bill'), .shr (e_Books books'), .shr (e_LT3iii paper'), .un, .un]) (fun s1 x2 => [.shr (e_VItem bill'), .shr (e_Books books'), .shr (e_LT3iii paper'), .shr (D.int x2.1), .shr (e_T3iii x2.2)]) (e_en (e := e_T3iii) (xs := paper') (e_fz_s rfl)) rfl (fun _ _ => rfl) (fun s1 x2 =>
    (js_ctcL (E1 := fun (s4 : Unit) => [.shr (e_VItem bill'), .shr (e_Books books'), .shr (e_LT3iii paper'), .un, .un]) (js_bind (v_follows bill' books' (cutA paper' none (some x2.1)) x2.2) fun p3 hp3 => (js_if (e_not (e_test (e_call (e_argBv (e_fz_s rfl) (e_argBv (e_fz_s rfl) (e_argBv (e_sl01 (e_nm_s rfl) (e_nm_s rfl) rfl (lSl_L (e := e_T3iii) (xs := paper') rfl)) (e_argBv (e_fz_s rfl) e_argB0 rfl) rfl) rfl) rfl) (e_lendr rfl (e_lendr rfl (e_lendr (R.st_own _) (e_lendr rfl e_lend0)))) hp3 rfl))) (js_rtC (e_cast (r' := .d (e_Oi (some x2.1))) (e_mv_s rfl) rfl) rfl rfl) (fun _ => rfl))) fun _ => rfl))) (fun _ => rfl) (fun x => x.elim)) fun s1 =>
    (js_rt (e_cast (r' := .d (e_Oi none)) e_C rfl) rfl rfl))

noncomputable def t_shows_none (bill' : (List Item)) (books' : Books) (paper' : (List (Int × Int × Int))) : T Bool :=
  T.bind (t_first_wrong bill' books' paper') fun p1 => if (!D.isNon (e_Oi p1)) = true then T.ret false else
    T.req (paper'.length ≤ 1000000) (T.req ((T.lcP (fun (x2 : (Int × Int × Int)) => T.ret true) (fun x2 => T.ret (decide (x2.2.1 < books'.today))) paper').ok) (T.ret (((T.lcP (fun (x2 : (Int × Int × Int)) => T.ret true) (fun x2 => T.ret (decide (x2.2.1 < books'.today))) paper').val).any id)))
abbrev q_shows_none (bill' : (List Item)) (books' : Books) (paper' : (List (Int × Int × Int))) : Bool → Prop := fun z => f_shows_none [.shr (e_VItem bill'), .shr (e_Books books'), .shr (e_LT3iii paper')] = ((fun (z : Bool) => FRes.ok (.d (D.bl z)) [.un, .un, .un] : Bool → FRes)) z
theorem v_shows_none (bill' : (List Item)) (books' : Books) (paper' : (List (Int × Int × Int))) : J (t_shows_none bill' books' paper') (q_shows_none bill' books' paper') :=
  v_fn (as := [.shr (e_VItem bill'), .shr (e_Books books'), .shr (e_LT3iii paper')]) (R' := fun (z : Bool) => FRes.ok (.d (D.bl z)) [.un, .un, .un]) f_shows_none_eq rfl (js_bind (v_first_wrong bill' books' paper') fun p1 hp1 => (js_ifr (e_test (e_notN (u := e_Oi p1) (e_call (e_argBv (e_fz_s rfl) (e_argBv (e_fz_s rfl) (e_argBv (e_fz_s rfl) e_argB0 rfl) rfl) rfl) (e_lendr rfl (e_lendr rfl (e_lendr rfl e_lend0))) hp1 rfl) e_C rfl rfl)) (js_rtS e_C rfl rfl)
    (js_req fun hc4 => (js_req fun hc5 => (js_rt (e_any ((e_lcJ (e := e_T3iii) (xs := paper') (eb := D.bl) (fun x2 => [.shr (e_VItem bill'), .shr (e_Books books'), .shr (e_LT3iii paper'), .shr (e_T3iii x2)]) (e_it (e_fz_s rfl) rfl) hc4 rfl rfl (fun _ => rfl) (fun _ => rfl) rfl (fun x2 => j_yes) (fun x2 => (jj_ret ⟨_, (e_lt (e_tF 1 (e_nm_s rfl) rfl rfl) (e_tF 0 (e_nm_s rfl) rfl rfl)), rfl⟩))) hc5) (R.pl_own _)) rfl rfl)))))

noncomputable def t__law_lots (rows' : (List (Int × Int))) (day' : Int) : T Int :=
  T.bind (T.ret 0) fun s1 =>
    T.bind (T.forL (fun (s2 : Int) (x3 : (Int × Int)) =>
    T.bind (if (decide (x3.1 ≤ day')) = true then T.bind (T.ret x3.2) fun s4 => T.ret s4 else T.ret s2) fun s5 => T.ret s5) rows' s1) fun s2 =>
    T.ret s2
abbrev q__law_lots (rows' : (List (Int × Int))) (day' : Int) : Int → Prop := fun z => f__law_lots [.shr (e_LT2ii rows'), .shr (D.int day')] = ((fun (z : Int) => FRes.ok (.d (D.int z)) [.un, .un] : Int → FRes)) z
theorem v__law_lots (rows' : (List (Int × Int))) (day' : Int) : J (t__law_lots rows' day') (q__law_lots rows' day') :=
  v_fn (as := [.shr (e_LT2ii rows'), .shr (D.int day')]) (R' := fun (z : Int) => FRes.ok (.d (D.int z)) [.un, .un]) f__law_lots_eq rfl (js_seq (E := fun (s1 : Int) => [.shr (e_LT2ii rows'), .shr (D.int day'), .shr (D.int s1), .un]) (js_st (E := fun (s1 : Int) => [.shr (e_LT2ii rows'), .shr (D.int day'), .shr (D.int s1), .un]) (st_set e_C rfl rfl) rfl) fun s1 =>
    (js_seq (E := fun (s2 : Int) => [.un, .un, .shr (D.int s2), .un]) (js_klN (E := fun (s2 : Int) => [.shr (e_LT2ii rows'), .shr (D.int day'), .shr (D.int s2), .un]) (js_forL (e := e_T2ii) (xs := rows') (E := fun (s2 : Int) => [.shr (e_LT2ii rows'), .shr (D.int day'), .shr (D.int s2), .un]) (fun s2 x3 => [.shr (e_LT2ii rows'), .shr (D.int day'), .shr (D.int s2), .shr (e_T2ii x3)]) (e_it (e_fz_s rfl) rfl) rfl (fun _ _ => rfl) (fun s2 x3 =>
    (js_last (E1 := fun (s5 : Int) => [.shr (e_LT2ii rows'), .shr (D.int day'), .shr (D.int s5), .un]) (js_if (e_test (e_le (e_tF 0 (e_nm_s rfl) rfl rfl) (e_nm_s rfl))) (js_last (E1 := fun (s4 : Int) => [.shr (e_LT2ii rows'), .shr (D.int day'), .shr (D.int s4), .un]) (js_st (E := fun (s4 : Int) => [.shr (e_LT2ii rows'), .shr (D.int day'), .shr (D.int s4), .un]) (st_kl (st_set (e_tF 1 (e_nm_s rfl) rfl rfl) rfl rfl) rfl) rfl) fun _ => rfl) (fun _ => rfl)) fun _ => rfl))) (fun _ => rfl)) fun s2 =>
    (js_rt (e_mv_s rfl) rfl rfl)))

noncomputable def t__law_needed (bill' : (List Item)) (books' : Books) : T (List (List (Int × Int))) :=
  T.bind (T.req (bill'.length ≤ 1000000) (T.ret (List.map (fun _ => []) bill'))) fun s3 =>
    T.bind (T.bind (t__law_first bill') fun p4 => T.forL (fun (s5 : (List (List (Int × Int)))) (x6 : Int) =>
    T.bind (T.ret 0) fun s7 =>
    T.bind (T.req (-1000000 ≤ (books'.today - 90) ∧ (books'.today - 90) ≤ 1000000) (T.req (-1000000 ≤ (books'.today + 40) ∧ (books'.today + 40) ≤ 1000000) (T.forL (fun (s10 : ((List (List (Int × Int))) × Int)) (x11 : Int) =>
    T.bind (T.bind (t__law_ordered books' x6 x11) fun p12 => T.bind (t__law_supplied books' x6 x11) fun p13 => T.ret (p12 - p13)) fun s14 =>
    T.bind (T.req (-1000000 ≤ (bill'.length : Int) ∧ (bill'.length : Int) ≤ 1000000) (T.forL (fun (s16 : Int) (x17 : Int) =>
    T.bind (T.req (0 ≤ x17 ∧ x17 < bill'.length) (T.forL (fun (s19 : Int) (x20 : (Int × Int)) =>
    T.bind (if (decide (x20.1 = x6)) = true then T.bind (T.req (0 ≤ x17 ∧ x17 < bill'.length) (T.req ((-1000000000 ≤ x20.2 ∧ x20.2 ≤ 1000000000) ∨ (-1000000000 ≤ (ix bill' x17).lot ∧ (ix bill' x17).lot ≤ 1000000000)) (T.req (0 ≤ x17 ∧ x17 < s10.1.length) (T.bind (t__law_lots (ix s10.1 x17) x11) fun p24 => T.req ((-1000000000 ≤ (x20.2 * (ix bill' x17).lot) ∧ (x20.2 * (ix bill' x17).lot) ≤ 1000000000) ∨ (-1000000000 ≤ p24 ∧ p24 ≤ 1000000000)) (T.ret (s19 + ((x20.2 * (ix bill' x17).lot) * p24))))))) fun s26 => T.ret s26 else T.ret s19) fun s27 => T.ret s27) ((ix bill' x17).parts) s16)) fun s19 => T.ret s19) (rng (bill'.length : Int)) s14)) fun s16 =>
    T.bind (T.req (0 ≤ x6 ∧ x6 < bill'.length) (T.req ((-1000000000 ≤ s10.2 ∧ s10.2 ≤ 1000000000) ∨ (-1000000000 ≤ (ix bill' x6).good ∧ (ix bill' x6).good ≤ 1000000000)) (if (decide ((s10.2 * (ix bill' x6).good) < s16)) = true then T.bind (T.req (0 ≤ x6 ∧ x6 < bill'.length) (T.req (0 ≤ x6 ∧ x6 < bill'.length) (T.req (0 < (ix bill' x6).good ∧ (ix bill' x6).good < 1000000000) (T.ret (((s16 + (ix bill' x6).good) - 1) / (ix bill' x6).good))))) fun s33 =>
    T.bind (T.req (0 ≤ x6 ∧ x6 < bill'.length) (T.req (0 ≤ x6 ∧ x6 < s10.1.length) (T.req ((ix s10.1 x6).length < 1000000) (T.ret (sx s10.1 x6 (ix s10.1 x6 ++ [((x11 - (ix bill' x6).lead), s33)])))))) fun s37 => T.ret (s37, s33) else T.ret (s10.1, s10.2)))) fun s38 => T.ret (s38.1, s38.2)) (rng2 (books'.today - 90) (books'.today + 40)) (s5, s7)))) fun s10 => T.ret s10.1) p4 s3) fun s5 =>
    T.req (s5.length ≤ 1000000) (T.req ((T.lcP (fun (x39 : (List (Int × Int))) => T.ret true) (fun x39 => T.ret x39) s5).ok) (T.ret ((T.lcP (fun (x39 : (List (Int × Int))) => T.ret true) (fun x39 => T.ret x39) s5).val)))
abbrev q__law_needed (bill' : (List Item)) (books' : Books) : (List (List (Int × Int))) → Prop := fun z => f__law_needed [.shr (e_VItem bill'), .shr (e_Books books')] = ((fun (z : (List (List (Int × Int)))) => FRes.ok (.d (e_VVT2ii z)) [.un, .un] : (List (List (Int × Int))) → FRes)) z
theorem v__law_needed (bill' : (List Item)) (books' : Books) : J (t__law_needed bill' books') (q__law_needed bill' books') :=
  v_fn (as := [.shr (e_VItem bill'), .shr (e_Books books')]) (R' := fun (z : (List (List (Int × Int)))) => FRes.ok (.d (e_VVT2ii z)) [.un, .un]) f__law_needed_eq rfl (js_seq (E := fun (s3 : (List (List (Int × Int)))) => [.shr (e_VItem bill'), .shr (e_Books books'), .mu false (OLL e_T2ii s3), .un, .un, .un, .un, .un, .un, .un]) (js_req fun hc2 => (js_st (E := fun (s3 : (List (List (Int × Int)))) => [.shr (e_VItem bill'), .shr (e_Books books'), .mu false (OLL e_T2ii s3), .un, .un, .un, .un, .un, .un, .un]) (st_set (e_lcO0 (e := e_Item) (xs := bill') (eb := e_T2ii) (fun x1 => [.shr (e_VItem bill'), .shr (e_Books books'), .un, .shr (e_Item x1), .un, .un, .un, .un, .un, .un]) (e_it (e_fz_s rfl) rfl) hc2 rfl rfl (fun _ => rfl) (fun _ => e_lst e_args0 e_sts0 (Nat.le_of_ble_eq_true rfl))) rfl rfl) rfl)) fun s3 =>
    (js_seq (E := fun (s5 : (List (List (Int × Int)))) => [.un, .un, .mu false (OLL e_T2ii s5), .un, .un, .un, .un, .un, .un, .un]) (js_klN (E := fun (s5 : (List (List (Int × Int)))) => [.shr (e_VItem bill'), .shr (e_Books books'), .mu false (OLL e_T2ii s5), .un, .un, .un, .un, .un, .un, .un]) (js_bind (v__law_first bill') fun p4 hp4 => (js_forL (e := D.int) (xs := p4) (E := fun (s5 : (List (List (Int × Int)))) => [.shr (e_VItem bill'), .shr (e_Books books'), .mu false (OLL e_T2ii s5), .un, .un, .un, .un, .un, .un, .un]) (fun s5 x6 => [.shr (e_VItem bill'), .shr (e_Books books'), .mu false (OLL e_T2ii s5), .shr (D.int x6), .un, .un, .un, .un, .un, .un]) (e_it (e_call (e_argBv (e_fz_s rfl) e_argB0 rfl) (e_lendr rfl e_lend0) hp4 rfl) (its_O (e := D.int) (xs := p4))) rfl (fun _ _ => rfl) (fun s5 x6 =>
    (js_seq (E := fun (s7 : Int) => [.shr (e_VItem bill'), .shr (e_Books books'), .mu false (OLL e_T2ii s5), .shr (D.int x6), .shr (D.int s7), .un, .un, .un, .un, .un]) (js_st (E := fun (s7 : Int) => [.shr (e_VItem bill'), .shr (e_Books books'), .mu false (OLL e_T2ii s5), .shr (D.int x6), .shr (D.int s7), .un, .un, .un, .un, .un]) (st_set e_C rfl rfl) rfl) fun s7 =>
    (js_last (E1 := fun (s10 : ((List (List (Int × Int))) × Int)) => [.shr (e_VItem bill'), .shr (e_Books books'), .mu false (OLL e_T2ii s10.1), .un, .un, .un, .un, .un, .un, .un]) (js_klN (E := fun (s10 : ((List (List (Int × Int))) × Int)) => [.shr (e_VItem bill'), .shr (e_Books books'), .mu false (OLL e_T2ii s10.1), .shr (D.int x6), .shr (D.int s10.2), .un, .un, .un, .un, .un]) (js_req fun hc8 => (js_req fun hc9 => (js_forL (e := D.int) (xs := (rng2 (books'.today - 90) (books'.today + 40))) (E := fun (s10 : ((List (List (Int × Int))) × Int)) => [.shr (e_VItem bill'), .shr (e_Books books'), .mu false (OLL e_T2ii s10.1), .shr (D.int x6), .shr (D.int s10.2), .un, .un, .un, .un, .un]) (fun s10 x11 => [.shr (e_VItem bill'), .shr (e_Books books'), .mu false (OLL e_T2ii s10.1), .shr (D.int x6), .shr (D.int s10.2), .shr (D.int x11), .un, .un, .un, .un]) (e_rg2 (e_subI (e_tF 0 (e_nm_s rfl) rfl rfl) e_C) (e_addI (e_tF 0 (e_nm_s rfl) rfl rfl) e_C) hc8 hc9) rfl (fun _ _ => rfl) (fun s10 x11 =>
    (js_seq (E := fun (s14 : Int) => [.shr (e_VItem bill'), .shr (e_Books books'), .mu false (OLL e_T2ii s10.1), .shr (D.int x6), .shr (D.int s10.2), .shr (D.int x11), .shr (D.int s14), .un, .un, .un]) (js_bind (v__law_ordered books' x6 x11) fun p12 hp12 => (js_bind (v__law_supplied books' x6 x11) fun p13 hp13 => (js_st (E := fun (s14 : Int) => [.shr (e_VItem bill'), .shr (e_Books books'), .mu false (OLL e_T2ii s10.1), .shr (D.int x6), .shr (D.int s10.2), .shr (D.int x11), .shr (D.int s14), .un, .un, .un]) (st_set (e_subI (e_call (e_argBv (e_fz_s rfl) (e_argBv (e_fz_s rfl) (e_argBv (e_fz_s rfl) e_argB0 rfl) rfl) rfl) (e_lendr rfl (e_lendr rfl (e_lendr rfl e_lend0))) hp12 rfl) (e_call (e_argBv (e_fz_s rfl) (e_argBv (e_fz_s rfl) (e_argBv (e_fz_s rfl) e_argB0 rfl) rfl) rfl) (e_lendr rfl (e_lendr rfl (e_lendr rfl e_lend0))) hp13 rfl)) rfl rfl) rfl))) fun s14 =>
    (js_seq (E := fun (s16 : Int) => [.shr (e_VItem bill'), .shr (e_Books books'), .mu false (OLL e_T2ii s10.1), .shr (D.int x6), .shr (D.int s10.2), .shr (D.int x11), .shr (D.int s16), .un, .un, .un]) (js_req fun hc15 => (js_forL (e := D.int) (xs := (rng (bill'.length : Int))) (E := fun (s16 : Int) => [.shr (e_VItem bill'), .shr (e_Books books'), .mu false (OLL e_T2ii s10.1), .shr (D.int x6), .shr (D.int s10.2), .shr (D.int x11), .shr (D.int s16), .un, .un, .un]) (fun s16 x17 => [.shr (e_VItem bill'), .shr (e_Books books'), .mu false (OLL e_T2ii s10.1), .shr (D.int x6), .shr (D.int s10.2), .shr (D.int x11), .shr (D.int s16), .shr (D.int x17), .un, .un]) (e_rg1 (e_lenT (e := e_Item) (xs := bill') (e_nm_s rfl)) hc15) rfl (fun _ _ => rfl) (fun s16 x17 =>
    (js_last (E1 := fun (s19 : Int) => [.shr (e_VItem bill'), .shr (e_Books books'), .mu false (OLL e_T2ii s10.1), .shr (D.int x6), .shr (D.int s10.2), .shr (D.int x11), .shr (D.int s19), .un, .un, .un]) (js_klN (E := fun (s19 : Int) => [.shr (e_VItem bill'), .shr (e_Books books'), .mu false (OLL e_T2ii s10.1), .shr (D.int x6), .shr (D.int s10.2), .shr (D.int x11), .shr (D.int s19), .shr (D.int x17), .un, .un]) (js_req fun hc18 => (js_forL (e := e_T2ii) (xs := (ix bill' x17).parts) (E := fun (s19 : Int) => [.shr (e_VItem bill'), .shr (e_Books books'), .mu false (OLL e_T2ii s10.1), .shr (D.int x6), .shr (D.int s10.2), .shr (D.int x11), .shr (D.int s19), .shr (D.int x17), .un, .un]) (fun s19 x20 => [.shr (e_VItem bill'), .shr (e_Books books'), .mu false (OLL e_T2ii s10.1), .shr (D.int x6), .shr (D.int s10.2), .shr (D.int x11), .shr (D.int s19), .shr (D.int x17), .shr (e_T2ii x20), .un]) (e_it (e_tF 1 (e_ixT (e := e_Item) (xs := bill') (e_nm_s rfl) (e_nm_s rfl) hc18) rfl rfl) rfl) rfl (fun _ _ => rfl) (fun s19 x20 =>
    (js_last (E1 := fun (s27 : Int) => [.shr (e_VItem bill'), .shr (e_Books books'), .mu false (OLL e_T2ii s10.1), .shr (D.int x6), .shr (D.int s10.2), .shr (D.int x11), .shr (D.int s27), .shr (D.int x17), .un, .un]) (js_if (e_test (e_eqI (e_tF 0 (e_nm_s rfl) rfl rfl) (e_nm_s rfl))) (js_last (E1 := fun (s26 : Int) => [.shr (e_VItem bill'), .shr (e_Books books'), .mu false (OLL e_T2ii s10.1), .shr (D.int x6), .shr (D.int s10.2), .shr (D.int x11), .shr (D.int s26), .shr (D.int x17), .un, .un]) (js_req fun hc21 => (js_req fun hc22 => (js_req fun hc23 => (js_bind (v__law_lots (ix s10.1 x17) x11) fun p24 hp24 => (js_req fun hc25 => (js_st (E := fun (s26 : Int) => [.shr (e_VItem bill'), .shr (e_Books books'), .mu false (OLL e_T2ii s10.1), .shr (D.int x6), .shr (D.int s10.2), .shr (D.int x11), .shr (D.int s26), .shr (D.int x17), .un, .un]) (st_kl (st_set (e_addI (e_nm_s rfl) (e_mulI (e_mulI (e_tF 1 (e_nm_s rfl) rfl rfl) (e_tF 3 (e_ixT (e := e_Item) (xs := bill') (e_nm_s rfl) (e_nm_s rfl) hc21) rfl rfl) hc22) (e_callP (e_args (e_ixN (e := e_T2ii) (xss := s10.1) (e_nm_m rfl) (e_nm_s rfl) rfl hc23) (e_args (e_fz_s rfl) e_args0 rfl) rfl) (e_fzvs fzv_pk (e_fzvs fzv_d e_fzvs0)) hp24 rfl) hc25)) rfl rfl) rfl) rfl)))))) fun _ => rfl) (fun _ => rfl)) fun _ => rfl)))) (fun _ => rfl)) fun _ => rfl)))) fun s16 =>
    (js_last (E1 := fun (s38 : ((List (List (Int × Int))) × Int)) => [.shr (e_VItem bill'), .shr (e_Books books'), .mu false (OLL e_T2ii s38.1), .shr (D.int x6), .shr (D.int s38.2), .un, .un, .un, .un, .un]) (js_req fun hc28 => (js_req fun hc29 => (js_if (e_test (e_gt (e_nm_s rfl) (e_mulI (e_nm_s rfl) (e_tF 4 (e_ixT (e := e_Item) (xs := bill') (e_nm_s rfl) (e_nm_s rfl) hc28) rfl rfl) hc29))) (js_seq (E := fun (s33 : Int) => [.shr (e_VItem bill'), .shr (e_Books books'), .mu false (OLL e_T2ii s10.1), .shr (D.int x6), .shr (D.int s33), .shr (D.int x11), .un, .un, .un, .un]) (js_req fun hc30 => (js_req fun hc31 => (js_req fun hc32 => (js_st (E := fun (s33 : Int) => [.shr (e_VItem bill'), .shr (e_Books books'), .mu false (OLL e_T2ii s10.1), .shr (D.int x6), .shr (D.int s33), .shr (D.int x11), .un, .un, .un, .un]) (st_kl (st_set (e_divI (e_subI (e_addI (e_nm_s rfl) (e_tF 4 (e_ixT (e := e_Item) (xs := bill') (e_nm_s rfl) (e_nm_s rfl) hc30) rfl rfl)) e_C) (e_tF 4 (e_ixT (e := e_Item) (xs := bill') (e_nm_s rfl) (e_nm_s rfl) hc31) rfl rfl) hc32) rfl rfl) rfl) rfl)))) fun s33 =>
    (js_last (E1 := fun (s37 : (List (List (Int × Int)))) => [.shr (e_VItem bill'), .shr (e_Books books'), .mu false (OLL e_T2ii s37), .shr (D.int x6), .shr (D.int s33), .un, .un, .un, .un, .un]) (js_req fun hc34 => (js_req fun hc35 => (js_req fun hc36 => (js_st (E := fun (s37 : (List (List (Int × Int)))) => [.shr (e_VItem bill'), .shr (e_Books books'), .mu false (OLL e_T2ii s37), .shr (D.int x6), .shr (D.int s33), .un, .un, .un, .un, .un]) (st_kl (st_drop (e_app2 (e := e_T2ii) (xss := s10.1) (z := ((x11 - (ix bill' x6).lead), s33)) rfl (e_nm_s rfl) rfl rfl (e_cast (r' := .d (e_T2ii ((x11 - (ix bill' x6).lead), s33))) (e_tup (e_args (e_subI (e_nm_s rfl) (e_tF 2 (e_ixT (e := e_Item) (xs := bill') (e_nm_s rfl) (e_nm_s rfl) hc34) rfl rfl)) (e_args (e_fz_s rfl) e_args0 rfl) rfl) (e_sts rfl (e_sts rfl e_sts0)) (Nat.le_of_ble_eq_true rfl)) rfl) rfl rfl rfl hc35 hc36)) rfl) rfl)))) fun _ => rfl)) (fun _ => rfl)))) fun _ => rfl))))))) (fun _ => rfl)) fun _ => rfl))))) (fun _ => rfl)) fun s5 =>
    (js_req fun hc41 => (js_req fun hc42 => (js_rt (e_tupL (e := e_VT2ii) (xs := (T.lcP (fun (x39 : (List (Int × Int))) => T.ret true) (fun x39 => T.ret x39) s5).val) ((e_lcJ (e := e_LT2ii) (xs := s5) (eb := e_VT2ii) (fun x39 => [.un, .un, .shr (e_LLT2ii s5), .un, .un, .un, .un, .un, .un, .shr (e_LT2ii x39)]) (e_it (e_fz_N rfl) rfl) hc41 rfl rfl (fun _ => rfl) (fun _ => rfl) rfl (fun x39 => j_yes) (fun x39 => (jj_ret ⟨_, (e_tupL (e := e_T2ii) (xs := x39) (e_nm_s rfl) rfl), rfl⟩))) hc42) (R.pl_own _)) rfl rfl)))))

noncomputable def t__law_lots_478d (rows' : (List (Int × Int))) (day' : Int) : T Int :=
  T.bind (T.ret 0) fun s1 =>
    T.bind (T.forL (fun (s2 : Int) (x3 : (Int × Int)) =>
    T.bind (if (decide (x3.1 ≤ day')) = true then T.bind (T.ret x3.2) fun s4 => T.ret s4 else T.ret s2) fun s5 => T.ret s5) rows' s1) fun s2 =>
    T.ret s2
abbrev q__law_lots_478d (rows' : (List (Int × Int))) (day' : Int) : Int → Prop := fun z => f__law_lots_478d [.shr (e_VT2ii rows'), .shr (D.int day')] = ((fun (z : Int) => FRes.ok (.d (D.int z)) [.un, .un] : Int → FRes)) z
theorem v__law_lots_478d (rows' : (List (Int × Int))) (day' : Int) : J (t__law_lots_478d rows' day') (q__law_lots_478d rows' day') :=
  v_fn (as := [.shr (e_VT2ii rows'), .shr (D.int day')]) (R' := fun (z : Int) => FRes.ok (.d (D.int z)) [.un, .un]) f__law_lots_478d_eq rfl (js_seq (E := fun (s1 : Int) => [.shr (e_VT2ii rows'), .shr (D.int day'), .shr (D.int s1), .un]) (js_st (E := fun (s1 : Int) => [.shr (e_VT2ii rows'), .shr (D.int day'), .shr (D.int s1), .un]) (st_set e_C rfl rfl) rfl) fun s1 =>
    (js_seq (E := fun (s2 : Int) => [.un, .un, .shr (D.int s2), .un]) (js_klN (E := fun (s2 : Int) => [.shr (e_VT2ii rows'), .shr (D.int day'), .shr (D.int s2), .un]) (js_forL (e := e_T2ii) (xs := rows') (E := fun (s2 : Int) => [.shr (e_VT2ii rows'), .shr (D.int day'), .shr (D.int s2), .un]) (fun s2 x3 => [.shr (e_VT2ii rows'), .shr (D.int day'), .shr (D.int s2), .shr (e_T2ii x3)]) (e_it (e_fz_s rfl) rfl) rfl (fun _ _ => rfl) (fun s2 x3 =>
    (js_last (E1 := fun (s5 : Int) => [.shr (e_VT2ii rows'), .shr (D.int day'), .shr (D.int s5), .un]) (js_if (e_test (e_le (e_tF 0 (e_nm_s rfl) rfl rfl) (e_nm_s rfl))) (js_last (E1 := fun (s4 : Int) => [.shr (e_VT2ii rows'), .shr (D.int day'), .shr (D.int s4), .un]) (js_st (E := fun (s4 : Int) => [.shr (e_VT2ii rows'), .shr (D.int day'), .shr (D.int s4), .un]) (st_kl (st_set (e_tF 1 (e_nm_s rfl) rfl rfl) rfl rfl) rfl) rfl) fun _ => rfl) (fun _ => rfl)) fun _ => rfl))) (fun _ => rfl)) fun s2 =>
    (js_rt (e_mv_s rfl) rfl rfl)))

noncomputable def t__law_plan (box' : ((List Int) × Int)) (bill' : (List Item)) (books' : Books) : T ((List (Int × Int × Int)) × ((List Int) × Int)) :=
  T.bind (T.ret ([] : (List ((Int × Int) × Int)))) fun s1 =>
    T.bind (T.bind (t__law_draw box' 7) fun p2 => T.req (-1000000 ≤ p2.1 ∧ p2.1 ≤ 1000000) (T.forL (fun (s4 : (((List Int) × Int) × (List ((Int × Int) × Int)))) (x5 : Int) =>
    T.bind (T.bind (t__law_draw s4.1 (bill'.length : Int)) fun p6 => T.bind (t__law_draw p6.2 20) fun p7 => T.ret (p7.2, (p6.1, (books'.today + p7.1)))) fun s8 =>
    T.bind (T.bind (t__law_draw s8.1 5) fun p9 => T.bind (t__law_draw p9.2 4) fun p10 => T.req ((-1000000000 ≤ p9.1 ∧ p9.1 ≤ 1000000000) ∨ (-1000000000 ≤ p10.1 ∧ p10.1 ≤ 1000000000)) (T.req (s4.2.length < 1000000) (T.ret (p10.2, (tput s4.2 (s8.2.1, s8.2.2) (1 + (p9.1 * p10.1))))))) fun s13 => T.ret (s13.1, s13.2)) (rng p2.1) (p2.2, s1))) fun s4 =>
    T.req (s4.2.length ≤ 1000000) (T.req ((srtP (List.map (fun p => p.1) s4.2)).length ≤ 1000000) (T.req ((T.lcP (fun (x15 : (Int × Int)) => T.ret true) (fun x15 => T.req ((tget s4.2 (x15.1, x15.2)).isSome = true) (T.ret (x15.1, x15.2, (dat s4.2 (x15.1, x15.2))))) (srtP (List.map (fun p => p.1) s4.2))).ok) (T.ret ((T.lcP (fun (x15 : (Int × Int)) => T.ret true) (fun x15 => T.req ((tget s4.2 (x15.1, x15.2)).isSome = true) (T.ret (x15.1, x15.2, (dat s4.2 (x15.1, x15.2))))) (srtP (List.map (fun p => p.1) s4.2))).val, s4.1))))
abbrev q__law_plan (box' : ((List Int) × Int)) (bill' : (List Item)) (books' : Books) : ((List (Int × Int × Int)) × ((List Int) × Int)) → Prop := fun z => f__law_plan [.mu true (.lst [.d (e_Li box'.1), .d (D.int box'.2)]), .shr (e_VItem bill'), .shr (e_Books books')] = ((fun (z : ((List (Int × Int × Int)) × ((List Int) × Int))) => FRes.ok (.d (e_VT3iii z.1)) [.mu true (.lst [.d (e_Li z.2.1), .d (D.int z.2.2)]), .un, .un] : ((List (Int × Int × Int)) × ((List Int) × Int)) → FRes)) z
theorem v__law_plan (box' : ((List Int) × Int)) (bill' : (List Item)) (books' : Books) : J (t__law_plan box' bill' books') (q__law_plan box' bill' books') :=
  v_fn (as := [.mu true (.lst [.d (e_Li box'.1), .d (D.int box'.2)]), .shr (e_VItem bill'), .shr (e_Books books')]) (R' := fun (z : ((List (Int × Int × Int)) × ((List Int) × Int))) => FRes.ok (.d (e_VT3iii z.1)) [.mu true (.lst [.d (e_Li z.2.1), .d (D.int z.2.2)]), .un, .un]) f__law_plan_eq rfl (js_seq (E := fun (s1 : (List ((Int × Int) × Int))) => [.mu true (.lst [.d (e_Li box'.1), .d (D.int box'.2)]), .shr (e_VItem bill'), .shr (e_Books books'), .mu false (PDt D.int s1), .un, .un]) (js_st (E := fun (s1 : (List ((Int × Int) × Int))) => [.mu true (.lst [.d (e_Li box'.1), .d (D.int box'.2)]), .shr (e_VItem bill'), .shr (e_Books books'), .mu false (PDt D.int s1), .un, .un]) (st_set (e_dnew (e := D.int)) rfl rfl) rfl) fun s1 =>
    (js_seq (E := fun (s4 : (((List Int) × Int) × (List ((Int × Int) × Int)))) => [.mu true (.lst [.d (e_Li s4.1.1), .d (D.int s4.1.2)]), .un, .un, .mu false (PDt D.int s4.2), .un, .un]) (js_klN (E := fun (s4 : (((List Int) × Int) × (List ((Int × Int) × Int)))) => [.mu true (.lst [.d (e_Li s4.1.1), .d (D.int s4.1.2)]), .shr (e_VItem bill'), .shr (e_Books books'), .mu false (PDt D.int s4.2), .un, .un]) (js_bind (v__law_draw box' 7) fun p2 hp2 => (js_req fun hc3 => (js_forL (e := D.int) (xs := (rng p2.1)) (E := fun (s4 : (((List Int) × Int) × (List ((Int × Int) × Int)))) => [.mu true (.lst [.d (e_Li s4.1.1), .d (D.int s4.1.2)]), .shr (e_VItem bill'), .shr (e_Books books'), .mu false (PDt D.int s4.2), .un, .un]) (fun s4 x5 => [.mu true (.lst [.d (e_Li s4.1.1), .d (D.int s4.1.2)]), .shr (e_VItem bill'), .shr (e_Books books'), .mu false (PDt D.int s4.2), .shr (D.int x5), .un]) (e_rg1 (e_call (e_argBb (i := 0) rfl (e_argBv e_C e_argB0 rfl)) (e_lendm (i := 0) rfl (e_lendr rfl e_lend0)) hp2 rfl) hc3) rfl (fun _ _ => rfl) (fun s4 x5 =>
    (js_seq (E := fun (s8 : (((List Int) × Int) × (Int × Int))) => [.mu true (.lst [.d (e_Li s8.1.1), .d (D.int s8.1.2)]), .shr (e_VItem bill'), .shr (e_Books books'), .mu false (PDt D.int s4.2), .un, .shr (e_T2ii s8.2)]) (js_bind (v__law_draw s4.1 (bill'.length : Int)) fun p6 hp6 => (js_bind (v__law_draw p6.2 20) fun p7 hp7 => (js_st (E := fun (s8 : (((List Int) × Int) × (Int × Int))) => [.mu true (.lst [.d (e_Li s8.1.1), .d (D.int s8.1.2)]), .shr (e_VItem bill'), .shr (e_Books books'), .mu false (PDt D.int s4.2), .un, .shr (e_T2ii s8.2)]) (st_kl (st_set (e_cast (r' := .d (e_T2ii (p6.1, (books'.today + p7.1)))) (e_tup (e_args (e_call (e_argBb (i := 0) rfl (e_argBv (e_lenT (e := e_Item) (xs := bill') (e_nm_s rfl)) e_argB0 rfl)) (e_lendm (i := 0) rfl (e_lendr rfl e_lend0)) hp6 rfl) (e_args (e_addI (e_tF 0 (e_nm_s rfl) rfl rfl) (e_call (e_argBb (i := 0) rfl (e_argBv e_C e_argB0 rfl)) (e_lendm (i := 0) rfl (e_lendr rfl e_lend0)) hp7 rfl)) e_args0 rfl) rfl) (e_sts rfl (e_sts rfl e_sts0)) (Nat.le_of_ble_eq_true rfl)) rfl) rfl rfl) rfl) rfl))) fun s8 =>
    (js_last (E1 := fun (s13 : (((List Int) × Int) × (List ((Int × Int) × Int)))) => [.mu true (.lst [.d (e_Li s13.1.1), .d (D.int s13.1.2)]), .shr (e_VItem bill'), .shr (e_Books books'), .mu false (PDt D.int s13.2), .un, .un]) (js_bind (v__law_draw s8.1 5) fun p9 hp9 => (js_bind (v__law_draw p9.2 4) fun p10 hp10 => (js_req fun hc11 => (js_req fun hc12 => (js_st (E := fun (s13 : (((List Int) × Int) × (List ((Int × Int) × Int)))) => [.mu true (.lst [.d (e_Li s13.1.1), .d (D.int s13.1.2)]), .shr (e_VItem bill'), .shr (e_Books books'), .mu false (PDt D.int s13.2), .un, .un]) (st_kl (st_dput (e := D.int) (kv := s4.2) (z := (1 + (p9.1 * p10.1))) rfl (e_args (e_addI e_C (e_mulI (e_call (e_argBb (i := 0) rfl (e_argBv e_C e_argB0 rfl)) (e_lendm (i := 0) rfl (e_lendr rfl e_lend0)) hp9 rfl) (e_call (e_argBb (i := 0) rfl (e_argBv e_C e_argB0 rfl)) (e_lendm (i := 0) rfl (e_lendr rfl e_lend0)) hp10 rfl) hc11)) (e_args (e_nm_s rfl) e_args0 rfl) rfl) rfl rfl hc12) rfl) rfl))))) fun _ => rfl)))))) (fun _ => rfl)) fun s4 =>
    (js_req fun hc14 => (js_req fun hc18 => (js_req fun hc19 => (js_rt (e_tupL (e := e_T3iii) (xs := (T.lcP (fun (x15 : (Int × Int)) => T.ret true) (fun x15 => T.req ((tget s4.2 (x15.1, x15.2)).isSome = true) (T.ret (x15.1, x15.2, (dat s4.2 (x15.1, x15.2))))) (srtP (List.map (fun p => p.1) s4.2))).val) ((e_lcJ (e := e_T2ii) (xs := (srtP (List.map (fun p => p.1) s4.2))) (eb := e_T3iii) (fun x15 => [.mu true (.lst [.d (e_Li s4.1.1), .d (D.int s4.1.2)]), .un, .un, .mu false (PDt D.int s4.2), .un, .shr (e_T2ii x15)]) (e_it (e_cast (r' := .own (O.l (List.map e_T2ii (srtP (List.map (fun p => p.1) s4.2))))) (e_sortD (e := D.int) (kv := s4.2) (e_nm_m rfl) hc14) rfl) (its_O (e := e_T2ii) (xs := (srtP (List.map (fun p => p.1) s4.2))))) hc18 rfl rfl (fun _ => rfl) (fun _ => rfl) rfl (fun x15 => j_yes) (fun x15 => (jj_req fun hc17 => (jj_ret ⟨_, (e_cast (r' := .d (e_T3iii (x15.1, x15.2, (dat s4.2 (x15.1, x15.2))))) (e_tup (e_args (e_tF 0 (e_nm_s rfl) rfl rfl) (e_args (e_tF 1 (e_nm_s rfl) rfl rfl) (e_args (e_dget (e := D.int) (kv := s4.2) (e_nm_m rfl) (e_nm_s rfl) rfl hc17) e_args0 rfl) rfl) rfl) (e_sts rfl (e_sts rfl (e_sts rfl e_sts0))) (Nat.le_of_ble_eq_true rfl)) rfl), rfl⟩)))) hc19) (R.pl_own _)) rfl rfl))))))

noncomputable def t_last_day (bill' : (List Item)) (books' : Books) (plan' : (List (Int × Int × Int))) : T Int :=
  T.bind (T.req (books'.recs.length ≤ 1000000) (T.req ((T.lcP (fun (x1 : (Int × Int × Int)) => T.ret true) (fun x1 => T.ret x1.2.1) books'.recs).ok) (T.req ([books'.today].length + ((T.lcP (fun (x1 : (Int × Int × Int)) => T.ret true) (fun x1 => T.ret x1.2.1) books'.recs).val).length ≤ 1000000) (T.req (books'.ords.length ≤ 1000000) (T.req ((T.lcP (fun (x6 : (Int × Int × Int × Int)) => T.ret true) (fun x6 => T.ret x6.2.2.2) books'.ords).ok) (T.req (([books'.today] ++ (T.lcP (fun (x1 : (Int × Int × Int)) => T.ret true) (fun x1 => T.ret x1.2.1) books'.recs).val).length + ((T.lcP (fun (x6 : (Int × Int × Int × Int)) => T.ret true) (fun x6 => T.ret x6.2.2.2) books'.ords).val).length ≤ 1000000) (T.ret (([books'.today] ++ (T.lcP (fun (x1 : (Int × Int × Int)) => T.ret true) (fun x1 => T.ret x1.2.1) books'.recs).val) ++ (T.lcP (fun (x6 : (Int × Int × Int × Int)) => T.ret true) (fun x6 => T.ret x6.2.2.2) books'.ords).val)))))))) fun s11 =>
    T.bind (T.forL (fun (s12 : (List Int)) (x13 : (Int × Int × Int)) =>
    T.bind (T.req (0 ≤ x13.1 ∧ x13.1 < bill'.length) (T.req (s12.length < 1000000) (T.ret (s12 ++ [(x13.2.1 + (ix bill' x13.1).lead)])))) fun s16 => T.ret s16) plan' s11) fun s12 =>
    T.req (0 < s12.length) (T.ret (maxL s12))
abbrev q_last_day (bill' : (List Item)) (books' : Books) (plan' : (List (Int × Int × Int))) : Int → Prop := fun z => f_last_day [.shr (e_VItem bill'), .shr (e_Books books'), .shr (e_VT3iii plan')] = ((fun (z : Int) => FRes.ok (.d (D.int z)) [.un, .un, .un] : Int → FRes)) z
theorem v_last_day (bill' : (List Item)) (books' : Books) (plan' : (List (Int × Int × Int))) : J (t_last_day bill' books' plan') (q_last_day bill' books' plan') :=
  v_fn (as := [.shr (e_VItem bill'), .shr (e_Books books'), .shr (e_VT3iii plan')]) (R' := fun (z : Int) => FRes.ok (.d (D.int z)) [.un, .un, .un]) f_last_day_eq rfl (js_seq (E := fun (s11 : (List Int)) => [.shr (e_VItem bill'), .un, .shr (e_VT3iii plan'), .mu false (O.l (List.map D.int s11)), .un, .un, .un, .un]) (js_req fun hc3 => (js_req fun hc4 => (js_req fun hc5 => (js_req fun hc8 => (js_req fun hc9 => (js_req fun hc10 => (js_st (E := fun (s11 : (List Int)) => [.shr (e_VItem bill'), .un, .shr (e_VT3iii plan'), .mu false (O.l (List.map D.int s11)), .un, .un, .un, .un]) (st_kl (st_set (e_addL (e := D.int) (xs := ([books'.today] ++ (T.lcP (fun (x1 : (Int × Int × Int)) => T.ret true) (fun x1 => T.ret x1.2.1) books'.recs).val)) (ys := (T.lcP (fun (x6 : (Int × Int × Int × Int)) => T.ret true) (fun x6 => T.ret x6.2.2.2) books'.ords).val) (e_addL (e := D.int) (xs := [books'.today]) (ys := (T.lcP (fun (x1 : (Int × Int × Int)) => T.ret true) (fun x1 => T.ret x1.2.1) books'.recs).val) (e_cast (r' := .own (O.l (List.map D.int [books'.today]))) (e_lst (e_args (e_tF 0 (e_nm_s rfl) rfl rfl) e_args0 rfl) (e_sts rfl e_sts0) (Nat.le_of_ble_eq_true rfl)) rfl) ((e_lcJ (e := e_T3iii) (xs := books'.recs) (eb := D.int) (fun x1 => [.shr (e_VItem bill'), .shr (e_Books books'), .shr (e_VT3iii plan'), .un, .un, .un, .un, .shr (e_T3iii x1)]) (e_it (e_tF 2 (e_nm_s rfl) rfl rfl) rfl) hc3 rfl rfl (fun _ => rfl) (fun _ => rfl) rfl (fun x1 => j_yes) (fun x1 => (jj_ret ⟨_, (e_tF 1 (e_nm_s rfl) rfl rfl), rfl⟩))) hc4) rfl (R.pl_own _) (R.pl_own _) hc5) ((e_lcJ (e := e_T4iiii) (xs := books'.ords) (eb := D.int) (fun x6 => [.shr (e_VItem bill'), .shr (e_Books books'), .shr (e_VT3iii plan'), .un, .un, .un, .un, .shr (e_T4iiii x6)]) (e_it (e_tF 3 (e_nm_s rfl) rfl rfl) rfl) hc8 rfl rfl (fun _ => rfl) (fun _ => rfl) rfl (fun x6 => j_yes) (fun x6 => (jj_ret ⟨_, (e_tF 3 (e_nm_s rfl) rfl rfl), rfl⟩))) hc9) rfl (R.pl_own _) (R.pl_own _) hc10) rfl rfl) rfl) rfl))))))) fun s11 =>
    (js_seq (E := fun (s12 : (List Int)) => [.un, .un, .un, .mu false (O.l (List.map D.int s12)), .un, .un, .un, .un]) (js_klN (E := fun (s12 : (List Int)) => [.shr (e_VItem bill'), .un, .shr (e_VT3iii plan'), .mu false (O.l (List.map D.int s12)), .un, .un, .un, .un]) (js_forL (e := e_T3iii) (xs := plan') (E := fun (s12 : (List Int)) => [.shr (e_VItem bill'), .un, .shr (e_VT3iii plan'), .mu false (O.l (List.map D.int s12)), .un, .un, .un, .un]) (fun s12 x13 => [.shr (e_VItem bill'), .un, .shr (e_VT3iii plan'), .mu false (O.l (List.map D.int s12)), .shr (D.int x13.1), .shr (D.int x13.2.1), .shr (D.int x13.2.2), .un]) (e_it (e_fz_s rfl) rfl) rfl (fun _ _ => rfl) (fun s12 x13 =>
    (js_last (E1 := fun (s16 : (List Int)) => [.shr (e_VItem bill'), .un, .shr (e_VT3iii plan'), .mu false (O.l (List.map D.int s16)), .un, .un, .un, .un]) (js_req fun hc14 => (js_req fun hc15 => (js_st (E := fun (s16 : (List Int)) => [.shr (e_VItem bill'), .un, .shr (e_VT3iii plan'), .mu false (O.l (List.map D.int s16)), .un, .un, .un, .un]) (st_kl (st_drop (e_app (e := D.int) (xs := s12) (z := (x13.2.1 + (ix bill' x13.1).lead)) rfl (e_addI (e_nm_s rfl) (e_tF 2 (e_ixT (e := e_Item) (xs := bill') (e_nm_s rfl) (e_nm_s rfl) hc14) rfl rfl)) rfl rfl hc15)) rfl) rfl))) fun _ => rfl))) (fun _ => rfl)) fun s12 =>
    (js_req fun hc17 => (js_rt (e_max (e_nm_m rfl) (R.pl_pk _) hc17) rfl rfl))))

noncomputable def t__law_last (bill' : (List Item)) (books' : Books) (plan' : (List (Int × Int × Int))) : T Int :=
  T.bind (T.ret books'.today) fun s1 =>
    T.bind (T.forL (fun (s2 : Int) (x3 : (Int × Int × Int)) =>
    T.bind (T.ret (max s2 x3.2.1)) fun s4 => T.ret s4) books'.recs s1) fun s2 =>
    T.bind (T.forL (fun (s5 : Int) (x6 : (Int × Int × Int × Int)) =>
    T.bind (T.ret (max s5 x6.2.2.2)) fun s7 => T.ret s7) books'.ords s2) fun s5 =>
    T.bind (T.forL (fun (s8 : Int) (x9 : (Int × Int × Int)) =>
    T.bind (T.req (0 ≤ x9.1 ∧ x9.1 < bill'.length) (T.ret (max s8 (x9.2.1 + (ix bill' x9.1).lead)))) fun s11 => T.ret s11) plan' s5) fun s8 =>
    T.ret s8
abbrev q__law_last (bill' : (List Item)) (books' : Books) (plan' : (List (Int × Int × Int))) : Int → Prop := fun z => f__law_last [.shr (e_VItem bill'), .shr (e_Books books'), .shr (e_VT3iii plan')] = ((fun (z : Int) => FRes.ok (.d (D.int z)) [.un, .un, .un] : Int → FRes)) z
theorem v__law_last (bill' : (List Item)) (books' : Books) (plan' : (List (Int × Int × Int))) : J (t__law_last bill' books' plan') (q__law_last bill' books' plan') :=
  v_fn (as := [.shr (e_VItem bill'), .shr (e_Books books'), .shr (e_VT3iii plan')]) (R' := fun (z : Int) => FRes.ok (.d (D.int z)) [.un, .un, .un]) f__law_last_eq rfl (js_seq (E := fun (s1 : Int) => [.shr (e_VItem bill'), .shr (e_Books books'), .shr (e_VT3iii plan'), .shr (D.int s1), .un, .un]) (js_st (E := fun (s1 : Int) => [.shr (e_VItem bill'), .shr (e_Books books'), .shr (e_VT3iii plan'), .shr (D.int s1), .un, .un]) (st_set (e_tF 0 (e_nm_s rfl) rfl rfl) rfl rfl) rfl) fun s1 =>
    (js_seq (E := fun (s2 : Int) => [.shr (e_VItem bill'), .shr (e_Books books'), .shr (e_VT3iii plan'), .shr (D.int s2), .un, .un]) (js_forL (e := e_T3iii) (xs := books'.recs) (E := fun (s2 : Int) => [.shr (e_VItem bill'), .shr (e_Books books'), .shr (e_VT3iii plan'), .shr (D.int s2), .un, .un]) (fun s2 x3 => [.shr (e_VItem bill'), .shr (e_Books books'), .shr (e_VT3iii plan'), .shr (D.int s2), .shr (e_T3iii x3), .un]) (e_it (e_tF 2 (e_nm_s rfl) rfl rfl) rfl) rfl (fun _ _ => rfl) (fun s2 x3 =>
    (js_last (E1 := fun (s4 : Int) => [.shr (e_VItem bill'), .shr (e_Books books'), .shr (e_VT3iii plan'), .shr (D.int s4), .un, .un]) (js_st (E := fun (s4 : Int) => [.shr (e_VItem bill'), .shr (e_Books books'), .shr (e_VT3iii plan'), .shr (D.int s4), .un, .un]) (st_kl (st_set (e_max2 (e_nm_s rfl) (e_tF 1 (e_nm_s rfl) rfl rfl)) rfl rfl) rfl) rfl) fun _ => rfl))) fun s2 =>
    (js_seq (E := fun (s5 : Int) => [.shr (e_VItem bill'), .un, .shr (e_VT3iii plan'), .shr (D.int s5), .un, .un]) (js_klN (E := fun (s5 : Int) => [.shr (e_VItem bill'), .shr (e_Books books'), .shr (e_VT3iii plan'), .shr (D.int s5), .un, .un]) (js_forL (e := e_T4iiii) (xs := books'.ords) (E := fun (s5 : Int) => [.shr (e_VItem bill'), .shr (e_Books books'), .shr (e_VT3iii plan'), .shr (D.int s5), .un, .un]) (fun s5 x6 => [.shr (e_VItem bill'), .shr (e_Books books'), .shr (e_VT3iii plan'), .shr (D.int s5), .shr (e_T4iiii x6), .un]) (e_it (e_tF 3 (e_nm_s rfl) rfl rfl) rfl) rfl (fun _ _ => rfl) (fun s5 x6 =>
    (js_last (E1 := fun (s7 : Int) => [.shr (e_VItem bill'), .shr (e_Books books'), .shr (e_VT3iii plan'), .shr (D.int s7), .un, .un]) (js_st (E := fun (s7 : Int) => [.shr (e_VItem bill'), .shr (e_Books books'), .shr (e_VT3iii plan'), .shr (D.int s7), .un, .un]) (st_kl (st_set (e_max2 (e_nm_s rfl) (e_tF 3 (e_nm_s rfl) rfl rfl)) rfl rfl) rfl) rfl) fun _ => rfl))) (fun _ => rfl)) fun s5 =>
    (js_seq (E := fun (s8 : Int) => [.un, .un, .un, .shr (D.int s8), .un, .un]) (js_klN (E := fun (s8 : Int) => [.shr (e_VItem bill'), .un, .shr (e_VT3iii plan'), .shr (D.int s8), .un, .un]) (js_forL (e := e_T3iii) (xs := plan') (E := fun (s8 : Int) => [.shr (e_VItem bill'), .un, .shr (e_VT3iii plan'), .shr (D.int s8), .un, .un]) (fun s8 x9 => [.shr (e_VItem bill'), .un, .shr (e_VT3iii plan'), .shr (D.int s8), .un, .shr (e_T3iii x9)]) (e_it (e_fz_s rfl) rfl) rfl (fun _ _ => rfl) (fun s8 x9 =>
    (js_last (E1 := fun (s11 : Int) => [.shr (e_VItem bill'), .un, .shr (e_VT3iii plan'), .shr (D.int s11), .un, .un]) (js_req fun hc10 => (js_st (E := fun (s11 : Int) => [.shr (e_VItem bill'), .un, .shr (e_VT3iii plan'), .shr (D.int s11), .un, .un]) (st_kl (st_set (e_max2 (e_nm_s rfl) (e_addI (e_tF 1 (e_nm_s rfl) rfl rfl) (e_tF 2 (e_ixT (e := e_Item) (xs := bill') (e_nm_s rfl) (e_tF 0 (e_nm_s rfl) rfl rfl) hc10) rfl rfl))) rfl rfl) rfl) rfl)) fun _ => rfl))) (fun _ => rfl)) fun s8 =>
    (js_rt (e_mv_s rfl) rfl rfl)))))

noncomputable def t_started (plan' : (List (Int × Int × Int))) (item' : Int) (day' : Int) : T Int :=
  T.req (plan'.length ≤ 1000000) (T.req ((T.lcP (fun (x1 : (Int × Int × Int)) => T.ret ((decide (x1.1 = item')) && (decide (x1.2.1 ≤ day')))) (fun x1 => T.ret x1.2.2) plan').ok) (T.ret (((T.lcP (fun (x1 : (Int × Int × Int)) => T.ret ((decide (x1.1 = item')) && (decide (x1.2.1 ≤ day')))) (fun x1 => T.ret x1.2.2) plan').val).sum)))
abbrev q_started (plan' : (List (Int × Int × Int))) (item' : Int) (day' : Int) : Int → Prop := fun z => f_started [.shr (e_VT3iii plan'), .shr (D.int item'), .shr (D.int day')] = ((fun (z : Int) => FRes.ok (.d (D.int z)) [.un, .un, .un] : Int → FRes)) z
theorem v_started (plan' : (List (Int × Int × Int))) (item' : Int) (day' : Int) : J (t_started plan' item' day') (q_started plan' item' day') :=
  v_fn (as := [.shr (e_VT3iii plan'), .shr (D.int item'), .shr (D.int day')]) (R' := fun (z : Int) => FRes.ok (.d (D.int z)) [.un, .un, .un]) f_started_eq rfl (js_req fun hc4 => (js_req fun hc5 => (js_rt (e_sum ((e_lcJ (e := e_T3iii) (xs := plan') (eb := D.int) (fun x1 => [.shr (e_VT3iii plan'), .shr (D.int item'), .shr (D.int day'), .shr (e_T3iii x1)]) (e_it (e_fz_s rfl) rfl) hc4 rfl rfl (fun _ => rfl) (fun _ => rfl) rfl (fun x1 => (jj_ret (e_and (e_test (e_eqI (e_tF 0 (e_nm_s rfl) rfl rfl) (e_nm_s rfl))) fun g3 => (e_test (e_le (e_tF 1 (e_nm_s rfl) rfl rfl) (e_nm_s rfl)))))) (fun x1 => (jj_ret ⟨_, (e_tF 2 (e_nm_s rfl) rfl rfl), rfl⟩))) hc5) (R.pl_own _)) rfl rfl)))

noncomputable def t__law_started (plan' : (List (Int × Int × Int))) (item' : Int) (day' : Int) : T Int :=
  T.bind (T.ret 0) fun s1 =>
    T.bind (T.forL (fun (s2 : Int) (x3 : (Int × Int × Int)) =>
    T.bind (if ((decide (x3.1 = item')) && (decide (x3.2.1 ≤ day'))) = true then T.bind (T.ret (s2 + x3.2.2)) fun s5 => T.ret s5 else T.ret s2) fun s6 => T.ret s6) plan' s1) fun s2 =>
    T.ret s2
abbrev q__law_started (plan' : (List (Int × Int × Int))) (item' : Int) (day' : Int) : Int → Prop := fun z => f__law_started [.shr (e_VT3iii plan'), .shr (D.int item'), .shr (D.int day')] = ((fun (z : Int) => FRes.ok (.d (D.int z)) [.un, .un, .un] : Int → FRes)) z
theorem v__law_started (plan' : (List (Int × Int × Int))) (item' : Int) (day' : Int) : J (t__law_started plan' item' day') (q__law_started plan' item' day') :=
  v_fn (as := [.shr (e_VT3iii plan'), .shr (D.int item'), .shr (D.int day')]) (R' := fun (z : Int) => FRes.ok (.d (D.int z)) [.un, .un, .un]) f__law_started_eq rfl (js_seq (E := fun (s1 : Int) => [.shr (e_VT3iii plan'), .shr (D.int item'), .shr (D.int day'), .shr (D.int s1), .un]) (js_st (E := fun (s1 : Int) => [.shr (e_VT3iii plan'), .shr (D.int item'), .shr (D.int day'), .shr (D.int s1), .un]) (st_set e_C rfl rfl) rfl) fun s1 =>
    (js_seq (E := fun (s2 : Int) => [.un, .un, .un, .shr (D.int s2), .un]) (js_klN (E := fun (s2 : Int) => [.shr (e_VT3iii plan'), .shr (D.int item'), .shr (D.int day'), .shr (D.int s2), .un]) (js_forL (e := e_T3iii) (xs := plan') (E := fun (s2 : Int) => [.shr (e_VT3iii plan'), .shr (D.int item'), .shr (D.int day'), .shr (D.int s2), .un]) (fun s2 x3 => [.shr (e_VT3iii plan'), .shr (D.int item'), .shr (D.int day'), .shr (D.int s2), .shr (e_T3iii x3)]) (e_it (e_fz_s rfl) rfl) rfl (fun _ _ => rfl) (fun s2 x3 =>
    (js_last (E1 := fun (s6 : Int) => [.shr (e_VT3iii plan'), .shr (D.int item'), .shr (D.int day'), .shr (D.int s6), .un]) (js_if (e_and (e_test (e_eqI (e_tF 0 (e_nm_s rfl) rfl rfl) (e_nm_s rfl))) fun g4 => (e_test (e_le (e_tF 1 (e_nm_s rfl) rfl rfl) (e_nm_s rfl)))) (js_last (E1 := fun (s5 : Int) => [.shr (e_VT3iii plan'), .shr (D.int item'), .shr (D.int day'), .shr (D.int s5), .un]) (js_st (E := fun (s5 : Int) => [.shr (e_VT3iii plan'), .shr (D.int item'), .shr (D.int day'), .shr (D.int s5), .un]) (st_kl (st_set (e_addI (e_nm_s rfl) (e_tF 2 (e_nm_s rfl) rfl rfl)) rfl rfl) rfl) rfl) fun _ => rfl) (fun _ => rfl)) fun _ => rfl))) (fun _ => rfl)) fun s2 =>
    (js_rt (e_mv_s rfl) rfl rfl)))

noncomputable def t_balance (bill' : (List Item)) (books' : Books) (plan' : (List (Int × Int × Int))) (item' : Int) (day' : Int) : T Int :=
  T.bind (T.req (0 ≤ item' ∧ item' < bill'.length) (T.ret ((ix bill' item').lead, (ix bill' item').good))) fun s2 =>
    T.bind (T.bind (t_supplied books' item' day') fun p3 => T.bind (t_started plan' item' (day' - s2.1)) fun p4 => T.req ((-1000000000 ≤ s2.2 ∧ s2.2 ≤ 1000000000) ∨ (-1000000000 ≤ p4 ∧ p4 ≤ 1000000000)) (T.ret (p3 + (s2.2 * p4)))) fun s6 =>
    T.bind (T.bind (t_ordered books' item' day') fun p7 => T.ret p7) fun s8 =>
    T.bind (T.bind (t_used_by bill' item') fun p9 => T.forL (fun (s10 : Int) (x11 : (Int × Int)) =>
    T.bind (T.req (0 ≤ x11.1 ∧ x11.1 < bill'.length) (T.req ((-1000000000 ≤ x11.2 ∧ x11.2 ≤ 1000000000) ∨ (-1000000000 ≤ (ix bill' x11.1).lot ∧ (ix bill' x11.1).lot ≤ 1000000000)) (T.bind (t_started plan' x11.1 day') fun p14 => T.req ((-1000000000 ≤ (x11.2 * (ix bill' x11.1).lot) ∧ (x11.2 * (ix bill' x11.1).lot) ≤ 1000000000) ∨ (-1000000000 ≤ p14 ∧ p14 ≤ 1000000000)) (T.ret (s10 + ((x11.2 * (ix bill' x11.1).lot) * p14)))))) fun s16 => T.ret s16) p9 s8) fun s10 =>
    T.ret (s6 - s10)
abbrev q_balance (bill' : (List Item)) (books' : Books) (plan' : (List (Int × Int × Int))) (item' : Int) (day' : Int) : Int → Prop := fun z => f_balance [.shr (e_VItem bill'), .shr (e_Books books'), .shr (e_VT3iii plan'), .shr (D.int item'), .shr (D.int day')] = ((fun (z : Int) => FRes.ok (.d (D.int z)) [.un, .un, .un, .un, .un] : Int → FRes)) z
theorem v_balance (bill' : (List Item)) (books' : Books) (plan' : (List (Int × Int × Int))) (item' : Int) (day' : Int) : J (t_balance bill' books' plan' item' day') (q_balance bill' books' plan' item' day') :=
  v_fn (as := [.shr (e_VItem bill'), .shr (e_Books books'), .shr (e_VT3iii plan'), .shr (D.int item'), .shr (D.int day')]) (R' := fun (z : Int) => FRes.ok (.d (D.int z)) [.un, .un, .un, .un, .un]) f_balance_eq rfl (js_seq (E := fun (s2 : (Int × Int)) => [.shr (e_VItem bill'), .shr (e_Books books'), .shr (e_VT3iii plan'), .shr (D.int item'), .shr (D.int day'), .un, .un, .shr (D.int s2.1), .un, .shr (D.int s2.2), .un, .un, .un, .un]) (js_req fun hc1 => (js_st (E := fun (s2 : (Int × Int)) => [.shr (e_VItem bill'), .shr (e_Books books'), .shr (e_VT3iii plan'), .shr (D.int item'), .shr (D.int day'), .un, .un, .shr (D.int s2.1), .un, .shr (D.int s2.2), .un, .un, .un, .un]) (st_kl (st_asg (e_ixT (e := e_Item) (xs := bill') (e_nm_s rfl) (e_nm_s rfl) hc1) rfl) rfl) rfl)) fun s2 =>
    (js_seq (E := fun (s6 : Int) => [.shr (e_VItem bill'), .shr (e_Books books'), .shr (e_VT3iii plan'), .shr (D.int item'), .shr (D.int day'), .un, .un, .un, .un, .un, .shr (D.int s6), .un, .un, .un]) (js_bind (v_supplied books' item' day') fun p3 hp3 => (js_bind (v_started plan' item' (day' - s2.1)) fun p4 hp4 => (js_req fun hc5 => (js_st (E := fun (s6 : Int) => [.shr (e_VItem bill'), .shr (e_Books books'), .shr (e_VT3iii plan'), .shr (D.int item'), .shr (D.int day'), .un, .un, .un, .un, .un, .shr (D.int s6), .un, .un, .un]) (st_kl (st_set (e_addI (e_call (e_argBv (e_fz_s rfl) (e_argBv (e_fz_s rfl) (e_argBv (e_fz_s rfl) e_argB0 rfl) rfl) rfl) (e_lendr rfl (e_lendr rfl (e_lendr rfl e_lend0))) hp3 rfl) (e_mulI (e_nm_s rfl) (e_call (e_argBv (e_fz_s rfl) (e_argBv (e_fz_s rfl) (e_argBv (e_subI (e_nm_s rfl) (e_nm_s rfl)) e_argB0 rfl) rfl) rfl) (e_lendr rfl (e_lendr rfl (e_lendr rfl e_lend0))) hp4 rfl) hc5)) rfl rfl) rfl) rfl)))) fun s6 =>
    (js_seq (E := fun (s8 : Int) => [.shr (e_VItem bill'), .un, .shr (e_VT3iii plan'), .shr (D.int item'), .shr (D.int day'), .un, .un, .un, .un, .un, .shr (D.int s6), .shr (D.int s8), .un, .un]) (js_bind (v_ordered books' item' day') fun p7 hp7 => (js_st (E := fun (s8 : Int) => [.shr (e_VItem bill'), .un, .shr (e_VT3iii plan'), .shr (D.int item'), .shr (D.int day'), .un, .un, .un, .un, .un, .shr (D.int s6), .shr (D.int s8), .un, .un]) (st_kl (st_set (e_call (e_argBv (e_fz_s rfl) (e_argBv (e_fz_s rfl) (e_argBv (e_fz_s rfl) e_argB0 rfl) rfl) rfl) (e_lendr rfl (e_lendr rfl (e_lendr rfl e_lend0))) hp7 rfl) rfl rfl) rfl) rfl)) fun s8 =>
    (js_seq (E := fun (s10 : Int) => [.un, .un, .un, .un, .un, .un, .un, .un, .un, .un, .shr (D.int s6), .shr (D.int s10), .un, .un]) (js_klN (E := fun (s10 : Int) => [.shr (e_VItem bill'), .un, .shr (e_VT3iii plan'), .shr (D.int item'), .shr (D.int day'), .un, .un, .un, .un, .un, .shr (D.int s6), .shr (D.int s10), .un, .un]) (js_bind (v_used_by bill' item') fun p9 hp9 => (js_forL (e := e_T2ii) (xs := p9) (E := fun (s10 : Int) => [.shr (e_VItem bill'), .un, .shr (e_VT3iii plan'), .shr (D.int item'), .shr (D.int day'), .un, .un, .un, .un, .un, .shr (D.int s6), .shr (D.int s10), .un, .un]) (fun s10 x11 => [.shr (e_VItem bill'), .un, .shr (e_VT3iii plan'), .shr (D.int item'), .shr (D.int day'), .un, .un, .un, .un, .un, .shr (D.int s6), .shr (D.int s10), .shr (D.int x11.1), .shr (D.int x11.2)]) (e_it (e_call (e_argBv (e_fz_s rfl) (e_argBv (e_fz_s rfl) e_argB0 rfl) rfl) (e_lendr rfl (e_lendr rfl e_lend0)) hp9 rfl) (its_O (e := e_T2ii) (xs := p9))) rfl (fun _ _ => rfl) (fun s10 x11 =>
    (js_last (E1 := fun (s16 : Int) => [.shr (e_VItem bill'), .un, .shr (e_VT3iii plan'), .shr (D.int item'), .shr (D.int day'), .un, .un, .un, .un, .un, .shr (D.int s6), .shr (D.int s16), .un, .un]) (js_req fun hc12 => (js_req fun hc13 => (js_bind (v_started plan' x11.1 day') fun p14 hp14 => (js_req fun hc15 => (js_st (E := fun (s16 : Int) => [.shr (e_VItem bill'), .un, .shr (e_VT3iii plan'), .shr (D.int item'), .shr (D.int day'), .un, .un, .un, .un, .un, .shr (D.int s6), .shr (D.int s16), .un, .un]) (st_kl (st_augI rfl (e_mulI (e_mulI (e_nm_s rfl) (e_tF 3 (e_ixT (e := e_Item) (xs := bill') (e_nm_s rfl) (e_nm_s rfl) hc12) rfl rfl) hc13) (e_call (e_argBv (e_fz_s rfl) (e_argBv (e_fz_s rfl) (e_argBv (e_fz_s rfl) e_argB0 rfl) rfl) rfl) (e_lendr rfl (e_lendr rfl (e_lendr rfl e_lend0))) hp14 rfl) hc15) rfl) rfl) rfl))))) fun _ => rfl)))) (fun _ => rfl)) fun s10 =>
    (js_rt (e_subI (e_nm_s rfl) (e_nm_s rfl)) rfl rfl)))))

noncomputable def t__law_balance (bill' : (List Item)) (books' : Books) (plan' : (List (Int × Int × Int))) (item' : Int) (day' : Int) : T Int :=
  T.bind (T.bind (t__law_supplied books' item' day') fun p1 => T.bind (t__law_ordered books' item' day') fun p2 => T.ret (p1 - p2)) fun s3 =>
    T.bind (T.req (0 ≤ item' ∧ item' < bill'.length) (T.req (0 ≤ item' ∧ item' < bill'.length) (T.bind (t__law_started plan' item' (day' - (ix bill' item').lead)) fun p6 => T.req ((-1000000000 ≤ (ix bill' item').good ∧ (ix bill' item').good ≤ 1000000000) ∨ (-1000000000 ≤ p6 ∧ p6 ≤ 1000000000)) (T.ret (s3 + ((ix bill' item').good * p6)))))) fun s8 =>
    T.bind (T.req (-1000000 ≤ (bill'.length : Int) ∧ (bill'.length : Int) ≤ 1000000) (T.forL (fun (s10 : Int) (x11 : Int) =>
    T.bind (T.req (0 ≤ x11 ∧ x11 < bill'.length) (T.forL (fun (s13 : Int) (x14 : (Int × Int)) =>
    T.bind (if (decide (x14.1 = item')) = true then T.bind (T.req (0 ≤ x11 ∧ x11 < bill'.length) (T.req ((-1000000000 ≤ x14.2 ∧ x14.2 ≤ 1000000000) ∨ (-1000000000 ≤ (ix bill' x11).lot ∧ (ix bill' x11).lot ≤ 1000000000)) (T.bind (t__law_started plan' x11 day') fun p17 => T.req ((-1000000000 ≤ (x14.2 * (ix bill' x11).lot) ∧ (x14.2 * (ix bill' x11).lot) ≤ 1000000000) ∨ (-1000000000 ≤ p17 ∧ p17 ≤ 1000000000)) (T.ret (s13 - ((x14.2 * (ix bill' x11).lot) * p17)))))) fun s19 => T.ret s19 else T.ret s13) fun s20 => T.ret s20) ((ix bill' x11).parts) s10)) fun s13 => T.ret s13) (rng (bill'.length : Int)) s8)) fun s10 =>
    T.ret s10
abbrev q__law_balance (bill' : (List Item)) (books' : Books) (plan' : (List (Int × Int × Int))) (item' : Int) (day' : Int) : Int → Prop := fun z => f__law_balance [.shr (e_VItem bill'), .shr (e_Books books'), .shr (e_VT3iii plan'), .shr (D.int item'), .shr (D.int day')] = ((fun (z : Int) => FRes.ok (.d (D.int z)) [.un, .un, .un, .un, .un] : Int → FRes)) z
theorem v__law_balance (bill' : (List Item)) (books' : Books) (plan' : (List (Int × Int × Int))) (item' : Int) (day' : Int) : J (t__law_balance bill' books' plan' item' day') (q__law_balance bill' books' plan' item' day') :=
  v_fn (as := [.shr (e_VItem bill'), .shr (e_Books books'), .shr (e_VT3iii plan'), .shr (D.int item'), .shr (D.int day')]) (R' := fun (z : Int) => FRes.ok (.d (D.int z)) [.un, .un, .un, .un, .un]) f__law_balance_eq rfl (js_seq (E := fun (s3 : Int) => [.shr (e_VItem bill'), .un, .shr (e_VT3iii plan'), .shr (D.int item'), .shr (D.int day'), .shr (D.int s3), .un, .un]) (js_bind (v__law_supplied books' item' day') fun p1 hp1 => (js_bind (v__law_ordered books' item' day') fun p2 hp2 => (js_st (E := fun (s3 : Int) => [.shr (e_VItem bill'), .un, .shr (e_VT3iii plan'), .shr (D.int item'), .shr (D.int day'), .shr (D.int s3), .un, .un]) (st_kl (st_set (e_subI (e_call (e_argBv (e_fz_s rfl) (e_argBv (e_fz_s rfl) (e_argBv (e_fz_s rfl) e_argB0 rfl) rfl) rfl) (e_lendr rfl (e_lendr rfl (e_lendr rfl e_lend0))) hp1 rfl) (e_call (e_argBv (e_fz_s rfl) (e_argBv (e_fz_s rfl) (e_argBv (e_fz_s rfl) e_argB0 rfl) rfl) rfl) (e_lendr rfl (e_lendr rfl (e_lendr rfl e_lend0))) hp2 rfl)) rfl rfl) rfl) rfl))) fun s3 =>
    (js_seq (E := fun (s8 : Int) => [.shr (e_VItem bill'), .un, .shr (e_VT3iii plan'), .shr (D.int item'), .shr (D.int day'), .shr (D.int s8), .un, .un]) (js_req fun hc4 => (js_req fun hc5 => (js_bind (v__law_started plan' item' (day' - (ix bill' item').lead)) fun p6 hp6 => (js_req fun hc7 => (js_st (E := fun (s8 : Int) => [.shr (e_VItem bill'), .un, .shr (e_VT3iii plan'), .shr (D.int item'), .shr (D.int day'), .shr (D.int s8), .un, .un]) (st_set (e_addI (e_nm_s rfl) (e_mulI (e_tF 4 (e_ixT (e := e_Item) (xs := bill') (e_nm_s rfl) (e_nm_s rfl) hc4) rfl rfl) (e_call (e_argBv (e_fz_s rfl) (e_argBv (e_fz_s rfl) (e_argBv (e_subI (e_nm_s rfl) (e_tF 2 (e_ixT (e := e_Item) (xs := bill') (e_nm_s rfl) (e_nm_s rfl) hc5) rfl rfl)) e_argB0 rfl) rfl) rfl) (e_lendr rfl (e_lendr rfl (e_lendr rfl e_lend0))) hp6 rfl) hc7)) rfl rfl) rfl))))) fun s8 =>
    (js_seq (E := fun (s10 : Int) => [.un, .un, .un, .un, .un, .shr (D.int s10), .un, .un]) (js_klN (E := fun (s10 : Int) => [.shr (e_VItem bill'), .un, .shr (e_VT3iii plan'), .shr (D.int item'), .shr (D.int day'), .shr (D.int s10), .un, .un]) (js_req fun hc9 => (js_forL (e := D.int) (xs := (rng (bill'.length : Int))) (E := fun (s10 : Int) => [.shr (e_VItem bill'), .un, .shr (e_VT3iii plan'), .shr (D.int item'), .shr (D.int day'), .shr (D.int s10), .un, .un]) (fun s10 x11 => [.shr (e_VItem bill'), .un, .shr (e_VT3iii plan'), .shr (D.int item'), .shr (D.int day'), .shr (D.int s10), .shr (D.int x11), .un]) (e_rg1 (e_lenT (e := e_Item) (xs := bill') (e_nm_s rfl)) hc9) rfl (fun _ _ => rfl) (fun s10 x11 =>
    (js_last (E1 := fun (s13 : Int) => [.shr (e_VItem bill'), .un, .shr (e_VT3iii plan'), .shr (D.int item'), .shr (D.int day'), .shr (D.int s13), .un, .un]) (js_klN (E := fun (s13 : Int) => [.shr (e_VItem bill'), .un, .shr (e_VT3iii plan'), .shr (D.int item'), .shr (D.int day'), .shr (D.int s13), .shr (D.int x11), .un]) (js_req fun hc12 => (js_forL (e := e_T2ii) (xs := (ix bill' x11).parts) (E := fun (s13 : Int) => [.shr (e_VItem bill'), .un, .shr (e_VT3iii plan'), .shr (D.int item'), .shr (D.int day'), .shr (D.int s13), .shr (D.int x11), .un]) (fun s13 x14 => [.shr (e_VItem bill'), .un, .shr (e_VT3iii plan'), .shr (D.int item'), .shr (D.int day'), .shr (D.int s13), .shr (D.int x11), .shr (e_T2ii x14)]) (e_it (e_tF 1 (e_ixT (e := e_Item) (xs := bill') (e_nm_s rfl) (e_nm_s rfl) hc12) rfl rfl) rfl) rfl (fun _ _ => rfl) (fun s13 x14 =>
    (js_last (E1 := fun (s20 : Int) => [.shr (e_VItem bill'), .un, .shr (e_VT3iii plan'), .shr (D.int item'), .shr (D.int day'), .shr (D.int s20), .shr (D.int x11), .un]) (js_if (e_test (e_eqI (e_tF 0 (e_nm_s rfl) rfl rfl) (e_nm_s rfl))) (js_last (E1 := fun (s19 : Int) => [.shr (e_VItem bill'), .un, .shr (e_VT3iii plan'), .shr (D.int item'), .shr (D.int day'), .shr (D.int s19), .shr (D.int x11), .un]) (js_req fun hc15 => (js_req fun hc16 => (js_bind (v__law_started plan' x11 day') fun p17 hp17 => (js_req fun hc18 => (js_st (E := fun (s19 : Int) => [.shr (e_VItem bill'), .un, .shr (e_VT3iii plan'), .shr (D.int item'), .shr (D.int day'), .shr (D.int s19), .shr (D.int x11), .un]) (st_kl (st_set (e_subI (e_nm_s rfl) (e_mulI (e_mulI (e_tF 1 (e_nm_s rfl) rfl rfl) (e_tF 3 (e_ixT (e := e_Item) (xs := bill') (e_nm_s rfl) (e_nm_s rfl) hc15) rfl rfl) hc16) (e_call (e_argBv (e_fz_s rfl) (e_argBv (e_fz_s rfl) (e_argBv (e_fz_s rfl) e_argB0 rfl) rfl) rfl) (e_lendr rfl (e_lendr rfl (e_lendr rfl e_lend0))) hp17 rfl) hc18)) rfl rfl) rfl) rfl))))) fun _ => rfl) (fun _ => rfl)) fun _ => rfl)))) (fun _ => rfl)) fun _ => rfl)))) (fun _ => rfl)) fun s10 =>
    (js_rt (e_mv_s rfl) rfl rfl))))

noncomputable def t__law_shortages (bill' : (List Item)) (books' : Books) (plan' : (List (Int × Int × Int))) : T (List (Int × Int × Int)) :=
  T.bind (T.ret ([] : (List (Int × Int × Int)))) fun s1 =>
    T.bind (T.bind (t__law_last bill' books' plan') fun p2 => T.req (-1000000 ≤ books'.today ∧ books'.today ≤ 1000000) (T.req (-1000000 ≤ (p2 + 1) ∧ (p2 + 1) ≤ 1000000) (T.forL (fun (s5 : (List (Int × Int × Int))) (x6 : Int) =>
    T.bind (T.req (-1000000 ≤ (bill'.length : Int) ∧ (bill'.length : Int) ≤ 1000000) (T.forL (fun (s8 : (List (Int × Int × Int))) (x9 : Int) =>
    T.bind (T.bind (t__law_balance bill' books' plan' x9 x6) fun p10 => T.ret p10) fun s11 =>
    T.bind (T.req ((decide (s11 < 0)) = true → ((decide (x6 = books'.today)) = false → (t__law_balance bill' books' plan' x9 (x6 - 1)).ok)) (if ((decide (s11 < 0)) && ((decide (x6 = books'.today)) || (decide (0 ≤ (t__law_balance bill' books' plan' x9 (x6 - 1)).val)))) = true then T.bind (T.req (s8.length < 1000000) (T.ret (s8 ++ [(x6, x9, (0 - s11))]))) fun s16 => T.ret s16 else T.ret s8)) fun s17 => T.ret s17) (rng (bill'.length : Int)) s5)) fun s8 => T.ret s8) (rng2 books'.today (p2 + 1)) s1))) fun s5 =>
    T.ret s5
abbrev q__law_shortages (bill' : (List Item)) (books' : Books) (plan' : (List (Int × Int × Int))) : (List (Int × Int × Int)) → Prop := fun z => f__law_shortages [.shr (e_VItem bill'), .shr (e_Books books'), .shr (e_VT3iii plan')] = ((fun (z : (List (Int × Int × Int))) => FRes.ok (.own (O.l (List.map e_T3iii z))) [.un, .un, .un] : (List (Int × Int × Int)) → FRes)) z
theorem v__law_shortages (bill' : (List Item)) (books' : Books) (plan' : (List (Int × Int × Int))) : J (t__law_shortages bill' books' plan') (q__law_shortages bill' books' plan') :=
  v_fn (as := [.shr (e_VItem bill'), .shr (e_Books books'), .shr (e_VT3iii plan')]) (R' := fun (z : (List (Int × Int × Int))) => FRes.ok (.own (O.l (List.map e_T3iii z))) [.un, .un, .un]) f__law_shortages_eq rfl (js_seq (E := fun (s1 : (List (Int × Int × Int))) => [.shr (e_VItem bill'), .shr (e_Books books'), .shr (e_VT3iii plan'), .mu false (O.l (List.map e_T3iii s1)), .un, .un, .un]) (js_st (E := fun (s1 : (List (Int × Int × Int))) => [.shr (e_VItem bill'), .shr (e_Books books'), .shr (e_VT3iii plan'), .mu false (O.l (List.map e_T3iii s1)), .un, .un, .un]) (st_set (e_cast (r' := .own (O.l (List.map e_T3iii ([] : (List (Int × Int × Int)))))) (e_lst e_args0 e_sts0 (Nat.le_of_ble_eq_true rfl)) rfl) rfl rfl) rfl) fun s1 =>
    (js_seq (E := fun (s5 : (List (Int × Int × Int))) => [.un, .un, .un, .mu false (O.l (List.map e_T3iii s5)), .un, .un, .un]) (js_klN (E := fun (s5 : (List (Int × Int × Int))) => [.shr (e_VItem bill'), .shr (e_Books books'), .shr (e_VT3iii plan'), .mu false (O.l (List.map e_T3iii s5)), .un, .un, .un]) (js_bind (v__law_last bill' books' plan') fun p2 hp2 => (js_req fun hc3 => (js_req fun hc4 => (js_forL (e := D.int) (xs := (rng2 books'.today (p2 + 1))) (E := fun (s5 : (List (Int × Int × Int))) => [.shr (e_VItem bill'), .shr (e_Books books'), .shr (e_VT3iii plan'), .mu false (O.l (List.map e_T3iii s5)), .un, .un, .un]) (fun s5 x6 => [.shr (e_VItem bill'), .shr (e_Books books'), .shr (e_VT3iii plan'), .mu false (O.l (List.map e_T3iii s5)), .shr (D.int x6), .un, .un]) (e_rg2 (e_tF 0 (e_nm_s rfl) rfl rfl) (e_addI (e_call (e_argBv (e_fz_s rfl) (e_argBv (e_fz_s rfl) (e_argBv (e_fz_s rfl) e_argB0 rfl) rfl) rfl) (e_lendr rfl (e_lendr rfl (e_lendr rfl e_lend0))) hp2 rfl) e_C) hc3 hc4) rfl (fun _ _ => rfl) (fun s5 x6 =>
    (js_last (E1 := fun (s8 : (List (Int × Int × Int))) => [.shr (e_VItem bill'), .shr (e_Books books'), .shr (e_VT3iii plan'), .mu false (O.l (List.map e_T3iii s8)), .un, .un, .un]) (js_klN (E := fun (s8 : (List (Int × Int × Int))) => [.shr (e_VItem bill'), .shr (e_Books books'), .shr (e_VT3iii plan'), .mu false (O.l (List.map e_T3iii s8)), .shr (D.int x6), .un, .un]) (js_req fun hc7 => (js_forL (e := D.int) (xs := (rng (bill'.length : Int))) (E := fun (s8 : (List (Int × Int × Int))) => [.shr (e_VItem bill'), .shr (e_Books books'), .shr (e_VT3iii plan'), .mu false (O.l (List.map e_T3iii s8)), .shr (D.int x6), .un, .un]) (fun s8 x9 => [.shr (e_VItem bill'), .shr (e_Books books'), .shr (e_VT3iii plan'), .mu false (O.l (List.map e_T3iii s8)), .shr (D.int x6), .shr (D.int x9), .un]) (e_rg1 (e_lenT (e := e_Item) (xs := bill') (e_nm_s rfl)) hc7) rfl (fun _ _ => rfl) (fun s8 x9 =>
    (js_seq (E := fun (s11 : Int) => [.shr (e_VItem bill'), .shr (e_Books books'), .shr (e_VT3iii plan'), .mu false (O.l (List.map e_T3iii s8)), .shr (D.int x6), .shr (D.int x9), .shr (D.int s11)]) (js_bind (v__law_balance bill' books' plan' x9 x6) fun p10 hp10 => (js_st (E := fun (s11 : Int) => [.shr (e_VItem bill'), .shr (e_Books books'), .shr (e_VT3iii plan'), .mu false (O.l (List.map e_T3iii s8)), .shr (D.int x6), .shr (D.int x9), .shr (D.int s11)]) (st_set (e_call (e_argBv (e_fz_s rfl) (e_argBv (e_fz_s rfl) (e_argBv (e_fz_s rfl) (e_argBv (e_fz_s rfl) (e_argBv (e_fz_s rfl) e_argB0 rfl) rfl) rfl) rfl) rfl) (e_lendr rfl (e_lendr rfl (e_lendr rfl (e_lendr rfl (e_lendr rfl e_lend0))))) hp10 rfl) rfl rfl) rfl)) fun s11 =>
    (js_last (E1 := fun (s17 : (List (Int × Int × Int))) => [.shr (e_VItem bill'), .shr (e_Books books'), .shr (e_VT3iii plan'), .mu false (O.l (List.map e_T3iii s17)), .shr (D.int x6), .un, .un]) (js_req fun hc14 => (js_if (e_and (e_test (e_lt (e_nm_s rfl) e_C)) fun g12 => (e_or (e_test (e_eqI (e_nm_s rfl) (e_tF 0 (e_nm_s rfl) rfl rfl))) fun g13 => (e_test (e_ge (e_call (e_argBv (e_fz_s rfl) (e_argBv (e_fz_s rfl) (e_argBv (e_fz_s rfl) (e_argBv (e_fz_s rfl) (e_argBv (e_subI (e_nm_s rfl) e_C) e_argB0 rfl) rfl) rfl) rfl) rfl) (e_lendr rfl (e_lendr rfl (e_lendr rfl (e_lendr rfl (e_lendr rfl e_lend0))))) ((v__law_balance bill' books' plan' x9 (x6 - 1)) (hc14 g12 g13)) rfl) e_C)))) (js_last (E1 := fun (s16 : (List (Int × Int × Int))) => [.shr (e_VItem bill'), .shr (e_Books books'), .shr (e_VT3iii plan'), .mu false (O.l (List.map e_T3iii s16)), .shr (D.int x6), .un, .un]) (js_req fun hc15 => (js_st (E := fun (s16 : (List (Int × Int × Int))) => [.shr (e_VItem bill'), .shr (e_Books books'), .shr (e_VT3iii plan'), .mu false (O.l (List.map e_T3iii s16)), .shr (D.int x6), .un, .un]) (st_kl (st_drop (e_app (e := e_T3iii) (xs := s8) (z := (x6, x9, (0 - s11))) rfl (e_cast (r' := .d (e_T3iii (x6, x9, (0 - s11)))) (e_tup (e_args (e_fz_s rfl) (e_args (e_fz_s rfl) (e_args (e_subI e_C (e_nm_s rfl)) e_args0 rfl) rfl) rfl) (e_sts rfl (e_sts rfl (e_sts rfl e_sts0))) (Nat.le_of_ble_eq_true rfl)) rfl) rfl rfl hc15)) rfl) rfl)) fun _ => rfl) (fun _ => rfl))) fun _ => rfl))))) (fun _ => rfl)) fun _ => rfl)))))) (fun _ => rfl)) fun s5 =>
    (js_rt (e_mv_m rfl) rfl rfl)))

noncomputable def t_shortages (bill' : (List Item)) (books' : Books) (plan' : (List (Int × Int × Int))) : T (List (Int × Int × Int)) :=
  T.bind (T.ret ([] : (List (Int × Int × Int)))) fun s1 =>
    T.bind (T.bind (t_last_day bill' books' plan') fun p2 => T.req (-1000000 ≤ books'.today ∧ books'.today ≤ 1000000) (T.req (-1000000 ≤ (p2 + 1) ∧ (p2 + 1) ≤ 1000000) (T.forL (fun (s5 : (List (Int × Int × Int))) (x6 : Int) =>
    T.bind (T.req (-1000000 ≤ (bill'.length : Int) ∧ (bill'.length : Int) ≤ 1000000) (T.forL (fun (s8 : (List (Int × Int × Int))) (x9 : Int) =>
    T.bind (T.bind (t_balance bill' books' plan' x9 x6) fun p10 => T.ret p10) fun s11 =>
    T.bind (T.req ((decide (s11 < 0)) = true → ((decide (x6 = books'.today)) = false → (t_balance bill' books' plan' x9 (x6 - 1)).ok)) (if ((decide (s11 < 0)) && ((decide (x6 = books'.today)) || (decide (0 ≤ (t_balance bill' books' plan' x9 (x6 - 1)).val)))) = true then T.bind (T.req (s8.length < 1000000) (T.ret (s8 ++ [(x6, x9, -s11)]))) fun s16 => T.ret s16 else T.ret s8)) fun s17 => T.ret s17) (rng (bill'.length : Int)) s5)) fun s8 => T.ret s8) (rng2 books'.today (p2 + 1)) s1))) fun s5 =>
    T.ret s5
abbrev q_shortages (bill' : (List Item)) (books' : Books) (plan' : (List (Int × Int × Int))) : (List (Int × Int × Int)) → Prop := fun z => f_shortages [.shr (e_VItem bill'), .shr (e_Books books'), .shr (e_VT3iii plan')] = ((fun (z : (List (Int × Int × Int))) => FRes.ok (.own (O.l (List.map e_T3iii z))) [.un, .un, .un] : (List (Int × Int × Int)) → FRes)) z
theorem v_shortages (bill' : (List Item)) (books' : Books) (plan' : (List (Int × Int × Int))) : J (t_shortages bill' books' plan') (q_shortages bill' books' plan') :=
  v_fn (as := [.shr (e_VItem bill'), .shr (e_Books books'), .shr (e_VT3iii plan')]) (R' := fun (z : (List (Int × Int × Int))) => FRes.ok (.own (O.l (List.map e_T3iii z))) [.un, .un, .un]) f_shortages_eq rfl (js_seq (E := fun (s1 : (List (Int × Int × Int))) => [.shr (e_VItem bill'), .shr (e_Books books'), .shr (e_VT3iii plan'), .mu false (O.l (List.map e_T3iii s1)), .un, .un, .un]) (js_st (E := fun (s1 : (List (Int × Int × Int))) => [.shr (e_VItem bill'), .shr (e_Books books'), .shr (e_VT3iii plan'), .mu false (O.l (List.map e_T3iii s1)), .un, .un, .un]) (st_set (e_cast (r' := .own (O.l (List.map e_T3iii ([] : (List (Int × Int × Int)))))) (e_lst e_args0 e_sts0 (Nat.le_of_ble_eq_true rfl)) rfl) rfl rfl) rfl) fun s1 =>
    (js_seq (E := fun (s5 : (List (Int × Int × Int))) => [.un, .un, .un, .mu false (O.l (List.map e_T3iii s5)), .un, .un, .un]) (js_klN (E := fun (s5 : (List (Int × Int × Int))) => [.shr (e_VItem bill'), .shr (e_Books books'), .shr (e_VT3iii plan'), .mu false (O.l (List.map e_T3iii s5)), .un, .un, .un]) (js_bind (v_last_day bill' books' plan') fun p2 hp2 => (js_req fun hc3 => (js_req fun hc4 => (js_forL (e := D.int) (xs := (rng2 books'.today (p2 + 1))) (E := fun (s5 : (List (Int × Int × Int))) => [.shr (e_VItem bill'), .shr (e_Books books'), .shr (e_VT3iii plan'), .mu false (O.l (List.map e_T3iii s5)), .un, .un, .un]) (fun s5 x6 => [.shr (e_VItem bill'), .shr (e_Books books'), .shr (e_VT3iii plan'), .mu false (O.l (List.map e_T3iii s5)), .shr (D.int x6), .un, .un]) (e_rg2 (e_tF 0 (e_nm_s rfl) rfl rfl) (e_addI (e_call (e_argBv (e_fz_s rfl) (e_argBv (e_fz_s rfl) (e_argBv (e_fz_s rfl) e_argB0 rfl) rfl) rfl) (e_lendr rfl (e_lendr rfl (e_lendr rfl e_lend0))) hp2 rfl) e_C) hc3 hc4) rfl (fun _ _ => rfl) (fun s5 x6 =>
    (js_last (E1 := fun (s8 : (List (Int × Int × Int))) => [.shr (e_VItem bill'), .shr (e_Books books'), .shr (e_VT3iii plan'), .mu false (O.l (List.map e_T3iii s8)), .un, .un, .un]) (js_klN (E := fun (s8 : (List (Int × Int × Int))) => [.shr (e_VItem bill'), .shr (e_Books books'), .shr (e_VT3iii plan'), .mu false (O.l (List.map e_T3iii s8)), .shr (D.int x6), .un, .un]) (js_req fun hc7 => (js_forL (e := D.int) (xs := (rng (bill'.length : Int))) (E := fun (s8 : (List (Int × Int × Int))) => [.shr (e_VItem bill'), .shr (e_Books books'), .shr (e_VT3iii plan'), .mu false (O.l (List.map e_T3iii s8)), .shr (D.int x6), .un, .un]) (fun s8 x9 => [.shr (e_VItem bill'), .shr (e_Books books'), .shr (e_VT3iii plan'), .mu false (O.l (List.map e_T3iii s8)), .shr (D.int x6), .shr (D.int x9), .un]) (e_rg1 (e_lenT (e := e_Item) (xs := bill') (e_nm_s rfl)) hc7) rfl (fun _ _ => rfl) (fun s8 x9 =>
    (js_seq (E := fun (s11 : Int) => [.shr (e_VItem bill'), .shr (e_Books books'), .shr (e_VT3iii plan'), .mu false (O.l (List.map e_T3iii s8)), .shr (D.int x6), .shr (D.int x9), .shr (D.int s11)]) (js_bind (v_balance bill' books' plan' x9 x6) fun p10 hp10 => (js_st (E := fun (s11 : Int) => [.shr (e_VItem bill'), .shr (e_Books books'), .shr (e_VT3iii plan'), .mu false (O.l (List.map e_T3iii s8)), .shr (D.int x6), .shr (D.int x9), .shr (D.int s11)]) (st_set (e_call (e_argBv (e_fz_s rfl) (e_argBv (e_fz_s rfl) (e_argBv (e_fz_s rfl) (e_argBv (e_fz_s rfl) (e_argBv (e_fz_s rfl) e_argB0 rfl) rfl) rfl) rfl) rfl) (e_lendr rfl (e_lendr rfl (e_lendr rfl (e_lendr rfl (e_lendr rfl e_lend0))))) hp10 rfl) rfl rfl) rfl)) fun s11 =>
    (js_last (E1 := fun (s17 : (List (Int × Int × Int))) => [.shr (e_VItem bill'), .shr (e_Books books'), .shr (e_VT3iii plan'), .mu false (O.l (List.map e_T3iii s17)), .shr (D.int x6), .un, .un]) (js_req fun hc14 => (js_if (e_and (e_test (e_lt (e_nm_s rfl) e_C)) fun g12 => (e_or (e_test (e_eqI (e_nm_s rfl) (e_tF 0 (e_nm_s rfl) rfl rfl))) fun g13 => (e_test (e_ge (e_call (e_argBv (e_fz_s rfl) (e_argBv (e_fz_s rfl) (e_argBv (e_fz_s rfl) (e_argBv (e_fz_s rfl) (e_argBv (e_subI (e_nm_s rfl) e_C) e_argB0 rfl) rfl) rfl) rfl) rfl) (e_lendr rfl (e_lendr rfl (e_lendr rfl (e_lendr rfl (e_lendr rfl e_lend0))))) ((v_balance bill' books' plan' x9 (x6 - 1)) (hc14 g12 g13)) rfl) e_C)))) (js_last (E1 := fun (s16 : (List (Int × Int × Int))) => [.shr (e_VItem bill'), .shr (e_Books books'), .shr (e_VT3iii plan'), .mu false (O.l (List.map e_T3iii s16)), .shr (D.int x6), .un, .un]) (js_req fun hc15 => (js_st (E := fun (s16 : (List (Int × Int × Int))) => [.shr (e_VItem bill'), .shr (e_Books books'), .shr (e_VT3iii plan'), .mu false (O.l (List.map e_T3iii s16)), .shr (D.int x6), .un, .un]) (st_kl (st_drop (e_app (e := e_T3iii) (xs := s8) (z := (x6, x9, -s11)) rfl (e_cast (r' := .d (e_T3iii (x6, x9, -s11))) (e_tup (e_args (e_fz_s rfl) (e_args (e_fz_s rfl) (e_args (e_negI (e_nm_s rfl)) e_args0 rfl) rfl) rfl) (e_sts rfl (e_sts rfl (e_sts rfl e_sts0))) (Nat.le_of_ble_eq_true rfl)) rfl) rfl rfl hc15)) rfl) rfl)) fun _ => rfl) (fun _ => rfl))) fun _ => rfl))))) (fun _ => rfl)) fun _ => rfl)))))) (fun _ => rfl)) fun s5 =>
    (js_rt (e_mv_m rfl) rfl rfl)))

noncomputable def t_works (bill' : (List Item)) (books' : Books) (plan' : (List (Int × Int × Int))) : T Bool :=
  T.bind (t_shortages bill' books' plan') fun p1 => T.ret (decide ((p1.length : Int) = 0))
abbrev q_works (bill' : (List Item)) (books' : Books) (plan' : (List (Int × Int × Int))) : Bool → Prop := fun z => f_works [.shr (e_VItem bill'), .shr (e_Books books'), .shr (e_VT3iii plan')] = ((fun (z : Bool) => FRes.ok (.d (D.bl z)) [.un, .un, .un] : Bool → FRes)) z
theorem v_works (bill' : (List Item)) (books' : Books) (plan' : (List (Int × Int × Int))) : J (t_works bill' books' plan') (q_works bill' books' plan') :=
  v_fn (as := [.shr (e_VItem bill'), .shr (e_Books books'), .shr (e_VT3iii plan')]) (R' := fun (z : Bool) => FRes.ok (.d (D.bl z)) [.un, .un, .un]) f_works_eq rfl (js_bind (v_shortages bill' books' plan') fun p1 hp1 => (js_rt (e_eqI (e_lenO (e := e_T3iii) (xs := p1) (e_call (e_argBv (e_fz_s rfl) (e_argBv (e_fz_s rfl) (e_argBv (e_fz_s rfl) e_argB0 rfl) rfl) rfl) (e_lendr rfl (e_lendr rfl (e_lendr rfl e_lend0))) hp1 rfl)) e_C) rfl rfl))

end Mw

set_option Elab.async false
set_option linter.all false
set_option maxRecDepth 100000
set_option autoImplicit false
namespace Mw
open PySem PySem.Spec PyProof.Rows L2
/-! ## rules for typed meanings -/
section
variable {α β γ σ τ l : Type}
def Gd (t : T α) (Q : α → Prop) : Prop := t.ok ∧ Q t.val
theorem gd_ret {a : α} {Q : α → Prop} (h : Q a) : Gd (T.ret a) Q := ⟨trivial, h⟩
theorem gd_bind {t : T α} {f : α → T β} {P : α → Prop} {Q : β → Prop} (h : Gd t P) (k : ∀ v, P v → Gd (f v) Q) : Gd (t.bind f) Q := ⟨⟨h.1, (k _ h.2).1⟩, (k _ h.2).2⟩
/-- behind a value that is known -/
theorem gd_let {a : α} {f : α → T β} {Q : β → Prop} (k : Gd (f a) Q) : Gd ((T.ret a).bind f) Q := ⟨⟨trivial, k.1⟩, k.2⟩
theorem gd_eq {t : T α} {f : α → T β} {a : α} {Q : β → Prop} (h : Gd t (· = a)) (k : Gd (f a) Q) : Gd (t.bind f) Q := gd_bind h fun v e => e ▸ k
theorem gd_req {p : Prop} {t : T α} {Q : α → Prop} (h : p) (k : Gd t Q) : Gd (t.req p) Q := ⟨⟨h, k.1⟩, k.2⟩
theorem gd_if {c : Prop} [Decidable c] {a b : T α} {Q : α → Prop} (h1 : c → Gd a Q) (h2 : ¬ c → Gd b Q) : Gd (if c then a else b) Q := by
  by_cases h : c
  · rw [if_pos h]; exact h1 h
  · rw [if_neg h]; exact h2 h
theorem Gd.imp {t : T α} {P Q : α → Prop} (h : Gd t P) (i : ∀ v, P v → Q v) : Gd t Q := ⟨h.1, i _ h.2⟩
theorem Gd.and {t : T α} {P Q : α → Prop} (h : Gd t P) (k : Gd t Q) : Gd t (fun v => P v ∧ Q v) := ⟨h.1, h.2, k.2⟩
theorem gd_ba {t : T α} {f : α → T β} {g : β → T γ} {Q : γ → Prop} (h : Gd (t.bind fun x => (f x).bind g) Q) : Gd ((t.bind f).bind g) Q := ⟨⟨⟨h.1.1, h.1.2.1⟩, h.1.2.2⟩, h.2⟩
theorem gd_br {p : Prop} {t : T α} {f : α → T β} {Q : β → Prop} (h : p) (k : Gd (t.bind f) Q) : Gd ((t.req p).bind f) Q := ⟨⟨⟨h, k.1.1⟩, k.1.2⟩, k.2⟩
/-- loops -/
theorem gd_forL {b : σ → α → T σ} (I : Nat → σ → Prop) : ∀ {xs : List α} {s : σ}, I 0 s → (∀ i x s, xs[i]? = some x → I i s → Gd (b s x) (I (i + 1))) → Gd (T.forL b xs s) (I xs.length) := by
  intro xs
  induction xs generalizing I with
  | nil => intro s h _; exact gd_ret h
  | cons x xs ih =>
    intro s h hs
    refine gd_bind (hs 0 x s rfl h) fun v hv => ?_
    exact ih (fun i => I (i + 1)) hv fun i y s' hy hi => hs (i + 1) y s' (by simpa using hy) hi
theorem gd_forL' {b : σ → α → T σ} {xs : List α} {s : σ} {Q : σ → Prop} (I : Nat → σ → Prop) (h0 : I 0 s) (hs : ∀ i x s, xs[i]? = some x → I i s → Gd (b s x) (I (i + 1))) (hq : ∀ s, I xs.length s → Q s) : Gd (T.forL b xs s) Q := (gd_forL I h0 hs).imp hq
/-- a loop that is a fold -/
theorem gd_fold {b : σ → α → T σ} (f : σ → α → σ) {xs : List α} {s : σ} (P : σ → Prop) (h0 : P s) (hs : ∀ x ∈ xs, ∀ s, P s → Gd (b s x) (· = f s x) ∧ P (f s x)) : Gd (T.forL b xs s) (· = xs.foldl f s) := by
  induction xs generalizing s with
  | nil => exact gd_ret rfl
  | cons x xs ih =>
    have h := hs x (by simp) s h0
    exact gd_eq h.1 (ih h.2 fun y hy => hs y (by simp [hy]))
def CtP (I : σ → Prop) (B : σ → Prop) (R : β → Prop) : Ct σ σ β → Prop
  | .nx s => I s
  | .ct s => I s
  | .bk s => B s
  | .rt r => R r
def CtE (I : σ → Prop) (R : β → Prop) : Ct σ l β → Prop
  | .nx s => I s
  | .rt r => R r
  | _ => False
theorem gd_forC {b : σ → α → T (Ct σ σ β)} {Q : σ → Prop} {R : β → Prop} (I : Nat → σ → Prop) : ∀ {xs : List α} {s : σ}, I 0 s → (∀ i x s, xs[i]? = some x → I i s → Gd (b s x) (CtP (I (i + 1)) Q R)) → (∀ s, I xs.length s → Q s) → Gd (T.forC (l := l) b xs s) (CtE Q R) := by
  intro xs
  induction xs generalizing I with
  | nil => intro s h _ hq; exact gd_ret (hq s h)
  | cons x xs ih =>
    intro s h hs hq
    refine gd_bind (hs 0 x s rfl h) fun v hv => ?_
    cases v with
    | nx s' => exact ih (fun i => I (i + 1)) hv (fun i y s' hy hi => hs (i + 1) y s' (by simpa using hy) hi) hq
    | ct s' => exact ih (fun i => I (i + 1)) hv (fun i y s' hy hi => hs (i + 1) y s' (by simpa using hy) hi) hq
    | bk s' => exact gd_ret hv
    | rt r => exact gd_ret hv
theorem gd_unC {t : T (Ct σ Empty Empty)} {Q : σ → Prop} (h : Gd t (CtE Q fun e => e.elim)) : Gd t.unC Q := by
  refine gd_bind h fun v hv => ?_
  cases v with
  | nx s => exact gd_ret hv
  | ct s => exact s.elim
  | bk s => exact s.elim
  | rt r => exact r.elim
theorem gd_ctl {t : T (Ct σ Empty β)} {k : σ → T β} {I : σ → Prop} {Q : β → Prop} (h : Gd t (CtE I Q)) (hk : ∀ s, I s → Gd (k s) Q) : Gd (t.ctl k) Q := by
  refine gd_bind h fun v hv => ?_
  cases v with
  | nx s => exact hk s hv
  | ct s => exact s.elim
  | bk s => exact s.elim
  | rt r => exact gd_ret hv
theorem gd_ctl' {t : T (Ct σ Empty β)} {k : σ → T β} {c : Ct σ Empty β} {Q : β → Prop} (h : Gd t (· = c)) (hn : ∀ s, c = .nx s → Gd (k s) Q) (hr : ∀ r, c = .rt r → Q r) : Gd (t.ctl k) Q := by
  refine gd_bind h fun v hv => ?_
  subst hv
  cases v with
  | nx s => exact hn s rfl
  | ct s => exact s.elim
  | bk s => exact s.elim
  | rt r => exact gd_ret (hr r rfl)
/-- inside a loop: any outcome -/
theorem gd_ctc {t : T (Ct σ l β)} {k : σ → T (Ct τ l β)} {P : Ct σ l β → Prop} {Q : Ct τ l β → Prop} (h : Gd t P) (hn : ∀ s, P (.nx s) → Gd (k s) Q) (hr : ∀ r, P (.rt r) → Q (.rt r)) (hb : ∀ s, P (.bk s) → Q (.bk s)) (hc : ∀ s, P (.ct s) → Q (.ct s)) : Gd (t.ctc k) Q := by
  refine gd_bind h fun v hv => ?_
  cases v with
  | nx s => exact hn s hv
  | rt r => exact gd_ret (hr r hv)
  | bk s => exact gd_ret (hb s hv)
  | ct s => exact gd_ret (hc s hv)
def CtQ (N : σ → Prop) (B C : l → Prop) (R : β → Prop) : Ct σ l β → Prop
  | .nx s => N s
  | .bk s => B s
  | .ct s => C s
  | .rt r => R r
theorem gd_ctcP {t : T (Ct σ τ β)} {k : σ → T (Ct τ τ β)} {N : σ → Prop} {I B : τ → Prop} {R : β → Prop} (h : Gd t (CtQ N B I R)) (hn : ∀ s, N s → Gd (k s) (CtP I B R)) : Gd (t.ctc k) (CtP I B R) :=
  gd_ctc h hn (fun _ h => h) (fun _ h => h) (fun _ h => h)
/-- while, by a measure -/
theorem gd_whM {c : σ → T Bool} {b : σ → T σ} {I Q : σ → Prop} (μ : σ → Nat) (hc : ∀ s, I s → (c s).ok) (hb : ∀ s, I s → (c s).val = true → Gd (b s) (fun s' => I s' ∧ μ s' < μ s)) (hq : ∀ s, I s → (c s).val = false → Q s) : ∀ (n : Nat) (s : σ), I s → μ s < n → Gd (T.whM c b n s) Q := by
  intro n
  induction n with
  | zero => intro s _ h; omega
  | succ n ih =>
    intro s hi hn
    refine gd_bind (P := fun v => v = (c s).val) ⟨hc s hi, rfl⟩ fun v hv => ?_
    subst hv
    by_cases h : (c s).val = true
    · rw [if_pos h]
      exact gd_bind (hb s hi h) fun s' hs' => ih s' hs'.1 (by omega)
    · rw [if_neg h]; exact gd_ret (hq s hi (by simpa using h))
theorem gd_whL {c : σ → T Bool} {b : σ → T σ} {I Q : σ → Prop} {s : σ} (μ : σ → Nat) (h0 : I s) (hμ : μ s ≤ 100000000) (hc : ∀ s, I s → (c s).ok) (hb : ∀ s, I s → (c s).val = true → Gd (b s) (fun s' => I s' ∧ μ s' < μ s)) (hq : ∀ s, I s → (c s).val = false → Q s) : Gd (T.whL c b s) Q :=
  gd_whM μ hc hb hq _ _ h0 (by rw [T.fuel_eq]; omega)
theorem gd_whN {c : σ → T Bool} {b : σ → T (Ct σ σ β)} {I Q : σ → Prop} {R : β → Prop} (μ : σ → Nat) (hc : ∀ s, I s → (c s).ok) (hb : ∀ s, I s → (c s).val = true → Gd (b s) (CtP (fun s' => I s' ∧ μ s' < μ s) Q R)) (hq : ∀ s, I s → (c s).val = false → Q s) : ∀ (n : Nat) (s : σ), I s → μ s < n → Gd (T.whN (l := l) c b n s) (CtE Q R) := by
  intro n
  induction n with
  | zero => intro s _ h; omega
  | succ n ih =>
    intro s hi hn
    refine gd_bind (P := fun v => v = (c s).val) ⟨hc s hi, rfl⟩ fun v hv => ?_
    subst hv
    by_cases h : (c s).val = true
    · rw [if_pos h]
      refine gd_bind (hb s hi h) fun v hv => ?_
      cases v with
      | nx s' => exact ih s' hv.1 (by have := hv.2; omega)
      | ct s' => exact ih s' hv.1 (by have := hv.2; omega)
      | bk s' => exact gd_ret hv
      | rt r => exact gd_ret hv
    · rw [if_neg h]; exact gd_ret (hq s hi (by simpa using h))
theorem gd_whC {c : σ → T Bool} {b : σ → T (Ct σ σ β)} {I Q : σ → Prop} {R : β → Prop} {s : σ} (μ : σ → Nat) (h0 : I s) (hμ : μ s ≤ 100000000) (hc : ∀ s, I s → (c s).ok) (hb : ∀ s, I s → (c s).val = true → Gd (b s) (CtP (fun s' => I s' ∧ μ s' < μ s) Q R)) (hq : ∀ s, I s → (c s).val = false → Q s) : Gd (T.whC (l := l) c b s) (CtE Q R) :=
  gd_whN μ hc hb hq _ _ h0 (by rw [T.fuel_eq]; omega)
/-- comprehensions -/
theorem lcP_good {c : α → T Bool} {f : α → T β} (xs : List α) (hc : ∀ x ∈ xs, (c x).ok) (hf : ∀ x ∈ xs, (c x).val = true → (f x).ok) : T.lcP c f xs = ⟨(xs.filter fun x => (c x).val).map fun x => (f x).val, (T.lcP c f xs).ok⟩ ∧ (T.lcP c f xs).ok := by
  induction xs with
  | nil => exact ⟨rfl, trivial⟩
  | cons x xs ih =>
    have ih := ih (fun y hy => hc y (by simp [hy])) fun y hy => hf y (by simp [hy])
    have h1 := hc x (by simp)
    have key : (T.lcP c f (x :: xs)).val = (((x :: xs).filter fun x => (c x).val).map fun x => (f x).val) ∧ (T.lcP c f (x :: xs)).ok := by
      unfold T.lcP
      have iv : (T.lcP c f xs).val = ((xs.filter fun x => (c x).val).map fun x => (f x).val) := congrArg T.val ih.1
      by_cases h : (c x).val = true
      · have h2 := hf x (by simp) h
        simp [T.bind, h, h1, h2, iv, ih.2]
      · have h' : (c x).val = false := by simpa using h
        simp [T.bind, h', h1, iv, ih.2]
    exact ⟨by rw [← key.1], key.2⟩
theorem lcP_val {c : α → T Bool} {f : α → T β} {xs : List α} (hc : ∀ x ∈ xs, (c x).ok) (hf : ∀ x ∈ xs, (c x).val = true → (f x).ok) : (T.lcP c f xs).val = (xs.filter fun x => (c x).val).map fun x => (f x).val := congrArg T.val (lcP_good xs hc hf).1
theorem lcP_ok {c : α → T Bool} {f : α → T β} {xs : List α} (hc : ∀ x ∈ xs, (c x).ok) (hf : ∀ x ∈ xs, (c x).val = true → (f x).ok) : (T.lcP c f xs).ok := (lcP_good xs hc hf).2
@[simp] theorem lcP_ret (c : α → Bool) (f : α → β) (xs : List α) : T.lcP (fun x => T.ret (c x)) (fun x => T.ret (f x)) xs = ⟨(xs.filter c).map f, (T.lcP (fun x => T.ret (c x)) (fun x => T.ret (f x)) xs).ok⟩ := (lcP_good xs (fun _ _ => trivial) fun _ _ _ => trivial).1
@[simp] theorem lcP_ret_val (c : α → Bool) (f : α → β) (xs : List α) : (T.lcP (fun x => T.ret (c x)) (fun x => T.ret (f x)) xs).val = (xs.filter c).map f := lcP_val (fun _ _ => trivial) fun _ _ _ => trivial
@[simp] theorem lcP_ret_ok (c : α → Bool) (f : α → β) (xs : List α) : (T.lcP (fun x => T.ret (c x)) (fun x => T.ret (f x)) xs).ok := lcP_ok (fun _ _ => trivial) fun _ _ _ => trivial
/-- a comprehension without a test; with one -/
theorem lcM {te : α → T β} {f : α → β} {xs : List α} (h : ∀ x ∈ xs, Gd (te x) (· = f x)) : (T.lcP (fun _ => T.ret true) te xs).ok ∧ (T.lcP (fun _ => T.ret true) te xs).val = xs.map f := by
  have ht : ∀ xs : List α, (xs.filter fun x => (T.ret true).val) = xs := fun xs => List.filter_eq_self.mpr fun _ _ => rfl
  refine ⟨lcP_ok (fun _ _ => trivial) fun x hx _ => (h x hx).1, ?_⟩
  rw [lcP_val (fun _ _ => trivial) fun x hx _ => (h x hx).1, ht]
  exact List.map_congr_left fun x hx => (h x hx).2
theorem lcF {tc : α → T Bool} {te : α → T β} {c : α → Bool} {f : α → β} {xs : List α} (hc : ∀ x ∈ xs, Gd (tc x) (· = c x)) (h : ∀ x ∈ xs, c x = true → Gd (te x) (· = f x)) : (T.lcP tc te xs).ok ∧ (T.lcP tc te xs).val = (xs.filter c).map f := by
  have h2 : ∀ x ∈ xs, (tc x).val = true → Gd (te x) (· = f x) := fun x hx e => h x hx (by rw [← (hc x hx).2]; exact e)
  refine ⟨lcP_ok (fun x hx => (hc x hx).1) fun x hx e => (h2 x hx e).1, ?_⟩
  rw [lcP_val (fun x hx => (hc x hx).1) fun x hx e => (h2 x hx e).1]
  have e1 : (xs.filter fun x => (tc x).val) = xs.filter c := List.filter_congr fun x hx => (hc x hx).2
  rw [e1]
  exact List.map_congr_left fun x hx => (h x (List.mem_filter.mp hx).1 (List.mem_filter.mp hx).2).2
theorem gd_lcS {f : σ → α → T (β × σ)} (I : Nat → List β → σ → Prop) : ∀ {xs : List α} {s : σ}, I 0 [] s → (∀ i x ys s, xs[i]? = some x → I i ys s → Gd (f s x) (fun p => I (i + 1) (ys ++ [p.1]) p.2)) → Gd (T.lcS f xs s) (fun p => I xs.length p.1 p.2) := by
  have key : ∀ (xs : List α) (k : Nat) (ys : List β) (s : σ), I k ys s → (∀ i x ys s, xs[i]? = some x → I (k + i) ys s → Gd (f s x) (fun p => I (k + i + 1) (ys ++ [p.1]) p.2)) → Gd (T.lcS f xs s) (fun p => I (k + xs.length) (ys ++ p.1) p.2) := by
    intro xs
    induction xs with
    | nil => intro k ys s h _; exact gd_ret (by simpa using h)
    | cons x xs ih =>
      intro k ys s h hs
      refine gd_bind (hs 0 x ys s rfl (by simpa using h)) fun p hp => ?_
      refine gd_bind (ih (k + 1) (ys ++ [p.1]) p.2 (by simpa using hp) fun i y zs s' hy hi => ?_) fun q hq => ?_
      · have e : k + 1 + i = k + (i + 1) := by omega
        rw [e] at hi ⊢
        exact hs (i + 1) y zs s' (by simpa using hy) hi
      · refine gd_ret ?_
        have e : k + (x :: xs).length = k + 1 + xs.length := by rw [List.length_cons]; omega
        rw [e]
        simpa using hq
  intro xs s h hs
  have := key xs 0 [] s h (fun i x ys s hx hi => by
    rw [Nat.zero_add] at hi ⊢; exact hs i x ys s hx hi)
  simpa using this
/-! data -/
theorem ix_mem [Inhabited α] {xs : List α} {i : Int} (h : 0 ≤ i ∧ i < xs.length) : ix xs i ∈ xs := by
  unfold ix
  have : i.toNat < xs.length := by omega
  rw [List.getD_eq_getElem?_getD, List.getElem?_eq_getElem this]
  exact List.getElem_mem this
theorem ix_get [Inhabited α] {xs : List α} {i : Nat} {x : α} (h : xs[i]? = some x) : ix xs (i : Int) = x := by
  unfold ix
  rw [List.getD_eq_getElem?_getD, show ((i : Int).toNat) = i by omega, h]; rfl
theorem get_ix [Inhabited α] {xs : List α} {i : Nat} (h : i < xs.length) : xs[i]? = some (ix xs (i : Int)) := by
  have := List.getElem?_eq_getElem h
  rw [this, ix_get this]
theorem mem_ix [Inhabited α] {xs : List α} {x : α} (h : x ∈ xs) : ∃ i : Nat, i < xs.length ∧ ix xs (i : Int) = x := by
  obtain ⟨i, hi, e⟩ := List.mem_iff_getElem.mp h
  exact ⟨i, hi, ix_get (by rw [List.getElem?_eq_getElem hi, e])⟩
theorem rng_get {n : Int} {i : Nat} {x : Int} (h : (rng n)[i]? = some x) : x = i ∧ (i : Int) < n := by
  unfold rng at h
  rw [List.getElem?_map] at h
  cases e : (List.range n.toNat)[i]? with
  | none => rw [e] at h; cases h
  | some k =>
    rw [e] at h
    have hk := List.getElem?_eq_some_iff.mp e
    obtain ⟨hl, hk⟩ := hk
    rw [List.getElem_range] at hk
    rw [List.length_range] at hl
    cases h
    subst hk
    exact ⟨rfl, by omega⟩
theorem mem_rng {n x : Int} : x ∈ rng n ↔ 0 ≤ x ∧ x < n := by
  unfold rng
  rw [List.mem_map]
  constructor
  · rintro ⟨k, hk, rfl⟩
    have := List.mem_range.mp hk
    omega
  · intro h
    exact ⟨x.toNat, List.mem_range.mpr (by omega), by omega⟩
@[simp] theorem rng_len (n : Int) : (rng n).length = n.toNat := by unfold rng; simp
theorem rng_succ (n : Nat) : rng ((n + 1 : Nat) : Int) = rng n ++ [(n : Int)] := by
  unfold rng
  rw [show ((n + 1 : Nat) : Int).toNat = n + 1 by omega, show ((n : Int)).toNat = n by omega, List.range_succ, List.map_append]; rfl
theorem rng2_get {a b : Int} {i : Nat} {x : Int} (h : (rng2 a b)[i]? = some x) : x = a + i ∧ a + (i : Int) < b := by
  unfold rng2 at h
  rw [List.getElem?_map] at h
  cases e : (List.range (b - a).toNat)[i]? with
  | none => rw [e] at h; cases h
  | some k =>
    rw [e] at h
    have hk := List.getElem?_eq_some_iff.mp e
    obtain ⟨hl, hk⟩ := hk
    rw [List.getElem_range] at hk
    rw [List.length_range] at hl
    cases h
    subst hk
    exact ⟨rfl, by omega⟩
theorem mem_rng2 {a b x : Int} : x ∈ rng2 a b ↔ a ≤ x ∧ x < b := by
  unfold rng2
  rw [List.mem_map]
  constructor
  · rintro ⟨k, hk, rfl⟩
    have := List.mem_range.mp hk
    omega
  · intro h
    exact ⟨(x - a).toNat, List.mem_range.mpr (by omega), by omega⟩
@[simp] theorem rng2_len (a b : Int) : (rng2 a b).length = (b - a).toNat := by unfold rng2; simp
theorem enumL_get {xs : List α} {k i : Nat} {p : Int × α} (h : (enumL k xs)[i]? = some p) : ∃ x, xs[i]? = some x ∧ p = (((k + i : Nat) : Int), x) := by
  induction xs generalizing k i with
  | nil => simp [enumL] at h
  | cons x xs ih =>
    cases i with
    | zero => simp [enumL] at h; exact ⟨x, rfl, by simp [← h]⟩
    | succ i =>
      simp only [enumL, List.getElem?_cons_succ] at h
      obtain ⟨y, h1, h2⟩ := ih h
      exact ⟨y, by simpa using h1, by rw [h2, show k + 1 + i = k + (i + 1) by omega]⟩
@[simp] theorem enumL_len (xs : List α) (k : Nat) : (enumL k xs).length = xs.length := by
  induction xs generalizing k with
  | nil => rfl
  | cons x xs ih => simp [enumL, ih]
theorem cut_to {xs : List α} {n : Nat} : cutA xs none (some (n : Int)) = xs.take n := by
  unfold cutA
  rw [show HT.sIx xs.length 0 none = 0 from rfl, HT.sIx_nat, List.drop_zero, Nat.sub_zero]
  by_cases h : n ≤ xs.length
  · congr 1; omega
  · rw [List.take_of_length_le (by omega), List.take_of_length_le (by omega)]
theorem cut_toI {xs : List α} {n : Int} (h : 0 ≤ n) : cutA xs none (some n) = xs.take n.toNat := by
  obtain ⟨k, rfl⟩ := Int.eq_ofNat_of_zero_le h
  rw [cut_to]; congr 1
theorem cut_from {xs : List α} {n : Nat} : cutA xs (some (n : Int)) none = xs.drop n := by
  unfold cutA
  rw [HT.sIx_nat, show HT.sIx xs.length xs.length none = xs.length from rfl]
  by_cases h : n ≤ xs.length
  · rw [Nat.min_eq_left h, List.take_of_length_le (by rw [List.length_drop]; omega)]
  · rw [Nat.min_eq_right (by omega), List.drop_of_length_le (Nat.le_refl _), List.drop_of_length_le (by omega), List.take_nil]
theorem cut_fromI {xs : List α} {n : Int} (h : 0 ≤ n) : cutA xs (some n) none = xs.drop n.toNat := by
  obtain ⟨k, rfl⟩ := Int.eq_ofNat_of_zero_le h
  rw [cut_from]; congr 1
theorem sx_len (xs : List α) (i : Int) (z : α) : (sx xs i z).length = xs.length := by unfold sx; simp
theorem ix_sx [Inhabited α] {xs : List α} {i j : Int} {z : α} (hi : 0 ≤ i ∧ i < xs.length) (hj : 0 ≤ j) : ix (sx xs i z) j = if j = i then z else ix xs j := by
  unfold ix sx
  rw [List.getD_eq_getElem?_getD, List.getD_eq_getElem?_getD, List.getElem?_set]
  by_cases h : j = i
  · subst h
    rw [if_pos rfl, if_pos (by omega), if_pos rfl]; rfl
  · rw [if_neg (by omega), if_neg h]
end
end Mw

set_option Elab.async false
set_option linter.all false
set_option maxRecDepth 100000
set_option autoImplicit false
namespace Mw
open PySem PySem.Spec PyProof.Rows L2
abbrev Box := List Int × Int
def BxOk (b : Box) : Prop := 0 ≤ b.2
theorem gd_draw {b : Box} {m : Int} (hb : BxOk b) (hm : 0 < m) : Gd (t__law_draw b m) (fun p => (0 ≤ p.1 ∧ p.1 < m) ∧ BxOk p.2) := by
  unfold BxOk at hb
  refine gd_let (gd_let (gd_if (fun h => ?_) fun _ => ?_))
  · have h := of_decide_eq_true h
    exact gd_req ⟨hb, h⟩ (gd_req hm (gd_ret ⟨⟨Int.emod_nonneg _ (by omega), Int.emod_lt_of_pos _ hm⟩, by unfold BxOk; dsimp only; omega⟩))
  · exact gd_ret ⟨⟨by omega, hm⟩, by unfold BxOk; dsimp only; omega⟩
theorem gd_cell (ns : List Int) {k : Int} (hk : 0 ≤ k) : Gd (t__law_cell ns k) fun _ => True := by
  refine gd_if (fun h => ?_) fun _ => gd_ret trivial
  have h := of_decide_eq_true h
  exact gd_req ⟨hk, h⟩ (gd_ret trivial)
theorem gd_digits (ns : List Int) {lo hi : Int} (h0 : 0 ≤ lo ∧ lo ≤ 1000) (h1 : 0 ≤ hi ∧ hi ≤ 1000) : Gd (t__law_digits ns lo hi) fun _ => True := by
  refine gd_let (gd_bind (P := fun _ => True) (gd_req (by omega) (gd_req (by omega) ?_)) fun _ _ => gd_ret trivial)
  refine gd_forL' (fun i s => s.length ≤ 60 * i) (by simp) (fun i x s hx hs => ?_) fun _ _ => trivial
  have hx := rng2_get hx
  refine gd_bind (P := fun _ => True) (gd_bind (gd_cell ns (by omega)) fun _ _ => gd_ret trivial) fun c _ => ?_
  refine gd_bind (P := fun _ => True) (gd_if (fun _ => gd_let (gd_ret trivial)) fun _ => gd_ret trivial) fun c _ => ?_
  refine gd_bind (P := fun s' => s'.length ≤ 60 * (i + 1)) (gd_if (fun _ => ?_) fun _ => gd_let ?_) fun s h => gd_ret h
  · refine gd_bind (P := fun p => p.1.length ≤ 60 * (i + 1)) ?_ fun p h => gd_ret h
    refine gd_forL' (fun j s' => s'.1.length ≤ 60 * i + j) (by simpa using hs) (fun j y s' hy hs' => ?_) fun s' h => by simp [rng] at h; omega
    have hy := rng_get hy
    refine gd_bind (P := fun s2 => s2.1.length ≤ 60 * i + (j + 1)) (gd_if (fun _ => ?_) fun _ => gd_ret (by dsimp only; omega)) fun _ h => gd_ret h
    refine gd_bind (P := fun l => l.length ≤ 60 * i + (j + 1)) (gd_req (by omega) (gd_ret (by simp; omega))) fun _ h => gd_let (gd_ret h)
  · refine gd_bind (P := fun p => p.1.length ≤ 60 * (i + 1)) ?_ fun p h => gd_ret h
    refine gd_forL' (fun j s' => s'.1.length ≤ 60 * i + j) (by simpa using hs) (fun j y s' hy hs' => ?_) fun s' h => by simp [rng] at h; omega
    have hy := rng_get hy
    refine gd_let (gd_bind (P := fun l => l.length ≤ 60 * i + (j + 1)) (gd_req (by omega) (gd_ret (by simp; omega))) fun _ h => gd_ret h)
/-- a run of characters -/
theorem gd_run {b : Box} {n : Int} {cs : List Nat} (hb : BxOk b) (hn : 0 ≤ n ∧ n ≤ 1000) (hc : 0 < cs.length) : Gd (t__law_run b n cs) (fun p => (p.1.length = n.toNat ∧ ∀ c ∈ p.1, c ∈ cs) ∧ BxOk p.2) := by
  refine gd_let (gd_bind (P := fun s => BxOk s.1 ∧ s.2.length = n.toNat ∧ ∀ c ∈ s.2, c ∈ cs) (gd_req (by omega) ?_) fun s h => gd_ret ⟨h.2, h.1⟩)
  refine gd_forL' (fun i s => BxOk s.1 ∧ s.2.length = i ∧ ∀ c ∈ s.2, c ∈ cs) ⟨hb, rfl, fun _ h => nomatch h⟩ (fun i x s hx hs => ?_) fun s h => by simpa using h
  obtain ⟨h1, h2, h3⟩ := hs
  have hx := rng_get hx
  refine gd_bind (P := fun s => BxOk s.1 ∧ s.2.length = i + 1 ∧ ∀ c ∈ s.2, c ∈ cs) (gd_bind (gd_draw h1 (by omega)) fun p hp => gd_req (by omega) (gd_req (by simp; omega) (gd_ret ⟨hp.2, by simp [h2], fun c hcc => ?_⟩))) fun s h => gd_ret h
  rcases List.mem_append.mp hcc with z | z
  · exact h3 c z
  · rw [List.mem_singleton] at z; subst z; exact ix_mem (by omega)
abbrev LETT : List Nat := [97, 98, 99, 100, 101, 102, 103, 104, 105, 106, 107, 108, 109, 110, 111, 112, 113, 114, 115, 116, 117, 118, 119, 120, 121, 122]
structure Nm (w : List Nat) : Prop where
  ne : w ≠ []
  len : w.length ≤ 12
  lt : ∀ c ∈ w, c ∈ LETT
def ren (ws : List (List Nat)) (w : List Nat) (t : Nat) : List Nat := if w ∈ ws then w.take 11 ++ [97 + t] else w
theorem ren_nm {ws : List (List Nat)} {w : List Nat} {t : Nat} (h : Nm w) (ht : t < 26) : Nm (ren ws w t) := by
  unfold ren
  split
  · refine ⟨by simp, by rw [List.length_append, List.length_take]; simp; omega, fun c hc => ?_⟩
    rcases List.mem_append.mp hc with z | z
    · exact h.lt c (List.mem_of_mem_take z)
    · rw [List.mem_singleton] at z; subst z
      have : t = 0 ∨ t = 1 ∨ t = 2 ∨ t = 3 ∨ t = 4 ∨ t = 5 ∨ t = 6 ∨ t = 7 ∨ t = 8 ∨ t = 9 ∨ t = 10 ∨ t = 11 ∨ t = 12 ∨ t = 13 ∨ t = 14 ∨ t = 15 ∨ t = 16 ∨ t = 17 ∨ t = 18 ∨ t = 19 ∨ t = 20 ∨ t = 21 ∨ t = 22 ∨ t = 23 ∨ t = 24 ∨ t = 25 := by omega
      rcases this with h | h | h | h | h | h | h | h | h | h | h | h | h | h | h | h | h | h | h | h | h | h | h | h | h | h <;> subst h <;> decide
  · exact h
def rens (ws : List (List Nat)) (w : List Nat) : Nat → List Nat
  | 0 => w
  | t + 1 => ren ws (rens ws w t) t
theorem rens_nm {ws : List (List Nat)} {w : List Nat} (h : Nm w) : ∀ t, t ≤ 9 → Nm (rens ws w t)
  | 0, _ => h
  | t + 1, ht => ren_nm (rens_nm h t (by omega)) (by omega)
theorem rens_in {ws : List (List Nat)} {w : List Nat} {n : Nat} (h : rens ws w n ∈ ws) : ∀ t, t ≤ n → rens ws w t ∈ ws := by
  induction n with
  | zero => intro t ht; rw [Nat.le_zero.mp ht]; exact h
  | succ n ih =>
    intro t ht
    by_cases e : t = n + 1
    · subst e; exact h
    · refine ih ?_ t (by omega)
      by_cases g : rens ws w n ∈ ws
      · exact g
      · have : rens ws w (n + 1) = rens ws w n := if_neg g
        rw [this] at h; exact absurd h g
theorem rens_last {ws : List (List Nat)} {w : List Nat} {t : Nat} (h : rens ws w t ∈ ws) : rens ws w (t + 1) = (rens ws w t).take 11 ++ [97 + t] := if_pos h
theorem nodup_le {α : Type} [DecidableEq α] : ∀ (l ws : List α), l.Nodup → (∀ x ∈ l, x ∈ ws) → l.length ≤ ws.length
  | [], _, _, _ => Nat.zero_le _
  | x :: l, ws, nd, h => by
    have nd := List.nodup_cons.mp nd
    have := nodup_le l (ws.erase x) nd.2 fun y hy => (List.mem_erase_of_ne (fun z => nd.1 (by rw [← z]; exact hy))).mpr (h y (List.mem_cons_of_mem _ hy))
    have hx := h x List.mem_cons_self
    rw [List.length_erase_of_mem hx] at this
    have : 0 < ws.length := List.length_pos_of_mem hx
    rw [List.length_cons]; omega
theorem rens_new {ws : List (List Nat)} {w : List Nat} (hl : ws.length ≤ 8) : rens ws w 9 ∉ ws := fun h => by
  have hi := rens_in h
  have := nodup_le ((List.range 9).map fun t => rens ws w (t + 1)) ws (by
    refine List.pairwise_map.mpr ?_
    refine List.Pairwise.imp_of_mem (fun {a b} ha hb hne e => ?_) (List.nodup_range (n := 9))
    have ha := List.mem_range.mp ha
    have hb := List.mem_range.mp hb
    rw [rens_last (hi a (by omega)), rens_last (hi b (by omega))] at e
    have := (List.append_inj' e rfl).2
    simp at this; exact hne this) fun x hx => by
      obtain ⟨t, ht, rfl⟩ := List.mem_map.mp hx
      exact hi (t + 1) (by have := List.mem_range.mp ht; omega)
  rw [List.length_map, List.length_range] at this
  omega
theorem nm_of {w : List Nat} (h1 : w.length ≠ 0) (h2 : w.length ≤ 12) (h3 : (w.all fun c => decide (c ∈ LETT)) = true) : Nm w := ⟨fun e => h1 (by rw [e]; rfl), h2, fun c hc => of_decide_eq_true (List.all_eq_true.mp h3 c hc)⟩
abbrev NAMES : List (List Nat) := [[119, 104, 101, 101, 108], [102, 114, 97, 109, 101], [98, 105, 99, 121, 99, 108, 101], [100, 97, 121, 115], [121, 105, 101, 108, 100, 115], [97], [98], [115, 112, 111, 107, 101]]
theorem names_nm {w : List Nat} (h : w ∈ NAMES) : Nm w := by
  have : (NAMES.all fun w => decide (w.length ≠ 0) && decide (w.length ≤ 12) && (w.all fun c => decide (c ∈ LETT))) = true := by decide +kernel
  have := List.all_eq_true.mp this w h
  simp only [Bool.and_eq_true, decide_eq_true_eq] at this
  exact nm_of this.1.1 this.1.2 this.2
theorem gd_name {b : Box} {ws : List (List Nat)} (hb : BxOk b) (hl : ws.length ≤ 8) : Gd (t__law_name b ws) (fun p => (Nm p.1 ∧ p.1 ∉ ws) ∧ BxOk p.2) := by
  refine gd_bind (P := fun s => BxOk s.1 ∧ Nm s.2) (gd_bind (gd_draw hb (by decide)) fun p hp => gd_req ⟨hp.1.1, by simpa using hp.1.2⟩ (gd_ret ⟨hp.2, names_nm (ix_mem ⟨hp.1.1, by simpa using hp.1.2⟩)⟩)) fun s hs => ?_
  refine gd_bind (P := fun s => BxOk s.1 ∧ Nm s.2) (gd_bind (gd_draw hs.1 (by decide)) fun p hp => gd_if (fun _ => ?_) fun _ => gd_ret ⟨hp.2, hs.2⟩) fun s hs => ?_
  · refine gd_bind (P := fun s => BxOk s.1 ∧ Nm s.2) (gd_bind (gd_draw hp.2 (by decide)) fun p hp => gd_req ⟨hp.1.1, by simpa using hp.1.2⟩ ?_) fun s h => gd_ret h
    have hi : 3 ≤ ix ([3, 9] : List Int) p.1 ∧ ix ([3, 9] : List Int) p.1 ≤ (9 : Int) := by
      have : p.1 = 0 ∨ p.1 = 1 := by omega
      rcases this with h | h <;> rw [h] <;> decide
    refine gd_bind (gd_draw hp.2 (by omega)) fun p2 hp2 => gd_bind (gd_run (cs := LETT) hp2.2 (by omega) (by decide)) fun p3 hp3 => gd_ret ⟨hp3.2, fun e => ?_, by show p3.1.length ≤ 12; omega, hp3.1.2⟩
    have := hp3.1.1
    have e : p3.1 = [] := e
    rw [e] at this
    simp at this; omega
  · refine gd_bind (P := fun w => Nm w ∧ w ∉ ws) ?_ fun w hw => gd_ret ⟨hw, hs.1⟩
    refine gd_forL' (fun i w => w = rens ws s.2 i) rfl (fun i x w hx hw => ?_) fun w hw => ?_
    · subst hw
      have hx := rng_get hx
      have hi : i < 9 := by omega
      have hr := rens_nm (ws := ws) hs.2 i (by omega)
      refine gd_bind (P := fun w => w = rens ws s.2 (i + 1)) (gd_if (fun h => ?_) fun h => ?_) fun w hw => gd_ret hw
      · have h := of_decide_eq_true h
        rw [rens_last h]
        have e : x = i := hx.1
        subst e
        refine gd_bind (P := fun w => w = (rens ws s.2 i).take 11 ++ [97 + i]) (gd_req ⟨by omega, by show (i : Int) < 9; omega⟩ (gd_req ?_ (gd_ret ?_))) fun w hw => gd_ret hw
        · have := hr.len
          rw [show (11 : Int) = ((11 : Nat) : Int) from rfl, cut_to, List.length_take]
          simp; omega
        · rw [show (11 : Int) = ((11 : Nat) : Int) from rfl, cut_to]
          congr 2
          have : i = 0 ∨ i = 1 ∨ i = 2 ∨ i = 3 ∨ i = 4 ∨ i = 5 ∨ i = 6 ∨ i = 7 ∨ i = 8 := by omega
          rcases this with h | h | h | h | h | h | h | h | h <;> subst h <;> rfl
      · have h : ¬ rens ws s.2 i ∈ ws := fun z => h (decide_eq_true z)
        have e : rens ws s.2 (i + 1) = rens ws s.2 i := if_neg h
        rw [e]; exact gd_ret rfl
    · rw [hw, rng_len]
      exact ⟨rens_nm hs.2 9 (by omega), rens_new hl⟩
end Mw

set_option Elab.async false
set_option linter.all false
set_option maxRecDepth 100000
set_option autoImplicit false
namespace Mw
open PySem PySem.Spec PyProof.Rows L2
/-! ## bills -/
structure ItOk (n : Nat) (x : Item) : Prop where
  pl : x.parts.length ≤ 4
  pt : ∀ p ∈ x.parts, (0 ≤ p.1 ∧ p.1 < n) ∧ 1 ≤ p.2 ∧ p.2 ≤ 20
  lead : 0 ≤ x.lead ∧ x.lead ≤ 10
  lot : 1 ≤ x.lot ∧ x.lot ≤ 50
  good : 1 ≤ x.good ∧ x.good ≤ x.lot
structure BillOk (b : List Item) : Prop where
  len : b.length ≤ 8
  it : ∀ x ∈ b, ItOk b.length x
  rk : ∃ r : Int → Nat, (∀ i : Int, 0 ≤ i → i < b.length → r i < b.length) ∧ ∀ i : Int, 0 ≤ i → i < b.length → ∀ p ∈ (ix b i).parts, r p.1 < r i
structure BillNm (b : List Item) : Prop where
  nm : ∀ x ∈ b, Nm x.name
  nd : (b.map Item.name).Nodup
theorem BillOk.ix {b : List Item} (h : BillOk b) {i : Int} (hi : 0 ≤ i ∧ i < b.length) : ItOk b.length (ix b i) := h.it _ (ix_mem hi)
/-- an order of the first n numbers -/
structure Rks (n : Nat) (l : List Int) : Prop where
  nd : l.Nodup
  mem : ∀ x, x ∈ l ↔ 0 ≤ x ∧ x < n
  len : l.length = n
theorem Rks.ins {n : Nat} {l : List Int} (h : Rks n l) (a : Nat) : Rks (n + 1) (l.take a ++ [(n : Int)] ++ l.drop a) := by
  have hp : (l.take a ++ [(n : Int)] ++ l.drop a).Perm ((n : Int) :: l) := by
    have h1 : (l.take a ++ [(n : Int)] ++ l.drop a).Perm ([(n : Int)] ++ l.take a ++ l.drop a) := List.Perm.append_right _ List.perm_append_comm
    have h2 : [(n : Int)] ++ l.take a ++ l.drop a = (n : Int) :: l := by rw [List.append_assoc, List.take_append_drop]; rfl
    rw [h2] at h1; exact h1
  refine ⟨hp.nodup_iff.mpr (List.nodup_cons.mpr ⟨fun z => by have := (h.mem _).mp z; omega, h.nd⟩), fun x => ?_, by rw [hp.length_eq, List.length_cons, h.len]⟩
  rw [hp.mem_iff, List.mem_cons, h.mem]
  omega
theorem idxOf_le : ∀ {l : List Int} {j : Nat} (h : j < l.length), l.idxOf l[j] ≤ j
  | z :: l, 0, h => by rw [List.idxOf_cons]; simp
  | z :: l, j + 1, h => by
    rw [List.idxOf_cons, List.getElem_cons_succ]
    cases (z == l[j]'(by simpa using h)) with
    | true => simp
    | false => have := idxOf_le (l := l) (j := j) (by simpa using h); simp only [cond_false]; omega
theorem idx_take {l : List Int} {x : Int} : ∀ y ∈ l.take (l.idxOf x), l.idxOf y < l.idxOf x := by
  intro y hy
  obtain ⟨j, hj, e⟩ := List.mem_iff_getElem.mp hy
  rw [List.length_take] at hj
  rw [List.getElem_take] at e
  have := idxOf_le (l := l) (j := j) (by omega)
  rw [e] at this
  omega
theorem get_app1 {α : Type} {l : List α} {x y : α} {j : Nat} (h : (l ++ [x])[j]? = some y) : l[j]? = some y ∨ (j = l.length ∧ y = x) := by
  by_cases hj : j < l.length
  · rw [List.getElem?_append_left hj] at h; exact .inl h
  · rw [List.getElem?_append_right (by omega)] at h
    have : j - l.length = 0 := by
      rcases Nat.eq_zero_or_pos (j - l.length) with z | z
      · exact z
      · rw [List.getElem?_eq_none (by simp; omega)] at h; cases h
    rw [this] at h
    simp at h
    exact .inr ⟨by omega, h.symm⟩
structure ItR (n : Nat) (ranks : List Int) (names : List (List Nat)) (j : Nat) (x : Item) : Prop where
  ok : ItOk n x
  name : names[j]? = some x.name
  low : ∀ p ∈ x.parts, ranks.idxOf p.1 < ranks.idxOf (j : Int)
theorem pick2 {a b x : Int} {lo hi : Int} (h : 0 ≤ x ∧ x < 2) (ha : lo ≤ a ∧ a ≤ hi) (hb : lo ≤ b ∧ b ≤ hi) : lo ≤ ix [a, b] x ∧ ix [a, b] x ≤ hi := by
  have : x = 0 ∨ x = 1 := by omega
  rcases this with h | h <;> subst h
  · exact ha
  · exact hb
theorem gd_bill {b : Box} {most : Int} (hb : BxOk b) (hm : 1 ≤ most ∧ most ≤ 8) : Gd (t__law_bill b most) (fun p => (BillOk p.1 ∧ BillNm p.1 ∧ 1 ≤ p.1.length ∧ p.1.length ≤ most) ∧ BxOk p.2) := by
  refine gd_bind (P := fun s => BxOk s.1 ∧ 1 ≤ s.2 ∧ s.2 ≤ most) (gd_bind (gd_draw hb (by omega)) fun p hp => gd_ret ⟨hp.2, by dsimp only; omega⟩) fun s hs => ?_
  obtain ⟨b1, cnt⟩ := s
  obtain ⟨hb1, hc⟩ := hs
  obtain ⟨n, rfl⟩ := Int.eq_ofNat_of_zero_le (show 0 ≤ cnt by have := hc.1; dsimp only at this; omega)
  have hc : 1 ≤ n ∧ (n : Int) ≤ most := by dsimp only at hc; omega
  dsimp only at hb1
  refine gd_let (gd_bind (P := fun s => BxOk s.1 ∧ s.2.length = n ∧ (∀ w ∈ s.2, Nm w) ∧ s.2.Nodup) (gd_req (by omega) ?_) fun s hs => ?_)
  · refine gd_forL' (fun i s => BxOk s.1 ∧ s.2.length = i ∧ (∀ w ∈ s.2, Nm w) ∧ s.2.Nodup) ⟨hb1, rfl, fun _ h => (nomatch h), List.nodup_nil⟩ (fun i x s hx hs => ?_) fun s h => by simpa using h
    have hx := rng_get hx
    obtain ⟨h1, h2, h3, h4⟩ := hs
    refine gd_bind (P := fun s => BxOk s.1 ∧ s.2.length = i + 1 ∧ (∀ w ∈ s.2, Nm w) ∧ s.2.Nodup) (gd_bind (gd_name h1 (by omega)) fun p hp => gd_req (by omega) (gd_ret ⟨hp.2, by simp [h2], fun w hw => ?_, ?_⟩)) fun s h => gd_ret h
    · rcases List.mem_append.mp hw with z | z
      · exact h3 w z
      · rw [List.mem_singleton] at z; subst z; exact hp.1.1
    · refine List.nodup_append.mpr ⟨h4, by simp, fun a ha c hc e => ?_⟩
      rw [List.mem_singleton] at hc; subst hc; subst e
      exact hp.1.2 ha
  obtain ⟨b2, names⟩ := s
  obtain ⟨hb2, hnl, hnm, hnd⟩ := hs
  dsimp only at hb2 hnl hnm hnd
  refine gd_let (gd_bind (P := fun s => BxOk s.1 ∧ Rks n s.2) (gd_req (by omega) ?_) fun s hs => ?_)
  · refine gd_forL' (fun i s => BxOk s.1 ∧ Rks i s.2) ⟨hb2, List.nodup_nil, (fun x => ⟨(fun h => nomatch h), (fun h => by omega)⟩), rfl⟩ (fun i x s hx hs => ?_) fun s h => by simpa using h
    have hx := rng_get hx
    obtain ⟨h1, h2⟩ := hs
    have hl := h2.len
    refine gd_bind (P := fun t => BxOk t.1 ∧ 0 ≤ t.2) (gd_bind (gd_draw h1 (by omega)) fun p hp => gd_ret ⟨hp.2, hp.1.1⟩) fun t ht => ?_
    have e1 := cut_toI (xs := s.2) ht.2
    have e2 := cut_fromI (xs := s.2) ht.2
    refine gd_bind (P := fun l => Rks (i + 1) l) (gd_req ?_ (gd_req ?_ (gd_ret ?_))) fun l h => gd_ret ⟨ht.1, h⟩
    · rw [e1, List.length_take]; simp; omega
    · rw [e1, e2, List.length_append, List.length_take, List.length_drop]; simp; omega
    · rw [e1, e2, hx.1]; exact h2.ins _
  obtain ⟨b3, ranks⟩ := s
  obtain ⟨hb3, hr⟩ := hs
  dsimp only at hb3 hr
  refine gd_let (gd_bind (P := fun s => BxOk s.1 ∧ s.2.length = n ∧ ∀ j x, s.2[j]? = some x → ItR n ranks names j x) (gd_req (by omega) ?_) fun s hs => gd_ret ?_)
  · refine gd_forL' (fun i s => BxOk s.1 ∧ s.2.length = i ∧ ∀ j x, s.2[j]? = some x → ItR n ranks names j x) ⟨hb3, rfl, fun j x h => by simp at h⟩ (fun i x s hx hs => ?_) fun s h => by simpa using h
    have hx := rng_get hx
    have ex := hx.1
    subst ex
    obtain ⟨h1, h2, h3⟩ := hs
    have hm : (i : Int) ∈ ranks := (hr.mem _).mpr (by omega)
    refine gd_eq (gd_req hm (gd_ret rfl)) ?_
    rw [show idxI ranks (i : Int) = ((ranks.idxOf (i : Int) : Nat) : Int) from rfl, cut_to]
    generalize hlow : ranks.take (ranks.idxOf (i : Int)) = low
    have hlw : ∀ y ∈ low, ranks.idxOf y < ranks.idxOf (i : Int) ∧ 0 ≤ y ∧ y < n := fun y hy => by
      rw [← hlow] at hy
      exact ⟨idx_take y hy, (hr.mem y).mp (List.mem_of_mem_take hy)⟩
    refine gd_let (gd_bind (P := fun s => BxOk s.1 ∧ s.2.length ≤ 4 ∧ ∀ p ∈ s.2, p.1 ∈ low ∧ 1 ≤ p.2 ∧ p.2 ≤ 20) (gd_bind (gd_draw h1 (by omega)) fun p hp => gd_req (by omega) ?_) fun t ht => ?_)
    · refine gd_forL' (fun k s => BxOk s.1 ∧ s.2.length ≤ k ∧ ∀ p ∈ s.2, p.1 ∈ low ∧ 1 ≤ p.2 ∧ p.2 ≤ 20) ⟨hp.2, Nat.le_refl _, fun _ h => nomatch h⟩ (fun k y s hy hs => ?_) fun s h => ⟨h.1, by have := h.2.1; simp at this; omega, h.2.2⟩
      have hy := rng_get hy
      obtain ⟨g1, g2, g3⟩ := hs
      refine gd_bind (P := fun s => BxOk s.1 ∧ s.2.length ≤ k + 1 ∧ ∀ p ∈ s.2, p.1 ∈ low ∧ 1 ≤ p.2 ∧ p.2 ≤ 20) (gd_if (fun hl => ?_) fun _ => gd_ret ⟨g1, by dsimp only; omega, g3⟩) fun s h => gd_ret h
      have hl := of_decide_eq_true hl
      refine gd_bind (P := fun s => BxOk s.1 ∧ 1 ≤ s.2 ∧ s.2 ≤ 20) (gd_bind (gd_draw g1 (by omega)) fun p hp => gd_ret ⟨hp.2, by dsimp only; omega⟩) fun t ht => ?_
      refine gd_bind (P := fun s => BxOk s.1 ∧ 1 ≤ s.2 ∧ s.2 ≤ 20) (gd_bind (gd_draw ht.1 (by omega)) fun p hp => gd_if (fun _ => gd_let (gd_ret ⟨hp.2, show (1 : Int) ≤ 20 by decide, show (20 : Int) ≤ 20 by decide⟩)) fun _ => gd_ret ⟨hp.2, ht.2⟩) fun t2 ht2 => ?_
      refine gd_bind (P := fun s => BxOk s.1 ∧ s.2.length ≤ k + 1 ∧ ∀ p ∈ s.2, p.1 ∈ low ∧ 1 ≤ p.2 ∧ p.2 ≤ 20) (gd_bind (gd_draw ht2.1 (by omega)) fun p hp => gd_req hp.1 (gd_req (by omega) (gd_ret ⟨hp.2, by simp; omega, fun q hq => ?_⟩))) fun s h => gd_ret h
      rcases List.mem_append.mp hq with z | z
      · exact g3 q z
      · rw [List.mem_singleton] at z; subst z; exact ⟨ix_mem hp.1, ht2.2⟩
    · obtain ⟨k1, k2, k3⟩ := ht
      refine gd_bind (P := fun s => BxOk s.1 ∧ 0 ≤ s.2 ∧ s.2 ≤ 10) (gd_bind (gd_draw k1 (by omega)) fun p1 hp1 => gd_bind (gd_draw hp1.2 (by omega)) fun p2 hp2 => gd_bind (gd_draw hp2.2 (by omega)) fun p3 hp3 => gd_req ⟨by omega, by simp; omega⟩ (gd_ret ⟨hp3.2, pick2 (by omega) (by omega) (by omega)⟩)) fun t1 ht1 => ?_
      refine gd_bind (P := fun s => BxOk s.1 ∧ 1 ≤ s.2 ∧ s.2 ≤ 50) (gd_bind (gd_draw ht1.1 (by omega)) fun p1 hp1 => gd_bind (gd_draw hp1.2 (by omega)) fun p2 hp2 => gd_bind (gd_draw hp2.2 (by omega)) fun p3 hp3 => gd_req ⟨by omega, by simp; omega⟩ (gd_ret ⟨hp3.2, pick2 (by omega) (by omega) (by omega)⟩)) fun t2 ht2 => ?_
      refine gd_bind (P := fun s => BxOk s.1 ∧ s.2.length = i + 1 ∧ ∀ j x, s.2[j]? = some x → ItR n ranks names j x) (gd_req (by dsimp only; omega) (gd_bind (gd_draw ht2.1 (by omega)) fun p hp => gd_req (by omega) (gd_ret ⟨hp.2, by simp [h2], fun j x hj => ?_⟩))) fun s h => gd_ret h
      rcases get_app1 hj with z | ⟨z, rfl⟩
      · exact h3 j x z
      · rw [h2] at z; subst z
        refine ⟨⟨k2, fun p hp => ⟨(hlw _ (k3 p hp).1).2, (k3 p hp).2⟩, ht1.2, ht2.2, by dsimp only; omega⟩, ?_, fun p hp => (hlw _ (k3 p hp).1).1⟩
        exact get_ix (by omega)
  · obtain ⟨h1, h2, h3⟩ := hs
    refine ⟨⟨⟨by dsimp only; omega, fun x hx => ?_, fun (k : Int) => ranks.idxOf k, fun (i : Int) h0 h1 => ?_, fun (i : Int) h0 hi p hp => ?_⟩, ⟨fun x hx => ?_, ?_⟩, by dsimp only; omega, by dsimp only; omega⟩, h1⟩
    · obtain ⟨j, hj, e⟩ := List.mem_iff_getElem.mp hx
      have := (h3 j x (by rw [List.getElem?_eq_getElem hj, e])).ok
      rw [← h2] at this; exact this
    · show ranks.idxOf i < s.2.length
      rw [h2, ← hr.len]
      exact List.idxOf_lt_length_iff.mpr ((hr.mem i).mpr (by dsimp only at h1; omega))
    · obtain ⟨k, rfl⟩ := Int.eq_ofNat_of_zero_le h0
      exact (h3 k _ (get_ix (by dsimp only at hi; omega))).low p hp
    · obtain ⟨j, hj, e⟩ := List.mem_iff_getElem.mp hx
      have := (h3 j x (by rw [List.getElem?_eq_getElem hj, e])).name
      exact hnm _ (List.mem_of_getElem? this)
    · have : s.2.map Item.name = names := by
        apply List.ext_getElem?
        intro j
        rw [List.getElem?_map]
        cases e : s.2[j]? with
        | none =>
          have := List.getElem?_eq_none_iff.mp e
          rw [List.getElem?_eq_none (by omega)]; rfl
        | some x => rw [(h3 j x e).name]; rfl
      show (s.2.map Item.name).Nodup
      rw [this]; exact hnd
end Mw

set_option Elab.async false
set_option linter.all false
set_option maxRecDepth 100000
set_option autoImplicit false
namespace Mw
open PySem PySem.Spec PyProof.Rows L2
/-! ## levels -/
def qtyIn (b : List Item) (p i : Int) : Int := (((ix b p).parts.filter fun x => decide (x.1 = i)).map fun x => x.2).sum
def usedBy (b : List Item) (i : Int) : List (Int × Int) := ((rng b.length).map fun p => (p, qtyIn b p i)).filter fun x => decide (0 < x.2)
theorem gd_quantity_in {b : List Item} (h : BillOk b) {p i : Int} (hp : 0 ≤ p ∧ p < b.length) : Gd (t_quantity_in b p i) (· = qtyIn b p i) := by
  have := (h.ix hp).pl
  refine gd_req hp (gd_req (by omega) (gd_req (lcP_ret_ok _ _ _) (gd_ret ?_)))
  rw [lcP_ret_val]; rfl
/-- a list of pairs that grows by tests -/
theorem gd_grow {b : List (Int × Int) → Int → T (List (Int × Int))} (f : Int → Int × Int) (c : Int × Int → Bool) (n : Nat) (hb : ∀ (s : List (Int × Int)) (i : Nat), i < n → s.length ≤ i → Gd (b s i) (· = if c (f i) = true then s ++ [f i] else s)) :
    Gd (T.forL b (rng n) []) (· = ((rng n).map f).filter c) := by
  refine gd_forL' (fun i s => s = ((rng i).map f).filter c) rfl (fun i x s hx hs => ?_) fun s h => by simpa using h
  have hx := rng_get hx
  have e := hx.1
  subst e
  refine (hb s i (by omega) ?_).imp fun v hv => ?_
  · rw [hs]
    have := List.length_filter_le c ((rng (i : Int)).map f)
    rw [List.length_map, rng_len] at this
    omega
  · rw [hv, hs, rng_succ, List.map_append, List.filter_append]
    simp only [List.map_cons, List.map_nil, List.filter_cons, List.filter_nil]
    split
    · rfl
    · simp
theorem gd_used_by {b : List Item} (h : BillOk b) (i : Int) : Gd (t_used_by b i) (· = usedBy b i) := by
  have hl := h.len
  refine gd_let (gd_bind (P := fun s => s = usedBy b i) (gd_req (by omega) (gd_grow (fun p => (p, qtyIn b p i)) (fun x => decide (0 < x.2)) b.length fun s k hk hs => ?_)) fun s hs => gd_ret hs)
  refine gd_eq (gd_eq (gd_quantity_in h (by omega)) (gd_ret rfl)) ?_
  dsimp only
  by_cases hq : 0 < qtyIn b (k : Int) i
  · rw [if_pos (decide_eq_true hq), if_pos (decide_eq_true hq)]
    exact gd_eq (gd_eq (gd_req (by omega) (gd_ret rfl)) (gd_ret rfl)) (gd_ret rfl)
  · rw [if_neg (by simpa using hq), if_neg (by simpa using hq)]
    exact gd_eq (gd_ret rfl) (gd_ret rfl)
theorem gd_law_users {b : List Item} (h : BillOk b) (i : Int) : Gd (t__law_users b i) (· = usedBy b i) := by
  have hl := h.len
  refine gd_let (gd_bind (P := fun s => s = usedBy b i) (gd_req (by omega) (gd_grow (fun p => (p, qtyIn b p i)) (fun x => decide (0 < x.2)) b.length fun s k hk hs => ?_)) fun s hs => gd_ret hs)
  have := (h.ix (i := k) (by omega)).pl
  refine gd_eq (a := qtyIn b k i) (gd_req (by omega) (gd_req (by omega) (gd_req (lcP_ret_ok _ _ _) (gd_ret (by rw [lcP_ret_val]; rfl))))) ?_
  dsimp only
  by_cases hq : 0 < qtyIn b (k : Int) i
  · rw [if_pos (decide_eq_true hq), if_pos (decide_eq_true hq)]
    exact gd_eq (gd_eq (gd_req (by omega) (gd_ret rfl)) (gd_ret rfl)) (gd_ret rfl)
  · rw [if_neg (by simpa using hq), if_neg (by simpa using hq)]
    exact gd_eq (gd_ret rfl) (gd_ret rfl)
theorem usedBy_mem {b : List Item} {i p q : Int} : (p, q) ∈ usedBy b i ↔ (0 ≤ p ∧ p < b.length) ∧ q = qtyIn b p i ∧ 0 < q := by
  unfold usedBy
  rw [List.mem_filter, List.mem_map]
  constructor
  · rintro ⟨⟨x, hx, e⟩, hq⟩
    cases e
    exact ⟨mem_rng.mp hx, rfl, of_decide_eq_true hq⟩
  · rintro ⟨hp, rfl, hq⟩
    exact ⟨⟨p, mem_rng.mpr hp, rfl⟩, decide_eq_true hq⟩
theorem usedBy_len (b : List Item) (i : Int) : (usedBy b i).length ≤ b.length := by
  have := List.length_filter_le (fun x : Int × Int => decide (0 < x.2)) ((rng b.length).map fun p => (p, qtyIn b p i))
  rw [List.length_map, rng_len] at this
  unfold usedBy; omega
theorem sum_pos_mem {xs : List Int} (h : 0 < xs.sum) : ∃ x ∈ xs, 0 < x := by
  induction xs with
  | nil => simp at h
  | cons x xs ih =>
    by_cases hx : 0 < x
    · exact ⟨x, by simp, hx⟩
    · rw [List.sum_cons] at h
      obtain ⟨y, hy, z⟩ := ih (by omega)
      exact ⟨y, by simp [hy], z⟩
theorem qty_uses {b : List Item} {p i : Int} (h : 0 < qtyIn b p i) : ∃ q, (i, q) ∈ (ix b p).parts := by
  obtain ⟨x, hx, _⟩ := sum_pos_mem h
  obtain ⟨y, hy, rfl⟩ := List.mem_map.mp hx
  have h2 := List.mem_filter.mp hy
  have h3 := of_decide_eq_true h2.2
  exact ⟨y.2, by rw [← h3]; exact h2.1⟩
theorem sum_nonneg {xs : List Int} (h : ∀ x ∈ xs, 0 ≤ x) : 0 ≤ xs.sum := by
  induction xs with
  | nil => simp
  | cons x xs ih => rw [List.sum_cons]; have := h x (by simp); have := ih fun y hy => h y (by simp [hy]); omega
theorem sum_le {xs : List Int} {c : Int} (h : ∀ x ∈ xs, x ≤ c) : xs.sum ≤ c * xs.length := by
  induction xs with
  | nil => simp
  | cons x xs ih =>
    rw [List.sum_cons, List.length_cons]
    have := h x (by simp); have := ih fun y hy => h y (by simp [hy])
    rw [show ((xs.length + 1 : Nat) : Int) = xs.length + 1 by omega, Int.mul_add]; omega
theorem sum_ge_mem {xs : List Int} (h : ∀ x ∈ xs, 0 ≤ x) {y : Int} (hy : y ∈ xs) : y ≤ xs.sum := by
  induction xs with
  | nil => cases hy
  | cons x xs ih =>
    rw [List.sum_cons]
    rcases List.mem_cons.mp hy with rfl | z
    · have := sum_nonneg (xs := xs) fun y hy => h y (List.mem_cons_of_mem _ hy); omega
    · have := ih (fun y hy => h y (by simp [hy])) z; have := h x (by simp); omega
theorem uses_qty {b : List Item} (hb : BillOk b) {p i q : Int} (hp : 0 ≤ p ∧ p < b.length) (h : (i, q) ∈ (ix b p).parts) : 0 < qtyIn b p i := by
  have hit := (hb.ix hp).pt
  have h1 : ∀ x ∈ ((ix b p).parts.filter fun x => decide (x.1 = i)).map (fun x => x.2), 1 ≤ x := by
    intro x hx
    obtain ⟨y, hy, rfl⟩ := List.mem_map.mp hx
    exact (hit y (List.mem_filter.mp hy).1).2.1
  have := sum_ge_mem (fun x hx => by have := h1 x hx; omega) (show q ∈ ((ix b p).parts.filter fun x => decide (x.1 = i)).map (fun x => x.2) from List.mem_map.mpr ⟨(i, q), List.mem_filter.mpr ⟨h, by simp⟩, rfl⟩)
  have h2 := (hit _ h).2.1
  unfold qtyIn; omega
theorem qty_bd {b : List Item} (hb : BillOk b) {p i : Int} (hp : 0 ≤ p ∧ p < b.length) : 0 ≤ qtyIn b p i ∧ qtyIn b p i ≤ 80 := by
  have hit := hb.ix hp
  have hl := List.length_filter_le (fun x : Int × Int => decide (x.1 = i)) (ix b p).parts
  have h1 : ∀ x ∈ ((ix b p).parts.filter fun x => decide (x.1 = i)).map (fun x => x.2), 1 ≤ x ∧ x ≤ 20 := by
    intro x hx
    obtain ⟨y, hy, rfl⟩ := List.mem_map.mp hx
    exact (hit.pt y (List.mem_filter.mp hy).1).2
  have a := sum_nonneg fun x hx => by have := (h1 x hx).1; omega
  have c := sum_le fun x hx => (h1 x hx).2
  rw [List.length_map] at c
  have := hit.pl
  unfold qtyIn; omega
/-! parents first -/
def ready (b : List Item) (tk : List Int) (i : Int) : Bool := !decide (i ∈ tk) && (usedBy b i).all fun x => decide (x.1 ∈ tk)
def nextIt (b : List Item) (tk : List Int) : List Int := match (rng b.length).find? (ready b tk) with
  | some i => tk ++ [i]
  | none => tk
def ordN (b : List Item) : Nat → List Int
  | 0 => []
  | k + 1 => nextIt b (ordN b k)
def pf (b : List Item) : List Int := ordN b b.length
/-- items taken so far: each with all its users ahead of it -/
structure Tkn (b : List Item) (l : List Int) : Prop where
  nd : l.Nodup
  mem : ∀ x ∈ l, 0 ≤ x ∧ x < b.length
  up : ∀ (k : Nat) (x : Int), l[k]? = some x → ∀ p : Int, 0 ≤ p → p < b.length → 0 < qtyIn b p x → p ∈ l.take k
theorem exists_max {α : Type} (r : α → Nat) : ∀ (l : List α), l ≠ [] → ∃ x ∈ l, ∀ y ∈ l, r y ≤ r x
  | [x], _ => ⟨x, by simp, by simp⟩
  | x :: y :: l, _ => by
    obtain ⟨z, hz, hm⟩ := exists_max r (y :: l) (by simp)
    by_cases h : r z ≤ r x
    · exact ⟨x, by simp, fun w hw => by
        rcases List.mem_cons.mp hw with rfl | hw
        · exact Nat.le_refl _
        · exact Nat.le_trans (hm w hw) h⟩
    · exact ⟨z, List.mem_cons_of_mem _ hz, fun w hw => by
        rcases List.mem_cons.mp hw with rfl | hw
        · omega
        · exact hm w hw⟩
theorem ready_iff {b : List Item} {tk : List Int} {i : Int} : ready b tk i = true ↔ i ∉ tk ∧ ∀ p : Int, 0 ≤ p → p < b.length → 0 < qtyIn b p i → p ∈ tk := by
  unfold ready
  rw [Bool.and_eq_true, List.all_eq_true]
  simp only [Bool.not_eq_true', decide_eq_false_iff_not, decide_eq_true_eq]
  constructor
  · rintro ⟨h1, h2⟩
    exact ⟨h1, fun p h0 hl hq => h2 _ (usedBy_mem.mpr ⟨⟨h0, hl⟩, rfl, hq⟩)⟩
  · rintro ⟨h1, h2⟩
    exact ⟨h1, fun x hx => by
      obtain ⟨hp, e, hq⟩ := usedBy_mem.mp (show (x.1, x.2) ∈ usedBy b i from hx)
      exact h2 _ hp.1 hp.2 (by rw [← e]; exact hq)⟩
theorem ready_ex {b : List Item} (hb : BillOk b) {tk : List Int} (h : Tkn b tk) (hl : tk.length < b.length) : ∃ i, (rng b.length).find? (ready b tk) = some i := by
  obtain ⟨r, hr, hlow⟩ := hb.rk
  have ne : (rng b.length).filter (fun i => !decide (i ∈ tk)) ≠ [] := by
    intro e
    have := nodup_le (rng b.length) tk (by
      unfold rng
      refine List.pairwise_map.mpr (List.Pairwise.imp (fun h e => h (by omega)) List.nodup_range)) fun x hx => by
        have := List.filter_eq_nil_iff.mp e x hx
        simpa using this
    simp at this; omega
  obtain ⟨x, hx, hm⟩ := exists_max r _ ne
  obtain ⟨hx1, hx2⟩ := List.mem_filter.mp hx
  have hx2 : x ∉ tk := by simpa using hx2
  have hready : ready b tk x = true := ready_iff.mpr ⟨hx2, fun p h0 h1 hq => by
    by_cases hp : p ∈ tk
    · exact hp
    · obtain ⟨q, hq⟩ := qty_uses hq
      have := hlow p h0 h1 _ hq
      have := hm p (List.mem_filter.mpr ⟨mem_rng.mpr ⟨h0, h1⟩, by simpa using hp⟩)
      dsimp only at *
      omega⟩
  cases e : (rng b.length).find? (ready b tk) with
  | some i => exact ⟨i, rfl⟩
  | none =>
    have := List.find?_eq_none.mp e x hx1
    rw [hready] at this; exact absurd rfl this
theorem next_tkn {b : List Item} (hb : BillOk b) {tk : List Int} (h : Tkn b tk) (hl : tk.length < b.length) : ∃ i, (rng b.length).find? (ready b tk) = some i ∧ nextIt b tk = tk ++ [i] ∧ Tkn b (tk ++ [i]) := by
  obtain ⟨i, e⟩ := ready_ex hb h hl
  have hr := ready_iff.mp (List.find?_some e)
  have hi := mem_rng.mp (List.mem_of_find?_eq_some e)
  refine ⟨i, e, by unfold nextIt; rw [e], ⟨List.nodup_append.mpr ⟨h.nd, by simp, fun a ha c hc z => by rw [List.mem_singleton] at hc; subst hc; subst z; exact hr.1 ha⟩, fun x hx => ?_, fun k x hk p h0 h1 hq => ?_⟩⟩
  · rcases List.mem_append.mp hx with z | z
    · exact h.mem x z
    · rw [List.mem_singleton] at z; subst z; exact hi
  · rcases get_app1 hk with z | ⟨z, rfl⟩
    · have := h.up k x z p h0 h1 hq
      rw [List.take_append_of_le_length (by have := (List.getElem?_eq_some_iff.mp z).1; omega)]
      exact this
    · subst z
      rw [List.take_append_of_le_length (by omega), List.take_length]
      exact hr.2 p h0 h1 hq
theorem ordN_tkn {b : List Item} (hb : BillOk b) : ∀ k, k ≤ b.length → Tkn b (ordN b k) ∧ (ordN b k).length = k
  | 0, _ => ⟨⟨List.nodup_nil, fun _ h => (nomatch h), fun k x h => by simp [ordN] at h⟩, rfl⟩
  | k + 1, h => by
    obtain ⟨h1, h2⟩ := ordN_tkn hb k (by omega)
    obtain ⟨i, _, e, t⟩ := next_tkn hb h1 (by omega)
    show Tkn b (nextIt b (ordN b k)) ∧ (nextIt b (ordN b k)).length = k + 1
    rw [e]
    exact ⟨t, by simp [h2]⟩
theorem pf_tkn {b : List Item} (hb : BillOk b) : Tkn b (pf b) := (ordN_tkn hb _ (Nat.le_refl _)).1
theorem pf_len {b : List Item} (hb : BillOk b) : (pf b).length = b.length := (ordN_tkn hb _ (Nat.le_refl _)).2
theorem pf_mem {b : List Item} (hb : BillOk b) {i : Int} : i ∈ pf b ↔ 0 ≤ i ∧ i < b.length := by
  refine ⟨(pf_tkn hb).mem i, fun h => ?_⟩
  by_cases hi : i ∈ pf b
  · exact hi
  · have := nodup_le (i :: pf b) (rng b.length) (List.nodup_cons.mpr ⟨hi, (pf_tkn hb).nd⟩) fun x hx => by
      rcases List.mem_cons.mp hx with rfl | hx
      · exact mem_rng.mpr h
      · exact mem_rng.mpr ((pf_tkn hb).mem x hx)
    simp [pf_len hb] at this; omega
/-- one search for the next item -/
theorem find_none {b : List Item} {tk : List Int} {i : Nat} {x : Int} (hi : i < b.length) (h : ∀ j : Nat, j < i → ready b tk j = false) (hr : ready b tk i = true) : (rng b.length).find? (ready b tk) = some (i : Int) := by
  unfold rng
  rw [List.find?_map]
  have : (List.range ((b.length : Int)).toNat).find? (ready b tk ∘ fun k : Nat => (k : Int)) = some i := by
    rw [List.find?_range_eq_some]
    refine ⟨hr, by rw [List.mem_range]; omega, fun j hj => ?_⟩
    simp [h j hj]
  rw [this]; rfl
theorem gd_parents_first {b : List Item} (hb : BillOk b) : Gd (t_parents_first b) (· = pf b) := by
  have hl := hb.len
  refine gd_let (gd_bind (P := fun s => s = pf b) ?_ fun s h => gd_ret h)
  refine gd_whL (I := fun s => ∃ k, k ≤ b.length ∧ s = ordN b k) (fun s => b.length - s.length) ⟨0, by omega, rfl⟩ (by omega) (fun _ _ => trivial) (fun s hs hc => ?_) fun s hs hc => ?_
  · obtain ⟨k, hk, rfl⟩ := hs
    obtain ⟨h1, h2⟩ := ordN_tkn hb k hk
    have hc := of_decide_eq_true hc
    rw [h2] at hc
    obtain ⟨z, ez, en, tz⟩ := next_tkn hb h1 (by omega)
    refine gd_bind (P := fun s => s = ordN b (k + 1)) (gd_req (by omega) (gd_unC ?_)) fun s h => gd_ret ⟨⟨k + 1, by omega, h⟩, by rw [h, (ordN_tkn hb (k + 1) (by omega)).2, h2]; omega⟩
    refine gd_forC (fun i s => s = ordN b k ∧ ∀ j : Nat, j < i → ready b (ordN b k) j = false) ⟨rfl, fun _ h => by omega⟩ (fun i x s hx hs => ?_) fun s h => ?_
    · have hx := rng_get hx
      have e := hx.1
      subst e
      obtain ⟨rfl, hs⟩ := hs
      have hu := gd_used_by hb (i : Int)
      have hul := usedBy_len b (i : Int)
      refine gd_ctcP (N := fun s => s = ordN b k ∧ ready b (ordN b k) (i : Int) = false) ?_ fun s h => gd_ret ⟨h.1, fun j hj => ?_⟩
      · refine gd_req (fun _ => hu.1) (gd_req (fun _ => by rw [hu.2]; omega) (gd_req (fun _ => lcP_ret_ok _ _ _) ?_))
        rw [lcP_ret_val, hu.2]
        have er : (!decide ((i : Int) ∈ ordN b k) && (((usedBy b i).filter fun _ => true).map fun x => decide (x.1 ∈ ordN b k)).all id) = ready b (ordN b k) i := by
          unfold ready
          rw [List.filter_eq_self.mpr (fun _ _ => rfl), List.all_map]; rfl
        rw [er]
        refine gd_if (fun hr => ?_) fun hr => gd_ret ⟨rfl, by simpa using hr⟩
        refine gd_eq (gd_req (by omega) (gd_ret rfl)) (gd_ret ?_)
        show ordN b k ++ [(i : Int)] = nextIt b (ordN b k)
        unfold nextIt
        rw [find_none (x := 0) (by omega) hs hr]
      · by_cases e : j = i
        · subst e; exact h.2
        · exact hs j (by omega)
    · exfalso
      have hm := mem_rng.mp (List.mem_of_find?_eq_some ez)
      have hr := List.find?_some ez
      have := h.2 z.toNat (by rw [rng_len]; omega)
      rw [show ((z.toNat : Nat) : Int) = z by omega] at this
      rw [this] at hr; cases hr
  · obtain ⟨k, hk, rfl⟩ := hs
    have h2 := (ordN_tkn hb k hk).2
    have hc := of_decide_eq_false hc
    rw [h2] at hc
    have : k = b.length := by omega
    subst this; rfl
theorem gd_law_first {b : List Item} (hb : BillOk b) : Gd (t__law_first b) (· = pf b) := by
  have hl := hb.len
  refine gd_let (gd_bind (P := fun s => s = pf b) (gd_req (by omega) ?_) fun s h => gd_ret h)
  refine gd_forL' (fun k s => s = ordN b k) rfl (fun k x s hx hs => ?_) fun s h => by rw [h, rng_len]; rfl
  have hk := (rng_get hx).2
  subst hs
  obtain ⟨h1, h2⟩ := ordN_tkn hb k (by omega)
  obtain ⟨z, ez, en, tz⟩ := next_tkn hb h1 (by omega)
  refine gd_bind (P := fun s => s = ordN b (k + 1)) (gd_req (by omega) (gd_unC ?_)) fun s h => gd_ret h
  refine gd_forC (fun i s => s = ordN b k ∧ ∀ j : Nat, j < i → ready b (ordN b k) j = false) ⟨rfl, fun _ h => by omega⟩ (fun i x s hx hs => ?_) fun s h => ?_
  · have hx := rng_get hx
    have e := hx.1
    subst e
    obtain ⟨rfl, hs⟩ := hs
    have hul := usedBy_len b (i : Int)
    refine gd_eq (gd_eq (gd_law_users hb (i : Int)) (gd_req (by omega) (gd_req (lcP_ret_ok _ _ _) (gd_ret (lcP_ret_val _ _ _))))) ?_
    refine gd_ctcP (N := fun s => s = ordN b k ∧ ready b (ordN b k) (i : Int) = false) ?_ fun s h => gd_ret ⟨h.1, fun j hj => ?_⟩
    · have er : (!decide ((i : Int) ∈ ordN b k) && decide (((((usedBy b i).filter fun x => !decide (x.1 ∈ ordN b k)).map fun x => x).length : Int) = 0)) = ready b (ordN b k) i := by
        unfold ready
        congr 1
        rw [List.map_id']
        cases e : (usedBy b i).all fun x => decide (x.1 ∈ ordN b k) with
        | true =>
          have := List.all_eq_true.mp e
          rw [List.filter_eq_nil_iff.mpr (fun x hx => by simpa using this x hx)]; rfl
        | false =>
          refine decide_eq_false fun z => ?_
          have z : ((usedBy b i).filter fun x => !decide (x.1 ∈ ordN b k)) = [] := List.eq_nil_of_length_eq_zero (by omega)
          have z := List.filter_eq_nil_iff.mp z
          have : (usedBy b i).all (fun x => decide (x.1 ∈ ordN b k)) = true := List.all_eq_true.mpr fun x hx => by simpa using z x hx
          rw [e] at this; cases this
      rw [er]
      refine gd_if (fun hr => ?_) fun hr => gd_ret ⟨rfl, by simpa using hr⟩
      refine gd_eq (gd_req (by omega) (gd_ret rfl)) (gd_ret ?_)
      show ordN b k ++ [(i : Int)] = nextIt b (ordN b k)
      unfold nextIt
      rw [find_none (x := 0) (by omega) hs hr]
    · by_cases e : j = i
      · subst e; exact h.2
      · exact hs j (by omega)
  · exfalso
    have hm := mem_rng.mp (List.mem_of_find?_eq_some ez)
    have hr := List.find?_some ez
    have := h.2 z.toNat (by rw [rng_len]; omega)
    rw [show ((z.toNat : Nat) : Int) = z by omega] at this
    rw [this] at hr; cases hr
end Mw

set_option Elab.async false
set_option linter.all false
set_option maxRecDepth 100000
set_option autoImplicit false
namespace Mw
open PySem PySem.Spec PyProof.Rows L2
/-! ## books -/
structure BooksOk (b : List Item) (k : Books) : Prop where
  today : 0 ≤ k.today ∧ k.today ≤ 200
  stl : k.stock.length = b.length
  stk : ∀ x ∈ k.stock, 0 ≤ x ∧ x ≤ 10000
  recl : k.recs.length ≤ 12
  rc : ∀ e ∈ k.recs, (0 ≤ e.1 ∧ e.1 < b.length) ∧ (k.today ≤ e.2.1 ∧ e.2.1 ≤ 200) ∧ 1 ≤ e.2.2 ∧ e.2.2 ≤ 500
  ordl : k.ords.length ≤ 12
  ord : ∀ e ∈ k.ords, (1 ≤ e.1 ∧ e.1 ≤ 99) ∧ (0 ≤ e.2.1 ∧ e.2.1 < b.length) ∧ (1 ≤ e.2.2.1 ∧ e.2.2.1 ≤ 500) ∧ k.today ≤ e.2.2.2 ∧ e.2.2.2 ≤ 200
  rise : (k.ords.map fun e => e.1).Pairwise (· < ·)
/-- what the needs ask of books -/
structure BkW (b : List Item) (k : Books) : Prop where
  stl : k.stock.length = b.length
  recl : k.recs.length ≤ 100
  ordl : k.ords.length ≤ 100
  ord : ∀ e ∈ k.ords, -1000 ≤ e.2.2.2 ∧ e.2.2.2 ≤ 2000
theorem BooksOk.w {b : List Item} {k : Books} (h : BooksOk b k) : BkW b k := ⟨h.stl, by have := h.recl; omega, by have := h.ordl; omega, fun e he => by have := h.ord e he; have := h.today; omega⟩
theorem pick3 {a b c x : Int} {lo hi : Int} (h : 0 ≤ x ∧ x < 3) (ha : lo ≤ a ∧ a ≤ hi) (hb : lo ≤ b ∧ b ≤ hi) (hc : lo ≤ c ∧ c ≤ hi) : lo ≤ ix [a, b, c] x ∧ ix [a, b, c] x ≤ hi := by
  have : x = 0 ∨ x = 1 ∨ x = 2 := by omega
  rcases this with h | h | h <;> subst h
  · exact ha
  · exact hb
  · exact hc
/-- the laws' books: all within 30 days of today -/
structure BooksNear (k : Books) : Prop where
  today : k.today ≤ 150
  ord : ∀ e ∈ k.ords, e.2.2.2 ≤ k.today + 29
  rc : ∀ e ∈ k.recs, e.2.1 ≤ k.today + 24
  ordl : k.ords.length ≤ 4
  recl : k.recs.length ≤ 4
theorem gd_books {b : List Item} {bx : Box} (hx : BxOk bx) (hb : BillOk b) (hp : 1 ≤ b.length) : Gd (t__law_books bx b) (fun p => (BooksOk b p.1 ∧ BooksNear p.1) ∧ BxOk p.2) := by
  have hl := hb.len
  refine gd_bind (P := fun s => BxOk s.1 ∧ 0 ≤ s.2 ∧ s.2 ≤ 150) (gd_bind (gd_draw hx (by omega)) fun p1 h1 => gd_bind (gd_draw h1.2 (by omega)) fun p2 h2 => gd_req ⟨by omega, by simp; omega⟩ (gd_ret ⟨h2.2, pick3 (by omega) (by omega) (by omega) (by omega)⟩)) fun s hs => ?_
  obtain ⟨b1, today⟩ := s
  obtain ⟨hb1, ht⟩ := hs
  dsimp only at hb1 ht
  refine gd_bind (P := fun (s : Box × List Int) => BxOk s.1 ∧ s.2.length = b.length ∧ ∀ x ∈ s.2, 0 ≤ x ∧ x ≤ 10000) (gd_req (by omega) (gd_bind (gd_lcS (fun i ys s => BxOk s ∧ ys.length = i ∧ ∀ x ∈ ys, 0 ≤ x ∧ x ≤ 10000) ⟨hb1, rfl, fun _ h => nomatch h⟩ fun i x ys s hx hs => ?_) fun p hp => gd_ret ⟨hp.1, hp.2.1, hp.2.2⟩)) fun s hs => ?_
  · obtain ⟨k1, k2, k3⟩ := hs
    refine gd_bind (gd_draw k1 (by omega)) fun p1 h1 => gd_bind (gd_draw h1.2 (by omega)) fun p2 h2 => gd_req (by omega) (gd_ret ⟨h2.2, by simp [k2], fun x hx => ?_⟩)
    rcases List.mem_append.mp hx with z | z
    · exact k3 x z
    · rw [List.mem_singleton] at z; subst z
      dsimp only
      have : p2.1 = 0 ∨ p2.1 = 1 := by omega
      rcases this with e | e <;> rw [e] <;> omega
  obtain ⟨b2, stock⟩ := s
  obtain ⟨hb2, hsl, hss⟩ := hs
  dsimp only at hb2 hsl hss
  refine gd_let (gd_bind (P := fun (s : Box × List (Int × Int × Int)) => BxOk s.1 ∧ s.2.length ≤ 4 ∧ ∀ e ∈ s.2, (0 ≤ e.1 ∧ e.1 < b.length) ∧ (today ≤ e.2.1 ∧ e.2.1 ≤ today + 24) ∧ 1 ≤ e.2.2 ∧ e.2.2 ≤ 500) (gd_bind (gd_draw hb2 (by omega)) fun p hp => gd_req (by omega) ?_) fun s hs => ?_)
  · refine gd_forL' (fun i s => BxOk s.1 ∧ s.2.length = i ∧ ∀ e ∈ s.2, (0 ≤ e.1 ∧ e.1 < b.length) ∧ (today ≤ e.2.1 ∧ e.2.1 ≤ today + 24) ∧ 1 ≤ e.2.2 ∧ e.2.2 ≤ 500) ⟨hp.2, rfl, fun _ h => nomatch h⟩ (fun i x s hx hs => ?_) fun s h => ⟨h.1, by have := h.2.1; rw [rng_len] at this; omega, h.2.2⟩
    have hx := rng_get hx
    obtain ⟨k1, k2, k3⟩ := hs
    refine gd_bind (P := fun (s : Box × List (Int × Int × Int)) => BxOk s.1 ∧ s.2.length = i + 1 ∧ ∀ e ∈ s.2, (0 ≤ e.1 ∧ e.1 < b.length) ∧ (today ≤ e.2.1 ∧ e.2.1 ≤ today + 24) ∧ 1 ≤ e.2.2 ∧ e.2.2 ≤ 500) (gd_bind (gd_draw k1 (by omega)) fun p1 h1 => gd_bind (gd_draw h1.2 (by omega)) fun p2 h2 => gd_bind (gd_draw h2.2 (by omega)) fun p3 h3 => gd_req (by omega) (gd_ret ⟨h3.2, by simp [k2], fun e he => ?_⟩)) fun s h => gd_ret h
    rcases List.mem_append.mp he with z | z
    · exact k3 e z
    · rw [List.mem_singleton] at z; subst z; dsimp only; omega
  obtain ⟨b3, recs⟩ := s
  obtain ⟨hb3, hrl, hrs⟩ := hs
  dsimp only at hb3 hrl hrs
  refine gd_let (gd_let (gd_bind (P := fun (s : Box × List (Int × Int × Int × Int) × Int) => BxOk s.1 ∧ s.2.1.length ≤ 4 ∧ (∀ e ∈ s.2.1, (1 ≤ e.1 ∧ e.1 ≤ s.2.2) ∧ (0 ≤ e.2.1 ∧ e.2.1 < b.length) ∧ (1 ≤ e.2.2.1 ∧ e.2.2.1 ≤ 500) ∧ today ≤ e.2.2.2 ∧ e.2.2.2 ≤ today + 29) ∧ s.2.2 ≤ 99 ∧ (s.2.1.map fun e => e.1).Pairwise (· < ·)) (gd_bind (gd_draw hb3 (by omega)) fun p hp => gd_req (by omega) ?_) fun s hs => gd_ret ?_))
  · refine gd_forL' (fun i s => BxOk s.1 ∧ s.2.1.length = i ∧ (∀ e ∈ s.2.1, (1 ≤ e.1 ∧ e.1 ≤ s.2.2) ∧ (0 ≤ e.2.1 ∧ e.2.1 < b.length) ∧ (1 ≤ e.2.2.1 ∧ e.2.2.1 ≤ 500) ∧ today ≤ e.2.2.2 ∧ e.2.2.2 ≤ today + 29) ∧ (0 ≤ s.2.2 ∧ s.2.2 ≤ 10 * i) ∧ (s.2.1.map fun e => e.1).Pairwise (· < ·)) ⟨hp.2, rfl, (fun _ h => nomatch h), by dsimp only; omega, List.Pairwise.nil⟩ (fun i x s hx hs => ?_) fun s h => ⟨h.1, by have := h.2.1; rw [rng_len] at this; omega, h.2.2.1, by have := h.2.2.2.1; rw [rng_len] at this; omega, h.2.2.2.2⟩
    have hx := rng_get hx
    obtain ⟨k1, k2, k3, k4, k5⟩ := hs
    refine gd_bind (P := fun (t : Box × Int) => BxOk t.1 ∧ s.2.2 < t.2 ∧ t.2 ≤ s.2.2 + 9) (gd_bind (gd_draw k1 (by omega)) fun p hp => gd_ret ⟨hp.2, by dsimp only; omega⟩) fun t ht => ?_
    refine gd_bind (P := fun (u : Box × List (Int × Int × Int × Int)) => BxOk u.1 ∧ u.2.length = i + 1 ∧ (∀ e ∈ u.2, (1 ≤ e.1 ∧ e.1 ≤ t.2) ∧ (0 ≤ e.2.1 ∧ e.2.1 < b.length) ∧ (1 ≤ e.2.2.1 ∧ e.2.2.1 ≤ 500) ∧ today ≤ e.2.2.2 ∧ e.2.2.2 ≤ today + 29) ∧ (u.2.map fun e => e.1).Pairwise (· < ·)) (gd_bind (gd_draw ht.1 (by omega)) fun p1 h1 => gd_bind (gd_draw h1.2 (by omega)) fun p2 h2 => gd_bind (gd_draw h2.2 (by omega)) fun p3 h3 => gd_req (by omega) (gd_ret ⟨h3.2, by simp [k2], fun e he => ?_, ?_⟩)) fun u h => gd_ret ⟨h.1, h.2.1, h.2.2.1, by dsimp only; omega, h.2.2.2⟩
    · rcases List.mem_append.mp he with z | z
      · have := k3 e z; omega
      · rw [List.mem_singleton] at z; subst z; dsimp only; omega
    · rw [List.map_append, List.pairwise_append]
      refine ⟨k5, by simp, fun a ha c hc => ?_⟩
      obtain ⟨e, he, rfl⟩ := List.mem_map.mp ha
      simp at hc; subst hc
      have := k3 e he
      omega
  · obtain ⟨h1, h2, h3, h4, h5⟩ := hs
    refine ⟨⟨⟨by dsimp only; omega, hsl, hss, by dsimp only; omega, fun e he => ?_, by dsimp only; omega, fun e he => ?_, h5⟩, ⟨ht.2, fun e he => (h3 e he).2.2.2.2, fun e he => (hrs e he).2.1.2, h2, hrl⟩⟩, h1⟩
    · have := hrs e he; dsimp only; omega
    · have := h3 e he; dsimp only; omega
/-! ## what is taken, supplied -/
def ordd (k : Books) (i d : Int) : Int := ((k.ords.filter fun e => decide (e.2.1 = i) && decide (e.2.2.2 ≤ d)).map fun e => e.2.2.1).sum
def supp (k : Books) (i d : Int) : Int := ix k.stock i + ((k.recs.filter fun e => decide (e.1 = i) && decide (e.2.1 ≤ d)).map fun e => e.2.2).sum
theorem gd_ordered {b : List Item} {k : Books} (h : BkW b k) (i d : Int) : Gd (t_ordered k i d) (· = ordd k i d) := by
  have := h.ordl
  refine gd_req (by omega) (gd_req (lcP_ret_ok _ _ _) (gd_ret ?_))
  rw [lcP_ret_val]; rfl
theorem gd_supplied {b : List Item} {k : Books} (h : BkW b k) {i : Int} (hi : 0 ≤ i ∧ i < b.length) (d : Int) : Gd (t_supplied k i d) (· = supp k i d) := by
  have := h.recl
  have := h.stl
  refine gd_req (by omega) (gd_req (by omega) (gd_req (lcP_ret_ok _ _ _) (gd_ret ?_)))
  rw [lcP_ret_val]; rfl
theorem foldl_sum {α : Type} (c : α → Bool) (g : α → Int) : ∀ (xs : List α) (a : Int), xs.foldl (fun s x => if c x = true then s + g x else s) a = a + ((xs.filter c).map g).sum
  | [], a => by simp
  | x :: xs, a => by
    rw [List.foldl_cons, foldl_sum c g xs, List.filter_cons]
    by_cases h : c x = true
    · rw [if_pos h, if_pos h, List.map_cons, List.sum_cons]; omega
    · rw [if_neg h, if_neg h]
theorem gd_sumif {α : Type} (c : α → Bool) (g : α → Int) (xs : List α) (a : Int) : Gd (T.forL (fun (s : Int) (x : α) => T.bind (if c x = true then T.bind (T.ret (s + g x)) fun s5 => T.ret s5 else T.ret s) fun s6 => T.ret s6) xs a) (· = a + ((xs.filter c).map g).sum) := by
  rw [← foldl_sum]
  refine gd_fold (fun s x => if c x = true then s + g x else s) (fun _ => True) trivial fun x _ s _ => ⟨?_, trivial⟩
  by_cases h : c x = true
  · rw [if_pos h, if_pos h]; exact gd_eq (gd_let (gd_ret rfl)) (gd_ret rfl)
  · rw [if_neg h, if_neg h]; exact gd_eq (gd_ret rfl) (gd_ret rfl)
theorem gd_law_ordered (k : Books) (i d : Int) : Gd (t__law_ordered k i d) (· = ordd k i d) := by
  refine gd_let (gd_eq (gd_sumif (fun e : Int × Int × Int × Int => decide (e.2.1 = i) && decide (e.2.2.2 ≤ d)) (fun e => e.2.2.1) k.ords 0) (gd_ret ?_))
  rw [Int.zero_add]; rfl
theorem gd_law_supplied {b : List Item} {k : Books} (h : BkW b k) {i : Int} (hi : 0 ≤ i ∧ i < b.length) (d : Int) : Gd (t__law_supplied k i d) (· = supp k i d) := by
  have := h.stl
  refine gd_eq (a := ix k.stock i) (gd_req (by omega) (gd_ret rfl)) ?_
  exact gd_eq (gd_sumif (fun e : Int × Int × Int => decide (e.1 = i) && decide (e.2.1 ≤ d)) (fun e => e.2.2) k.recs (ix k.stock i)) (gd_ret rfl)
/-! ## needs -/
def lotsAt (rows : List (Int × Int)) (d : Int) : Int := rows.foldl (fun l r => if r.1 ≤ d then r.2 else l) 0
theorem gd_lots_at (rows : List (Int × Int)) (d : Int) : Gd (t__lots_at rows d) (· = lotsAt rows d) := by
  refine gd_let (gd_bind (P := fun s => s = lotsAt rows d) (gd_fold (fun (l : Int) (r : Int × Int) => if r.1 ≤ d then r.2 else l) (fun _ => True) trivial fun x _ s _ => ⟨?_, trivial⟩) fun s h => gd_ret h)
  by_cases h : x.1 ≤ d
  · rw [if_pos (decide_eq_true h), if_pos h]; exact gd_eq (gd_let (gd_ret rfl)) (gd_ret rfl)
  · rw [if_neg (by simpa using h), if_neg h]; exact gd_eq (gd_ret rfl) (gd_ret rfl)
def daysOf (b : List Item) (k : Books) (f : List (List (Int × Int))) (i : Int) : List Int := srtI (((k.ords.filter fun e => decide (e.2.1 = i)).map fun e => e.2.2.2) ++ (usedBy b i).flatMap fun u => (ix f u.1).map fun r => r.1)
/-- found rows of a size -/
structure FdOk (b : List Item) (f : List (List (Int × Int))) : Prop where
  len : f.length = b.length
  rows : ∀ x ∈ f, x.length ≤ 10000
theorem foldl_app {α β : Type} (g : α → List β) : ∀ (xs : List α) (a : List β), xs.foldl (fun s x => s ++ g x) a = a ++ xs.flatMap g
  | [], a => by simp
  | x :: xs, a => by rw [List.foldl_cons, foldl_app g xs, List.flatMap_cons, List.append_assoc]
theorem gd_foldI {α σ : Type} {b : σ → α → T σ} (f : σ → α → σ) {xs : List α} {s : σ} (P : Nat → σ → Prop) (h0 : P 0 s) (hs : ∀ i x s, xs[i]? = some x → P i s → Gd (b s x) (· = f s x) ∧ P (i + 1) (f s x)) : Gd (T.forL b xs s) (· = xs.foldl f s) := by
  induction xs generalizing s P with
  | nil => exact gd_ret rfl
  | cons x xs ih =>
    have h := hs 0 x s rfl h0
    exact gd_eq h.1 (ih (fun i => P (i + 1)) h.2 fun i y s hy hp => hs (i + 1) y s (by simpa using hy) hp)
theorem usedBy_get {b : List Item} {i : Int} {n : Nat} {u : Int × Int} (h : (usedBy b i)[n]? = some u) : 0 ≤ u.1 ∧ u.1 < b.length := (usedBy_mem.mp (show (u.1, u.2) ∈ usedBy b i from List.mem_of_getElem? h)).1
theorem gd_days_of {b : List Item} {k : Books} {f : List (List (Int × Int))} (hb : BillOk b) (h : BkW b k) (hf : FdOk b f) (i : Int) : Gd (t__days_of b k f i) (· = daysOf b k f i) := by
  have h1 := h.ordl
  have h2 := List.length_filter_le (fun e : Int × Int × Int × Int => decide (e.2.1 = i)) k.ords
  refine gd_eq (a := (k.ords.filter fun e => decide (e.2.1 = i)).map fun e => e.2.2.2) (gd_req (by omega) (gd_req (lcP_ret_ok _ _ _) (gd_ret (lcP_ret_val _ _ _)))) ?_
  have hl := hb.len
  have hu := usedBy_len b i
  refine gd_eq (a := ((k.ords.filter fun e => decide (e.2.1 = i)).map fun e => e.2.2.2) ++ (usedBy b i).flatMap fun u => (ix f u.1).map fun r => r.1) (gd_eq (gd_used_by hb i) ?_) (gd_ret rfl)
  rw [← foldl_app]
  refine gd_foldI (fun (s : List Int) (u : Int × Int) => s ++ (ix f u.1).map fun r => r.1) (fun n (s : List Int) => s.length ≤ 100 + 10000 * n) (by rw [List.length_map]; omega) fun n u s hu' hs => ?_
  have hn := (List.getElem?_eq_some_iff.mp hu').1
  have hr := usedBy_get hu'
  have hfl := hf.len
  have hfr := hf.rows _ (ix_mem (show 0 ≤ u.1 ∧ u.1 < f.length by omega))
  constructor
  · refine gd_eq (a := s ++ (ix f u.1).map fun r => r.1) (gd_req (by omega) (gd_req (by omega) (gd_req (lcP_ret_ok _ _ _) (gd_req ?_ (gd_ret ?_))))) (gd_ret rfl)
    · rw [lcP_ret_val, List.filter_eq_self.mpr (fun _ _ => rfl), List.length_map]; omega
    · rw [lcP_ret_val, List.filter_eq_self.mpr (fun _ _ => rfl)]
  · rw [List.length_append, List.length_map]; omega
def takenF (b : List Item) (k : Books) (f : List (List (Int × Int))) (i d : Int) : Int := ordd k i d + ((usedBy b i).map fun u => u.2 * (ix b u.1).lot * lotsAt (ix f u.1) d).sum
theorem foldl_add {α : Type} (g : α → Int) (xs : List α) (a : Int) : xs.foldl (fun s x => s + g x) a = a + (xs.map g).sum := by
  induction xs generalizing a with
  | nil => simp
  | cons x xs ih => rw [List.foldl_cons, ih, List.map_cons, List.sum_cons]; omega
theorem mul_bd {a b : Int} {m n : Nat} (ha : 0 ≤ a ∧ a ≤ m) (hb : 0 ≤ b ∧ b ≤ n) : 0 ≤ a * b ∧ a * b ≤ ((m * n : Nat) : Int) := by
  refine ⟨Int.mul_nonneg ha.1 hb.1, ?_⟩
  have := Int.mul_le_mul ha.2 hb.2 hb.1 (show (0 : Int) ≤ m by omega)
  rw [Int.natCast_mul]; exact this
theorem qlot_bd {b : List Item} (hb : BillOk b) {i : Int} {u : Int × Int} (hu : u ∈ usedBy b i) : 0 ≤ u.2 * (ix b u.1).lot ∧ u.2 * (ix b u.1).lot ≤ 4000 := by
  obtain ⟨h1, h2, h3⟩ := usedBy_mem.mp (show (u.1, u.2) ∈ usedBy b i from hu)
  have h4 := qty_bd hb (i := i) h1
  have h5 := (hb.ix h1).lot
  rw [← h2] at h4
  exact mul_bd (m := 80) (n := 50) (by omega) (by omega)
theorem gd_taken {b : List Item} {k : Books} {f : List (List (Int × Int))} (hb : BillOk b) (h : BkW b k) (hf : FdOk b f) (i d : Int) : Gd (t__taken b k f i d) (· = takenF b k f i d) := by
  refine gd_eq (gd_eq (gd_ordered h i d) (gd_ret rfl)) ?_
  refine gd_eq (a := takenF b k f i d) (gd_eq (gd_used_by hb i) ?_) (gd_ret rfl)
  unfold takenF
  rw [← foldl_add]
  refine gd_fold (fun (s : Int) (u : Int × Int) => s + u.2 * (ix b u.1).lot * lotsAt (ix f u.1) d) (fun _ => True) trivial fun u hu s _ => ⟨?_, trivial⟩
  have hr := (usedBy_mem.mp (show (u.1, u.2) ∈ usedBy b i from hu)).1
  have hq := qlot_bd hb hu
  have hl := (hb.ix hr).lot
  have hfl := hf.len
  refine gd_eq (gd_req hr (gd_req (by omega) (gd_req (by omega) (gd_eq (gd_lots_at _ d) (gd_req (by omega) (gd_ret rfl)))))) (gd_ret rfl)
def rup (n g : Int) : Int := -(-n / g)
def rowStep (b : List Item) (k : Books) (f : List (List (Int × Int))) (i : Int) (s : List (Int × Int) × Int) (d : Int) : List (Int × Int) × Int :=
  if s.2 < rup (takenF b k f i d - supp k i d) (ix b i).good then (s.1 ++ [(d - (ix b i).lead, rup (takenF b k f i d - supp k i d) (ix b i).good)], rup (takenF b k f i d - supp k i d) (ix b i).good) else s
def rowsOf (b : List Item) (k : Books) (f : List (List (Int × Int))) (i : Int) : List (Int × Int) := ((daysOf b k f i).foldl (rowStep b k f i) ([], 0)).1
theorem daysOf_len {b : List Item} {k : Books} {f : List (List (Int × Int))} (hb : BillOk b) (h : BkW b k) (hf : FdOk b f) (i : Int) : (daysOf b k f i).length ≤ 100000 := by
  unfold daysOf
  rw [(srtI_perm _).length_eq, List.length_append, List.length_map]
  have h1 := h.ordl
  have h2 := List.length_filter_le (fun e : Int × Int × Int × Int => decide (e.2.1 = i)) k.ords
  have key : ∀ l : List (Int × Int), (∀ u ∈ l, 0 ≤ u.1 ∧ u.1 < b.length) → (l.flatMap fun u => (ix f u.1).map fun r => r.1).length ≤ 10000 * l.length := by
    intro l
    induction l with
    | nil => intro _; simp
    | cons u l ih =>
      intro hu
      rw [List.flatMap_cons, List.length_append, List.length_map, List.length_cons]
      have := ih fun v hv => hu v (by simp [hv])
      have hr := hu u (by simp)
      have hfl := hf.len
      have := hf.rows _ (ix_mem (show 0 ≤ u.1 ∧ u.1 < f.length by omega))
      omega
  have := key (usedBy b i) fun u hu => (usedBy_mem.mp (show (u.1, u.2) ∈ usedBy b i from hu)).1
  have := usedBy_len b i
  have := hb.len
  omega
theorem gd_rows_of {b : List Item} {k : Books} {f : List (List (Int × Int))} (hb : BillOk b) (h : BkW b k) (hf : FdOk b f) {i : Int} (hi : 0 ≤ i ∧ i < b.length) : Gd (t_rows_of b k f i) (· = rowsOf b k f i) := by
  have hdl := daysOf_len hb h hf i
  have hg := (hb.ix hi).good
  have hlot := (hb.ix hi).lot
  refine gd_let (gd_let (gd_eq (a := (daysOf b k f i).foldl (rowStep b k f i) ([], 0)) (gd_eq (gd_days_of hb h hf i) ?_) (gd_ret rfl)))
  refine gd_foldI (rowStep b k f i) (fun n s => s.1.length ≤ n) (Nat.le_refl _) fun n d s hd hs => ?_
  have hn := (List.getElem?_eq_some_iff.mp hd).1
  constructor
  · refine gd_eq (gd_eq (gd_taken hb h hf i d) (gd_eq (gd_supplied h hi d) (gd_ret rfl))) ?_
    refine gd_eq (gd_req hi (gd_eq (a := rup (takenF b k f i d - supp k i d) (ix b i).good) (gd_req (by omega) (gd_ret rfl)) (gd_ret rfl))) ?_
    unfold rowStep
    by_cases hc : s.2 < rup (takenF b k f i d - supp k i d) (ix b i).good
    · rw [if_pos (decide_eq_true hc), if_pos hc]
      exact gd_eq (gd_let (gd_eq (gd_req hi (gd_req (by omega) (gd_ret rfl))) (gd_ret rfl))) (gd_ret rfl)
    · rw [if_neg (by simpa using hc), if_neg hc]
      exact gd_let (gd_ret rfl)
  · unfold rowStep
    split
    · dsimp only; rw [List.length_append]; simp; omega
    · omega
end Mw

set_option Elab.async false
set_option linter.all false
set_option maxRecDepth 100000
set_option autoImplicit false
namespace Mw
open PySem PySem.Spec PyProof.Rows L2
/-! ## rows of needed lots -/
theorem lotsAt_app (rows : List (Int × Int)) (r : Int × Int) (d : Int) : lotsAt (rows ++ [r]) d = if r.1 ≤ d then r.2 else lotsAt rows d := by
  unfold lotsAt; rw [List.foldl_append]; rfl
def rstep (m : Int → Int) (lead : Int) (s : List (Int × Int) × Int) (d : Int) : List (Int × Int) × Int := if s.2 < m d then (s.1 ++ [(d - lead, m d)], m d) else s
structure RInv (m : Int → Int) (lead : Int) (pre : List Int) (s : List (Int × Int) × Int) : Prop where
  dr : s.1.Pairwise fun a b => a.1 < b.1
  lr : s.1.Pairwise fun a b => a.2 < b.2
  mem : ∀ r ∈ s.1, (∃ d ∈ pre, r = (d - lead, m d)) ∧ 1 ≤ r.2 ∧ r.2 ≤ s.2
  top : 0 ≤ s.2 ∧ ∀ d ∈ pre, m d ≤ s.2
  rch : s.2 = 0 ∨ ∃ d ∈ pre, s.2 = m d
  bel : ∀ e, lotsAt s.1 e ≤ s.2
  lo : ∀ e, 0 ≤ lotsAt s.1 e ∧ ∀ d ∈ pre, d ≤ e + lead → m d ≤ lotsAt s.1 e
  hi : ∀ e, lotsAt s.1 e = 0 ∨ ∃ d ∈ pre, d ≤ e + lead ∧ lotsAt s.1 e = m d ∧ 1 ≤ m d
theorem rinv_step {m : Int → Int} {lead : Int} {pre : List Int} {s : List (Int × Int) × Int} (h : RInv m lead pre s) {d : Int} (hd : ∀ x ∈ pre, x ≤ d) : RInv m lead (pre ++ [d]) (rstep m lead s d) := by
  unfold rstep
  by_cases c : s.2 < m d
  · rw [if_pos c]
    have new : ∀ x ∈ pre, x < d := fun x hx => by
      have := hd x hx
      rcases Int.lt_or_eq_of_le this with z | z
      · exact z
      · subst z; have := h.top.2 x hx; omega
    refine ⟨?_, ?_, fun r hr => ?_, ⟨by have := h.top.1; dsimp only; omega, fun x hx => ?_⟩, .inr ⟨d, by simp, rfl⟩, fun e => ?_, fun e => ⟨?_, fun x hx hxe => ?_⟩, fun e => ?_⟩
    · rw [List.pairwise_append]
      refine ⟨h.dr, by simp, fun a ha c hc => ?_⟩
      rw [List.mem_singleton] at hc; subst hc
      obtain ⟨⟨x, hx, rfl⟩, _⟩ := h.mem a ha
      have := new x hx
      dsimp only; omega
    · rw [List.pairwise_append]
      refine ⟨h.lr, by simp, fun a ha c hc => ?_⟩
      rw [List.mem_singleton] at hc; subst hc
      have := (h.mem a ha).2
      dsimp only; omega
    · rcases List.mem_append.mp hr with z | z
      · obtain ⟨⟨x, hx, e⟩, h1, h2⟩ := h.mem r z
        exact ⟨⟨x, by simp [hx], e⟩, h1, by dsimp only; omega⟩
      · rw [List.mem_singleton] at z; subst z
        have := h.top.1
        exact ⟨⟨d, by simp, rfl⟩, by dsimp only; omega, Int.le_refl _⟩
    · rcases List.mem_append.mp hx with z | z
      · have := h.top.2 x z; dsimp only; omega
      · rw [List.mem_singleton] at z; subst z; exact Int.le_refl _
    · dsimp only; rw [lotsAt_app]
      have := h.bel e
      split <;> (try dsimp only) <;> omega
    · dsimp only; rw [lotsAt_app]
      have := (h.lo e).1
      have := h.top.1
      split <;> (try dsimp only) <;> omega
    · dsimp only; rw [lotsAt_app]
      rcases List.mem_append.mp hx with z | z
      · have := (h.lo e).2 x z hxe
        have := h.top.2 x z
        split <;> (try dsimp only) <;> omega
      · rw [List.mem_singleton] at z; subst z
        rw [if_pos (by dsimp only; omega)]; exact Int.le_refl _
    · dsimp only; rw [lotsAt_app]
      split
      · next hc => exact .inr ⟨d, by simp, by dsimp only at hc; omega, rfl, by have := h.top.1; omega⟩
      · rcases h.hi e with z | ⟨x, hx, z⟩
        · exact .inl z
        · exact .inr ⟨x, by simp [hx], z⟩
  · rw [if_neg c]
    refine ⟨h.dr, h.lr, fun r hr => ?_, ⟨h.top.1, fun x hx => ?_⟩, h.rch.imp id (fun ⟨x, hx, z⟩ => ⟨x, by simp [hx], z⟩), h.bel, fun e => ⟨(h.lo e).1, fun x hx hxe => ?_⟩, fun e => ?_⟩
    · obtain ⟨⟨x, hx, e⟩, h1⟩ := h.mem r hr
      exact ⟨⟨x, by simp [hx], e⟩, h1⟩
    · rcases List.mem_append.mp hx with z | z
      · exact h.top.2 x z
      · rw [List.mem_singleton] at z; subst z; omega
    · rcases List.mem_append.mp hx with z | z
      · exact (h.lo e).2 x z hxe
      · rw [List.mem_singleton] at z; subst z
        have h0 := (h.lo e).1
        rcases h.rch with z | ⟨y, hy, z⟩
        · omega
        · have := (h.lo e).2 y hy (by have := hd y hy; omega)
          omega
    · rcases h.hi e with z | ⟨x, hx, z⟩
      · exact .inl z
      · exact .inr ⟨x, by simp [hx], z⟩
theorem rinv_fold {m : Int → Int} {lead : Int} : ∀ (ds pre : List Int) (s : List (Int × Int) × Int), RInv m lead pre s → ds.Pairwise (· ≤ ·) → (∀ x ∈ pre, ∀ d ∈ ds, x ≤ d) → RInv m lead (pre ++ ds) (ds.foldl (rstep m lead) s)
  | [], pre, s, h, _, _ => by simpa using h
  | d :: ds, pre, s, h, hp, hx => by
    have hp := List.pairwise_cons.mp hp
    have := rinv_fold ds (pre ++ [d]) (rstep m lead s d) (rinv_step h fun x hxx => hx x hxx d (by simp)) hp.2 fun x hxx e he => by
      rcases List.mem_append.mp hxx with z | z
      · exact hx x z e (by simp [he])
      · rw [List.mem_singleton] at z; subst z; exact hp.1 e he
    rw [List.append_assoc] at this
    exact this
theorem rinv_all {m : Int → Int} {lead : Int} {ds : List Int} (h : ds.Pairwise (· ≤ ·)) : RInv m lead ds (ds.foldl (rstep m lead) ([], 0)) := by
  have := rinv_fold (m := m) (lead := lead) ds [] ([], 0) ⟨.nil, .nil, (fun _ h => nomatch h), ⟨Int.le_refl _, fun _ h => nomatch h⟩, .inl rfl, fun e => Int.le_refl _, fun e => ⟨Int.le_refl _, fun _ h => nomatch h⟩, fun e => .inl rfl⟩ h fun _ h => nomatch h
  simpa using this
/-- rising numbers between two bounds are few -/
theorem rising_len : ∀ (l : List Int) (lo hi : Int), l.Pairwise (· < ·) → (∀ x ∈ l, lo ≤ x ∧ x ≤ hi) → (l.length : Int) ≤ max 0 (hi - lo + 1)
  | [], lo, hi, _, _ => by simp; omega
  | x :: l, lo, hi, hp, hm => by
    have hp := List.pairwise_cons.mp hp
    have h1 := hm x (by simp)
    have := rising_len l (x + 1) hi hp.2 fun y hy => ⟨by have := hp.1 y hy; omega, (hm y (by simp [hy])).2⟩
    rw [List.length_cons]; omega
/-- ceilings -/
theorem rup_le {n g m : Int} (hg : 0 < g) : rup n g ≤ m ↔ n ≤ m * g := by
  unfold rup
  have h1 : -m ≤ -n / g ↔ -m * g ≤ -n := Int.le_ediv_iff_mul_le hg
  rw [Int.neg_mul] at h1
  constructor
  · intro h; have := h1.mp (by omega); omega
  · intro h; have := h1.mpr (by omega); omega
theorem lt_rup {n g m : Int} (hg : 0 < g) : m < rup n g ↔ m * g < n := by
  have := rup_le (n := n) (m := m) hg; omega
/-! ## needed lots -/
abbrev Needs := List (List (Int × Int))
def missF (b : List Item) (k : Books) (f : Needs) (i d : Int) : Int := takenF b k f i d - supp k i d
theorem rowStep_eq (b : List Item) (k : Books) (f : Needs) (i : Int) : rowStep b k f i = rstep (fun d => rup (missF b k f i d) (ix b i).good) (ix b i).lead := rfl
theorem srt_pair (l : List Int) : (srtI l).Pairwise (· ≤ ·) := srtI_pw l
theorem rowsOf_inv (b : List Item) (k : Books) (f : Needs) (i : Int) : ∃ top, RInv (fun d => rup (missF b k f i d) (ix b i).good) (ix b i).lead (daysOf b k f i) (rowsOf b k f i, top) :=
  ⟨_, rinv_all (srt_pair _)⟩
theorem days_mem {b : List Item} {k : Books} {f : Needs} {i d : Int} : d ∈ daysOf b k f i ↔ (∃ e ∈ k.ords, e.2.1 = i ∧ e.2.2.2 = d) ∨ ∃ u ∈ usedBy b i, ∃ r ∈ ix f u.1, r.1 = d := by
  unfold daysOf
  rw [(srtI_perm _).mem_iff, List.mem_append, List.mem_map, List.mem_flatMap]
  constructor
  · rintro (⟨e, he, h⟩ | ⟨u, hu, h⟩)
    · obtain ⟨h1, h2⟩ := List.mem_filter.mp he
      exact .inl ⟨e, h1, of_decide_eq_true h2, h⟩
    · obtain ⟨r, hr, h⟩ := List.mem_map.mp h
      exact .inr ⟨u, hu, r, hr, h⟩
  · rintro (⟨e, he, h1, h2⟩ | ⟨u, hu, r, hr, h⟩)
    · exact .inl ⟨e, List.mem_filter.mpr ⟨he, decide_eq_true h1⟩, h2⟩
    · exact .inr ⟨u, hu, List.mem_map.mpr ⟨r, hr, h⟩⟩
/-- rows of an item depend on those of its users -/
theorem rowsOf_congr {b : List Item} {k : Books} {f g : Needs} {i : Int} (h : ∀ u ∈ usedBy b i, ix f u.1 = ix g u.1) : rowsOf b k f i = rowsOf b k g i := by
  have h1 : daysOf b k f i = daysOf b k g i := by
    unfold daysOf
    congr 2
    unfold List.flatMap
    congr 1
    exact List.map_congr_left fun u hu => by rw [h u hu]
  have h2 : ∀ d, takenF b k f i d = takenF b k g i d := fun d => by
    unfold takenF
    congr 2
    exact List.map_congr_left fun u hu => by rw [h u hu]
  unfold rowsOf
  rw [h1, rowStep_eq, rowStep_eq]
  have : (fun d => rup (missF b k f i d) (ix b i).good) = fun d => rup (missF b k g i d) (ix b i).good := by
    funext d; unfold missF; rw [h2]
  rw [this]
def needStep (b : List Item) (k : Books) (f : Needs) (x : Int) : Needs := sx f x (rowsOf b k f x)
def neededF (b : List Item) (k : Books) : Needs := (pf b).foldl (needStep b k) (repl b.length [[]])
/-- rows of an item are between two days -/
def Btw (lo hi : Int) (rows : List (Int × Int)) : Prop := rows.Pairwise (fun a b => a.1 < b.1) ∧ ∀ r ∈ rows, lo ≤ r.1 ∧ r.1 ≤ hi
structure NInv (b : List Item) (k : Books) (A B : Int) (n : Nat) (f : Needs) : Prop where
  len : f.length = b.length
  don : ∀ (j : Nat) (x : Int), j < n → (pf b)[j]? = some x → ix f x = rowsOf b k f x ∧ Btw (A - 10 * (j + 1)) B (ix f x)
  rst : ∀ x : Int, 0 ≤ x → x < b.length → x ∉ (pf b).take n → ix f x = []
theorem Btw.len {lo hi : Int} {rows : List (Int × Int)} (h : Btw lo hi rows) : (rows.length : Int) ≤ max 0 (hi - lo + 1) := by
  have := rising_len (rows.map fun r => r.1) lo hi (List.pairwise_map.mpr h.1) fun x hx => by
    obtain ⟨r, hr, rfl⟩ := List.mem_map.mp hx
    exact h.2 r hr
  rwa [List.length_map] at this
theorem user_before {b : List Item} (hb : BillOk b) {j : Nat} {x : Int} (hj : (pf b)[j]? = some x) {u : Int × Int} (hu : u ∈ usedBy b x) : ∃ m, m < j ∧ (pf b)[m]? = some u.1 := by
  obtain ⟨h1, h2, h3⟩ := usedBy_mem.mp (show (u.1, u.2) ∈ usedBy b x from hu)
  have := (pf_tkn hb).up j x hj u.1 h1.1 h1.2 (by rw [← h2]; exact h3)
  obtain ⟨m, hm, e⟩ := List.mem_iff_getElem.mp this
  rw [List.length_take] at hm
  rw [List.getElem_take] at e
  exact ⟨m, by omega, by rw [List.getElem?_eq_getElem (by omega), e]⟩
theorem NInv.fd {b : List Item} {k : Books} {A B : Int} {n : Nat} {f : Needs} (hb : BillOk b) (h : NInv b k A B n f) (hw : B - A ≤ 5000) : FdOk b f := by
  refine ⟨h.len, fun x hx => ?_⟩
  obtain ⟨i, hi, e⟩ := mem_ix hx
  have hl := hb.len
  have hfl := h.len
  by_cases hm : (i : Int) ∈ (pf b).take n
  · obtain ⟨j, hj, ej⟩ := List.mem_iff_getElem.mp hm
    rw [List.length_take] at hj
    rw [List.getElem_take] at ej
    have := (h.don j i (by omega) (by rw [List.getElem?_eq_getElem (by omega), ej])).2.len
    have hpl := pf_len hb
    rw [e] at this
    omega
  · rw [h.rst i (by omega) (by omega) hm] at e
    rw [← e]; simp
theorem ninv_step {b : List Item} {k : Books} {A B : Int} (hb : BillOk b) (hA : A ≤ B) (ho : ∀ e ∈ k.ords, A ≤ e.2.2.2 ∧ e.2.2.2 ≤ B) {n : Nat} {f : Needs} {x : Int} (h : NInv b k A B n f) (hx : (pf b)[n]? = some x) : NInv b k A B (n + 1) (needStep b k f x) := by
  have hxm := (pf_mem hb).mp (List.mem_of_getElem? hx)
  have hfl := h.len
  have hn := (List.getElem?_eq_some_iff.mp hx).1
  have nd := (pf_tkn hb).nd
  have uniq : ∀ {m : Nat}, (pf b)[m]? = some x → m = n := fun {m} hm => (List.getElem?_inj (List.getElem?_eq_some_iff.mp hm).1 nd).mp (hm.trans hx.symm)
  have get : ∀ j : Int, 0 ≤ j → ix (needStep b k f x) j = if j = x then rowsOf b k f x else ix f j := fun j hj => ix_sx (by omega) hj
  have same : ∀ (j : Nat) (y : Int), j ≤ n → (pf b)[j]? = some y → rowsOf b k (needStep b k f x) y = rowsOf b k f y := fun j y hj hy => by
    refine rowsOf_congr fun u hu => ?_
    obtain ⟨m, hm, em⟩ := user_before hb hy hu
    have hu0 := (pf_mem hb).mp (List.mem_of_getElem? em)
    rw [get _ hu0.1, if_neg fun e => by
      rw [e] at em; have := uniq em; omega]
  refine ⟨by unfold needStep; rw [sx_len, hfl], fun j y hj hy => ?_, fun y h0 h1 hy => ?_⟩
  · have hy0 := (pf_mem hb).mp (List.mem_of_getElem? hy)
    rw [get y hy0.1, same j y (by omega) hy]
    by_cases e : y = x
    · subst e
      have := uniq hy
      subst this
      rw [if_pos rfl]
      refine ⟨rfl, ?_⟩
      obtain ⟨top, inv⟩ := rowsOf_inv b k f y
      refine ⟨inv.dr, fun r hr => ?_⟩
      obtain ⟨⟨d, hd, er⟩, _⟩ := inv.mem r hr
      have hlead := (hb.ix hxm).lead
      have hdd : A - 10 * j ≤ d ∧ d ≤ B := by
        rcases days_mem.mp hd with ⟨e, he, _, rfl⟩ | ⟨u, hu, r, hr, rfl⟩
        · have := ho e he; omega
        · obtain ⟨m, hm, em⟩ := user_before hb hx hu
          have := (h.don m u.1 hm em).2.2 r hr
          omega
      rw [er]; dsimp only; omega
    · rw [if_neg e]
      have hj' : j < n := by
        rcases Nat.lt_or_ge j n with z | z
        · exact z
        · have : j = n := by omega
          subst this
          rw [hx] at hy; cases hy; exact absurd rfl e
      exact h.don j y hj' hy
  · rw [get y h0, if_neg fun e => by
      subst e
      refine hy ?_
      rw [List.take_add_one, hx]; simp]
    exact h.rst y h0 h1 fun z => hy (by rw [List.take_add_one]; exact List.mem_append_left _ z)
theorem repl_len {α : Type} (n : Nat) (x : α) : (repl (n : Int) [x]).length = n := by
  unfold repl; rw [List.length_flatten]; simp
theorem repl_mem {α : Type} {n : Int} {x y : α} (h : y ∈ repl n [x]) : y = x := by
  unfold repl at h
  obtain ⟨l, hl, hy⟩ := List.mem_flatten.mp h
  have := (List.mem_replicate.mp hl).2
  subst this
  simpa using hy
theorem ninv_0 (b : List Item) (k : Books) (A B : Int) : NInv b k A B 0 (repl b.length [[]]) :=
  ⟨repl_len _ _, fun j x hj => by omega, fun x h0 h1 _ => repl_mem (ix_mem ⟨h0, by rw [repl_len]; exact h1⟩)⟩
theorem ninv_fold {b : List Item} {k : Books} {A B : Int} (hb : BillOk b) (hA : A ≤ B) (ho : ∀ e ∈ k.ords, A ≤ e.2.2.2 ∧ e.2.2.2 ≤ B) : ∀ n, n ≤ (pf b).length → NInv b k A B n (((pf b).take n).foldl (needStep b k) (repl b.length [[]]))
  | 0, _ => ninv_0 b k A B
  | n + 1, h => by
    have hg := List.getElem?_eq_getElem (show n < (pf b).length by omega)
    rw [List.take_add_one, hg, List.foldl_append]
    exact ninv_step hb hA ho (ninv_fold hb hA ho n (by omega)) hg
theorem needed_inv {b : List Item} {k : Books} {A B : Int} (hb : BillOk b) (hA : A ≤ B) (ho : ∀ e ∈ k.ords, A ≤ e.2.2.2 ∧ e.2.2.2 ≤ B) : NInv b k A B b.length (neededF b k) := by
  have := ninv_fold hb hA ho (pf b).length (Nat.le_refl _)
  rw [List.take_length, pf_len hb] at this
  exact this
theorem gd_needed {b : List Item} {k : Books} (hb : BillOk b) (h : BkW b k) : Gd (t_needed b k) (· = neededF b k) := by
  have hl := hb.len
  refine gd_eq (a := repl (b.length : Int) [([] : List (Int × Int))]) (gd_req ⟨by omega, by omega, by decide⟩ (gd_ret rfl)) ?_
  refine gd_eq (a := neededF b k) (gd_eq (gd_parents_first hb) ?_) (gd_ret rfl)
  refine gd_foldI (needStep b k) (fun n f => NInv b k (-1000) 2000 n f) (ninv_0 b k _ _) fun n x f hx hf => ?_
  have fd := hf.fd hb (by omega)
  have hfl := hf.len
  have hxm := (pf_mem hb).mp (List.mem_of_getElem? hx)
  exact ⟨gd_eq (gd_eq (gd_rows_of hb h fd hxm) (gd_req (by omega) (gd_ret rfl))) (gd_ret rfl), ninv_step hb (by omega) h.ord hf hx⟩
theorem needed_len {b : List Item} {k : Books} (hb : BillOk b) (h : BkW b k) : (neededF b k).length = b.length := (needed_inv hb (A := -1000) (B := 2000) (by omega) h.ord).len
/-- the rows of an item are those of the needed lots of its users -/
theorem needed_rows {b : List Item} {k : Books} (hb : BillOk b) (h : BkW b k) {i : Int} (hi : 0 ≤ i ∧ i < b.length) : ix (neededF b k) i = rowsOf b k (neededF b k) i := by
  obtain ⟨j, hj, e⟩ := List.mem_iff_getElem.mp ((pf_mem hb).mpr hi)
  exact ((needed_inv hb (A := -1000) (B := 2000) (by omega) h.ord).don j i (by rw [← pf_len hb]; exact hj) (by rw [List.getElem?_eq_getElem hj, e])).1
/-- needed lots by a day -/
def need (b : List Item) (k : Books) (i d : Int) : Int := lotsAt (ix (neededF b k) i) d
end Mw

set_option Elab.async false
set_option linter.all false
set_option maxRecDepth 100000
set_option autoImplicit false
namespace Mw
open PySem PySem.Spec PyProof.Rows L2
/-! ## sums over users -/
theorem sum_mul_l {α : Type} (g : α → Int) (c : Int) : ∀ xs : List α, (xs.map fun x => g x * c).sum = (xs.map g).sum * c
  | [] => by simp
  | x :: xs => by rw [List.map_cons, List.sum_cons, sum_mul_l g c xs, List.map_cons, List.sum_cons, Int.add_mul]
theorem sum_filter0 {α : Type} (c : α → Bool) (g : α → Int) : ∀ xs : List α, (∀ x ∈ xs, c x = false → g x = 0) → (xs.map g).sum = ((xs.filter c).map g).sum
  | [], _ => rfl
  | x :: xs, h => by
    have ih := sum_filter0 c g xs fun y hy => h y (by simp [hy])
    rw [List.map_cons, List.sum_cons, List.filter_cons]
    cases e : c x with
    | true => rw [if_pos rfl, List.map_cons, List.sum_cons, ih]
    | false => rw [if_neg (by decide), h x (by simp) e, ih]; omega
/-- what all lots of the users take -/
def useSum (b : List Item) (i : Int) (X : Int → Int) : Int := ((usedBy b i).map fun u => u.2 * (ix b u.1).lot * X u.1).sum
theorem useSum_rng {b : List Item} (hb : BillOk b) (i : Int) (X : Int → Int) : ((rng b.length).map fun p => qtyIn b p i * (ix b p).lot * X p).sum = useSum b i X := by
  unfold useSum usedBy
  rw [sum_filter0 (fun p => decide (0 < qtyIn b p i)) _ _ fun p hp h => by
    have h := of_decide_eq_false h
    have := qty_bd hb (i := i) (mem_rng.mp hp)
    have : qtyIn b p i = 0 := by omega
    rw [this]; simp]
  rw [List.filter_map, List.map_map]
  rfl
theorem takenF_eq (b : List Item) (k : Books) (f : Needs) (i d : Int) : takenF b k f i d = ordd k i d + useSum b i fun p => lotsAt (ix f p) d := rfl
/-- the laws' way: part by part -/
theorem parts_sum (b : List Item) (p i c : Int) : (((ix b p).parts.filter fun x => decide (x.1 = i)).map fun x => x.2 * (ix b p).lot * c).sum = qtyIn b p i * (ix b p).lot * c := by
  unfold qtyIn
  rw [sum_mul_l (fun x : Int × Int => x.2 * (ix b p).lot) c, sum_mul_l (fun x : Int × Int => x.2)]
theorem foldl_map_add {α : Type} (g : α → Int) (xs : List α) (a : Int) : xs.foldl (fun s x => s + g x) a = a + (xs.map g).sum := foldl_add g xs a
/-! ## a search -/
theorem gd_find {α β l : Type} {b : Unit → α → T (Ct Unit Unit β)} (c : α → Bool) (v : α → β) {xs : List α} (h : ∀ (i : Nat) (x : α), xs[i]? = some x → Gd (b () x) (· = if c x = true then .rt (v x) else .nx ())) :
    Gd (T.forC (l := l) b xs ()) (· = match xs.find? c with | some x => .rt (v x) | none => .nx ()) := by
  induction xs with
  | nil => exact gd_ret rfl
  | cons x xs ih =>
    have ih := ih fun i y hy => h (i + 1) y (by simpa using hy)
    refine gd_bind (h 0 x rfl) fun r hr => ?_
    subst hr
    rw [List.find?_cons]
    cases e : c x with
    | true => exact gd_ret rfl
    | false => exact ih
/-! ## facts -/
abbrev Fact := Int × Int × Int
structure PpOk (b : List Item) (p : List Fact) : Prop where
  len : p.length ≤ 500000
  it : ∀ f ∈ p, 0 ≤ f.1 ∧ f.1 < b.length
def told (fs : List Fact) (i d : Int) : Int := maxL (0 :: ((fs.filter fun x => decide (x.1 = i) && decide (x.2.1 ≤ d)).map fun x => x.2.2))
theorem gd_told {fs : List Fact} (h : fs.length ≤ 500000) (i d : Int) : Gd (t__told fs i d) (· = told fs i d) := by
  have := List.length_filter_le (fun x : Fact => decide (x.1 = i) && decide (x.2.1 ≤ d)) fs
  refine gd_req (by omega) (gd_req (lcP_ret_ok _ _ _) (gd_req ?_ (gd_req ?_ (gd_ret ?_))))
  · rw [lcP_ret_val, List.length_map]; exact Nat.le_trans (Nat.add_le_add_left this 1) (by omega)
  · rw [List.length_append]; exact Nat.lt_of_lt_of_le Nat.zero_lt_one (Nat.le_add_right _ _)
  · rw [lcP_ret_val]; rfl
def followsF (b : List Item) (k : Books) (fs : List Fact) (f : Fact) : Bool :=
  decide (supp k f.1 (f.2.1 + (ix b f.1).lead) + (f.2.2 - 1) * (ix b f.1).good < ordd k f.1 (f.2.1 + (ix b f.1).lead) + useSum b f.1 fun p => told fs p (f.2.1 + (ix b f.1).lead))
theorem gd_follows {b : List Item} {k : Books} {fs : List Fact} {f : Fact} (hb : BillOk b) (h : BkW b k) (hf : fs.length ≤ 500000) (hi : 0 ≤ f.1 ∧ f.1 < b.length) : Gd (t_follows b k fs f) (· = followsF b k fs f) := by
  have hg := (hb.ix hi).good
  have hlot := (hb.ix hi).lot
  refine gd_let (gd_eq (a := f.2.1 + (ix b f.1).lead) (gd_req hi (gd_ret rfl)) ?_)
  refine gd_eq (gd_eq (gd_ordered h _ _) (gd_ret rfl)) ?_
  refine gd_eq (a := ordd k f.1 (f.2.1 + (ix b f.1).lead) + useSum b f.1 fun p => told fs p (f.2.1 + (ix b f.1).lead)) (gd_eq (gd_used_by hb f.1) ?_) ?_
  · unfold useSum
    rw [← foldl_add]
    refine gd_fold (fun (s : Int) (u : Int × Int) => s + u.2 * (ix b u.1).lot * told fs u.1 (f.2.1 + (ix b f.1).lead)) (fun _ => True) trivial fun u hu s _ => ⟨?_, trivial⟩
    have hr := (usedBy_mem.mp (show (u.1, u.2) ∈ usedBy b f.1 from hu)).1
    have hq := qlot_bd hb hu
    have hl := (hb.ix hr).lot
    exact gd_eq (gd_req hr (gd_req (by omega) (gd_eq (gd_told hf _ _) (gd_req (by omega) (gd_ret rfl))))) (gd_ret rfl)
  · exact gd_eq (gd_supplied h hi _) (gd_req hi (gd_req (by dsimp only; omega) (gd_ret rfl)))
theorem maxL_cons0 (xs : List Int) : maxL (0 :: xs) = xs.foldl max 0 := rfl
theorem foldl_maxif (c : Fact → Bool) : ∀ (fs : List Fact) (a : Int), fs.foldl (fun s x => if c x = true then max s x.2.2 else s) a = ((fs.filter c).map fun x => x.2.2).foldl max a
  | [], a => rfl
  | f :: fs, a => by
    rw [List.foldl_cons, foldl_maxif c fs, List.filter_cons]
    split <;> rfl
theorem gd_law_follows {b : List Item} {k : Books} {fs : List Fact} {f : Fact} (hb : BillOk b) (h : BkW b k) (hi : 0 ≤ f.1 ∧ f.1 < b.length) : Gd (t__law_follows b k fs f) (· = followsF b k fs f) := by
  have hl := hb.len
  have hg := (hb.ix hi).good
  have hlot := (hb.ix hi).lot
  refine gd_eq (a := f.2.1 + (ix b f.1).lead) (gd_req hi (gd_ret rfl)) ?_
  refine gd_eq (gd_eq (gd_law_ordered k _ _) (gd_ret rfl)) ?_
  refine gd_eq (a := ordd k f.1 (f.2.1 + (ix b f.1).lead) + useSum b f.1 fun p => told fs p (f.2.1 + (ix b f.1).lead)) (gd_req (by omega) ?_) ?_
  · rw [← useSum_rng hb, ← foldl_add]
    refine gd_fold (fun (s : Int) (p : Int) => s + qtyIn b p f.1 * (ix b p).lot * told fs p (f.2.1 + (ix b f.1).lead)) (fun _ => True) trivial fun p hp s _ => ⟨?_, trivial⟩
    have hp := mem_rng.mp hp
    have hpt := (hb.ix hp).pt
    have hlt := (hb.ix hp).lot
    refine gd_let (gd_eq (a := told fs p (f.2.1 + (ix b f.1).lead)) ?_ ?_)
    · unfold told
      rw [maxL_cons0, ← foldl_maxif]
      refine gd_fold _ (fun _ => True) trivial fun x _ s _ => ⟨?_, trivial⟩
      by_cases hc : (decide (x.1 = p) && decide (x.2.1 ≤ f.2.1 + (ix b f.1).lead)) = true
      · rw [if_pos hc, if_pos hc]; exact gd_eq (gd_let (gd_ret rfl)) (gd_ret rfl)
      · rw [if_neg hc, if_neg hc]; exact gd_eq (gd_ret rfl) (gd_ret rfl)
    · refine gd_eq (gd_req hp ?_) (gd_ret rfl)
      rw [← parts_sum, ← foldl_sum]
      refine gd_fold _ (fun _ => True) trivial fun x hx s _ => ⟨?_, trivial⟩
      have hq := (hpt x hx).2
      have hql := mul_bd (a := x.2) (b := (ix b p).lot) (m := 20) (n := 50) (by omega) (by omega)
      by_cases hc : decide (x.1 = f.1) = true
      · rw [if_pos hc, if_pos hc]
        exact gd_eq (gd_eq (gd_req hp (gd_req (by omega) (gd_req (by omega) (gd_ret rfl)))) (gd_ret rfl)) (gd_ret rfl)
      · rw [if_neg hc, if_neg hc]; exact gd_eq (gd_ret rfl) (gd_ret rfl)
  · exact gd_eq (gd_law_supplied h hi _) (gd_req hi (gd_req (by omega) (gd_ret rfl)))
/-- the first fact that does not follow -/
def wrongF (b : List Item) (k : Books) (p : List Fact) : Option Int := (rng p.length).find? fun j => !followsF b k (p.take j.toNat) (ix p j)
theorem gd_law_wrong {b : List Item} {k : Books} {p : List Fact} (hb : BillOk b) (h : BkW b k) (hp : PpOk b p) : Gd (t__law_wrong b k p) (· = wrongF b k p) := by
  have hl := hp.len
  have key := gd_find (l := Empty) (xs := rng p.length) (fun j => !followsF b k (p.take j.toNat) (ix p j)) (fun j => some j) (b := fun (s2 : Unit) (x3 : Int) =>
    T.ctc (T.req (0 ≤ x3 ∧ x3 < p.length) (T.bind (t__law_follows b k (cutA p none (some x3)) (ix p x3)) fun p5 => if (!p5) = true then T.ret (.rt (some x3)) else T.ret (.nx ()))) fun s6 => T.ret (.nx ())) fun i x hx => by
    have hx := rng_get hx
    have hir : 0 ≤ x ∧ x < p.length := by omega
    have hit := hp.it _ (ix_mem hir)
    rw [cut_toI hir.1]
    refine gd_bind (P := fun c => c = if (!followsF b k (p.take x.toNat) (ix p x)) = true then .rt (some x) else .nx ()) (gd_req hir (gd_eq (gd_law_follows hb h hit) ?_)) fun c hc => ?_
    · split <;> exact gd_ret rfl
    · subst hc
      cases followsF b k (p.take x.toNat) (ix p x) <;> exact gd_ret rfl
  refine gd_ctl' (gd_req (by omega) key) (fun s e => ?_) fun r e => ?_
  all_goals unfold wrongF
  · cases z : (rng p.length).find? fun j => !followsF b k (p.take j.toNat) (ix p j) with
    | none => exact gd_ret rfl
    | some j => rw [z] at e; cases e
  · cases z : (rng p.length).find? fun j => !followsF b k (p.take j.toNat) (ix p j) with
    | none => rw [z] at e; cases e
    | some j => rw [z] at e; cases e; rfl
theorem find_enum {α β : Type} (c : Int × α → Bool) (xs : List α) [Inhabited α] : (enumL 0 xs).find? c = ((rng xs.length).find? fun j => c (j, ix xs j)).map fun j => (j, ix xs j) := by
  have e : enumL 0 xs = (rng xs.length).map fun j => (j, ix xs j) := by
    apply List.ext_getElem?
    intro i
    rw [List.getElem?_map]
    by_cases h : i < xs.length
    · have h1 : i < (enumL 0 xs).length := by rw [enumL_len]; exact h
      have h2 : i < (rng xs.length).length := by rw [rng_len]; omega
      obtain ⟨x, hx, e⟩ := enumL_get (List.getElem?_eq_getElem h1)
      have hr := rng_get (List.getElem?_eq_getElem h2)
      rw [List.getElem?_eq_getElem h1, List.getElem?_eq_getElem h2, e, hr.1, Nat.zero_add]
      show some ((i : Int), x) = some ((i : Int), ix xs (i : Int))
      rw [ix_get hx]
    · rw [List.getElem?_eq_none (by rw [enumL_len]; omega), List.getElem?_eq_none (by rw [rng_len]; omega)]; rfl
  rw [e, List.find?_map]; rfl
theorem gd_first_wrong {b : List Item} {k : Books} {p : List Fact} (hb : BillOk b) (h : BkW b k) (hp : PpOk b p) : Gd (t_first_wrong b k p) (· = wrongF b k p) := by
  have hl := hp.len
  have key := gd_find (l := Empty) (xs := enumL 0 p) (fun x => !followsF b k (p.take x.1.toNat) x.2) (fun x => some x.1) (b := fun (s1 : Unit) (x2 : (Int × (Int × Int × Int))) =>
    T.ctc (T.bind (t_follows b k (cutA p none (some x2.1)) x2.2) fun p3 => if (!p3) = true then T.ret (.rt (some x2.1)) else T.ret (.nx ())) fun s4 => T.ret (.nx ())) fun i x hx => by
    obtain ⟨y, hy, e⟩ := enumL_get hx
    have hit := hp.it _ (List.mem_of_getElem? hy)
    have e1 : x.1 = (i : Int) := by rw [e]; simp
    have e2 : x.2 = y := by rw [e]
    rw [cut_toI (by omega), e2]
    refine gd_bind (P := fun c => c = if (!followsF b k (p.take x.1.toNat) y) = true then .rt (some x.1) else .nx ()) (gd_eq (gd_follows hb h (by rw [List.length_take]; omega) hit) ?_) fun c hc => ?_
    · split <;> exact gd_ret rfl
    · subst hc
      cases followsF b k (p.take x.1.toNat) y <;> exact gd_ret rfl
  rw [find_enum (β := Unit)] at key
  refine gd_ctl' key (fun s e => ?_) fun r e => ?_
  all_goals unfold wrongF
  · cases z : (rng p.length).find? fun j => !followsF b k (p.take j.toNat) (ix p j) with
    | none => exact gd_ret rfl
    | some j => rw [z] at e; cases e
  · cases z : (rng p.length).find? fun j => !followsF b k (p.take j.toNat) (ix p j) with
    | none => rw [z] at e; cases e
    | some j => rw [z] at e; cases e; rfl
def anyEarly (k : Books) (p : List Fact) : Bool := p.any fun f => decide (f.2.1 < k.today)
theorem gd_shows_none {b : List Item} {k : Books} {p : List Fact} (hb : BillOk b) (h : BkW b k) (hp : PpOk b p) : Gd (t_shows_none b k p) (· = ((wrongF b k p).isNone && anyEarly k p)) := by
  have hl := hp.len
  refine gd_eq (gd_first_wrong hb h hp) ?_
  cases wrongF b k p with
  | some j => exact gd_ret rfl
  | none =>
    refine gd_req (by omega) (gd_req (lcP_ret_ok _ _ _) (gd_ret ?_))
    rw [lcP_ret_val, List.filter_eq_self.mpr (fun _ _ => rfl), List.any_map]; rfl
/-! ## the paper -/
def paperF (b : List Item) (k : Books) : List Fact := (pf b).flatMap fun i => (ix (neededF b k) i).map fun r => (i, r.1, r.2)
theorem rows_len {b : List Item} {k : Books} (hb : BillOk b) (h : BkW b k) {i : Int} (hi : 0 ≤ i ∧ i < b.length) : (ix (neededF b k) i).length ≤ 10000 := by
  have inv := needed_inv hb (A := -1000) (B := 2000) (by omega) h.ord
  exact (inv.fd hb (by omega)).rows _ (ix_mem (by have := inv.len; omega))
theorem flat_len_le {α : Type} (g : α → List Fact) (c : Nat) : ∀ xs : List α, (∀ x ∈ xs, (g x).length ≤ c) → (xs.flatMap g).length ≤ c * xs.length
  | [], _ => by simp
  | x :: xs, h => by
    rw [List.flatMap_cons, List.length_append, List.length_cons, Nat.mul_add]
    have := flat_len_le g c xs fun y hy => h y (by simp [hy])
    have := h x (by simp)
    omega
theorem paper_len {b : List Item} {k : Books} (hb : BillOk b) (h : BkW b k) : (paperF b k).length ≤ 80000 := by
  have := flat_len_le (fun i => (ix (neededF b k) i).map fun r => (i, r.1, r.2)) 10000 (pf b) fun i hi => by rw [List.length_map]; exact rows_len hb h ((pf_mem hb).mp hi)
  have := pf_len hb
  have := hb.len
  unfold paperF; omega
theorem paper_ok {b : List Item} {k : Books} (hb : BillOk b) (h : BkW b k) : PpOk b (paperF b k) := ⟨by have := paper_len hb h; omega, fun f hf => by
  obtain ⟨i, hi, hf⟩ := List.mem_flatMap.mp hf
  obtain ⟨r, _, rfl⟩ := List.mem_map.mp hf
  exact (pf_mem hb).mp hi⟩
theorem gd_paper_of {b : List Item} {k : Books} (hb : BillOk b) (h : BkW b k) : Gd (t_paper_of b k) (· = paperF b k) := by
  refine gd_eq (gd_eq (gd_needed hb h) (gd_ret rfl)) (gd_let (gd_eq (a := paperF b k) (gd_eq (gd_parents_first hb) ?_) (gd_ret rfl)))
  have hfl := foldl_app (fun i => (ix (neededF b k) i).map fun r => (i, r.1, r.2)) (pf b) []
  rw [List.nil_append] at hfl
  unfold paperF
  rw [← hfl]
  refine gd_foldI (fun (s : List Fact) (i : Int) => s ++ (ix (neededF b k) i).map fun r => (i, r.1, r.2)) (fun n s => s.length ≤ 10000 * n) (by simp) fun n i s hi hs => ?_
  have hir := (pf_mem hb).mp (List.mem_of_getElem? hi)
  have hn := (List.getElem?_eq_some_iff.mp hi).1
  have hpl := pf_len hb
  have hl := hb.len
  have hr := rows_len hb h hir
  have hnl := needed_len hb h
  constructor
  · refine gd_eq (a := s ++ (ix (neededF b k) i).map fun r => (i, r.1, r.2)) (gd_req (by omega) (gd_req (by omega) (gd_req (lcP_ret_ok _ _ _) (gd_req ?_ (gd_ret ?_))))) (gd_ret rfl)
    · rw [lcP_ret_val, List.filter_eq_self.mpr (fun _ _ => rfl), List.length_map]; omega
    · rw [lcP_ret_val, List.filter_eq_self.mpr (fun _ _ => rfl)]
  · rw [List.length_append, List.length_map]; omega
end Mw

set_option Elab.async false
set_option linter.all false
set_option maxRecDepth 100000
set_option autoImplicit false
namespace Mw
open PySem PySem.Spec PyProof.Rows L2
theorem gd_ctcE {σ τ β : Type} {t : T (Ct σ τ β)} {k : σ → T (Ct τ τ β)} {N : σ → Prop} {I B : τ → Prop} {R : β → Prop} (h : Gd t (CtE N R)) (hn : ∀ s, N s → Gd (k s) (CtP I B R)) : Gd (t.ctc k) (CtP I B R) :=
  gd_ctc h hn (fun _ h => h) (fun _ h => h.elim) (fun _ h => h.elim)
/-! ## the law's reckoning of needed lots: day by day -/
theorem sum_filter_mono {α : Type} (g : α → Int) (c c' : α → Bool) (xs : List α) (hg : ∀ x ∈ xs, 0 ≤ g x) (hc : ∀ x ∈ xs, c x = true → c' x = true) : ((xs.filter c).map g).sum ≤ ((xs.filter c').map g).sum := by
  induction xs with
  | nil => simp
  | cons x xs ih =>
    have ih := ih (fun y hy => hg y (by simp [hy])) fun y hy => hc y (by simp [hy])
    have h0 := hg x (by simp)
    have h1 := hc x (by simp)
    rw [List.filter_cons, List.filter_cons]
    cases e : c x with
    | true => rw [h1 e, if_pos rfl, if_pos rfl]; simp; omega
    | false =>
      rw [if_neg (by decide)]
      cases c' x with
      | true => rw [if_pos rfl]; simp; omega
      | false => rw [if_neg (by decide)]; exact ih
theorem supp_mono {b : List Item} {k : Books} (h : BooksOk b k) (i : Int) {d e : Int} (hde : d ≤ e) : supp k i d ≤ supp k i e := by
  unfold supp
  have := sum_filter_mono (fun e : Int × Int × Int => e.2.2) (fun x => decide (x.1 = i) && decide (x.2.1 ≤ d)) (fun x => decide (x.1 = i) && decide (x.2.1 ≤ e)) k.recs (fun x hx => by have := (h.rc x hx).2.2; omega) fun x hx hc => by
    have hc := Bool.and_eq_true_iff.mp hc
    have h2 := of_decide_eq_true hc.2
    rw [hc.1, decide_eq_true (by omega)]; rfl
  omega
theorem supp_nonneg {b : List Item} {k : Books} (h : BooksOk b k) {i : Int} (hi : 0 ≤ i ∧ i < b.length) (d : Int) : 0 ≤ supp k i d := by
  unfold supp
  have h1 := (h.stk _ (ix_mem (xs := k.stock) ⟨hi.1, by rw [h.stl]; exact hi.2⟩)).1
  have : 0 ≤ ((k.recs.filter fun e => decide (e.1 = i) && decide (e.2.1 ≤ d)).map fun e => e.2.2).sum := sum_nonneg fun x hx => by
    obtain ⟨r, hr, rfl⟩ := List.mem_map.mp hx
    have := (h.rc r (List.mem_filter.mp hr).1).2.2
    omega
  omega
theorem lotsAt_congr {rows : List (Int × Int)} {d e : Int} (h : ∀ r ∈ rows, (r.1 ≤ d ↔ r.1 ≤ e)) : lotsAt rows d = lotsAt rows e := by
  unfold lotsAt
  have key : ∀ (rows : List (Int × Int)) (a : Int), (∀ r ∈ rows, (r.1 ≤ d ↔ r.1 ≤ e)) → rows.foldl (fun l r => if r.1 ≤ d then r.2 else l) a = rows.foldl (fun l r => if r.1 ≤ e then r.2 else l) a := by
    intro rows
    induction rows with
    | nil => intro a _; rfl
    | cons r rows ih =>
      intro a h
      rw [List.foldl_cons, List.foldl_cons]
      have := h r (by simp)
      by_cases c : r.1 ≤ d
      · rw [if_pos c, if_pos (this.mp c)]; exact ih _ fun x hx => h x (by simp [hx])
      · rw [if_neg c, if_neg fun z => c (this.mpr z)]; exact ih _ fun x hx => h x (by simp [hx])
  exact key rows 0 h
theorem lotsAt_none {rows : List (Int × Int)} {d : Int} (h : ∀ r ∈ rows, ¬ r.1 ≤ d) : lotsAt rows d = 0 := by
  unfold lotsAt
  induction rows with
  | nil => rfl
  | cons r rows ih => rw [List.foldl_cons, if_neg (h r (by simp))]; exact ih fun x hx => h x (by simp [hx])
/-- what is taken changes on the days alone -/
theorem taken_congr {b : List Item} {k : Books} {f : Needs} {i d e : Int} (h : ∀ x ∈ daysOf b k f i, (x ≤ d ↔ x ≤ e)) : takenF b k f i d = takenF b k f i e := by
  unfold takenF
  have h1 : ordd k i d = ordd k i e := by
    unfold ordd
    congr 2
    refine List.filter_congr fun x hx => ?_
    by_cases c : x.2.1 = i
    · have := h x.2.2.2 (days_mem.mpr (.inl ⟨x, hx, c, rfl⟩))
      rw [decide_eq_decide.mpr this]
    · rw [decide_eq_false c]; rfl
  rw [h1]
  congr 2
  refine List.map_congr_left fun u hu => ?_
  rw [lotsAt_congr fun r hr => h r.1 (days_mem.mpr (.inr ⟨u, hu, r, hr, rfl⟩))]
theorem taken_none {b : List Item} {k : Books} {f : Needs} {i d : Int} (h : ∀ x ∈ daysOf b k f i, ¬ x ≤ d) : takenF b k f i d = 0 := by
  unfold takenF
  have h1 : ordd k i d = 0 := by
    unfold ordd
    rw [List.filter_eq_nil_iff.mpr fun x hx z => ?_]
    · rfl
    · have z := Bool.and_eq_true_iff.mp z
      exact h x.2.2.2 (days_mem.mpr (.inl ⟨x, hx, of_decide_eq_true z.1, rfl⟩)) (of_decide_eq_true z.2)
  rw [h1]
  have : ∀ x ∈ (usedBy b i).map fun u => u.2 * (ix b u.1).lot * lotsAt (ix f u.1) d, x = 0 := fun x hx => by
    obtain ⟨u, hu, rfl⟩ := List.mem_map.mp hx
    rw [lotsAt_none fun r hr => h r.1 (days_mem.mpr (.inr ⟨u, hu, r, hr, rfl⟩))]; simp
  have h0 := sum_nonneg (xs := (usedBy b i).map fun u => u.2 * (ix b u.1).lot * lotsAt (ix f u.1) d) fun x hx => by rw [this x hx]; exact Int.le_refl _
  have h2 := sum_le (xs := (usedBy b i).map fun u => u.2 * (ix b u.1).lot * lotsAt (ix f u.1) d) (c := 0) fun x hx => by rw [this x hx]; exact Int.le_refl _
  omega
/-- a last one of some that are not behind a day -/
theorem last_le (ds : List Int) (d : Int) : (∀ x ∈ ds, ¬ x ≤ d) ∨ ∃ e ∈ ds, e ≤ d ∧ ∀ x ∈ ds, (x ≤ d ↔ x ≤ e) := by
  by_cases h : ∀ x ∈ ds, ¬ x ≤ d
  · exact .inl h
  · have : ∃ x ∈ ds, x ≤ d := by
      simp only [Classical.not_forall, Classical.not_not] at h
      obtain ⟨x, h1, h2⟩ := h; exact ⟨x, h1, h2⟩
    obtain ⟨x, hx, hxd⟩ := this
    have hp : 0 < (ds.filter fun x => decide (x ≤ d)).length := List.length_pos_of_mem (List.mem_filter.mpr ⟨hx, decide_eq_true hxd⟩)
    have hm := List.mem_filter.mp (maxL_mem hp)
    have hmd := of_decide_eq_true hm.2
    refine .inr ⟨_, hm.1, hmd, fun y hy => ⟨fun c => le_maxL (List.mem_filter.mpr ⟨hy, decide_eq_true c⟩), fun c => Int.le_trans c hmd⟩⟩
def lotF (b : List Item) (k : Books) (f : Needs) (i d : Int) : Int := rup (missF b k f i d) (ix b i).good
theorem rup_mono {m n g : Int} (hg : 0 < g) (h : m ≤ n) : rup m g ≤ rup n g := by
  have h1 := (rup_le (n := n) (m := rup n g) hg).mp (Int.le_refl _)
  exact (rup_le hg).mpr (by omega)
/-- on a day the lots that are missing are at most those of an event not behind it -/
theorem lot_event {b : List Item} {k : Books} (hb : BillOk b) (h : BooksOk b k) {f : Needs} {i : Int} (hi : 0 ≤ i ∧ i < b.length) (d : Int) : lotF b k f i d ≤ 0 ∨ ∃ e ∈ daysOf b k f i, e ≤ d ∧ lotF b k f i d ≤ lotF b k f i e := by
  have hg := (hb.ix hi).good
  rcases last_le (daysOf b k f i) d with z | ⟨e, he, hed, z⟩
  · refine .inl ((rup_le (by omega)).mpr ?_)
    unfold missF
    rw [taken_none z]
    have := supp_nonneg h hi d
    omega
  · refine .inr ⟨e, he, hed, rup_mono (by omega) ?_⟩
    unfold missF
    rw [taken_congr z]
    have := supp_mono h i hed
    omega
theorem rstep_idem (m : Int → Int) (lead : Int) (s : List (Int × Int) × Int) (d : Int) : rstep m lead (rstep m lead s d) d = rstep m lead s d := by
  unfold rstep
  by_cases h : s.2 < m d
  · rw [if_pos h]; dsimp only; rw [if_neg (by omega)]
  · rw [if_neg h, if_neg h]
theorem rstep_rep (m : Int → Int) (lead : Int) (d : Int) : ∀ (l : List Int) (s : List (Int × Int) × Int), (∀ x ∈ l, x = d) → l ≠ [] → l.foldl (rstep m lead) s = rstep m lead s d
  | [], _, _, h => absurd rfl h
  | [x], s, h, _ => by rw [h x (by simp)]; rfl
  | x :: y :: l, s, h, _ => by
    have hx := h x (by simp)
    rw [List.foldl_cons, rstep_rep m lead d (y :: l) _ (fun z hz => h z (by simp [hz])) (by simp), hx, rstep_idem]
theorem filter_lt_succ : ∀ (ds : List Int), ds.Pairwise (· ≤ ·) → ∀ d : Int, (ds.filter fun x => decide (x < d + 1)) = (ds.filter fun x => decide (x < d)) ++ ds.filter fun x => decide (x = d)
  | [], _, _ => rfl
  | x :: ds, h, d => by
    have h := List.pairwise_cons.mp h
    have ih := filter_lt_succ ds h.2 d
    rw [List.filter_cons, List.filter_cons, List.filter_cons, ih]
    by_cases c1 : x < d
    · rw [if_pos (decide_eq_true (by omega)), if_pos (decide_eq_true c1), if_neg (by simpa using (by omega : ¬ x = d))]; rfl
    · have none : (ds.filter fun x => decide (x < d)) = [] := List.filter_eq_nil_iff.mpr fun y hy z => by have := h.1 y hy; have := of_decide_eq_true z; omega
      by_cases c2 : x = d
      · rw [none, if_pos (decide_eq_true (by omega)), if_neg (by simpa using c1), if_pos (decide_eq_true c2)]; rfl
      · rw [none, if_neg (by simpa using (by omega : ¬ x < d + 1)), if_neg (by simpa using c1), if_neg (by simpa using c2)]
theorem rng2_succ (a : Int) (n : Nat) : rng2 a (a + ((n + 1 : Nat) : Int)) = rng2 a (a + (n : Int)) ++ [a + (n : Int)] := by
  unfold rng2
  rw [show (a + ((n + 1 : Nat) : Int) - a).toNat = n + 1 by omega, show (a + (n : Int) - a).toNat = n by omega, List.range_succ, List.map_append]; rfl
/-- all days, or those with events alone -/
theorem days_all {m : Int → Int} {lead : Int} {ds : List Int} (hp : ds.Pairwise (· ≤ ·)) (he : ∀ d, m d ≤ 0 ∨ ∃ e ∈ ds, e ≤ d ∧ m d ≤ m e) {a : Int} (ha : ∀ x ∈ ds, a ≤ x) : ∀ n : Nat, (rng2 a (a + (n : Int))).foldl (rstep m lead) ([], 0) = (ds.filter fun x => decide (x < a + (n : Int))).foldl (rstep m lead) ([], 0)
  | 0 => by
    have : (ds.filter fun x => decide (x < a + ((0 : Nat) : Int))) = [] := List.filter_eq_nil_iff.mpr fun y hy z => by have := ha y hy; have := of_decide_eq_true z; omega
    rw [this]
    have : rng2 a (a + ((0 : Nat) : Int)) = [] := by unfold rng2; simp
    rw [this]
  | n + 1 => by
    rw [rng2_succ, List.foldl_append, days_all hp he ha n, show a + ((n + 1 : Nat) : Int) = a + (n : Int) + 1 by omega, filter_lt_succ ds hp, List.foldl_append]
    have inv := rinv_all (m := m) (lead := lead) (ds := ds.filter fun x => decide (x < a + (n : Int))) (hp.filter _)
    generalize (ds.filter fun x => decide (x < a + (n : Int))).foldl (rstep m lead) ([], 0) = s at inv ⊢
    by_cases c : (ds.filter fun x => decide (x = a + (n : Int))) = []
    · rw [c]
      show rstep m lead s (a + (n : Int)) = s
      unfold rstep
      rw [if_neg]
      have h0 := inv.top
      rcases he (a + (n : Int)) with z | ⟨e, hm, hle, z⟩
      · omega
      · have : e ≠ a + (n : Int) := fun y => by
          have : e ∈ (ds.filter fun x => decide (x = a + (n : Int))) := List.mem_filter.mpr ⟨hm, decide_eq_true y⟩
          rw [c] at this; cases this
        have := h0.2 e (List.mem_filter.mpr ⟨hm, decide_eq_true (by omega)⟩)
        omega
    · rw [rstep_rep m lead (a + (n : Int)) _ s (fun x hx => of_decide_eq_true (List.mem_filter.mp hx).2) c]; rfl
theorem gd_law_lots (rows : List (Int × Int)) (d : Int) : Gd (t__law_lots rows d) (· = lotsAt rows d) := by
  refine gd_let (gd_bind (P := fun s => s = lotsAt rows d) (gd_fold (fun (l : Int) (r : Int × Int) => if r.1 ≤ d then r.2 else l) (fun _ => True) trivial fun x _ s _ => ⟨?_, trivial⟩) fun s h => gd_ret h)
  by_cases h : x.1 ≤ d
  · rw [if_pos (decide_eq_true h), if_pos h]; exact gd_eq (gd_let (gd_ret rfl)) (gd_ret rfl)
  · rw [if_neg (by simpa using h), if_neg h]; exact gd_eq (gd_ret rfl) (gd_ret rfl)
theorem gd_law_lots2 (rows : List (Int × Int)) (d : Int) : Gd (t__law_lots_478d rows d) (· = lotsAt rows d) := gd_law_lots rows d
theorem sx_self {α : Type} [Inhabited α] {xs : List α} {i : Int} (h : 0 ≤ i ∧ i < xs.length) : sx xs i (ix xs i) = xs := by
  unfold sx ix
  have hl : i.toNat < xs.length := by omega
  rw [List.getD_eq_getElem?_getD, List.getElem?_eq_getElem hl]
  simp
theorem sx_sx {α : Type} (xs : List α) (i : Int) (y z : α) : sx (sx xs i y) i z = sx xs i z := by unfold sx; rw [List.set_set]
theorem map_nil_repl (b : List Item) : (b.map fun _ => ([] : List (Int × Int))) = repl (b.length : Int) [[]] := by
  unfold repl
  rw [show ((b.length : Int)).toNat = b.length by omega]
  induction b with
  | nil => rfl
  | cons x b ih => rw [List.map_cons, List.length_cons, List.replicate_succ, List.flatten_cons, ih]; rfl
theorem not_self {b : List Item} (hb : BillOk b) {x : Int} {u : Int × Int} (hu : u ∈ usedBy b x) : u.1 ≠ x := fun e => by
  obtain ⟨h1, h2, h3⟩ := usedBy_mem.mp (show (u.1, u.2) ∈ usedBy b x from hu)
  obtain ⟨r, _, hr⟩ := hb.rk
  obtain ⟨q, hq⟩ := qty_uses (p := u.1) (i := x) (by rw [← h2]; exact h3)
  have := hr u.1 h1.1 h1.2 _ hq
  rw [e] at this; dsimp only at this; omega
theorem miss_sx {b : List Item} (hb : BillOk b) {k : Books} {f : Needs} (hf : f.length = b.length) {x : Int} (hx : 0 ≤ x ∧ x < b.length) (rows : List (Int × Int)) (d : Int) : missF b k (sx f x rows) x d = missF b k f x d := by
  unfold missF takenF
  congr 3
  refine List.map_congr_left fun u hu => ?_
  have h1 := (usedBy_mem.mp (show (u.1, u.2) ∈ usedBy b x from hu)).1
  rw [ix_sx (by omega) h1.1, if_neg (not_self hb hu)]
theorem gd_law_needed {b : List Item} {k : Books} (hb : BillOk b) (h : BooksOk b k) (hn : BooksNear k) : Gd (t__law_needed b k) (· = neededF b k) := by
  have hl := hb.len
  have ht := h.today
  have hw := h.w
  have ho : ∀ e ∈ k.ords, k.today ≤ e.2.2.2 ∧ e.2.2.2 ≤ k.today + 29 := fun e he => ⟨(h.ord e he).2.2.2.1, hn.ord e he⟩
  refine gd_eq (a := repl (b.length : Int) [([] : List (Int × Int))]) (gd_req (by omega) (gd_ret (map_nil_repl b))) ?_
  refine gd_eq (a := neededF b k) (gd_eq (gd_law_first hb) ?_) ?_
  · refine gd_foldI (needStep b k) (fun n f => NInv b k k.today (k.today + 29) n f) (ninv_0 b k _ _) fun n x f hx hf => ?_
    refine ⟨?_, ninv_step hb (by omega) ho hf hx⟩
    have fd := hf.fd hb (by omega)
    have hfl := hf.len
    have hxm := (pf_mem hb).mp (List.mem_of_getElem? hx)
    have hit := hb.ix hxm
    have hn1 := (List.getElem?_eq_some_iff.mp hx).1
    have hpl := pf_len hb
    have nd := (pf_tkn hb).nd
    have hx0 : ix f x = [] := hf.rst x hxm.1 hxm.2 fun z => by
      obtain ⟨j, hj, e⟩ := List.mem_iff_getElem.mp z
      rw [List.length_take] at hj
      rw [List.getElem_take] at e
      have : j = n := (List.getElem?_inj (show j < (pf b).length by omega) nd).mp (by rw [List.getElem?_eq_getElem (by omega), e, hx])
      omega
    refine gd_let (gd_bind (P := fun s => s.1 = needStep b k f x) (gd_req (by omega) (gd_req (by omega) ?_)) fun s hs => gd_ret hs)
    have hdays : ∀ d ∈ daysOf b k f x, k.today - 90 ≤ d ∧ d < k.today + 40 := fun d hd => by
      rcases days_mem.mp hd with ⟨e, he, _, rfl⟩ | ⟨u, hu, r, hr, rfl⟩
      · have := ho e he; omega
      · obtain ⟨m, hm, em⟩ := user_before hb hx hu
        have := (hf.don m u.1 hm em).2.2 r hr
        omega
    have fin : (rng2 (k.today - 90) (k.today + 40)).foldl (rstep (lotF b k f x) (ix b x).lead) ([], 0) = (daysOf b k f x).foldl (rstep (lotF b k f x) (ix b x).lead) ([], 0) := by
      have := days_all (m := lotF b k f x) (lead := (ix b x).lead) (srt_pair _) (lot_event hb h hxm) (a := k.today - 90) (fun d hd => (hdays d hd).1) 130
      rw [show k.today - 90 + ((130 : Nat) : Int) = k.today + 40 by omega] at this
      refine this.trans ?_
      have e : ((daysOf b k f x).filter fun d => decide (d < k.today + 40)) = daysOf b k f x := List.filter_eq_self.mpr fun d hd => decide_eq_true (hdays d hd).2
      exact congrArg (fun l => List.foldl (rstep (lotF b k f x) (ix b x).lead) ([], 0) l) e
    have rows : ∀ (ds : List Int), ds.Pairwise (· ≤ ·) → ((ds.foldl (rstep (lotF b k f x) (ix b x).lead) ([], 0)).1).length ≤ ds.length := by
      have : ∀ (ds : List Int) (s : List (Int × Int) × Int), ((ds.foldl (rstep (lotF b k f x) (ix b x).lead) s).1).length ≤ s.1.length + ds.length := by
        intro ds
        induction ds with
        | nil => intro s; simp
        | cons d ds ih =>
          intro s
          rw [List.foldl_cons]
          have := ih (rstep (lotF b k f x) (ix b x).lead s d)
          have h2 : (rstep (lotF b k f x) (ix b x).lead s d).1.length ≤ s.1.length + 1 := by
            unfold rstep; split <;> simp
          rw [List.length_cons]; omega
      intro ds _
      simpa using this ds ([], 0)
    refine Gd.imp (P := fun (s : Needs × Int) => s = (sx f x ((rng2 (k.today - 90) (k.today + 40)).foldl (rstep (lotF b k f x) (ix b x).lead) ([], 0)).1, ((rng2 (k.today - 90) (k.today + 40)).foldl (rstep (lotF b k f x) (ix b x).lead) ([], 0)).2)) ?_ fun s hs => by
      rw [hs, fin]; rfl
    refine gd_forL' (fun i (s : Needs × Int) => ∃ t : List (Int × Int) × Int, t = ((rng2 (k.today - 90) (k.today + 40)).take i).foldl (rstep (lotF b k f x) (ix b x).lead) ([], 0) ∧ t.1.length ≤ i ∧ s = (sx f x t.1, t.2)) ⟨([], 0), rfl, Nat.le_refl _, by rw [← hx0, sx_self (by omega)]⟩ (fun i d s hd hs => ?_) fun s hs => ?_
    · obtain ⟨t, et, htl, rfl⟩ := hs
      have hi := (List.getElem?_eq_some_iff.mp hd).1
      rw [rng2_len] at hi
      have hd2 := rng2_get hd
      have hlf : (sx f x t.1).length = b.length := by rw [sx_len]; exact hfl
      refine gd_eq (a := ordd k x d - supp k x d) (gd_eq (gd_law_ordered k x d) (gd_eq (gd_law_supplied hw hxm d) (gd_ret rfl))) ?_
      refine gd_eq (a := missF b k f x d) (gd_req (by omega) ?_) ?_
      · have em : missF b k f x d = (ordd k x d - supp k x d) + useSum b x fun p => lotsAt (ix (sx f x t.1) p) d := by
          rw [← miss_sx hb hfl hxm t.1]
          unfold missF
          rw [takenF_eq]; omega
        rw [em, ← useSum_rng hb, ← foldl_add]
        refine gd_fold (fun (s : Int) (p : Int) => s + qtyIn b p x * (ix b p).lot * lotsAt (ix (sx f x t.1) p) d) (fun _ => True) trivial fun p hp s _ => ⟨?_, trivial⟩
        have hp := mem_rng.mp hp
        have hpt := (hb.ix hp).pt
        have hlt := (hb.ix hp).lot
        refine gd_eq (gd_req hp ?_) (gd_ret rfl)
        rw [← parts_sum, ← foldl_sum]
        refine gd_fold _ (fun _ => True) trivial fun y hy s _ => ⟨?_, trivial⟩
        have hq := (hpt y hy).2
        have hql := mul_bd (a := y.2) (b := (ix b p).lot) (m := 20) (n := 50) (by omega) (by omega)
        by_cases hc : decide (y.1 = x) = true
        · rw [if_pos hc, if_pos hc]
          exact gd_eq (gd_eq (gd_req hp (gd_req (by omega) (gd_req (by dsimp only; omega) (gd_eq (gd_law_lots _ _) (gd_req (by omega) (gd_ret rfl)))))) (gd_ret rfl)) (gd_ret rfl)
        · rw [if_neg hc, if_neg hc]; exact gd_eq (gd_ret rfl) (gd_ret rfl)
      · have hg := hit.good
        have hlot := hit.lot
        have er : rup (missF b k f x d) (ix b x).good = (missF b k f x d + (ix b x).good - 1) / (ix b x).good := by
          have h1 : ∀ z : Int, (missF b k f x d + (ix b x).good - 1) / (ix b x).good ≤ z ↔ rup (missF b k f x d) (ix b x).good ≤ z := fun z => by
            rw [rup_le (by omega)]
            have := Int.ediv_lt_iff_lt_mul (a := missF b k f x d + (ix b x).good - 1) (b := z + 1) (show 0 < (ix b x).good by omega)
            rw [Int.add_mul] at this
            constructor
            · intro q; have := this.mp (by omega); omega
            · intro q; have := this.mpr (by omega); omega
          have h2 := (h1 _).mp (Int.le_refl _)
          have h3 := (h1 _).mpr (Int.le_refl _)
          omega
        refine gd_bind (P := fun s => s = (sx f x (rstep (lotF b k f x) (ix b x).lead t d).1, (rstep (lotF b k f x) (ix b x).lead t d).2)) (gd_req hxm (gd_req (by omega) ?_)) fun s hs => gd_ret ⟨rstep (lotF b k f x) (ix b x).lead t d, ?_, ?_, hs⟩
        · by_cases hc : t.2 * (ix b x).good < missF b k f x d
          · have hc2 : t.2 < lotF b k f x d := (lt_rup (by omega)).mpr hc
            rw [if_pos (decide_eq_true hc)]
            have e1 : rstep (lotF b k f x) (ix b x).lead t d = (t.1 ++ [(d - (ix b x).lead, lotF b k f x d)], lotF b k f x d) := by unfold rstep; rw [if_pos hc2]
            rw [e1]
            have e2 : ix (sx f x t.1) x = t.1 := by rw [ix_sx (by omega) hxm.1, if_pos rfl]
            refine gd_eq (a := lotF b k f x d) (gd_req hxm (gd_req hxm (gd_req (by omega) (gd_ret er.symm)))) ?_
            refine gd_eq (a := sx f x (t.1 ++ [(d - (ix b x).lead, lotF b k f x d)])) (gd_req hxm (gd_req (by dsimp only; omega) (gd_req (by dsimp only; rw [e2]; omega) (gd_ret ?_)))) (gd_ret rfl)
            dsimp only
            rw [e2, sx_sx]
          · have hc2 : ¬ t.2 < lotF b k f x d := fun z => hc ((lt_rup (by omega)).mp z)
            rw [if_neg (by simpa using hc)]
            have e1 : rstep (lotF b k f x) (ix b x).lead t d = t := by unfold rstep; rw [if_neg hc2]
            rw [e1]
            exact gd_ret rfl
        · rw [List.take_add_one, hd, List.foldl_append, ← et]; rfl
        · unfold rstep; split
          · rw [List.length_append]; simpa using htl
          · omega
    · obtain ⟨t, et, _, rfl⟩ := hs
      rw [List.take_length] at et
      rw [et]
  · have := lcM (xs := neededF b k) (te := fun x => T.ret x) (f := fun x => x) fun x _ => gd_ret rfl
    refine gd_req (by rw [needed_len hb hw]; omega) (gd_req this.1 (gd_ret ?_))
    rw [this.2, List.map_id']
end Mw

set_option Elab.async false
set_option linter.all false
set_option maxRecDepth 100000
set_option autoImplicit false
namespace Mw
open PySem PySem.Spec PyProof.Rows L2
/-! ## the paper of the needed lots: each fact follows, none with a lot more -/
theorem foldl_max_le {xs : List Int} {c : Int} : ∀ (a : Int), a ≤ c → (∀ x ∈ xs, x ≤ c) → xs.foldl max a ≤ c := by
  induction xs with
  | nil => intro a h _; exact h
  | cons x xs ih => intro a h hx; exact ih _ (by have := hx x (by simp); omega) fun y hy => hx y (by simp [hy])
/-- rising rows: the greatest told number is the last one -/
theorem told_rows (rows : List (Int × Int)) (h : ∀ r ∈ rows, 1 ≤ r.2) (hp : rows.Pairwise fun a b => a.2 < b.2) (d : Int) : ((rows.filter fun r => decide (r.1 ≤ d)).map fun r => r.2).foldl max 0 = lotsAt rows d := by
  have key : ∀ n, n ≤ rows.length → (((rows.take n).filter fun r => decide (r.1 ≤ d)).map fun r => r.2).foldl max 0 = lotsAt (rows.take n) d := by
    intro n
    induction n with
    | zero => intro _; simp [lotsAt]
    | succ n ih =>
      intro hn
      have ih := ih (by omega)
      have hg := List.getElem?_eq_getElem (show n < rows.length by omega)
      rw [List.take_add_one, hg]
      show (((rows.take n ++ [rows[n]]).filter _).map _).foldl max 0 = lotsAt (rows.take n ++ [rows[n]]) d
      rw [lotsAt_app, List.filter_append, List.map_append, List.foldl_append, ih]
      by_cases c : rows[n].1 ≤ d
      · rw [if_pos c, List.filter_cons, if_pos (decide_eq_true c)]
        show max (lotsAt (rows.take n) d) rows[n].2 = _
        have : lotsAt (rows.take n) d ≤ rows[n].2 := by
          rw [← ih]
          refine foldl_max_le 0 (by have := h _ (List.getElem_mem (show n < rows.length by omega)); omega) fun x hx => ?_
          obtain ⟨r, hr, rfl⟩ := List.mem_map.mp hx
          have hr := (List.mem_filter.mp hr).1
          obtain ⟨m, hm, e⟩ := List.mem_iff_getElem.mp hr
          rw [List.length_take] at hm
          rw [List.getElem_take] at e
          have := List.pairwise_iff_getElem.mp hp m n (by omega) (by omega) (by omega)
          rw [e] at this; omega
        omega
      · rw [if_neg c, List.filter_cons, if_neg (by simpa using c)]; rfl
  have := key rows.length (Nat.le_refl _)
  rwa [List.take_length] at this
theorem flat_at {α β : Type} (g : α → List β) : ∀ (l : List α) (i : Nat) (y : β), (l.flatMap g)[i]? = some y → ∃ n x r, l[n]? = some x ∧ (g x)[r]? = some y ∧ (l.flatMap g).take i = (l.take n).flatMap g ++ (g x).take r
  | [], i, y, h => by simp at h
  | x :: l, i, y, h => by
    rw [List.flatMap_cons] at h ⊢
    by_cases c : i < (g x).length
    · rw [List.getElem?_append_left c] at h
      exact ⟨0, x, i, rfl, h, by rw [List.take_append_of_le_length (by omega)]; simp⟩
    · rw [List.getElem?_append_right (by omega)] at h
      obtain ⟨n, z, r, h1, h2, h3⟩ := flat_at g l _ y h
      refine ⟨n + 1, z, r, by simpa using h1, h2, ?_⟩
      rw [List.take_append, List.take_of_length_le (by omega), h3, List.take_succ_cons, List.flatMap_cons, List.append_assoc]
/-- what is told of an item -/
theorem told_flat {g : Int → List (Int × Int)} {l : List Int} (nd : l.Nodup) {p : Int} (hp : p ∈ l) (d : Int) : ((l.flatMap fun i => (g i).map fun r => ((i, r.1, r.2) : Fact)).filter fun x => decide (x.1 = p) && decide (x.2.1 ≤ d)) = ((g p).filter fun r => decide (r.1 ≤ d)).map fun r => (p, r.1, r.2) := by
  have other : ∀ (l : List Int), p ∉ l → ((l.flatMap fun i => (g i).map fun r => ((i, r.1, r.2) : Fact)).filter fun x => decide (x.1 = p) && decide (x.2.1 ≤ d)) = [] := fun l hl => List.filter_eq_nil_iff.mpr fun f hf z => by
    obtain ⟨i, hi, hf⟩ := List.mem_flatMap.mp hf
    obtain ⟨r, _, rfl⟩ := List.mem_map.mp hf
    have := of_decide_eq_true (Bool.and_eq_true_iff.mp z).1
    dsimp only at this
    exact hl (this ▸ hi)
  induction l with
  | nil => cases hp
  | cons x l ih =>
    have nd := List.nodup_cons.mp nd
    rw [List.flatMap_cons, List.filter_append]
    by_cases c : x = p
    · subst c
      rw [other l nd.1, List.append_nil, List.filter_map]
      congr 1
      refine List.filter_congr fun r _ => ?_
      show (decide (x = x) && decide (r.1 ≤ d)) = decide (r.1 ≤ d)
      rw [decide_eq_true rfl, Bool.true_and]
    · have hp := (List.mem_cons.mp hp).resolve_left fun z => c z.symm
      rw [ih nd.2 hp]
      have : ((g x).map fun r => ((x, r.1, r.2) : Fact)).filter (fun y => decide (y.1 = p) && decide (y.2.1 ≤ d)) = [] := List.filter_eq_nil_iff.mpr fun f hf z => by
        obtain ⟨r, _, rfl⟩ := List.mem_map.mp hf
        have := of_decide_eq_true (Bool.and_eq_true_iff.mp z).1
        exact c this
      rw [this, List.nil_append]
theorem take_nodup {l : List Int} (h : l.Nodup) (n : Nat) : (l.take n).Nodup := h.sublist (List.take_sublist n l)
/-- at a place of the paper: an item, a row of it, and what its users need is told ahead -/
theorem paper_at {b : List Item} {k : Books} (hb : BillOk b) (h : BkW b k) {i : Nat} {f : Fact} (hf : (paperF b k)[i]? = some f) : (0 ≤ f.1 ∧ f.1 < b.length) ∧ (f.2.1, f.2.2) ∈ ix (neededF b k) f.1 ∧ ∀ d, (useSum b f.1 fun p => told ((paperF b k).take i) p d) = useSum b f.1 fun p => lotsAt (ix (neededF b k) p) d := by
  obtain ⟨n, x, r, hn, hr, ht⟩ := flat_at _ _ _ _ hf
  have hx := (pf_mem hb).mp (List.mem_of_getElem? hn)
  rw [List.getElem?_map] at hr
  obtain ⟨row, hrow, e⟩ : ∃ row, (ix (neededF b k) x)[r]? = some row ∧ (x, row.1, row.2) = f := by
    cases e : (ix (neededF b k) x)[r]? with
    | none => rw [e] at hr; cases hr
    | some row => rw [e] at hr; cases hr; exact ⟨row, rfl, rfl⟩
  subst e
  refine ⟨hx, List.mem_of_getElem? hrow, fun d => ?_⟩
  unfold useSum
  congr 1
  refine List.map_congr_left fun u hu => ?_
  congr 1
  have hur := (usedBy_mem.mp (show (u.1, u.2) ∈ usedBy b x from hu)).1
  obtain ⟨m, hm, em⟩ := user_before hb hn hu
  have hmem : u.1 ∈ (pf b).take n := by
    refine List.mem_of_getElem? (i := m) ?_
    rw [List.getElem?_take, if_pos hm]; exact em
  have hne : u.1 ≠ x := not_self hb hu
  unfold told
  have ht' : (paperF b k).take i = _ := ht
  rw [ht']
  dsimp only
  rw [List.filter_append, told_flat (g := fun i => ix (neededF b k) i) (take_nodup (pf_tkn hb).nd n) hmem]
  have e0 : ((((ix (neededF b k) x).map fun r => ((x, r.1, r.2) : Fact)).take r).filter fun y => decide (y.1 = u.1) && decide (y.2.1 ≤ d)) = [] := List.filter_eq_nil_iff.mpr fun f hf z => by
    obtain ⟨q, _, rfl⟩ := List.mem_map.mp (List.mem_of_mem_take hf)
    exact hne (of_decide_eq_true (Bool.and_eq_true_iff.mp z).1).symm
  rw [e0, List.append_nil, List.map_map, maxL_cons0]
  obtain ⟨top, inv⟩ := rowsOf_inv b k (neededF b k) u.1
  rw [← needed_rows hb h hur] at inv
  exact told_rows _ (fun r hr => (inv.mem r hr).2.1) inv.lr d
theorem paper_follows {b : List Item} {k : Books} (hb : BillOk b) (h : BkW b k) {i : Nat} {f : Fact} (hf : (paperF b k)[i]? = some f) : followsF b k ((paperF b k).take i) f = true ∧ followsF b k ((paperF b k).take i) (f.1, f.2.1, f.2.2 + 1) = false := by
  obtain ⟨hr, hm, hu⟩ := paper_at hb h hf
  have hg := (hb.ix hr).good
  obtain ⟨top, inv⟩ := rowsOf_inv b k (neededF b k) f.1
  rw [← needed_rows hb h hr] at inv
  obtain ⟨⟨d, _, e⟩, h1, _⟩ := inv.mem _ hm
  have e1 : f.2.1 = d - (ix b f.1).lead := congrArg Prod.fst e
  have e2 : f.2.2 = rup (missF b k (neededF b k) f.1 d) (ix b f.1).good := congrArg Prod.snd e
  have ed : f.2.1 + (ix b f.1).lead = d := by omega
  have em : missF b k (neededF b k) f.1 d = ordd k f.1 d + (useSum b f.1 fun p => lotsAt (ix (neededF b k) p) d) - supp k f.1 d := by unfold missF; rw [takenF_eq]
  have k1 := (lt_rup (n := missF b k (neededF b k) f.1 d) (g := (ix b f.1).good) (m := f.2.2 - 1) (by omega)).mp (by omega)
  have k2 := (rup_le (n := missF b k (neededF b k) f.1 d) (g := (ix b f.1).good) (m := f.2.2) (by omega)).mp (by omega)
  unfold followsF
  dsimp only
  rw [ed, hu d]
  refine ⟨decide_eq_true (by omega), decide_eq_false ?_⟩
  rw [show f.2.2 + 1 - 1 = f.2.2 by omega]
  omega
theorem paper_right {b : List Item} {k : Books} (hb : BillOk b) (h : BkW b k) : wrongF b k (paperF b k) = none := by
  unfold wrongF
  refine List.find?_eq_none.mpr fun j hj => ?_
  have hj := mem_rng.mp hj
  have := (paper_follows hb h (get_ix (xs := paperF b k) (i := j.toNat) (by omega))).1
  rw [show ((j.toNat : Nat) : Int) = j by omega] at this
  rw [this]; decide
end Mw

set_option Elab.async false
set_option linter.all false
set_option maxRecDepth 100000
set_option autoImplicit false
namespace Mw
open PySem PySem.Spec PyProof.Rows L2
/-! ## dicts -/
section
variable {κ β : Type} [DecidableEq κ]
theorem tput_len (kv : List (κ × β)) (k : κ) (x : β) : (tput kv k x).length ≤ kv.length + 1 := by
  unfold tput; split <;> simp
theorem tput_mem {kv : List (κ × β)} {k : κ} {x : β} {q : κ × β} (h : q ∈ tput kv k x) : q ∈ kv ∨ q = (k, x) := by
  unfold tput at h
  split at h
  · obtain ⟨p, hp, rfl⟩ := List.mem_map.mp h
    split
    · next c => exact .inr (by rw [c])
    · exact .inl hp
  · rcases List.mem_append.mp h with z | z
    · exact .inl z
    · rw [List.mem_singleton] at z; exact .inr z
theorem tput_keys (kv : List (κ × β)) (k : κ) (x : β) : (tput kv k x).map (·.1) = if k ∈ kv.map (·.1) then kv.map (·.1) else kv.map (·.1) ++ [k] := by
  have e : (kv.any fun p => decide (p.1 = k)) = decide (k ∈ kv.map (·.1)) := by
    rw [Bool.eq_iff_iff, List.any_eq_true, decide_eq_true_iff, List.mem_map]
    exact ⟨fun ⟨p, h1, h2⟩ => ⟨p, h1, of_decide_eq_true h2⟩, fun ⟨p, h1, h2⟩ => ⟨p, h1, decide_eq_true h2⟩⟩
  unfold tput
  rw [e]
  by_cases c : k ∈ kv.map (·.1)
  · rw [if_pos (decide_eq_true c), if_pos c, List.map_map]
    refine List.map_congr_left fun p _ => ?_
    show (if p.1 = k then (p.1, x) else p).1 = p.1
    split <;> rfl
  · rw [if_neg (by simpa using c), if_neg c, List.map_append]; rfl
theorem tput_nodup {kv : List (κ × β)} (h : (kv.map (·.1)).Nodup) (k : κ) (x : β) : ((tput kv k x).map (·.1)).Nodup := by
  rw [tput_keys]
  split
  · exact h
  · next c => exact List.nodup_append.mpr ⟨h, by simp, fun a ha b hb e => by rw [List.mem_singleton] at hb; subst hb; subst e; exact c ha⟩
theorem tget_mem {kv : List (κ × β)} {k : κ} (h : k ∈ kv.map (·.1)) : ∃ x, tget kv k = some x ∧ (k, x) ∈ kv := by
  unfold tget
  cases e : kv.find? fun p => decide (p.1 = k) with
  | none =>
    obtain ⟨p, hp, rfl⟩ := List.mem_map.mp h
    have := List.find?_eq_none.mp e p hp
    exact absurd (decide_eq_true rfl) this
  | some p =>
    have h1 := List.mem_of_find?_eq_some e
    have h2 : p.1 = k := of_decide_eq_true (List.find?_some (p := fun p : κ × β => decide (p.1 = k)) e)
    exact ⟨p.2, rfl, by rw [← h2]; exact h1⟩
theorem dat_mem [Inhabited β] {kv : List (κ × β)} {k : κ} (h : k ∈ kv.map (·.1)) : (tget kv k).isSome = true ∧ (k, dat kv k) ∈ kv := by
  obtain ⟨x, h1, h2⟩ := tget_mem h
  unfold dat
  rw [h1]
  exact ⟨rfl, h2⟩
end
theorem srtP_strict {ks : List (Int × Int)} (h : ks.Nodup) : (srtP ks).Pairwise fun a b => SrtO.lexB a b = true := by
  have nd : (srtP ks).Nodup := (srtP_perm ks).nodup_iff.mpr h
  refine (List.Pairwise.and (srtP_pw ks) nd).imp fun {a b} z => ?_
  have h1 := SrtO.lexB_no.mp z.1
  have h2 : a ≠ b := z.2
  refine SrtO.lexB_iff.mpr ?_
  by_cases c1 : a.1 = b.1
  · by_cases c2 : a.2 = b.2
    · exact absurd (Prod.ext c1 c2) h2
    · omega
  · omega
/-! ## plans -/
structure PlOk (b : List Item) (p : List Fact) : Prop where
  len : p.length ≤ 100000
  it : ∀ f ∈ p, (0 ≤ f.1 ∧ f.1 < b.length) ∧ -1000 ≤ f.2.1 ∧ f.2.1 ≤ 2000
structure PlNear (b : List Item) (k : Books) (p : List Fact) : Prop where
  len : p.length ≤ 6
  it : ∀ f ∈ p, (0 ≤ f.1 ∧ f.1 < b.length) ∧ (k.today ≤ f.2.1 ∧ f.2.1 ≤ k.today + 19) ∧ 1 ≤ f.2.2 ∧ f.2.2 ≤ 13
  srt : (p.map fun f => (f.1, f.2.1)).Pairwise fun a b => SrtO.lexB a b = true
theorem PlNear.ok {b : List Item} {k : Books} {p : List Fact} (h : PlNear b k p) (hk : BooksOk b k) : PlOk b p := ⟨by have := h.len; omega, fun f hf => ⟨(h.it f hf).1, by have := (h.it f hf).2.1; have := hk.today; omega⟩⟩
theorem gd_law_plan {b : List Item} {k : Books} {bx : Box} (hx : BxOk bx) (hb : BillOk b) (hb1 : 1 ≤ b.length) (hk : BooksOk b k) : Gd (t__law_plan bx b k) (fun r => PlNear b k r.1 ∧ BxOk r.2) := by
  have hl := hb.len
  refine gd_let (gd_bind (P := fun (s : Box × List ((Int × Int) × Int)) => BxOk s.1 ∧ s.2.length ≤ 6 ∧ (s.2.map (·.1)).Nodup ∧ ∀ q ∈ s.2, (0 ≤ q.1.1 ∧ q.1.1 < b.length) ∧ (k.today ≤ q.1.2 ∧ q.1.2 ≤ k.today + 19) ∧ 1 ≤ q.2 ∧ q.2 ≤ 13) (gd_bind (gd_draw hx (by omega)) fun p hp => gd_req (by omega) ?_) fun s hs => ?_)
  · refine gd_forL' (fun i (s : Box × List ((Int × Int) × Int)) => BxOk s.1 ∧ s.2.length ≤ i ∧ (s.2.map (·.1)).Nodup ∧ ∀ q ∈ s.2, (0 ≤ q.1.1 ∧ q.1.1 < b.length) ∧ (k.today ≤ q.1.2 ∧ q.1.2 ≤ k.today + 19) ∧ 1 ≤ q.2 ∧ q.2 ≤ 13) ⟨hp.2, Nat.le_refl _, List.nodup_nil, fun _ h => nomatch h⟩ (fun i x s hi hs => ?_) fun s h => ⟨h.1, by have := h.2.1; rw [rng_len] at this; omega, h.2.2⟩
    obtain ⟨h1, h2, h3, h4⟩ := hs
    have hi := rng_get hi
    refine gd_bind (P := fun (t : Box × (Int × Int)) => BxOk t.1 ∧ (0 ≤ t.2.1 ∧ t.2.1 < b.length) ∧ (k.today ≤ t.2.2 ∧ t.2.2 ≤ k.today + 19)) (gd_bind (gd_draw h1 (by omega)) fun q1 g1 => gd_bind (gd_draw g1.2 (by omega)) fun q2 g2 => gd_ret ⟨g2.2, g1.1, by have := g2.1; dsimp only; omega⟩) fun t ht => ?_
    refine gd_bind (P := fun (u : Box × List ((Int × Int) × Int)) => BxOk u.1 ∧ u.2.length ≤ i + 1 ∧ (u.2.map (·.1)).Nodup ∧ ∀ q ∈ u.2, (0 ≤ q.1.1 ∧ q.1.1 < b.length) ∧ (k.today ≤ q.1.2 ∧ q.1.2 ≤ k.today + 19) ∧ 1 ≤ q.2 ∧ q.2 ≤ 13) (gd_bind (gd_draw ht.1 (by omega)) fun q1 g1 => gd_bind (gd_draw g1.2 (by omega)) fun q2 g2 => gd_req (by omega) (gd_req (by omega) (gd_ret ⟨g2.2, ?_, tput_nodup h3 _ _, fun q hq => ?_⟩))) fun u hu => gd_ret hu
    · have := tput_len s.2 (t.2.1, t.2.2) (1 + q1.1 * q2.1)
      dsimp only; omega
    · rcases tput_mem hq with z | z
      · exact h4 q z
      · subst z
        have := mul_bd (a := q1.1) (b := q2.1) (m := 4) (n := 3) (by omega) (by omega)
        exact ⟨ht.2.1, ht.2.2, by dsimp only; omega⟩
  · obtain ⟨bx2, kv⟩ := s
    obtain ⟨h1, h2, h3, h4⟩ := hs
    dsimp only at h1 h2 h3 h4
    have hlen : (srtP (kv.map fun p => p.1)).length = kv.length := by rw [(srtP_perm _).length_eq, List.length_map]
    have el := lcM (xs := srtP (kv.map fun p => p.1)) (te := fun (x15 : (Int × Int)) => T.req ((tget kv (x15.1, x15.2)).isSome = true) (T.ret (x15.1, x15.2, (dat kv (x15.1, x15.2))))) (f := fun x => (x.1, x.2, dat kv (x.1, x.2))) fun x hx => gd_req (dat_mem ((srtP_perm _).mem_iff.mp hx)).1 (gd_ret rfl)
    refine gd_req (by dsimp only; omega) (gd_req (by dsimp only; rw [hlen]; omega) (gd_req el.1 (gd_ret ⟨?_, h1⟩)))
    dsimp only
    rw [el.2]
    refine ⟨by rw [List.length_map, hlen]; exact h2, fun f hf => ?_, ?_⟩
    · obtain ⟨x, hx, rfl⟩ := List.mem_map.mp hf
      exact h4 _ (dat_mem ((srtP_perm _).mem_iff.mp hx)).2
    · rw [List.map_map]
      have : ((srtP (kv.map fun p => p.1)).map ((fun f : Fact => (f.1, f.2.1)) ∘ fun x => (x.1, x.2, dat kv (x.1, x.2)))) = srtP (kv.map fun p => p.1) := by
        conv => rhs; rw [← List.map_id (srtP (kv.map fun p => p.1))]
        rfl
      rw [this]
      exact srtP_strict h3
def startedF (p : List Fact) (i d : Int) : Int := ((p.filter fun f => decide (f.1 = i) && decide (f.2.1 ≤ d)).map fun f => f.2.2).sum
theorem gd_started {p : List Fact} (h : p.length ≤ 100000) (i d : Int) : Gd (t_started p i d) (· = startedF p i d) :=
  gd_req (by omega) (gd_req (lcP_ret_ok _ _ _) (gd_ret (by rw [lcP_ret_val]; rfl)))
theorem gd_law_started (p : List Fact) (i d : Int) : Gd (t__law_started p i d) (· = startedF p i d) := by
  refine gd_let (gd_eq (gd_sumif (fun f : Fact => decide (f.1 = i) && decide (f.2.1 ≤ d)) (fun f => f.2.2) p 0) (gd_ret ?_))
  rw [Int.zero_add]; rfl
def balF (b : List Item) (k : Books) (p : List Fact) (i d : Int) : Int := supp k i d + (ix b i).good * startedF p i (d - (ix b i).lead) - (ordd k i d + useSum b i fun q => startedF p q d)
theorem gd_balance {b : List Item} {k : Books} {p : List Fact} (hb : BillOk b) (h : BkW b k) (hp : PlOk b p) {i : Int} (hi : 0 ≤ i ∧ i < b.length) (d : Int) : Gd (t_balance b k p i d) (· = balF b k p i d) := by
  have hg := (hb.ix hi).good
  have hlot := (hb.ix hi).lot
  refine gd_eq (gd_req hi (gd_ret rfl)) ?_
  refine gd_eq (gd_eq (gd_supplied h hi d) (gd_eq (gd_started hp.len _ _) (gd_req (by dsimp only; omega) (gd_ret rfl)))) ?_
  refine gd_eq (gd_eq (gd_ordered h i d) (gd_ret rfl)) ?_
  refine gd_eq (a := ordd k i d + useSum b i fun q => startedF p q d) (gd_eq (gd_used_by hb i) ?_) (gd_ret rfl)
  unfold useSum
  rw [← foldl_add]
  refine gd_fold (fun (s : Int) (u : Int × Int) => s + u.2 * (ix b u.1).lot * startedF p u.1 d) (fun _ => True) trivial fun u hu s _ => ⟨?_, trivial⟩
  have hr := (usedBy_mem.mp (show (u.1, u.2) ∈ usedBy b i from hu)).1
  have hq := qlot_bd hb hu
  have hl := (hb.ix hr).lot
  exact gd_eq (gd_req hr (gd_req (by omega) (gd_eq (gd_started hp.len _ _) (gd_req (by omega) (gd_ret rfl))))) (gd_ret rfl)
theorem foldl_sub {α : Type} (g : α → Int) (xs : List α) (a : Int) : xs.foldl (fun s x => s - g x) a = a - (xs.map g).sum := by
  induction xs generalizing a with
  | nil => simp
  | cons x xs ih => rw [List.foldl_cons, ih, List.map_cons, List.sum_cons]; omega
theorem foldl_subif {α : Type} (c : α → Bool) (g : α → Int) : ∀ (xs : List α) (a : Int), xs.foldl (fun s x => if c x = true then s - g x else s) a = a - ((xs.filter c).map g).sum
  | [], a => by simp
  | x :: xs, a => by
    rw [List.foldl_cons, foldl_subif c g xs, List.filter_cons]
    by_cases h : c x = true
    · rw [if_pos h, if_pos h, List.map_cons, List.sum_cons]; omega
    · rw [if_neg h, if_neg h]
theorem gd_law_balance {b : List Item} {k : Books} {p : List Fact} (hb : BillOk b) (h : BkW b k) {i : Int} (hi : 0 ≤ i ∧ i < b.length) (d : Int) : Gd (t__law_balance b k p i d) (· = balF b k p i d) := by
  have hl := hb.len
  have hg := (hb.ix hi).good
  have hlot := (hb.ix hi).lot
  refine gd_eq (gd_eq (gd_law_supplied h hi d) (gd_eq (gd_law_ordered k i d) (gd_ret rfl))) ?_
  refine gd_eq (gd_req hi (gd_req hi (gd_eq (gd_law_started p _ _) (gd_req (by omega) (gd_ret rfl))))) ?_
  refine gd_eq (a := balF b k p i d) (gd_req (by omega) ?_) (gd_ret rfl)
  have em : balF b k p i d = supp k i d - ordd k i d + (ix b i).good * startedF p i (d - (ix b i).lead) - useSum b i fun q => startedF p q d := by unfold balF; omega
  rw [em, ← useSum_rng hb, ← foldl_sub]
  refine gd_fold (fun (s : Int) (q : Int) => s - qtyIn b q i * (ix b q).lot * startedF p q d) (fun _ => True) trivial fun q hq s _ => ⟨?_, trivial⟩
  have hq := mem_rng.mp hq
  have hpt := (hb.ix hq).pt
  have hlt := (hb.ix hq).lot
  refine gd_eq (gd_req hq ?_) (gd_ret rfl)
  rw [← parts_sum, ← foldl_subif]
  refine gd_fold _ (fun _ => True) trivial fun y hy s _ => ⟨?_, trivial⟩
  have hqq := (hpt y hy).2
  have hql := mul_bd (a := y.2) (b := (ix b q).lot) (m := 20) (n := 50) (by omega) (by omega)
  by_cases hc : decide (y.1 = i) = true
  · rw [if_pos hc, if_pos hc]
    exact gd_eq (gd_eq (gd_req hq (gd_req (by omega) (gd_eq (gd_law_started p _ _) (gd_req (by omega) (gd_ret rfl))))) (gd_ret rfl)) (gd_ret rfl)
  · rw [if_neg hc, if_neg hc]; exact gd_eq (gd_ret rfl) (gd_ret rfl)
/-- the last day of books and a plan -/
def lastF (b : List Item) (k : Books) (p : List Fact) : Int := p.foldl (fun s f => max s (f.2.1 + (ix b f.1).lead)) (k.ords.foldl (fun s e => max s e.2.2.2) (k.recs.foldl (fun s e => max s e.2.1) k.today))
theorem foldl_maxm {α : Type} (g : α → Int) (xs : List α) (a : Int) : xs.foldl (fun s x => max s (g x)) a = (xs.map g).foldl max a := by rw [List.foldl_map]
theorem gd_last_day {b : List Item} {k : Books} {p : List Fact} (h : BkW b k) (hp : PlOk b p) : Gd (t_last_day b k p) (· = lastF b k p) := by
  have h1 := h.recl
  have h2 := h.ordl
  have h3 := hp.len
  have e1 : (T.lcP (fun (x1 : (Int × Int × Int)) => T.ret true) (fun x1 => T.ret x1.2.1) k.recs).val = k.recs.map fun e => e.2.1 := by rw [lcP_ret_val, List.filter_eq_self.mpr fun _ _ => rfl]
  have e2 : (T.lcP (fun (x1 : (Int × Int × Int × Int)) => T.ret true) (fun x1 => T.ret x1.2.2.2) k.ords).val = k.ords.map fun e => e.2.2.2 := by rw [lcP_ret_val, List.filter_eq_self.mpr fun _ _ => rfl]
  refine gd_eq (a := [k.today] ++ (k.recs.map fun e => e.2.1) ++ k.ords.map fun e => e.2.2.2) (gd_req (by omega) (gd_req (lcP_ret_ok _ _ _) (gd_req ?_ (gd_req (by omega) (gd_req (lcP_ret_ok _ _ _) (gd_req ?_ (gd_ret ?_))))))) ?_
  · rw [e1, List.length_map, List.length_singleton]; omega
  · rw [e1, e2, List.length_append, List.length_map, List.length_map, List.length_singleton]; omega
  · rw [e1, e2]
  · have hf := foldl_app (fun f : Fact => [f.2.1 + (ix b f.1).lead]) p ([k.today] ++ (k.recs.map fun e => e.2.1) ++ k.ords.map fun e => e.2.2.2)
    have e : p.flatMap (fun f : Fact => [f.2.1 + (ix b f.1).lead]) = p.map fun f => f.2.1 + (ix b f.1).lead := by rw [List.map_eq_flatMap]
    rw [e] at hf
    refine gd_eq (a := ([k.today] ++ (k.recs.map fun e => e.2.1) ++ k.ords.map fun e => e.2.2.2) ++ p.map fun f => f.2.1 + (ix b f.1).lead) ?_ (gd_req ?_ (gd_ret ?_))
    · rw [← hf]
      refine gd_foldI (fun (s : List Int) (f : Fact) => s ++ [f.2.1 + (ix b f.1).lead]) (fun n t => t.length ≤ 201 + n) (by simp; omega) fun m r t hr2 ht => ⟨?_, by rw [List.length_append, List.length_singleton]; omega⟩
      have hm := (List.getElem?_eq_some_iff.mp hr2).1
      exact gd_eq (gd_req (hp.it r (List.mem_of_getElem? hr2)).1 (gd_req (by omega) (gd_ret rfl))) (gd_ret rfl)
    · simp
    · unfold lastF
      rw [foldl_maxm (fun f : Fact => f.2.1 + (ix b f.1).lead) p, foldl_maxm (fun e : Int × Int × Int × Int => e.2.2.2) k.ords, foldl_maxm (fun e : Int × Int × Int => e.2.1) k.recs, ← List.foldl_append, ← List.foldl_append]
      show (((k.recs.map fun e => e.2.1) ++ k.ords.map fun e => e.2.2.2) ++ p.map fun f => f.2.1 + (ix b f.1).lead).foldl max k.today = _
      try rw [List.append_assoc]
theorem gd_law_last {b : List Item} {k : Books} {p : List Fact} (hp : PlOk b p) : Gd (t__law_last b k p) (· = lastF b k p) := by
  refine gd_let (gd_eq (gd_fold (fun (s : Int) (e : Int × Int × Int) => max s e.2.1) (fun _ => True) trivial fun x _ s _ => ⟨gd_let (gd_ret rfl), trivial⟩) ?_)
  refine gd_eq (gd_fold (fun (s : Int) (e : Int × Int × Int × Int) => max s e.2.2.2) (fun _ => True) trivial fun x _ s _ => ⟨gd_let (gd_ret rfl), trivial⟩) ?_
  exact gd_eq (gd_fold (fun (s : Int) (f : Fact) => max s (f.2.1 + (ix b f.1).lead)) (fun _ => True) trivial fun x hx s _ => ⟨gd_eq (gd_req (hp.it x hx).1 (gd_ret rfl)) (gd_ret rfl), trivial⟩) (gd_ret rfl)
/-! ## shortages -/
def isShort (b : List Item) (k : Books) (p : List Fact) (d i : Int) : Bool := decide (balF b k p i d < 0) && (decide (d = k.today) || decide (0 ≤ balF b k p i (d - 1)))
def shStep (b : List Item) (k : Books) (p : List Fact) (d : Int) (s : List Fact) (i : Int) : List Fact := if isShort b k p d i = true then s ++ [(d, i, -balF b k p i d)] else s
def shDay (b : List Item) (k : Books) (p : List Fact) (s : List Fact) (d : Int) : List Fact := (rng b.length).foldl (shStep b k p d) s
def shortF (b : List Item) (k : Books) (p : List Fact) : List Fact := (rng2 k.today (lastF b k p + 1)).foldl (shDay b k p) []
theorem foldl_max_ub {α : Type} (g : α → Int) {c : Int} : ∀ (xs : List α) (a : Int), a ≤ c → (∀ x ∈ xs, g x ≤ c) → xs.foldl (fun s x => max s (g x)) a ≤ c
  | [], a, h, _ => h
  | x :: xs, a, h, hx => foldl_max_ub g xs (max a (g x)) (by have := hx x (by simp); omega) fun y hy => hx y (by simp [hy])
theorem lastF_ub {b : List Item} {k : Books} {p : List Fact} (hb : BillOk b) (hk : BooksOk b k) (hp : PlOk b p) : lastF b k p ≤ 2100 := by
  have ht := hk.today
  refine foldl_max_ub (fun f : Fact => f.2.1 + (ix b f.1).lead) p _ (foldl_max_ub (fun e : Int × Int × Int × Int => e.2.2.2) k.ords _ (foldl_max_ub (fun e : Int × Int × Int => e.2.1) k.recs _ (by omega) fun x hx => ?_) fun x hx => ?_) fun x hx => ?_
  · have := (hk.rc x hx).2.1; show x.2.1 ≤ 2100; omega
  · have := (hk.ord x hx).2.2.2; show x.2.2.2 ≤ 2100; omega
  · have h1 := hp.it x hx
    have h2 := (hb.ix h1.1).lead
    show x.2.1 + (ix b x.1).lead ≤ 2100; omega
theorem foldl_max_lb {α : Type} (g : α → Int) : ∀ (xs : List α) (a : Int), a ≤ xs.foldl (fun s x => max s (g x)) a
  | [], a => Int.le_refl _
  | x :: xs, a => by have := foldl_max_lb g xs (max a (g x)); rw [List.foldl_cons]; omega
theorem lastF_lb (b : List Item) (k : Books) (p : List Fact) : k.today ≤ lastF b k p :=
  Int.le_trans (Int.le_trans (foldl_max_lb (fun e : Int × Int × Int => e.2.1) k.recs k.today) (foldl_max_lb (fun e : Int × Int × Int × Int => e.2.2.2) k.ords _)) (foldl_max_lb (fun f : Fact => f.2.1 + (ix b f.1).lead) p _)
theorem foldl_len {α β : Type} (f : List β → α → List β) (c : Nat) (hf : ∀ s x, (f s x).length ≤ s.length + c) : ∀ (xs : List α) (s : List β), (xs.foldl f s).length ≤ s.length + c * xs.length
  | [], s => by simp
  | x :: xs, s => by
    have := foldl_len f c hf xs (f s x)
    have := hf s x
    rw [List.foldl_cons, List.length_cons, Nat.mul_add]; omega
theorem shStep_len (b : List Item) (k : Books) (p : List Fact) (d : Int) (s : List Fact) (i : Int) : (shStep b k p d s i).length ≤ s.length + 1 := by unfold shStep; split <;> simp
theorem shDay_len (b : List Item) (k : Books) (p : List Fact) (s : List Fact) (d : Int) : (shDay b k p s d).length ≤ s.length + b.length := by
  have := foldl_len (shStep b k p d) 1 (shStep_len b k p d) (rng b.length) s
  rw [rng_len] at this
  unfold shDay; omega
theorem shortF_len {b : List Item} {k : Books} {p : List Fact} (hb : BillOk b) (hk : BooksOk b k) (hp : PlOk b p) : (shortF b k p).length ≤ 20000 := by
  have hl := hb.len
  have ht := hk.today
  have hu := lastF_ub hb hk hp
  have := foldl_len (shDay b k p) 8 (fun s d => by have := shDay_len b k p s d; omega) (rng2 k.today (lastF b k p + 1)) []
  rw [rng2_len] at this
  unfold shortF
  simp at this; omega
section
variable {b : List Item} {k : Books} {p : List Fact}
theorem gd_shortages (hb : BillOk b) (hk : BooksOk b k) (hp : PlOk b p) : Gd (t_shortages b k p) (· = shortF b k p) := by
  have hl := hb.len
  have ht := hk.today
  have hu := lastF_ub hb hk hp
  have hv := lastF_lb b k p
  have hw := hk.w
  refine gd_let (gd_eq (a := shortF b k p) (gd_eq (gd_last_day hw hp) (gd_req (by omega) (gd_req (by omega) ?_))) (gd_ret rfl))
  refine gd_foldI (shDay b k p) (fun n s => s.length ≤ 8 * n) (by simp) fun n d s hd hs => ?_
  have hd2 := rng2_get hd
  have hdn := (List.getElem?_eq_some_iff.mp hd).1
  rw [rng2_len] at hdn
  have hsl := shDay_len b k p s d
  refine ⟨gd_eq (a := shDay b k p s d) (gd_req (by omega) ?_) (gd_ret rfl), by omega⟩
  refine gd_foldI (shStep b k p d) (fun m t => t.length ≤ s.length + m) (by simp) fun m i t hi hti => ?_
  have hi2 : i = m ∧ (m : Int) < b.length := rng_get hi
  refine ⟨?_, by have := shStep_len b k p d t i; omega⟩
  have b1 := gd_balance hb hw hp (i := i) (by omega) d
  have b2 := gd_balance hb hw hp (i := i) (by omega) (d - 1)
  refine gd_eq (gd_eq b1 (gd_ret rfl)) ?_
  refine gd_eq (a := shStep b k p d t i) (gd_req (fun _ _ => b2.1) ?_) (gd_ret rfl)
  rw [b2.2]
  unfold shStep
  show Gd (if isShort b k p d i = true then _ else _) _
  by_cases hc : isShort b k p d i = true
  · rw [if_pos hc, if_pos hc]; exact gd_eq (gd_req (by omega) (gd_ret rfl)) (gd_ret rfl)
  · rw [if_neg hc, if_neg hc]; exact gd_ret rfl
theorem gd_law_shortages (hb : BillOk b) (hk : BooksOk b k) (hp : PlOk b p) : Gd (t__law_shortages b k p) (· = shortF b k p) := by
  have hl := hb.len
  have ht := hk.today
  have hu := lastF_ub hb hk hp
  have hv := lastF_lb b k p
  have hw := hk.w
  refine gd_let (gd_eq (a := shortF b k p) (gd_eq (gd_law_last hp) (gd_req (by omega) (gd_req (by omega) ?_))) (gd_ret rfl))
  refine gd_foldI (shDay b k p) (fun n s => s.length ≤ 8 * n) (by simp) fun n d s hd hs => ?_
  have hd2 := rng2_get hd
  have hdn := (List.getElem?_eq_some_iff.mp hd).1
  rw [rng2_len] at hdn
  have hsl := shDay_len b k p s d
  refine ⟨gd_eq (a := shDay b k p s d) (gd_req (by omega) ?_) (gd_ret rfl), by omega⟩
  refine gd_foldI (shStep b k p d) (fun m t => t.length ≤ s.length + m) (by simp) fun m i t hi hti => ?_
  have hi2 : i = m ∧ (m : Int) < b.length := rng_get hi
  refine ⟨?_, by have := shStep_len b k p d t i; omega⟩
  have b1 := gd_law_balance (p := p) hb hw (i := i) (by omega) d
  have b2 := gd_law_balance (p := p) hb hw (i := i) (by omega) (d - 1)
  refine gd_eq (gd_eq b1 (gd_ret rfl)) ?_
  refine gd_eq (a := shStep b k p d t i) (gd_req (fun _ _ => b2.1) ?_) (gd_ret rfl)
  rw [b2.2]
  unfold shStep
  show Gd (if isShort b k p d i = true then _ else _) _
  by_cases hc : isShort b k p d i = true
  · rw [if_pos hc, if_pos hc, ← Int.zero_sub]; exact gd_eq (gd_req (by omega) (gd_ret rfl)) (gd_ret rfl)
  · rw [if_neg hc, if_neg hc]; exact gd_ret rfl
def worksF (b : List Item) (k : Books) (p : List Fact) : Bool := decide (((shortF b k p).length : Int) = 0)
theorem gd_works (hb : BillOk b) (hk : BooksOk b k) (hp : PlOk b p) : Gd (t_works b k p) (· = worksF b k p) := gd_eq (gd_shortages hb hk hp) (gd_ret rfl)
end
end Mw

set_option Elab.async false
set_option linter.all false
set_option maxRecDepth 100000
set_option autoImplicit false
namespace Mw
open PySem PySem.Spec PyProof.Rows L2 Mw
noncomputable section
def b_law_k10 : MS := (mSeq (mKl [0] (mSet 1 (mLst [(mCall f__law_digits [.v (fz 0), .v (mC (.int 0)), .v (mC (.int 63))]), (mC (.int 0))])))
    (mSeq (mSet 2 (mCall f__law_bill [.b 1, .v (mC (.int 5))]))
    (mSeq (mSet 3 (mCall f__law_books [.b 1, .v (fz 2)]))
    (mSeq (mKl [1] (mSet 4 (mCall f__law_plan [.b 1, .v (fz 2), .v (fz 3)])))
    (mSeq (mSet 5 (mCall f__law_shortages [.v (fz 2), .v (fz 3), .v (fz 4)]))
    (mRt (mAndV (mCall f__law_same [.v (mCall f_shortages [.v (fz 2), .v (fz 3), .v (fz 4)]), .v (fz 5)]) (mCall f__law_same [.v (mCall f_works [.v (fz 2), .v (fz 3), .v (fz 4)]), .v (m2 lEq (m1 lLen (nm 5)) (mC (.int 0)))]))))))))
def f_law_k10 : Fn := hide (mkFn 6 b_law_k10)
theorem f_law_k10_eq : f_law_k10 = mkFn 6 b_law_k10 := hide_eq _

end
noncomputable def t_law_k10 (script' : (List Int)) : T Bool :=
  T.bind (T.bind (t__law_digits script' 0 63) fun p1 => T.ret (p1, 0)) fun s2 =>
    T.bind (T.bind (t__law_bill s2 5) fun p3 => T.ret (p3.2, p3.1)) fun s4 =>
    T.bind (T.bind (t__law_books s4.1 s4.2) fun p5 => T.ret (p5.2, p5.1)) fun s6 =>
    T.bind (T.bind (t__law_plan s6.1 s4.2 s6.2) fun p7 => T.ret p7.1) fun s8 =>
    T.bind (T.bind (t__law_shortages s4.2 s6.2 s8) fun p9 => T.ret p9) fun s10 =>
    T.bind (t_shortages s4.2 s6.2 s8) fun p11 => T.req (Same (e_LT3iii p11) (e_LT3iii s10)) (T.req (true = true → (t_works s4.2 s6.2 s8).ok) (T.req (true = true → Same (D.bl ((t_works s4.2 s6.2 s8).val)) (D.bl (decide ((s10.length : Int) = 0)))) (T.ret (true && true))))
abbrev q_law_k10 (script' : (List Int)) : Bool → Prop := fun z => f_law_k10 [.shr (e_Li script')] = ((fun (z : Bool) => FRes.ok (.d (D.bl z)) [.un] : Bool → FRes)) z
theorem v_law_k10 (script' : (List Int)) : J (t_law_k10 script') (q_law_k10 script') :=
  v_fn (as := [.shr (e_Li script')]) (R' := fun (z : Bool) => FRes.ok (.d (D.bl z)) [.un]) f_law_k10_eq rfl (js_seq (E := fun (s2 : ((List Int) × Int)) => [.un, .mu false (.lst [.d (e_Li s2.1), .d (D.int s2.2)]), .un, .un, .un, .un]) (js_bind (v__law_digits script' 0 63) fun p1 hp1 => (js_st (E := fun (s2 : ((List Int) × Int)) => [.un, .mu false (.lst [.d (e_Li s2.1), .d (D.int s2.2)]), .un, .un, .un, .un]) (st_kl (st_set (e_cast (r' := .own (.lst [.d (e_Li ((p1, 0).1)), .d (D.int ((p1, 0).2))])) (e_lst (e_args (e_call (e_argBv (e_fz_s rfl) (e_argBv e_C (e_argBv e_C e_argB0 rfl) rfl) rfl) (e_lendr rfl (e_lendr rfl (e_lendr rfl e_lend0))) hp1 rfl) (e_args e_C e_args0 rfl) rfl) (e_sts (R.st_own _) (e_sts rfl e_sts0)) (Nat.le_of_ble_eq_true rfl)) rfl) rfl rfl) rfl) rfl)) fun s2 =>
    (js_seq (E := fun (s4 : (((List Int) × Int) × (List Item))) => [.un, .mu false (.lst [.d (e_Li s4.1.1), .d (D.int s4.1.2)]), .shr (e_VItem s4.2), .un, .un, .un]) (js_bind (v__law_bill s2 5) fun p3 hp3 => (js_st (E := fun (s4 : (((List Int) × Int) × (List Item))) => [.un, .mu false (.lst [.d (e_Li s4.1.1), .d (D.int s4.1.2)]), .shr (e_VItem s4.2), .un, .un, .un]) (st_set (e_call (e_argBb (i := 1) rfl (e_argBv e_C e_argB0 rfl)) (e_lendm (i := 1) rfl (e_lendr rfl e_lend0)) hp3 rfl) rfl rfl) rfl)) fun s4 =>
    (js_seq (E := fun (s6 : (((List Int) × Int) × Books)) => [.un, .mu false (.lst [.d (e_Li s6.1.1), .d (D.int s6.1.2)]), .shr (e_VItem s4.2), .shr (e_Books s6.2), .un, .un]) (js_bind (v__law_books s4.1 s4.2) fun p5 hp5 => (js_st (E := fun (s6 : (((List Int) × Int) × Books)) => [.un, .mu false (.lst [.d (e_Li s6.1.1), .d (D.int s6.1.2)]), .shr (e_VItem s4.2), .shr (e_Books s6.2), .un, .un]) (st_set (e_call (e_argBb (i := 1) rfl (e_argBv (e_fz_s rfl) e_argB0 rfl)) (e_lendm (i := 1) rfl (e_lendr rfl e_lend0)) hp5 rfl) rfl rfl) rfl)) fun s6 =>
    (js_seq (E := fun (s8 : (List (Int × Int × Int))) => [.un, .un, .shr (e_VItem s4.2), .shr (e_Books s6.2), .shr (e_VT3iii s8), .un]) (js_bind (v__law_plan s6.1 s4.2 s6.2) fun p7 hp7 => (js_st (E := fun (s8 : (List (Int × Int × Int))) => [.un, .un, .shr (e_VItem s4.2), .shr (e_Books s6.2), .shr (e_VT3iii s8), .un]) (st_kl (st_set (e_call (e_argBb (i := 1) rfl (e_argBv (e_fz_s rfl) (e_argBv (e_fz_s rfl) e_argB0 rfl) rfl)) (e_lendm (i := 1) rfl (e_lendr rfl (e_lendr rfl e_lend0))) hp7 rfl) rfl rfl) rfl) rfl)) fun s8 =>
    (js_seq (E := fun (s10 : (List (Int × Int × Int))) => [.un, .un, .shr (e_VItem s4.2), .shr (e_Books s6.2), .shr (e_VT3iii s8), .mu false (O.l (List.map e_T3iii s10))]) (js_bind (v__law_shortages s4.2 s6.2 s8) fun p9 hp9 => (js_st (E := fun (s10 : (List (Int × Int × Int))) => [.un, .un, .shr (e_VItem s4.2), .shr (e_Books s6.2), .shr (e_VT3iii s8), .mu false (O.l (List.map e_T3iii s10))]) (st_set (e_call (e_argBv (e_fz_s rfl) (e_argBv (e_fz_s rfl) (e_argBv (e_fz_s rfl) e_argB0 rfl) rfl) rfl) (e_lendr rfl (e_lendr rfl (e_lendr rfl e_lend0))) hp9 rfl) rfl rfl) rfl)) fun s10 =>
    (js_bind (v_shortages s4.2 s6.2 s8) fun p11 hp11 => (js_req fun hc12 => (js_req fun hc14 => (js_req fun hc15 => (js_rt (e_andV (e_call (e_argBv (e_call (e_argBv (e_fz_s rfl) (e_argBv (e_fz_s rfl) (e_argBv (e_fz_s rfl) e_argB0 rfl) rfl) rfl) (e_lendr rfl (e_lendr rfl (e_lendr rfl e_lend0))) hp11 rfl) (e_argBv (e_fz_m rfl) e_argB0 rfl) rfl) (e_lendr (R.st_own _) (e_lendr rfl e_lend0)) (same_ok hc12) rfl) fun g13 => (e_call (e_argBv (e_call (e_argBv (e_fz_s rfl) (e_argBv (e_fz_s rfl) (e_argBv (e_fz_s rfl) e_argB0 rfl) rfl) rfl) (e_lendr rfl (e_lendr rfl (e_lendr rfl e_lend0))) ((v_works s4.2 s6.2 s8) (hc14 g13)) rfl) (e_argBv (e_eqI (e_lenL (e := e_T3iii) (xs := s10) (e_nm_s rfl)) e_C) e_argB0 rfl) rfl) (e_lendr rfl (e_lendr rfl e_lend0)) (same_ok (hc15 g13)) rfl)) rfl rfl))))))))))

end Mw

set_option Elab.async false
set_option linter.all false
set_option maxRecDepth 100000
set_option autoImplicit false
namespace Mw.K10
open PySem PySem.Spec PyProof.Rows L2 Mw
theorem same_bl (o : Bool) : Same (D.bl o) (D.bl o) := ⟨rfl, trivial⟩
theorem same_fs {p : List Fact} (h : p.length ≤ 100000) : Same (e_LT3iii p) (e_LT3iii p) := by
  refine ⟨rfl, ?_⟩
  have : ∀ n, D.ok (n + 3) (e_LT3iii p) := fun n => ⟨by rw [List.length_map]; omega, fun z hz => by
      obtain ⟨r, _, rfl⟩ := List.mem_map.mp hz
      refine ⟨by simp, fun y hy => ?_⟩
      rcases List.mem_cons.mp hy with rfl | hy
      · trivial
      rcases List.mem_cons.mp hy with rfl | hy
      · trivial
      rw [List.mem_singleton] at hy; subst hy; trivial⟩
  exact this 57
theorem gd_law (ns : List Int) : Gd (t_law_k10 ns) (· = true) := by
  refine gd_bind (P := fun s => BxOk s) (gd_bind (gd_digits ns (by omega) (by omega)) fun p _ => gd_ret (show (0 : Int) ≤ 0 from Int.le_refl _)) fun s hs => ?_
  refine gd_bind (P := fun s => BxOk s.1 ∧ BillOk s.2 ∧ 1 ≤ s.2.length) (gd_bind (gd_bill hs (by omega)) fun p hp => gd_ret ⟨hp.2, hp.1.1, hp.1.2.2.1⟩) fun s hs => ?_
  obtain ⟨bx, b⟩ := s
  obtain ⟨hx, hb, hb1⟩ := hs
  dsimp only at hx hb hb1
  refine gd_bind (P := fun s => BxOk s.1 ∧ BooksOk b s.2 ∧ BooksNear s.2) (gd_bind (gd_books hx hb hb1) fun p hp => gd_ret ⟨hp.2, hp.1⟩) fun s hs => ?_
  obtain ⟨bx, k⟩ := s
  obtain ⟨hx, hk, hn⟩ := hs
  dsimp only at hx hk hn
  refine gd_bind (P := fun s => PlNear b k s) (gd_bind (gd_law_plan hx hb hb1 hk) fun p hp => gd_ret hp.1) fun p hp => ?_
  have hpo := hp.ok hk
  have hsl := shortF_len hb hk hpo
  have hwk := gd_works hb hk hpo
  refine gd_eq (gd_eq (gd_law_shortages hb hk hpo) (gd_ret rfl)) ?_
  refine gd_eq (gd_shortages hb hk hpo) (gd_req (same_fs (by dsimp only; omega)) (gd_req (fun _ => hwk.1) (gd_req (fun _ => ?_) (gd_ret rfl))))
  rw [hwk.2]
  exact same_bl _
theorem law_true (ns : List Int) (h : ns.length ≤ 63) : ∃ as, f_law_k10 [.shr (.lst (ns.map D.int))] = .ok (.d (.bl true)) as := by
  have g := gd_law ns
  have v := v_law_k10 ns g.1
  rw [g.2] at v
  exact ⟨_, v⟩
end Mw.K10

set_option Elab.async false
set_option linter.all false
set_option maxRecDepth 100000
set_option autoImplicit false
namespace Mw.K10
open PySem PySem.Spec PyProof.Rows L2 Mw
def topS (i : Nat) : Stmt := PySem.Challenge.pw_latestart_k10_shortages.main.body.getD i (.Pass ⟨0, 0, 0, 0⟩)
structure Tp (K : PySem.W.Frag) (mg : Str → Option Value) : Prop where
  n_bool : mg "bool" = none
  n_int : mg "int" = none
  n_isinstance : mg "isinstance" = none
  n_len : mg "len" = none
  n_list : mg "list" = none
  n_max : mg "max" = none
  n_range : mg "range" = none
  n_sorted : mg "sorted" = none
  n_str : mg "str" = none
  n_sum : mg "sum" = none
  n_tuple : mg "tuple" = none
abbrev s__law_cell : Stmt := topS 13
theorem sc__law_cell : FnScope ["_law_script", "_law_k"] ["_law_script", "_law_k"] (defScope s__law_cell) := ⟨rfl, rfl, rfl, by decide +kernel, rfl, by decide +kernel, by decide +kernel⟩
abbrev s__law_digits : Stmt := topS 14
theorem sc__law_digits : FnScope ["_law_script", "_law_first", "_law_last_here", "_law_digits_here", "_law_k", "_law_cell_here", "_law_turn", "_law_seed"] ["_law_script", "_law_first", "_law_last_here"] (defScope s__law_digits) := ⟨rfl, rfl, rfl, by decide +kernel, rfl, by decide +kernel, by decide +kernel⟩
abbrev s__law_draw : Stmt := topS 15
theorem sc__law_draw : FnScope ["_law_box", "_law_many", "_law_at"] ["_law_box", "_law_many"] (defScope s__law_draw) := ⟨rfl, rfl, rfl, by decide +kernel, rfl, by decide +kernel, by decide +kernel⟩
abbrev s__law_run : Stmt := topS 17
theorem sc__law_run : FnScope ["_law_box", "_law_many", "_law_chars", "_law_text", "_law_k"] ["_law_box", "_law_many", "_law_chars"] (defScope s__law_run) := ⟨rfl, rfl, rfl, by decide +kernel, rfl, by decide +kernel, by decide +kernel⟩
abbrev s__law_name : Stmt := topS 18
theorem sc__law_name : FnScope ["_law_box", "_law_taken", "_law_name_here", "_law_turn"] ["_law_box", "_law_taken"] (defScope s__law_name) := ⟨rfl, rfl, rfl, by decide +kernel, rfl, by decide +kernel, by decide +kernel⟩
abbrev s__law_bill : Stmt := topS 19
theorem sc__law_bill : FnScope ["_law_box", "_law_most", "_law_count", "_law_names", "_law_k", "_law_ranks", "_law_at", "_law_items", "_law_below", "_law_parts", "_law_turn", "_law_quantity", "_law_lead", "_law_lot"] ["_law_box", "_law_most"] (defScope s__law_bill) := ⟨rfl, rfl, rfl, by decide +kernel, rfl, by decide +kernel, by decide +kernel⟩
abbrev s__law_books : Stmt := topS 20
theorem sc__law_books : FnScope ["_law_box", "_law_bill_here", "_law_today", "_law_stock", "_law_receipts", "_law_k", "_law_orders", "_law_number", "_law_item"] ["_law_box", "_law_bill_here"] (defScope s__law_books) := ⟨rfl, rfl, rfl, by decide +kernel, rfl, by decide +kernel, by decide +kernel⟩
abbrev s__law_plan : Stmt := topS 21
theorem sc__law_plan : FnScope ["_law_box", "_law_bill_here", "_law_books_here", "_law_days", "_law_k", "_law_key"] ["_law_box", "_law_bill_here", "_law_books_here"] (defScope s__law_plan) := ⟨rfl, rfl, rfl, by decide +kernel, rfl, by decide +kernel, by decide +kernel⟩
abbrev s__law_last : Stmt := topS 26
theorem sc__law_last : FnScope ["_law_bill_here", "_law_books_here", "_law_plan_here", "_law_last_here", "_law_row", "_law_start"] ["_law_bill_here", "_law_books_here", "_law_plan_here"] (defScope s__law_last) := ⟨rfl, rfl, rfl, by decide +kernel, rfl, by decide +kernel, by decide +kernel⟩
abbrev s__law_supplied : Stmt := topS 22
theorem sc__law_supplied : FnScope ["_law_books_here", "_law_item", "_law_day", "_law_total", "_law_row"] ["_law_books_here", "_law_item", "_law_day"] (defScope s__law_supplied) := ⟨rfl, rfl, rfl, by decide +kernel, rfl, by decide +kernel, by decide +kernel⟩
abbrev s__law_ordered : Stmt := topS 23
theorem sc__law_ordered : FnScope ["_law_books_here", "_law_item", "_law_day", "_law_total", "_law_row"] ["_law_books_here", "_law_item", "_law_day"] (defScope s__law_ordered) := ⟨rfl, rfl, rfl, by decide +kernel, rfl, by decide +kernel, by decide +kernel⟩
abbrev s__law_started : Stmt := topS 24
theorem sc__law_started : FnScope ["_law_plan_here", "_law_item", "_law_day", "_law_total", "_law_start"] ["_law_plan_here", "_law_item", "_law_day"] (defScope s__law_started) := ⟨rfl, rfl, rfl, by decide +kernel, rfl, by decide +kernel, by decide +kernel⟩
abbrev s__law_balance : Stmt := topS 25
theorem sc__law_balance : FnScope ["_law_bill_here", "_law_books_here", "_law_plan_here", "_law_item", "_law_day", "_law_total", "_law_p", "_law_part"] ["_law_bill_here", "_law_books_here", "_law_plan_here", "_law_item", "_law_day"] (defScope s__law_balance) := ⟨rfl, rfl, rfl, by decide +kernel, rfl, by decide +kernel, by decide +kernel⟩
abbrev s__law_shortages : Stmt := topS 27
theorem sc__law_shortages : FnScope ["_law_bill_here", "_law_books_here", "_law_plan_here", "_law_found", "_law_day", "_law_item", "_law_now"] ["_law_bill_here", "_law_books_here", "_law_plan_here"] (defScope s__law_shortages) := ⟨rfl, rfl, rfl, by decide +kernel, rfl, by decide +kernel, by decide +kernel⟩
abbrev s_last_day : Stmt := topS 9
theorem sc_last_day : FnScope ["bill", "books", "plan", "days", "item", "day", "lots", "entry"] ["bill", "books", "plan"] (defScope s_last_day) := ⟨rfl, rfl, rfl, by decide +kernel, rfl, by decide +kernel, by decide +kernel⟩
abbrev s_supplied : Stmt := topS 1
theorem sc_supplied : FnScope ["books", "item", "day", "entry"] ["books", "item", "day"] (defScope s_supplied) := ⟨rfl, rfl, rfl, by decide +kernel, rfl, by decide +kernel, by decide +kernel⟩
abbrev s_started : Stmt := topS 7
theorem sc_started : FnScope ["plan", "item", "day", "start"] ["plan", "item", "day"] (defScope s_started) := ⟨rfl, rfl, rfl, by decide +kernel, rfl, by decide +kernel, by decide +kernel⟩
abbrev s_ordered : Stmt := topS 2
theorem sc_ordered : FnScope ["books", "item", "day", "entry"] ["books", "item", "day"] (defScope s_ordered) := ⟨rfl, rfl, rfl, by decide +kernel, rfl, by decide +kernel, by decide +kernel⟩
abbrev s_quantity_in : Stmt := topS 4
theorem sc_quantity_in : FnScope ["bill", "parent", "item", "part", "quantity"] ["bill", "parent", "item"] (defScope s_quantity_in) := ⟨rfl, rfl, rfl, by decide +kernel, rfl, by decide +kernel, by decide +kernel⟩
abbrev s_used_by : Stmt := topS 5
theorem sc_used_by : FnScope ["bill", "item", "found", "parent", "quantity"] ["bill", "item"] (defScope s_used_by) := ⟨rfl, rfl, rfl, by decide +kernel, rfl, by decide +kernel, by decide +kernel⟩
abbrev s_balance : Stmt := topS 8
theorem sc_balance : FnScope ["bill", "books", "plan", "item", "day", "name", "parts", "lead", "lot", "good", "there", "taken", "parent", "quantity"] ["bill", "books", "plan", "item", "day"] (defScope s_balance) := ⟨rfl, rfl, rfl, by decide +kernel, rfl, by decide +kernel, by decide +kernel⟩
abbrev s_shortages : Stmt := topS 10
theorem sc_shortages : FnScope ["bill", "books", "plan", "found", "day", "item", "now"] ["bill", "books", "plan"] (defScope s_shortages) := ⟨rfl, rfl, rfl, by decide +kernel, rfl, by decide +kernel, by decide +kernel⟩
abbrev s__law_same : Stmt := topS 16
theorem sc__law_same : FnScope ["_law_actual", "_law_due", "_law_k"] ["_law_actual", "_law_due"] (defScope s__law_same) := ⟨rfl, rfl, rfl, by decide +kernel, rfl, by decide +kernel, by decide +kernel⟩
abbrev s_works : Stmt := topS 11
theorem sc_works : FnScope ["bill", "books", "plan"] ["bill", "books", "plan"] (defScope s_works) := ⟨rfl, rfl, rfl, by decide +kernel, rfl, by decide +kernel, by decide +kernel⟩
abbrev s_law : Stmt := topS 28
theorem sc_law : FnScope ["_law_script", "_law_box", "_law_bill_here", "_law_books_here", "_law_plan_here", "_law_due"] ["_law_script"] (defScope s_law) := ⟨rfl, rfl, rfl, by decide +kernel, rfl, by decide +kernel, by decide +kernel⟩
section
variable {P : Program} {w : World} {K : PySem.W.Frag} {mg : Str → Option Value} {base : Heap}
theorem ok__law_cell (T : Tp K mg) {fa : Addr} {fd : FuncData} (F : L2.Fun K "_law_cell" "_law_cell" s__law_cell fa fd) : FnOk P w K mg base (L2.CX P w) (0 + 1) fa fd ["_law_script", "_law_k"] (spF ⟨K, mg⟩ 2 f__law_cell) := by
  rw [f__law_cell_eq]; exact fn_ok F sc__law_cell fun cdv A outer s H E hr =>
    (ss_cons (ss_if (st_cmp cb_lt (s_nm (i := 1) rfl (.inl rfl)) (s_len rfl T.n_len (s_nm (i := 0) rfl (.inl rfl))) (nomark _)) (ss_one (ss_ret (s_at (s_nm (i := 0) rfl (.inl rfl)) (s_nm (i := 1) rfl (.inl rfl))))) ss_nil)
    (ss_one (ss_ret s_int)))
theorem ok__law_digits (T : Tp K mg) (H__law_cell : Kp P w K mg base 1 "_law_cell" 2 f__law_cell) {fa : Addr} {fd : FuncData} (F : L2.Fun K "_law_digits" "_law_digits" s__law_digits fa fd) : FnOk P w K mg base (L2.CX P w) (1 + 1) fa fd ["_law_script", "_law_first", "_law_last_here"] (spF ⟨K, mg⟩ 3 f__law_digits) := by
  rw [f__law_digits_eq]; exact fn_ok F sc__law_digits fun cdv A outer s H E hr =>
    (ss_cons (ss_set (i := 3) sc__law_digits.nd rfl (.inl rfl) (s_lst a_nil))
    (ss_cons (ss_kl (ss_for (passes_of rfl) rfl (si_rg2 rfl T.n_range (s_nm (i := 1) rfl (.inl rfl)) (s_nm (i := 2) rfl (.inl rfl))) (sg_nm (i := 4) sc__law_digits.nd rfl (.inl rfl)) (ss_cons (ss_set (i := 5) sc__law_digits.nd rfl (.inl rfl) (s_call (H__law_cell.mono (by decide)) hr rfl (takes_of rfl rfl rfl rfl) (b_v (s_fz (i := 0) rfl (.inl rfl)) (b_v (s_fz (i := 4) rfl (.inl rfl)) b_nil))))
    (ss_cons (ss_if (st_cmp cb_lt (s_nm (i := 5) rfl (.inl rfl)) s_int (nomark _)) (ss_one (ss_set (i := 5) sc__law_digits.nd rfl (.inl rfl) (s_sub s_int (s_mul s_int (s_nm (i := 5) rfl (.inl rfl)))))) ss_nil)
    (ss_one (ss_if (st_cmp cb_ge (s_nm (i := 5) rfl (.inl rfl)) (s_pow s_int s_int) (nomark _)) (ss_one (ss_kl (ss_for (passes_of rfl) rfl (si_rg1 rfl T.n_range s_int) (sg_nm (i := 6) sc__law_digits.nd rfl (.inl rfl)) (ss_one (ss_if (st_cmp cb_gt (s_nm (i := 5) rfl (.inl rfl)) s_int (nomark _)) (ss_cons (ss_kl (ss_expr (s_append (i := 3) rfl (.inl rfl) (s_mod (s_int1 rfl T.n_int (s_nm (i := 5) rfl (.inl rfl))) s_int))))
    (ss_one (ss_set (i := 5) sc__law_digits.nd rfl (.inl rfl) (s_div (s_nm (i := 5) rfl (.inl rfl)) s_int)))) (sss_kl ss_nil)))))) (ss_cons (ss_kl (ss_set (i := 7) sc__law_digits.nd rfl (.inl rfl) (s_mod (s_int1 rfl T.n_int (s_add (s_add (s_mul (s_nm (i := 5) rfl (.inl rfl)) s_int) (s_mul (s_nm (i := 4) rfl (.inl rfl)) s_int)) s_int)) s_int)))
    (ss_one (ss_kl (ss_for (passes_of rfl) rfl (si_rg1 rfl T.n_range s_int) (sg_nm (i := 6) sc__law_digits.nd rfl (.inl rfl)) (ss_cons (ss_kl (ss_set (i := 7) sc__law_digits.nd rfl (.inl rfl) (s_mod (s_int1 rfl T.n_int (s_add (s_add (s_mul (s_nm (i := 7) rfl (.inl rfl)) s_int) (s_mul s_int (s_nm (i := 6) rfl (.inl rfl)))) s_int)) s_int)))
    (ss_one (ss_expr (s_append (i := 3) rfl (.inl rfl) (s_mod (s_int1 rfl T.n_int (s_div (s_nm (i := 7) rfl (.inl rfl)) s_int)) s_int)))))))))))))))
    (ss_one (ss_ret (s_mv (i := 3) rfl (.inl rfl))))))
theorem ok__law_draw (T : Tp K mg) {fa : Addr} {fd : FuncData} (F : L2.Fun K "_law_draw" "_law_draw" s__law_draw fa fd) : FnOk P w K mg base (L2.CX P w) (0 + 1) fa fd ["_law_box", "_law_many"] (spF ⟨K, mg⟩ 2 f__law_draw) := by
  rw [f__law_draw_eq]; exact fn_ok F sc__law_draw fun cdv A outer s H E hr =>
    (ss_cons (ss_set (i := 2) sc__law_draw.nd rfl (.inl rfl) (s_at (s_nm (i := 0) rfl (.inl rfl)) s_int))
    (ss_cons (ss_put (i := 0) rfl (.inl rfl) (s_add (s_nm (i := 2) rfl (.inl rfl)) s_int) s_int)
    (ss_cons (ss_if (st_cmp cb_lt (s_nm (i := 2) rfl (.inl rfl)) (s_len rfl T.n_len (s_at (s_nm (i := 0) rfl (.inl rfl)) s_int)) (nomark _)) (ss_one (ss_ret (s_mod (s_int1 rfl T.n_int (s_at (s_at (s_nm (i := 0) rfl (.inl rfl)) s_int) (s_nm (i := 2) rfl (.inl rfl)))) (s_nm (i := 1) rfl (.inl rfl))))) ss_nil)
    (ss_one (ss_ret s_int)))))
theorem ok__law_run (T : Tp K mg) (H__law_draw : Kp P w K mg base 1 "_law_draw" 2 f__law_draw) {fa : Addr} {fd : FuncData} (F : L2.Fun K "_law_run" "_law_run" s__law_run fa fd) : FnOk P w K mg base (L2.CX P w) (1 + 1) fa fd ["_law_box", "_law_many", "_law_chars"] (spF ⟨K, mg⟩ 3 f__law_run) := by
  rw [f__law_run_eq]; exact fn_ok F sc__law_run fun cdv A outer s H E hr =>
    (ss_cons (ss_set (i := 3) sc__law_run.nd rfl (.inl rfl) (s_str (by decide +kernel) (by decide +kernel)))
    (ss_cons (ss_kl (ss_for (passes_of rfl) rfl (si_rg1 rfl T.n_range (s_nm (i := 1) rfl (.inl rfl))) (sg_nm (i := 4) sc__law_run.nd rfl (.inl rfl)) (ss_one (ss_kl (ss_set (i := 3) sc__law_run.nd rfl (.inl rfl) (s_add (s_nm (i := 3) rfl (.inl rfl)) (s_at (s_fz (i := 2) rfl (.inl rfl)) (s_call (H__law_draw.mono (by decide)) hr rfl (takes_of rfl rfl rfl rfl) (b_b (i := 0) rfl (.inl rfl) (b_v (s_len rfl T.n_len (s_nm (i := 2) rfl (.inl rfl))) b_nil))))))))))
    (ss_one (ss_ret (s_mv (i := 3) rfl (.inl rfl))))))
theorem ok__law_name (T : Tp K mg) (H__law_draw : Kp P w K mg base 1 "_law_draw" 2 f__law_draw) (H__law_run : Kp P w K mg base 2 "_law_run" 3 f__law_run) {fa : Addr} {fd : FuncData} (F : L2.Fun K "_law_name" "_law_name" s__law_name fa fd) : FnOk P w K mg base (L2.CX P w) (2 + 1) fa fd ["_law_box", "_law_taken"] (spF ⟨K, mg⟩ 2 f__law_name) := by
  rw [f__law_name_eq]; exact fn_ok F sc__law_name fun cdv A outer s H E hr =>
    (ss_cons (ss_set (i := 2) sc__law_name.nd rfl (.inl rfl) (s_at (s_lst (a_cons (s_str (by decide +kernel) (by decide +kernel)) (a_cons (s_str (by decide +kernel) (by decide +kernel)) (a_cons (s_str (by decide +kernel) (by decide +kernel)) (a_cons (s_str (by decide +kernel) (by decide +kernel)) (a_cons (s_str (by decide +kernel) (by decide +kernel)) (a_cons (s_str (by decide +kernel) (by decide +kernel)) (a_cons (s_str (by decide +kernel) (by decide +kernel)) (a_cons (s_str (by decide +kernel) (by decide +kernel)) a_nil))))))))) (s_call (H__law_draw.mono (by decide)) hr rfl (takes_of rfl rfl rfl rfl) (b_b (i := 0) rfl (.inl rfl) (b_v s_int b_nil)))))
    (ss_cons (ss_if (st_cmp (cb_eq hr.units) (s_call (H__law_draw.mono (by decide)) hr rfl (takes_of rfl rfl rfl rfl) (b_b (i := 0) rfl (.inl rfl) (b_v s_int b_nil))) s_int (nomark _)) (ss_one (ss_set (i := 2) sc__law_name.nd rfl (.inl rfl) (s_call (H__law_run.mono (by decide)) hr rfl (takes_of rfl rfl rfl rfl) (b_b (i := 0) rfl (.inl rfl) (b_v (s_add s_int (s_call (H__law_draw.mono (by decide)) hr rfl (takes_of rfl rfl rfl rfl) (b_b (i := 0) rfl (.inl rfl) (b_v (s_at (s_lst (a_cons s_int (a_cons s_int a_nil))) (s_call (H__law_draw.mono (by decide)) hr rfl (takes_of rfl rfl rfl rfl) (b_b (i := 0) rfl (.inl rfl) (b_v s_int b_nil)))) b_nil)))) (b_v (s_str (by decide +kernel) (by decide +kernel)) b_nil)))))) ss_nil)
    (ss_cons (ss_for (passes_of rfl) rfl (si_rg1 rfl T.n_range s_int) (sg_nm (i := 3) sc__law_name.nd rfl (.inl rfl)) (ss_one (ss_if (st_cmp (cb_in (hu65 hr)) (s_nm (i := 2) rfl (.inl rfl)) (s_nm (i := 1) rfl (.inl rfl)) rfl) (ss_one (ss_kl (ss_set (i := 2) sc__law_name.nd rfl (.inl rfl) (s_add (s_sl01 (s_nm (i := 2) rfl (.inl rfl)) s_int) (s_at (s_str (by decide +kernel) (by decide +kernel)) (s_nm (i := 3) rfl (.inl rfl))))))) (sss_kl ss_nil))))
    (ss_one (ss_ret (s_mv (i := 2) rfl (.inl rfl)))))))
theorem ok__law_bill (T : Tp K mg) (H__law_draw : Kp P w K mg base 1 "_law_draw" 2 f__law_draw) (H__law_name : Kp P w K mg base 3 "_law_name" 2 f__law_name) {fa : Addr} {fd : FuncData} (F : L2.Fun K "_law_bill" "_law_bill" s__law_bill fa fd) : FnOk P w K mg base (L2.CX P w) (3 + 1) fa fd ["_law_box", "_law_most"] (spF ⟨K, mg⟩ 2 f__law_bill) := by
  rw [f__law_bill_eq]; exact fn_ok F sc__law_bill fun cdv A outer s H E hr =>
    (ss_cons (ss_kl (ss_set (i := 2) sc__law_bill.nd rfl (.inl rfl) (s_add s_int (s_call (H__law_draw.mono (by decide)) hr rfl (takes_of rfl rfl rfl rfl) (b_b (i := 0) rfl (.inl rfl) (b_v (s_fz (i := 1) rfl (.inl rfl)) b_nil))))))
    (ss_cons (ss_set (i := 3) sc__law_bill.nd rfl (.inl rfl) (s_lst a_nil))
    (ss_cons (ss_for (passes_of rfl) rfl (si_rg1 rfl T.n_range (s_nm (i := 2) rfl (.inl rfl))) (sg_nm (i := 4) sc__law_bill.nd rfl (.inl rfl)) (ss_one (ss_kl (ss_expr (s_append (i := 3) rfl (.inl rfl) (s_call (H__law_name.mono (by decide)) hr rfl (takes_of rfl rfl rfl rfl) (b_b (i := 0) rfl (.inl rfl) (b_b (i := 3) rfl (.inl rfl) b_nil))))))))
    (ss_cons (ss_set (i := 5) sc__law_bill.nd rfl (.inl rfl) (s_lst a_nil))
    (ss_cons (ss_for (passes_of rfl) rfl (si_rg1 rfl T.n_range (s_nm (i := 2) rfl (.inl rfl))) (sg_nm (i := 4) sc__law_bill.nd rfl (.inl rfl)) (ss_cons (ss_set (i := 6) sc__law_bill.nd rfl (.inl rfl) (s_call (H__law_draw.mono (by decide)) hr rfl (takes_of rfl rfl rfl rfl) (b_b (i := 0) rfl (.inl rfl) (b_v (s_add (s_len rfl T.n_len (s_nm (i := 5) rfl (.inl rfl))) s_int) b_nil))))
    (ss_one (ss_kl (ss_set (i := 5) sc__law_bill.nd rfl (.inl rfl) (s_add (s_add (s_sl01 (s_nm (i := 5) rfl (.inl rfl)) (s_nm (i := 6) rfl (.inl rfl))) (s_lst (a_cons (s_fz (i := 4) rfl (.inl rfl)) a_nil))) (s_sl10 (s_nm (i := 5) rfl (.inl rfl)) (s_nm (i := 6) rfl (.inl rfl)))))))))
    (ss_cons (ss_set (i := 7) sc__law_bill.nd rfl (.inl rfl) (s_lst a_nil))
    (ss_cons (ss_kl (ss_for (passes_of rfl) rfl (si_rg1 rfl T.n_range (s_nm (i := 2) rfl (.inl rfl))) (sg_nm (i := 4) sc__law_bill.nd rfl (.inl rfl)) (ss_cons (ss_set (i := 8) sc__law_bill.nd rfl (.inl rfl) (s_sl01 (s_nm (i := 5) rfl (.inl rfl)) (s_index (s_nm (i := 5) rfl (.inl rfl)) (s_nm (i := 4) rfl (.inl rfl)))))
    (ss_cons (ss_set (i := 9) sc__law_bill.nd rfl (.inl rfl) (s_lst a_nil))
    (sss_fz (i := 8) (ss_cons (ss_kl (ss_for (passes_of rfl) rfl (si_rg1 rfl T.n_range (s_call (H__law_draw.mono (by decide)) hr rfl (takes_of rfl rfl rfl rfl) (b_b (i := 0) rfl (.inl rfl) (b_v s_int b_nil)))) (sg_nm (i := 10) sc__law_bill.nd rfl (.inl rfl)) (ss_one (ss_if (st_cmp cb_gt (s_len rfl T.n_len (s_nm (i := 8) rfl (.inl rfl))) s_int (nomark _)) (ss_cons (ss_kl (ss_set (i := 11) sc__law_bill.nd rfl (.inl rfl) (s_add s_int (s_call (H__law_draw.mono (by decide)) hr rfl (takes_of rfl rfl rfl rfl) (b_b (i := 0) rfl (.inl rfl) (b_v s_int b_nil))))))
    (ss_cons (ss_if (st_cmp (cb_eq hr.units) (s_call (H__law_draw.mono (by decide)) hr rfl (takes_of rfl rfl rfl rfl) (b_b (i := 0) rfl (.inl rfl) (b_v s_int b_nil))) s_int (nomark _)) (ss_one (ss_set (i := 11) sc__law_bill.nd rfl (.inl rfl) s_int)) ss_nil)
    (ss_one (ss_kl (ss_expr (s_append (i := 9) rfl (.inl rfl) (s_tup (a_cons (s_at (s_fz (i := 8) rfl (.inl rfl)) (s_call (H__law_draw.mono (by decide)) hr rfl (takes_of rfl rfl rfl rfl) (b_b (i := 0) rfl (.inl rfl) (b_v (s_len rfl T.n_len (s_nm (i := 8) rfl (.inl rfl))) b_nil)))) (a_cons (s_fz (i := 11) rfl (.inl rfl)) a_nil))))))))) (sss_kl ss_nil)))))
    (ss_cons (ss_set (i := 12) sc__law_bill.nd rfl (.inl rfl) (s_at (s_lst (a_cons (s_call (H__law_draw.mono (by decide)) hr rfl (takes_of rfl rfl rfl rfl) (b_b (i := 0) rfl (.inl rfl) (b_v s_int b_nil))) (a_cons (s_call (H__law_draw.mono (by decide)) hr rfl (takes_of rfl rfl rfl rfl) (b_b (i := 0) rfl (.inl rfl) (b_v s_int b_nil))) a_nil))) (s_div (s_call (H__law_draw.mono (by decide)) hr rfl (takes_of rfl rfl rfl rfl) (b_b (i := 0) rfl (.inl rfl) (b_v s_int b_nil))) s_int)))
    (ss_cons (ss_set (i := 13) sc__law_bill.nd rfl (.inl rfl) (s_at (s_lst (a_cons (s_add s_int (s_call (H__law_draw.mono (by decide)) hr rfl (takes_of rfl rfl rfl rfl) (b_b (i := 0) rfl (.inl rfl) (b_v s_int b_nil)))) (a_cons (s_add s_int (s_call (H__law_draw.mono (by decide)) hr rfl (takes_of rfl rfl rfl rfl) (b_b (i := 0) rfl (.inl rfl) (b_v s_int b_nil)))) a_nil))) (s_div (s_call (H__law_draw.mono (by decide)) hr rfl (takes_of rfl rfl rfl rfl) (b_b (i := 0) rfl (.inl rfl) (b_v s_int b_nil))) s_int)))
    (ss_one (ss_kl (ss_expr (s_append (i := 7) rfl (.inl rfl) (s_tup (a_cons (s_at (s_nm (i := 3) rfl (.inl rfl)) (s_nm (i := 4) rfl (.inl rfl))) (a_cons (s_tuple rfl T.n_tuple (s_nm (i := 9) rfl (.inl rfl))) (a_cons (s_fz (i := 12) rfl (.inl rfl)) (a_cons (s_fz (i := 13) rfl (.inl rfl)) (a_cons (s_add s_int (s_call (H__law_draw.mono (by decide)) hr rfl (takes_of rfl rfl rfl rfl) (b_b (i := 0) rfl (.inl rfl) (b_v (s_fz (i := 13) rfl (.inl rfl)) b_nil)))) a_nil))))))))))))))))))
    (ss_one (ss_ret (s_tuple rfl T.n_tuple (s_nm (i := 7) rfl (.inl rfl))))))))))))
theorem ok__law_books (T : Tp K mg) (H__law_draw : Kp P w K mg base 1 "_law_draw" 2 f__law_draw) {fa : Addr} {fd : FuncData} (F : L2.Fun K "_law_books" "_law_books" s__law_books fa fd) : FnOk P w K mg base (L2.CX P w) (1 + 1) fa fd ["_law_box", "_law_bill_here"] (spF ⟨K, mg⟩ 2 f__law_books) := by
  rw [f__law_books_eq]; exact fn_ok F sc__law_books fun cdv A outer s H E hr =>
    (ss_cons (ss_set (i := 2) sc__law_books.nd rfl (.inl rfl) (s_at (s_lst (a_cons (s_call (H__law_draw.mono (by decide)) hr rfl (takes_of rfl rfl rfl rfl) (b_b (i := 0) rfl (.inr (.inl rfl)) (b_v s_int b_nil))) (a_cons s_int (a_cons s_int a_nil)))) (s_div (s_call (H__law_draw.mono (by decide)) hr rfl (takes_of rfl rfl rfl rfl) (b_b (i := 0) rfl (.inr (.inl rfl)) (b_v s_int b_nil))) s_int)))
    (ss_cons (ss_set (i := 3) sc__law_books.nd rfl (.inl rfl) (s_tuple rfl T.n_tuple (s_lc (own := [("_law_item", 8)]) rfl sc__law_books.nd (blkOk_by (N := ["_law_box", "_law_bill_here", "_law_today", "_law_stock", "_law_receipts", "_law_k", "_law_orders", "_law_number", "_law_item"]) (sc := (defScope s__law_books)) (own := [("_law_item", 8)]) (by decide +kernel)) (si_seq (s_fz (i := 1) rfl (.inl rfl))) (fun _ _ _ _ _ => (sg_nm (i := 8) sc__law_books.nd rfl (.inl rfl))) (fun _ _ _ _ _ => sf_nil) (fun _ _ _ _ _ => (s_mul (s_call (H__law_draw.mono (by decide)) hr rfl tk0 (b_b (i := 0) rfl (.inr (.inl rfl)) (b_v s_int b_nil))) (s_call (H__law_draw.mono (by decide)) hr rfl tk0 (b_b (i := 0) rfl (.inr (.inl rfl)) (b_v s_int b_nil))))))))
    (ss_cons (ss_set (i := 4) sc__law_books.nd rfl (.inl rfl) (s_lst a_nil))
    (ss_cons (ss_for (passes_of rfl) rfl (si_rg1 rfl T.n_range (s_call (H__law_draw.mono (by decide)) hr rfl (takes_of rfl rfl rfl rfl) (b_b (i := 0) rfl (.inr (.inl rfl)) (b_v s_int b_nil)))) (sg_nm (i := 5) sc__law_books.nd rfl (.inl rfl)) (ss_one (ss_kl (ss_expr (s_append (i := 4) rfl (.inl rfl) (s_tup (a_cons (s_call (H__law_draw.mono (by decide)) hr rfl (takes_of rfl rfl rfl rfl) (b_b (i := 0) rfl (.inr (.inl rfl)) (b_v (s_len rfl T.n_len (s_nm (i := 1) rfl (.inl rfl))) b_nil))) (a_cons (s_add (s_nm (i := 2) rfl (.inl rfl)) (s_call (H__law_draw.mono (by decide)) hr rfl (takes_of rfl rfl rfl rfl) (b_b (i := 0) rfl (.inr (.inl rfl)) (b_v s_int b_nil)))) (a_cons (s_add s_int (s_call (H__law_draw.mono (by decide)) hr rfl (takes_of rfl rfl rfl rfl) (b_b (i := 0) rfl (.inr (.inl rfl)) (b_v s_int b_nil)))) a_nil)))))))))
    (ss_cons (ss_set (i := 6) sc__law_books.nd rfl (.inl rfl) (s_lst a_nil))
    (ss_cons (ss_set (i := 7) sc__law_books.nd rfl (.inl rfl) s_int)
    (ss_cons (ss_kl (ss_for (passes_of rfl) rfl (si_rg1 rfl T.n_range (s_call (H__law_draw.mono (by decide)) hr rfl (takes_of rfl rfl rfl rfl) (b_b (i := 0) rfl (.inr (.inl rfl)) (b_v s_int b_nil)))) (sg_nm (i := 5) sc__law_books.nd rfl (.inl rfl)) (ss_cons (ss_kl (ss_set (i := 7) sc__law_books.nd rfl (.inl rfl) (s_add (s_add (s_nm (i := 7) rfl (.inl rfl)) s_int) (s_call (H__law_draw.mono (by decide)) hr rfl (takes_of rfl rfl rfl rfl) (b_b (i := 0) rfl (.inr (.inl rfl)) (b_v s_int b_nil))))))
    (ss_one (ss_expr (s_append (i := 6) rfl (.inl rfl) (s_tup (a_cons (s_fz (i := 7) rfl (.inl rfl)) (a_cons (s_call (H__law_draw.mono (by decide)) hr rfl (takes_of rfl rfl rfl rfl) (b_b (i := 0) rfl (.inr (.inl rfl)) (b_v (s_len rfl T.n_len (s_nm (i := 1) rfl (.inl rfl))) b_nil))) (a_cons (s_add s_int (s_call (H__law_draw.mono (by decide)) hr rfl (takes_of rfl rfl rfl rfl) (b_b (i := 0) rfl (.inr (.inl rfl)) (b_v s_int b_nil)))) (a_cons (s_add (s_nm (i := 2) rfl (.inl rfl)) (s_call (H__law_draw.mono (by decide)) hr rfl (takes_of rfl rfl rfl rfl) (b_b (i := 0) rfl (.inr (.inl rfl)) (b_v s_int b_nil)))) a_nil)))))))))))
    (ss_one (ss_ret (s_tup (a_cons (s_fz (i := 2) rfl (.inl rfl)) (a_cons (s_fz (i := 3) rfl (.inl rfl)) (a_cons (s_tuple rfl T.n_tuple (s_nm (i := 4) rfl (.inl rfl))) (a_cons (s_tuple rfl T.n_tuple (s_nm (i := 6) rfl (.inl rfl))) a_nil))))))))))))))
theorem ok__law_plan (T : Tp K mg) (H__law_draw : Kp P w K mg base 1 "_law_draw" 2 f__law_draw) {fa : Addr} {fd : FuncData} (F : L2.Fun K "_law_plan" "_law_plan" s__law_plan fa fd) : FnOk P w K mg base (L2.CX P w) (1 + 1) fa fd ["_law_box", "_law_bill_here", "_law_books_here"] (spF ⟨K, mg⟩ 3 f__law_plan) := by
  rw [f__law_plan_eq]; exact fn_ok F sc__law_plan fun cdv A outer s H E hr =>
    (ss_cons (ss_set (i := 3) sc__law_plan.nd rfl (.inr rfl) s_dnewT)
    (ss_cons (ss_kl (ss_for (passes_of rfl) rfl (si_rg1 rfl T.n_range (s_call (H__law_draw.mono (by decide)) hr rfl (takes_of rfl rfl rfl rfl) (b_b (i := 0) rfl (.inl rfl) (b_v s_int b_nil)))) (sg_nm (i := 4) sc__law_plan.nd rfl (.inl rfl)) (ss_cons (ss_kl (ss_set (i := 5) sc__law_plan.nd rfl (.inl rfl) (s_tup (a_cons (s_call (H__law_draw.mono (by decide)) hr rfl (takes_of rfl rfl rfl rfl) (b_b (i := 0) rfl (.inl rfl) (b_v (s_len rfl T.n_len (s_nm (i := 1) rfl (.inl rfl))) b_nil))) (a_cons (s_add (s_at (s_nm (i := 2) rfl (.inl rfl)) s_int) (s_call (H__law_draw.mono (by decide)) hr rfl (takes_of rfl rfl rfl rfl) (b_b (i := 0) rfl (.inl rfl) (b_v s_int b_nil)))) a_nil)))))
    (ss_one (ss_kl (ss_dput (i := 3) (hu65 hr) rfl (.inr (.inl rfl)) (s_add s_int (s_mul (s_call (H__law_draw.mono (by decide)) hr rfl (takes_of rfl rfl rfl rfl) (b_b (i := 0) rfl (.inl rfl) (b_v s_int b_nil))) (s_call (H__law_draw.mono (by decide)) hr rfl (takes_of rfl rfl rfl rfl) (b_b (i := 0) rfl (.inl rfl) (b_v s_int b_nil))))) (s_nm (i := 5) rfl (.inl rfl))))))))
    (ss_one (ss_ret (s_tuple rfl T.n_tuple (s_lc (own := [("_law_key", 5)]) rfl sc__law_plan.nd (blkOk_by (N := ["_law_box", "_law_bill_here", "_law_books_here", "_law_days", "_law_k", "_law_key"]) (sc := (defScope s__law_plan)) (own := [("_law_key", 5)]) (by decide +kernel)) (si_seq (s_sortedD rfl rfl T.n_sorted (s_nm (i := 3) rfl (.inr (.inl rfl))))) (fun _ _ _ _ _ => (sg_nm (i := 5) sc__law_plan.nd rfl (.inl rfl))) (fun _ _ _ _ _ => sf_nil) (fun _ _ _ _ _ => (s_tup (a_cons (s_at (s_nm (i := 5) rfl (.inl rfl)) s_int) (a_cons (s_at (s_nm (i := 5) rfl (.inl rfl)) s_int) (a_cons (s_dget (hu65 hr) (s_nm (i := 3) rfl (.inr (.inl rfl))) (s_nm (i := 5) rfl (.inl rfl))) a_nil)))))))))))
theorem ok__law_last (T : Tp K mg) {fa : Addr} {fd : FuncData} (F : L2.Fun K "_law_last" "_law_last" s__law_last fa fd) : FnOk P w K mg base (L2.CX P w) (0 + 1) fa fd ["_law_bill_here", "_law_books_here", "_law_plan_here"] (spF ⟨K, mg⟩ 3 f__law_last) := by
  rw [f__law_last_eq]; exact fn_ok F sc__law_last fun cdv A outer s H E hr =>
    (ss_cons (ss_set (i := 3) sc__law_last.nd rfl (.inl rfl) (s_at (s_nm (i := 1) rfl (.inl rfl)) s_int))
    (ss_cons (ss_for (passes_of rfl) rfl (si_seq (s_at (s_nm (i := 1) rfl (.inl rfl)) s_int)) (sg_nm (i := 4) sc__law_last.nd rfl (.inl rfl)) (ss_one (ss_kl (ss_set (i := 3) sc__law_last.nd rfl (.inl rfl) (s_max2 rfl rfl T.n_max (s_nm (i := 3) rfl (.inl rfl)) (s_at (s_nm (i := 4) rfl (.inl rfl)) s_int))))))
    (ss_cons (ss_kl (ss_for (passes_of rfl) rfl (si_seq (s_at (s_nm (i := 1) rfl (.inl rfl)) s_int)) (sg_nm (i := 4) sc__law_last.nd rfl (.inl rfl)) (ss_one (ss_kl (ss_set (i := 3) sc__law_last.nd rfl (.inl rfl) (s_max2 rfl rfl T.n_max (s_nm (i := 3) rfl (.inl rfl)) (s_at (s_nm (i := 4) rfl (.inl rfl)) s_int)))))))
    (ss_cons (ss_kl (ss_for (passes_of rfl) rfl (si_seq (s_fz (i := 2) rfl (.inl rfl))) (sg_nm (i := 5) sc__law_last.nd rfl (.inl rfl)) (ss_one (ss_kl (ss_set (i := 3) sc__law_last.nd rfl (.inl rfl) (s_max2 rfl rfl T.n_max (s_nm (i := 3) rfl (.inl rfl)) (s_add (s_at (s_nm (i := 5) rfl (.inl rfl)) s_int) (s_at (s_at (s_nm (i := 0) rfl (.inl rfl)) (s_at (s_nm (i := 5) rfl (.inl rfl)) s_int)) s_int))))))))
    (ss_one (ss_ret (s_mv (i := 3) rfl (.inl rfl))))))))
theorem ok__law_supplied (T : Tp K mg) {fa : Addr} {fd : FuncData} (F : L2.Fun K "_law_supplied" "_law_supplied" s__law_supplied fa fd) : FnOk P w K mg base (L2.CX P w) (0 + 1) fa fd ["_law_books_here", "_law_item", "_law_day"] (spF ⟨K, mg⟩ 3 f__law_supplied) := by
  rw [f__law_supplied_eq]; exact fn_ok F sc__law_supplied fun cdv A outer s H E hr =>
    (ss_cons (ss_set (i := 3) sc__law_supplied.nd rfl (.inl rfl) (s_at (s_at (s_nm (i := 0) rfl (.inl rfl)) s_int) (s_nm (i := 1) rfl (.inl rfl))))
    (ss_cons (ss_kl (ss_for (passes_of rfl) rfl (si_seq (s_at (s_nm (i := 0) rfl (.inl rfl)) s_int)) (sg_nm (i := 4) sc__law_supplied.nd rfl (.inl rfl)) (ss_one (ss_if (st_pw (sw_and (st_cmp (cb_eq hr.units) (s_at (s_nm (i := 4) rfl (.inl rfl)) s_int) (s_nm (i := 1) rfl (.inl rfl)) (nomark _)) (sw_and1 (st_cmp cb_le (s_at (s_nm (i := 4) rfl (.inl rfl)) s_int) (s_nm (i := 2) rfl (.inl rfl)) (nomark _))))) (ss_one (ss_kl (ss_set (i := 3) sc__law_supplied.nd rfl (.inl rfl) (s_add (s_nm (i := 3) rfl (.inl rfl)) (s_at (s_nm (i := 4) rfl (.inl rfl)) s_int))))) (sss_kl ss_nil)))))
    (ss_one (ss_ret (s_mv (i := 3) rfl (.inl rfl))))))
theorem ok__law_ordered (T : Tp K mg) {fa : Addr} {fd : FuncData} (F : L2.Fun K "_law_ordered" "_law_ordered" s__law_ordered fa fd) : FnOk P w K mg base (L2.CX P w) (0 + 1) fa fd ["_law_books_here", "_law_item", "_law_day"] (spF ⟨K, mg⟩ 3 f__law_ordered) := by
  rw [f__law_ordered_eq]; exact fn_ok F sc__law_ordered fun cdv A outer s H E hr =>
    (ss_cons (ss_set (i := 3) sc__law_ordered.nd rfl (.inl rfl) s_int)
    (ss_cons (ss_kl (ss_for (passes_of rfl) rfl (si_seq (s_at (s_nm (i := 0) rfl (.inl rfl)) s_int)) (sg_nm (i := 4) sc__law_ordered.nd rfl (.inl rfl)) (ss_one (ss_if (st_pw (sw_and (st_cmp (cb_eq hr.units) (s_at (s_nm (i := 4) rfl (.inl rfl)) s_int) (s_nm (i := 1) rfl (.inl rfl)) (nomark _)) (sw_and1 (st_cmp cb_le (s_at (s_nm (i := 4) rfl (.inl rfl)) s_int) (s_nm (i := 2) rfl (.inl rfl)) (nomark _))))) (ss_one (ss_kl (ss_set (i := 3) sc__law_ordered.nd rfl (.inl rfl) (s_add (s_nm (i := 3) rfl (.inl rfl)) (s_at (s_nm (i := 4) rfl (.inl rfl)) s_int))))) (sss_kl ss_nil)))))
    (ss_one (ss_ret (s_mv (i := 3) rfl (.inl rfl))))))
theorem ok__law_started (T : Tp K mg) {fa : Addr} {fd : FuncData} (F : L2.Fun K "_law_started" "_law_started" s__law_started fa fd) : FnOk P w K mg base (L2.CX P w) (0 + 1) fa fd ["_law_plan_here", "_law_item", "_law_day"] (spF ⟨K, mg⟩ 3 f__law_started) := by
  rw [f__law_started_eq]; exact fn_ok F sc__law_started fun cdv A outer s H E hr =>
    (ss_cons (ss_set (i := 3) sc__law_started.nd rfl (.inl rfl) s_int)
    (ss_cons (ss_kl (ss_for (passes_of rfl) rfl (si_seq (s_fz (i := 0) rfl (.inl rfl))) (sg_nm (i := 4) sc__law_started.nd rfl (.inl rfl)) (ss_one (ss_if (st_pw (sw_and (st_cmp (cb_eq hr.units) (s_at (s_nm (i := 4) rfl (.inl rfl)) s_int) (s_nm (i := 1) rfl (.inl rfl)) (nomark _)) (sw_and1 (st_cmp cb_le (s_at (s_nm (i := 4) rfl (.inl rfl)) s_int) (s_nm (i := 2) rfl (.inl rfl)) (nomark _))))) (ss_one (ss_kl (ss_set (i := 3) sc__law_started.nd rfl (.inl rfl) (s_add (s_nm (i := 3) rfl (.inl rfl)) (s_at (s_nm (i := 4) rfl (.inl rfl)) s_int))))) (sss_kl ss_nil)))))
    (ss_one (ss_ret (s_mv (i := 3) rfl (.inl rfl))))))
theorem ok__law_balance (T : Tp K mg) (H__law_supplied : Kp P w K mg base 1 "_law_supplied" 3 f__law_supplied) (H__law_ordered : Kp P w K mg base 1 "_law_ordered" 3 f__law_ordered) (H__law_started : Kp P w K mg base 1 "_law_started" 3 f__law_started) {fa : Addr} {fd : FuncData} (F : L2.Fun K "_law_balance" "_law_balance" s__law_balance fa fd) : FnOk P w K mg base (L2.CX P w) (1 + 1) fa fd ["_law_bill_here", "_law_books_here", "_law_plan_here", "_law_item", "_law_day"] (spF ⟨K, mg⟩ 5 f__law_balance) := by
  rw [f__law_balance_eq]; exact fn_ok F sc__law_balance fun cdv A outer s H E hr =>
    (ss_cons (ss_kl (ss_set (i := 5) sc__law_balance.nd rfl (.inl rfl) (s_sub (s_call (H__law_supplied.mono (by decide)) hr rfl (takes_of rfl rfl rfl rfl) (b_v (s_fz (i := 1) rfl (.inl rfl)) (b_v (s_fz (i := 3) rfl (.inl rfl)) (b_v (s_fz (i := 4) rfl (.inl rfl)) b_nil)))) (s_call (H__law_ordered.mono (by decide)) hr rfl (takes_of rfl rfl rfl rfl) (b_v (s_fz (i := 1) rfl (.inl rfl)) (b_v (s_fz (i := 3) rfl (.inl rfl)) (b_v (s_fz (i := 4) rfl (.inl rfl)) b_nil)))))))
    (ss_cons (ss_set (i := 5) sc__law_balance.nd rfl (.inl rfl) (s_add (s_nm (i := 5) rfl (.inl rfl)) (s_mul (s_at (s_at (s_nm (i := 0) rfl (.inl rfl)) (s_nm (i := 3) rfl (.inl rfl))) s_int) (s_call (H__law_started.mono (by decide)) hr rfl (takes_of rfl rfl rfl rfl) (b_v (s_fz (i := 2) rfl (.inl rfl)) (b_v (s_fz (i := 3) rfl (.inl rfl)) (b_v (s_sub (s_nm (i := 4) rfl (.inl rfl)) (s_at (s_at (s_nm (i := 0) rfl (.inl rfl)) (s_nm (i := 3) rfl (.inl rfl))) s_int)) b_nil)))))))
    (ss_cons (ss_kl (ss_for (passes_of rfl) rfl (si_rg1 rfl T.n_range (s_len rfl T.n_len (s_nm (i := 0) rfl (.inl rfl)))) (sg_nm (i := 6) sc__law_balance.nd rfl (.inl rfl)) (ss_one (ss_kl (ss_for (passes_of rfl) rfl (si_seq (s_at (s_at (s_nm (i := 0) rfl (.inl rfl)) (s_nm (i := 6) rfl (.inl rfl))) s_int)) (sg_nm (i := 7) sc__law_balance.nd rfl (.inl rfl)) (ss_one (ss_if (st_cmp (cb_eq hr.units) (s_at (s_nm (i := 7) rfl (.inl rfl)) s_int) (s_nm (i := 3) rfl (.inl rfl)) (nomark _)) (ss_one (ss_kl (ss_set (i := 5) sc__law_balance.nd rfl (.inl rfl) (s_sub (s_nm (i := 5) rfl (.inl rfl)) (s_mul (s_mul (s_at (s_nm (i := 7) rfl (.inl rfl)) s_int) (s_at (s_at (s_nm (i := 0) rfl (.inl rfl)) (s_nm (i := 6) rfl (.inl rfl))) s_int)) (s_call (H__law_started.mono (by decide)) hr rfl (takes_of rfl rfl rfl rfl) (b_v (s_fz (i := 2) rfl (.inl rfl)) (b_v (s_fz (i := 6) rfl (.inl rfl)) (b_v (s_fz (i := 4) rfl (.inl rfl)) b_nil))))))))) (sss_kl ss_nil))))))))
    (ss_one (ss_ret (s_mv (i := 5) rfl (.inl rfl)))))))
theorem ok__law_shortages (T : Tp K mg) (H__law_last : Kp P w K mg base 1 "_law_last" 3 f__law_last) (H__law_balance : Kp P w K mg base 2 "_law_balance" 5 f__law_balance) {fa : Addr} {fd : FuncData} (F : L2.Fun K "_law_shortages" "_law_shortages" s__law_shortages fa fd) : FnOk P w K mg base (L2.CX P w) (2 + 1) fa fd ["_law_bill_here", "_law_books_here", "_law_plan_here"] (spF ⟨K, mg⟩ 3 f__law_shortages) := by
  rw [f__law_shortages_eq]; exact fn_ok F sc__law_shortages fun cdv A outer s H E hr =>
    (ss_cons (ss_set (i := 3) sc__law_shortages.nd rfl (.inl rfl) (s_lst a_nil))
    (ss_cons (ss_kl (ss_for (passes_of rfl) rfl (si_rg2 rfl T.n_range (s_at (s_nm (i := 1) rfl (.inl rfl)) s_int) (s_add (s_call (H__law_last.mono (by decide)) hr rfl (takes_of rfl rfl rfl rfl) (b_v (s_fz (i := 0) rfl (.inl rfl)) (b_v (s_fz (i := 1) rfl (.inl rfl)) (b_v (s_fz (i := 2) rfl (.inl rfl)) b_nil)))) s_int)) (sg_nm (i := 4) sc__law_shortages.nd rfl (.inl rfl)) (ss_one (ss_kl (ss_for (passes_of rfl) rfl (si_rg1 rfl T.n_range (s_len rfl T.n_len (s_nm (i := 0) rfl (.inl rfl)))) (sg_nm (i := 5) sc__law_shortages.nd rfl (.inl rfl)) (ss_cons (ss_set (i := 6) sc__law_shortages.nd rfl (.inl rfl) (s_call (H__law_balance.mono (by decide)) hr rfl (takes_of rfl rfl rfl rfl) (b_v (s_fz (i := 0) rfl (.inl rfl)) (b_v (s_fz (i := 1) rfl (.inl rfl)) (b_v (s_fz (i := 2) rfl (.inl rfl)) (b_v (s_fz (i := 5) rfl (.inl rfl)) (b_v (s_fz (i := 4) rfl (.inl rfl)) b_nil)))))))
    (ss_one (ss_if (st_pw (sw_and (st_cmp cb_lt (s_nm (i := 6) rfl (.inl rfl)) s_int (nomark _)) (sw_and1 (st_pw (sw_or (st_cmp (cb_eq hr.units) (s_nm (i := 4) rfl (.inl rfl)) (s_at (s_nm (i := 1) rfl (.inl rfl)) s_int) (nomark _)) (sw_or1 (st_cmp cb_ge (s_call (H__law_balance.mono (by decide)) hr rfl (takes_of rfl rfl rfl rfl) (b_v (s_fz (i := 0) rfl (.inl rfl)) (b_v (s_fz (i := 1) rfl (.inl rfl)) (b_v (s_fz (i := 2) rfl (.inl rfl)) (b_v (s_fz (i := 5) rfl (.inl rfl)) (b_v (s_sub (s_nm (i := 4) rfl (.inl rfl)) s_int) b_nil)))))) s_int (nomark _)))))))) (ss_one (ss_kl (ss_expr (s_append (i := 3) rfl (.inl rfl) (s_tup (a_cons (s_fz (i := 4) rfl (.inl rfl)) (a_cons (s_fz (i := 5) rfl (.inl rfl)) (a_cons (s_sub s_int (s_nm (i := 6) rfl (.inl rfl))) a_nil)))))))) (sss_kl ss_nil)))))))))
    (ss_one (ss_ret (s_mv (i := 3) rfl (.inl rfl))))))
theorem ok_last_day (T : Tp K mg) {fa : Addr} {fd : FuncData} (F : L2.Fun K "last_day" "last_day" s_last_day fa fd) : FnOk P w K mg base (L2.CX P w) (0 + 1) fa fd ["bill", "books", "plan"] (spF ⟨K, mg⟩ 3 f_last_day) := by
  rw [f_last_day_eq]; exact fn_ok F sc_last_day fun cdv A outer s H E hr =>
    (ss_cons (ss_kl (ss_set (i := 3) sc_last_day.nd rfl (.inl rfl) (s_add (s_add (s_lst (a_cons (s_at (s_nm (i := 1) rfl (.inl rfl)) s_int) a_nil)) (s_lc (own := [("entry", 7)]) rfl sc_last_day.nd (blkOk_by (N := ["bill", "books", "plan", "days", "item", "day", "lots", "entry"]) (sc := (defScope s_last_day)) (own := [("entry", 7)]) (by decide +kernel)) (si_seq (s_at (s_nm (i := 1) rfl (.inl rfl)) s_int)) (fun _ _ _ _ _ => (sg_nm (i := 7) sc_last_day.nd rfl (.inl rfl))) (fun _ _ _ _ _ => sf_nil) (fun _ _ _ _ _ => (s_at (s_nm (i := 7) rfl (.inl rfl)) s_int)))) (s_lc (own := [("entry", 7)]) rfl sc_last_day.nd (blkOk_by (N := ["bill", "books", "plan", "days", "item", "day", "lots", "entry"]) (sc := (defScope s_last_day)) (own := [("entry", 7)]) (by decide +kernel)) (si_seq (s_at (s_nm (i := 1) rfl (.inl rfl)) s_int)) (fun _ _ _ _ _ => (sg_nm (i := 7) sc_last_day.nd rfl (.inl rfl))) (fun _ _ _ _ _ => sf_nil) (fun _ _ _ _ _ => (s_at (s_nm (i := 7) rfl (.inl rfl)) s_int))))))
    (ss_cons (ss_kl (ss_for (passes_of rfl) rfl (si_seq (s_fz (i := 2) rfl (.inl rfl))) (sg_tup rfl (sgs_cons (sg_nm (i := 4) sc_last_day.nd rfl (.inl rfl)) (sgs_cons (sg_nm (i := 5) sc_last_day.nd rfl (.inl rfl)) (sgs_cons (sg_nm (i := 6) sc_last_day.nd rfl (.inl rfl)) sgs_nil)))) (ss_one (ss_kl (ss_expr (s_append (i := 3) rfl (.inl rfl) (s_add (s_nm (i := 5) rfl (.inl rfl)) (s_at (s_at (s_nm (i := 0) rfl (.inl rfl)) (s_nm (i := 4) rfl (.inl rfl))) s_int))))))))
    (ss_one (ss_ret (s_max rfl rfl T.n_max (s_nm (i := 3) rfl (.inl rfl)))))))
theorem ok_supplied (T : Tp K mg) {fa : Addr} {fd : FuncData} (F : L2.Fun K "supplied" "supplied" s_supplied fa fd) : FnOk P w K mg base (L2.CX P w) (0 + 1) fa fd ["books", "item", "day"] (spF ⟨K, mg⟩ 3 f_supplied) := by
  rw [f_supplied_eq]; exact fn_ok F sc_supplied fun cdv A outer s H E hr =>
    (ss_one (ss_ret (s_add (s_at (s_at (s_nm (i := 0) rfl (.inl rfl)) s_int) (s_nm (i := 1) rfl (.inr (.inl rfl)))) (s_sum rfl rfl T.n_sum (s_lc (own := [("entry", 3)]) rfl sc_supplied.nd (blkOk_by (N := ["books", "item", "day", "entry"]) (sc := (defScope s_supplied)) (own := [("entry", 3)]) (by decide +kernel)) (si_seq (s_at (s_nm (i := 0) rfl (.inl rfl)) s_int)) (fun _ _ _ _ _ => (sg_nm (i := 3) sc_supplied.nd rfl (.inl rfl))) (fun _ _ _ _ _ => (sf_one (st_pw (sw_and (st_cmp (cb_eq hr.units) (s_at (s_nm (i := 3) rfl (.inl rfl)) s_int) (s_nm (i := 1) rfl (.inr (.inl rfl))) (nomark _)) (sw_and1 (st_cmp cb_le (s_at (s_nm (i := 3) rfl (.inl rfl)) s_int) (s_nm (i := 2) rfl (.inr (.inl rfl))) (nomark _))))))) (fun _ _ _ _ _ => (s_at (s_nm (i := 3) rfl (.inl rfl)) s_int)))))))
theorem ok_started (T : Tp K mg) {fa : Addr} {fd : FuncData} (F : L2.Fun K "started" "started" s_started fa fd) : FnOk P w K mg base (L2.CX P w) (0 + 1) fa fd ["plan", "item", "day"] (spF ⟨K, mg⟩ 3 f_started) := by
  rw [f_started_eq]; exact fn_ok F sc_started fun cdv A outer s H E hr =>
    (ss_one (ss_ret (s_sum rfl rfl T.n_sum (s_lc (own := [("start", 3)]) rfl sc_started.nd (blkOk_by (N := ["plan", "item", "day", "start"]) (sc := (defScope s_started)) (own := [("start", 3)]) (by decide +kernel)) (si_seq (s_fz (i := 0) rfl (.inl rfl))) (fun _ _ _ _ _ => (sg_nm (i := 3) sc_started.nd rfl (.inl rfl))) (fun _ _ _ _ _ => (sf_one (st_pw (sw_and (st_cmp (cb_eq hr.units) (s_at (s_nm (i := 3) rfl (.inl rfl)) s_int) (s_nm (i := 1) rfl (.inr (.inl rfl))) (nomark _)) (sw_and1 (st_cmp cb_le (s_at (s_nm (i := 3) rfl (.inl rfl)) s_int) (s_nm (i := 2) rfl (.inr (.inl rfl))) (nomark _))))))) (fun _ _ _ _ _ => (s_at (s_nm (i := 3) rfl (.inl rfl)) s_int))))))
theorem ok_ordered (T : Tp K mg) {fa : Addr} {fd : FuncData} (F : L2.Fun K "ordered" "ordered" s_ordered fa fd) : FnOk P w K mg base (L2.CX P w) (0 + 1) fa fd ["books", "item", "day"] (spF ⟨K, mg⟩ 3 f_ordered) := by
  rw [f_ordered_eq]; exact fn_ok F sc_ordered fun cdv A outer s H E hr =>
    (ss_one (ss_ret (s_sum rfl rfl T.n_sum (s_lc (own := [("entry", 3)]) rfl sc_ordered.nd (blkOk_by (N := ["books", "item", "day", "entry"]) (sc := (defScope s_ordered)) (own := [("entry", 3)]) (by decide +kernel)) (si_seq (s_at (s_nm (i := 0) rfl (.inl rfl)) s_int)) (fun _ _ _ _ _ => (sg_nm (i := 3) sc_ordered.nd rfl (.inl rfl))) (fun _ _ _ _ _ => (sf_one (st_pw (sw_and (st_cmp (cb_eq hr.units) (s_at (s_nm (i := 3) rfl (.inl rfl)) s_int) (s_nm (i := 1) rfl (.inr (.inl rfl))) (nomark _)) (sw_and1 (st_cmp cb_le (s_at (s_nm (i := 3) rfl (.inl rfl)) s_int) (s_nm (i := 2) rfl (.inr (.inl rfl))) (nomark _))))))) (fun _ _ _ _ _ => (s_at (s_nm (i := 3) rfl (.inl rfl)) s_int))))))
theorem ok_quantity_in (T : Tp K mg) {fa : Addr} {fd : FuncData} (F : L2.Fun K "quantity_in" "quantity_in" s_quantity_in fa fd) : FnOk P w K mg base (L2.CX P w) (0 + 1) fa fd ["bill", "parent", "item"] (spF ⟨K, mg⟩ 3 f_quantity_in) := by
  rw [f_quantity_in_eq]; exact fn_ok F sc_quantity_in fun cdv A outer s H E hr =>
    (ss_one (ss_ret (s_sum rfl rfl T.n_sum (s_lc (own := [("part", 3), ("quantity", 4)]) rfl sc_quantity_in.nd (blkOk_by (N := ["bill", "parent", "item", "part", "quantity"]) (sc := (defScope s_quantity_in)) (own := [("part", 3), ("quantity", 4)]) (by decide +kernel)) (si_seq (s_at (s_at (s_nm (i := 0) rfl (.inl rfl)) (s_nm (i := 1) rfl (.inl rfl))) s_int)) (fun _ _ _ _ _ => (sg_tup rfl (sgs_cons (sg_nm (i := 3) sc_quantity_in.nd rfl (.inl rfl)) (sgs_cons (sg_nm (i := 4) sc_quantity_in.nd rfl (.inl rfl)) sgs_nil)))) (fun _ _ _ _ _ => (sf_one (st_cmp (cb_eq hr.units) (s_nm (i := 3) rfl (.inl rfl)) (s_nm (i := 2) rfl (.inr (.inl rfl))) (nomark _)))) (fun _ _ _ _ _ => (s_fz (i := 4) rfl (.inl rfl)))))))
theorem ok_used_by (T : Tp K mg) (H_quantity_in : Kp P w K mg base 1 "quantity_in" 3 f_quantity_in) {fa : Addr} {fd : FuncData} (F : L2.Fun K "used_by" "used_by" s_used_by fa fd) : FnOk P w K mg base (L2.CX P w) (1 + 1) fa fd ["bill", "item"] (spF ⟨K, mg⟩ 2 f_used_by) := by
  rw [f_used_by_eq]; exact fn_ok F sc_used_by fun cdv A outer s H E hr =>
    (ss_cons (ss_set (i := 2) sc_used_by.nd rfl (.inl rfl) (s_lst a_nil))
    (ss_cons (ss_kl (ss_for (passes_of rfl) rfl (si_rg1 rfl T.n_range (s_len rfl T.n_len (s_nm (i := 0) rfl (.inl rfl)))) (sg_nm (i := 3) sc_used_by.nd rfl (.inl rfl)) (ss_cons (ss_set (i := 4) sc_used_by.nd rfl (.inl rfl) (s_call (H_quantity_in.mono (by decide)) hr rfl (takes_of rfl rfl rfl rfl) (b_v (s_fz (i := 0) rfl (.inl rfl)) (b_v (s_fz (i := 3) rfl (.inl rfl)) (b_v (s_fz (i := 1) rfl (.inl rfl)) b_nil)))))
    (ss_one (ss_if (st_cmp cb_gt (s_nm (i := 4) rfl (.inl rfl)) s_int (nomark _)) (ss_one (ss_kl (ss_expr (s_append (i := 2) rfl (.inl rfl) (s_tup (a_cons (s_fz (i := 3) rfl (.inl rfl)) (a_cons (s_fz (i := 4) rfl (.inl rfl)) a_nil))))))) (sss_kl ss_nil))))))
    (ss_one (ss_ret (s_mv (i := 2) rfl (.inl rfl))))))
theorem ok_balance (T : Tp K mg) (H_supplied : Kp P w K mg base 1 "supplied" 3 f_supplied) (H_started : Kp P w K mg base 1 "started" 3 f_started) (H_ordered : Kp P w K mg base 1 "ordered" 3 f_ordered) (H_used_by : Kp P w K mg base 2 "used_by" 2 f_used_by) {fa : Addr} {fd : FuncData} (F : L2.Fun K "balance" "balance" s_balance fa fd) : FnOk P w K mg base (L2.CX P w) (2 + 1) fa fd ["bill", "books", "plan", "item", "day"] (spF ⟨K, mg⟩ 5 f_balance) := by
  rw [f_balance_eq]; exact fn_ok F sc_balance fun cdv A outer s H E hr =>
    (ss_cons (ss_kl (ss_asg (s_at (s_nm (i := 0) rfl (.inl rfl)) (s_nm (i := 3) rfl (.inl rfl))) (sg_tup rfl (sgs_cons (sg_nm (i := 5) sc_balance.nd rfl (.inl rfl)) (sgs_cons (sg_nm (i := 6) sc_balance.nd rfl (.inl rfl)) (sgs_cons (sg_nm (i := 7) sc_balance.nd rfl (.inl rfl)) (sgs_cons (sg_nm (i := 8) sc_balance.nd rfl (.inl rfl)) (sgs_cons (sg_nm (i := 9) sc_balance.nd rfl (.inl rfl)) sgs_nil))))))))
    (ss_cons (ss_kl (ss_set (i := 10) sc_balance.nd rfl (.inl rfl) (s_add (s_call (H_supplied.mono (by decide)) hr rfl (takes_of rfl rfl rfl rfl) (b_v (s_fz (i := 1) rfl (.inl rfl)) (b_v (s_fz (i := 3) rfl (.inl rfl)) (b_v (s_fz (i := 4) rfl (.inl rfl)) b_nil)))) (s_mul (s_nm (i := 9) rfl (.inl rfl)) (s_call (H_started.mono (by decide)) hr rfl (takes_of rfl rfl rfl rfl) (b_v (s_fz (i := 2) rfl (.inl rfl)) (b_v (s_fz (i := 3) rfl (.inl rfl)) (b_v (s_sub (s_nm (i := 4) rfl (.inl rfl)) (s_nm (i := 7) rfl (.inl rfl))) b_nil))))))))
    (ss_cons (ss_kl (ss_set (i := 11) sc_balance.nd rfl (.inl rfl) (s_call (H_ordered.mono (by decide)) hr rfl (takes_of rfl rfl rfl rfl) (b_v (s_fz (i := 1) rfl (.inl rfl)) (b_v (s_fz (i := 3) rfl (.inl rfl)) (b_v (s_fz (i := 4) rfl (.inl rfl)) b_nil))))))
    (ss_cons (ss_kl (ss_for (passes_of rfl) rfl (si_seq (s_call (H_used_by.mono (by decide)) hr rfl (takes_of rfl rfl rfl rfl) (b_v (s_fz (i := 0) rfl (.inl rfl)) (b_v (s_fz (i := 3) rfl (.inl rfl)) b_nil)))) (sg_tup rfl (sgs_cons (sg_nm (i := 12) sc_balance.nd rfl (.inl rfl)) (sgs_cons (sg_nm (i := 13) sc_balance.nd rfl (.inl rfl)) sgs_nil))) (ss_one (ss_kl (ss_aug (i := 11) sc_balance.nd rfl (.inl rfl) (s_mul (s_mul (s_nm (i := 13) rfl (.inl rfl)) (s_at (s_at (s_nm (i := 0) rfl (.inl rfl)) (s_nm (i := 12) rfl (.inl rfl))) s_int)) (s_call (H_started.mono (by decide)) hr rfl (takes_of rfl rfl rfl rfl) (b_v (s_fz (i := 2) rfl (.inl rfl)) (b_v (s_fz (i := 12) rfl (.inl rfl)) (b_v (s_fz (i := 4) rfl (.inl rfl)) b_nil))))))))))
    (ss_one (ss_ret (s_sub (s_nm (i := 10) rfl (.inl rfl)) (s_nm (i := 11) rfl (.inl rfl)))))))))
theorem ok_shortages (T : Tp K mg) (H_last_day : Kp P w K mg base 1 "last_day" 3 f_last_day) (H_balance : Kp P w K mg base 3 "balance" 5 f_balance) {fa : Addr} {fd : FuncData} (F : L2.Fun K "shortages" "shortages" s_shortages fa fd) : FnOk P w K mg base (L2.CX P w) (3 + 1) fa fd ["bill", "books", "plan"] (spF ⟨K, mg⟩ 3 f_shortages) := by
  rw [f_shortages_eq]; exact fn_ok F sc_shortages fun cdv A outer s H E hr =>
    (ss_cons (ss_set (i := 3) sc_shortages.nd rfl (.inl rfl) (s_lst a_nil))
    (ss_cons (ss_kl (ss_for (passes_of rfl) rfl (si_rg2 rfl T.n_range (s_at (s_nm (i := 1) rfl (.inl rfl)) s_int) (s_add (s_call (H_last_day.mono (by decide)) hr rfl (takes_of rfl rfl rfl rfl) (b_v (s_fz (i := 0) rfl (.inl rfl)) (b_v (s_fz (i := 1) rfl (.inl rfl)) (b_v (s_fz (i := 2) rfl (.inl rfl)) b_nil)))) s_int)) (sg_nm (i := 4) sc_shortages.nd rfl (.inl rfl)) (ss_one (ss_kl (ss_for (passes_of rfl) rfl (si_rg1 rfl T.n_range (s_len rfl T.n_len (s_nm (i := 0) rfl (.inl rfl)))) (sg_nm (i := 5) sc_shortages.nd rfl (.inl rfl)) (ss_cons (ss_set (i := 6) sc_shortages.nd rfl (.inl rfl) (s_call (H_balance.mono (by decide)) hr rfl (takes_of rfl rfl rfl rfl) (b_v (s_fz (i := 0) rfl (.inl rfl)) (b_v (s_fz (i := 1) rfl (.inl rfl)) (b_v (s_fz (i := 2) rfl (.inl rfl)) (b_v (s_fz (i := 5) rfl (.inl rfl)) (b_v (s_fz (i := 4) rfl (.inl rfl)) b_nil)))))))
    (ss_one (ss_if (st_pw (sw_and (st_cmp cb_lt (s_nm (i := 6) rfl (.inl rfl)) s_int (nomark _)) (sw_and1 (st_pw (sw_or (st_cmp (cb_eq hr.units) (s_nm (i := 4) rfl (.inl rfl)) (s_at (s_nm (i := 1) rfl (.inl rfl)) s_int) (nomark _)) (sw_or1 (st_cmp cb_ge (s_call (H_balance.mono (by decide)) hr rfl (takes_of rfl rfl rfl rfl) (b_v (s_fz (i := 0) rfl (.inl rfl)) (b_v (s_fz (i := 1) rfl (.inl rfl)) (b_v (s_fz (i := 2) rfl (.inl rfl)) (b_v (s_fz (i := 5) rfl (.inl rfl)) (b_v (s_sub (s_nm (i := 4) rfl (.inl rfl)) s_int) b_nil)))))) s_int (nomark _)))))))) (ss_one (ss_kl (ss_expr (s_append (i := 3) rfl (.inl rfl) (s_tup (a_cons (s_fz (i := 4) rfl (.inl rfl)) (a_cons (s_fz (i := 5) rfl (.inl rfl)) (a_cons (s_neg (s_nm (i := 6) rfl (.inl rfl))) a_nil)))))))) (sss_kl ss_nil)))))))))
    (ss_one (ss_ret (s_mv (i := 3) rfl (.inl rfl))))))
theorem okk__law_same (T : Tp K mg) {fa : Addr} {fd : FuncData} (F : L2.Fun K "_law_same" "_law_same" s__law_same fa fd) (bb : Binds K fd ["_law_actual", "_law_due"] []) (ga : mg "_law_same" = some (.ref fa)) : ∀ n : Nat, FnOk P w K mg base (L2.CX P w) (0 + n) fa fd ["_law_actual", "_law_due"] (spF ⟨K, mg⟩ 2 (k__law_same n))
  | 0 => fn_no
  | n + 1 =>
    have G__law_same : Kp P w K mg base (0 + n) "_law_same" 2 (k__law_same n) := ⟨_, _, _, okk__law_same T  F bb ga n, bb, ga, F.kp⟩
    fn_ok F sc__law_same fun cdv A outer s H E hr =>
    (ss_cons (ss_if (st_pw (sw_or (st_val (s_isi (T := "list") (by decide) rfl T.n_isinstance rfl T.n_list (by decide +kernel) (s_nm (i := 1) rfl (.inl rfl)))) (sw_or1 (st_val (s_isi (T := "tuple") (by decide) rfl T.n_isinstance rfl T.n_tuple (by decide +kernel) (s_nm (i := 1) rfl (.inl rfl))))))) (ss_cons (ss_if (st_pw (sw_or (st_cmp (cb_ne hr.units) (s_isi (T := "list") (by decide) rfl T.n_isinstance rfl T.n_list (by decide +kernel) (s_nm (i := 1) rfl (.inl rfl))) (s_isi (T := "list") (by decide) rfl T.n_isinstance rfl T.n_list (by decide +kernel) (s_nm (i := 0) rfl (.inl rfl))) (nomark _)) (sw_or1 (st_cmp (cb_ne hr.units) (s_isi (T := "tuple") (by decide) rfl T.n_isinstance rfl T.n_tuple (by decide +kernel) (s_nm (i := 1) rfl (.inl rfl))) (s_isi (T := "tuple") (by decide) rfl T.n_isinstance rfl T.n_tuple (by decide +kernel) (s_nm (i := 0) rfl (.inl rfl))) (nomark _))))) (ss_one (ss_ret s_bl)) ss_nil)
    (ss_cons (ss_if (st_cmp (cb_ne hr.units) (s_len rfl T.n_len (s_nm (i := 0) rfl (.inl rfl))) (s_len rfl T.n_len (s_nm (i := 1) rfl (.inl rfl))) (nomark _)) (ss_one (ss_ret s_bl)) ss_nil)
    (ss_cons (ss_for (passes_of rfl) rfl (si_rg1 rfl T.n_range (s_len rfl T.n_len (s_nm (i := 1) rfl (.inl rfl)))) (sg_nm (i := 2) sc__law_same.nd rfl (.inl rfl)) (ss_one (ss_if (st_not (st_val (s_call G__law_same hr rfl (takes_of rfl rfl rfl rfl) (b_v (s_at (s_nm (i := 0) rfl (.inl rfl)) (s_nm (i := 2) rfl (.inl rfl))) (b_v (s_at (s_nm (i := 1) rfl (.inl rfl)) (s_nm (i := 2) rfl (.inl rfl))) b_nil))))) (ss_one (ss_ret s_bl)) ss_nil)))
    (ss_one (ss_ret s_bl))))) ss_nil)
    (ss_cons (ss_if (st_cmp cb_isN (s_nm (i := 1) rfl (.inl rfl)) s_non (nomark _)) (ss_one (ss_ret (s_isN (s_nm (i := 0) rfl (.inl rfl)) s_non))) ss_nil)
    (ss_cons (ss_if (st_val (s_isi (T := "bool") (by decide) rfl T.n_isinstance rfl T.n_bool (by decide +kernel) (s_nm (i := 1) rfl (.inl rfl)))) (ss_one (ss_ret (s_and (s_isi (T := "bool") (by decide) rfl T.n_isinstance rfl T.n_bool (by decide +kernel) (s_nm (i := 0) rfl (.inl rfl))) (s_and1 (s_eq hr.units (s_nm (i := 0) rfl (.inl rfl)) (s_nm (i := 1) rfl (.inl rfl))))))) ss_nil)
    (ss_cons (ss_if (st_val (s_isi (T := "str") (by decide) rfl T.n_isinstance rfl T.n_str (by decide +kernel) (s_nm (i := 1) rfl (.inl rfl)))) (ss_one (ss_ret (s_and (s_isi (T := "str") (by decide) rfl T.n_isinstance rfl T.n_str (by decide +kernel) (s_nm (i := 0) rfl (.inl rfl))) (s_and1 (s_eq hr.units (s_nm (i := 0) rfl (.inl rfl)) (s_nm (i := 1) rfl (.inl rfl))))))) ss_nil)
    (ss_one (ss_ret (s_and (s_isi (T := "int") (by decide) rfl T.n_isinstance rfl T.n_int (by decide +kernel) (s_nm (i := 0) rfl (.inl rfl))) (s_and (s_not (s_isi (T := "bool") (by decide) rfl T.n_isinstance rfl T.n_bool (by decide +kernel) (s_nm (i := 0) rfl (.inl rfl)))) (s_and1 (s_eq hr.units (s_nm (i := 0) rfl (.inl rfl)) (s_nm (i := 1) rfl (.inl rfl))))))))))))
theorem ok_works (T : Tp K mg) (H_shortages : Kp P w K mg base 4 "shortages" 3 f_shortages) {fa : Addr} {fd : FuncData} (F : L2.Fun K "works" "works" s_works fa fd) : FnOk P w K mg base (L2.CX P w) (4 + 1) fa fd ["bill", "books", "plan"] (spF ⟨K, mg⟩ 3 f_works) := by
  rw [f_works_eq]; exact fn_ok F sc_works fun cdv A outer s H E hr =>
    (ss_one (ss_ret (s_eq hr.units (s_len rfl T.n_len (s_call (H_shortages.mono (by decide)) hr rfl (takes_of rfl rfl rfl rfl) (b_v (s_fz (i := 0) rfl (.inl rfl)) (b_v (s_fz (i := 1) rfl (.inl rfl)) (b_v (s_fz (i := 2) rfl (.inl rfl)) b_nil))))) s_int)))
theorem ok_law_k10 (T : Tp K mg) (H__law_digits : Kp P w K mg base 2 "_law_digits" 3 f__law_digits) (H__law_bill : Kp P w K mg base 4 "_law_bill" 2 f__law_bill) (H__law_books : Kp P w K mg base 2 "_law_books" 2 f__law_books) (H__law_plan : Kp P w K mg base 2 "_law_plan" 3 f__law_plan) (H__law_shortages : Kp P w K mg base 3 "_law_shortages" 3 f__law_shortages) (H_shortages : Kp P w K mg base 4 "shortages" 3 f_shortages) (H__law_same : Kp P w K mg base 60 "_law_same" 2 f__law_same) (H_works : Kp P w K mg base 5 "works" 3 f_works) {fa : Addr} {fd : FuncData} (F : L2.Fun K "law" "law" s_law fa fd) : FnOk P w K mg base (L2.CX P w) (60 + 1) fa fd ["_law_script"] (spF ⟨K, mg⟩ 1 f_law_k10) := by
  rw [f_law_k10_eq]; exact fn_ok F sc_law fun cdv A outer s H E hr =>
    (ss_cons (ss_kl (ss_set (i := 1) sc_law.nd rfl (.inl rfl) (s_lst (a_cons (s_call (H__law_digits.mono (by decide)) hr rfl (takes_of rfl rfl rfl rfl) (b_v (s_fz (i := 0) rfl (.inl rfl)) (b_v s_int (b_v s_int b_nil)))) (a_cons s_int a_nil)))))
    (ss_cons (ss_set (i := 2) sc_law.nd rfl (.inl rfl) (s_call (H__law_bill.mono (by decide)) hr rfl (takes_of rfl rfl rfl rfl) (b_b (i := 1) rfl (.inl rfl) (b_v s_int b_nil))))
    (ss_cons (ss_set (i := 3) sc_law.nd rfl (.inl rfl) (s_call (H__law_books.mono (by decide)) hr rfl (takes_of rfl rfl rfl rfl) (b_b (i := 1) rfl (.inl rfl) (b_v (s_fz (i := 2) rfl (.inl rfl)) b_nil))))
    (ss_cons (ss_kl (ss_set (i := 4) sc_law.nd rfl (.inl rfl) (s_call (H__law_plan.mono (by decide)) hr rfl (takes_of rfl rfl rfl rfl) (b_b (i := 1) rfl (.inl rfl) (b_v (s_fz (i := 2) rfl (.inl rfl)) (b_v (s_fz (i := 3) rfl (.inl rfl)) b_nil))))))
    (ss_cons (ss_set (i := 5) sc_law.nd rfl (.inl rfl) (s_call (H__law_shortages.mono (by decide)) hr rfl (takes_of rfl rfl rfl rfl) (b_v (s_fz (i := 2) rfl (.inl rfl)) (b_v (s_fz (i := 3) rfl (.inl rfl)) (b_v (s_fz (i := 4) rfl (.inl rfl)) b_nil)))))
    (ss_one (ss_ret (s_and (s_call (H__law_same.mono (by decide)) hr rfl (takes_of rfl rfl rfl rfl) (b_v (s_call (H_shortages.mono (by decide)) hr rfl (takes_of rfl rfl rfl rfl) (b_v (s_fz (i := 2) rfl (.inl rfl)) (b_v (s_fz (i := 3) rfl (.inl rfl)) (b_v (s_fz (i := 4) rfl (.inl rfl)) b_nil)))) (b_v (s_fz (i := 5) rfl (.inl rfl)) b_nil))) (s_and1 (s_call (H__law_same.mono (by decide)) hr rfl (takes_of rfl rfl rfl rfl) (b_v (s_call (H_works.mono (by decide)) hr rfl (takes_of rfl rfl rfl rfl) (b_v (s_fz (i := 2) rfl (.inl rfl)) (b_v (s_fz (i := 3) rfl (.inl rfl)) (b_v (s_fz (i := 4) rfl (.inl rfl)) b_nil)))) (b_v (s_eq hr.units (s_len rfl T.n_len (s_nm (i := 5) rfl (.inl rfl))) s_int) b_nil))))))))))))
end
set_option maxHeartbeats 0 in
theorem all_mk {l : PySem.W.OpenLaw} {w : World} {K : PySem.W.Frag} {h : Heap} {mg : Str → Option Value} {fa : Addr} (X : K.In h) (G : h.Ns mainGlobals mg) (hfa : mg "law" = some (.ref fa))
    {f0 : Addr} {od0 an0 : Option Addr} {sl0 : Array (Option Value)} {oc0 kV0 dc0 pm0 cd0 ct0 : Value} (a0 : PySem.W.nsIn K mainGlobals "_law_cell" = some (some (.ref f0))) (l0 : K.lookup f0 = some ⟨oc0, od0, .func (PySem.W.fnOf "_law_cell" "_law_cell" (defArgs s__law_cell) (defBody s__law_cell) (defScope s__law_cell) .none kV0 dc0 pm0 an0 cd0 ct0), sl0⟩) (c0 : PySem.W.codeIn K cd0 "_law_cell" = true) (k0 : PySem.W.keepIn K (.ref f0) = true)
    {f1 : Addr} {od1 an1 : Option Addr} {sl1 : Array (Option Value)} {oc1 kV1 dc1 pm1 cd1 ct1 : Value} (a1 : PySem.W.nsIn K mainGlobals "_law_digits" = some (some (.ref f1))) (l1 : K.lookup f1 = some ⟨oc1, od1, .func (PySem.W.fnOf "_law_digits" "_law_digits" (defArgs s__law_digits) (defBody s__law_digits) (defScope s__law_digits) .none kV1 dc1 pm1 an1 cd1 ct1), sl1⟩) (c1 : PySem.W.codeIn K cd1 "_law_digits" = true) (k1 : PySem.W.keepIn K (.ref f1) = true)
    {f2 : Addr} {od2 an2 : Option Addr} {sl2 : Array (Option Value)} {oc2 kV2 dc2 pm2 cd2 ct2 : Value} (a2 : PySem.W.nsIn K mainGlobals "_law_draw" = some (some (.ref f2))) (l2 : K.lookup f2 = some ⟨oc2, od2, .func (PySem.W.fnOf "_law_draw" "_law_draw" (defArgs s__law_draw) (defBody s__law_draw) (defScope s__law_draw) .none kV2 dc2 pm2 an2 cd2 ct2), sl2⟩) (c2 : PySem.W.codeIn K cd2 "_law_draw" = true) (k2 : PySem.W.keepIn K (.ref f2) = true)
    {f3 : Addr} {od3 an3 : Option Addr} {sl3 : Array (Option Value)} {oc3 kV3 dc3 pm3 cd3 ct3 : Value} (a3 : PySem.W.nsIn K mainGlobals "_law_run" = some (some (.ref f3))) (l3 : K.lookup f3 = some ⟨oc3, od3, .func (PySem.W.fnOf "_law_run" "_law_run" (defArgs s__law_run) (defBody s__law_run) (defScope s__law_run) .none kV3 dc3 pm3 an3 cd3 ct3), sl3⟩) (c3 : PySem.W.codeIn K cd3 "_law_run" = true) (k3 : PySem.W.keepIn K (.ref f3) = true)
    {f4 : Addr} {od4 an4 : Option Addr} {sl4 : Array (Option Value)} {oc4 kV4 dc4 pm4 cd4 ct4 : Value} (a4 : PySem.W.nsIn K mainGlobals "_law_name" = some (some (.ref f4))) (l4 : K.lookup f4 = some ⟨oc4, od4, .func (PySem.W.fnOf "_law_name" "_law_name" (defArgs s__law_name) (defBody s__law_name) (defScope s__law_name) .none kV4 dc4 pm4 an4 cd4 ct4), sl4⟩) (c4 : PySem.W.codeIn K cd4 "_law_name" = true) (k4 : PySem.W.keepIn K (.ref f4) = true)
    {f5 : Addr} {od5 an5 : Option Addr} {sl5 : Array (Option Value)} {oc5 kV5 dc5 pm5 cd5 ct5 : Value} (a5 : PySem.W.nsIn K mainGlobals "_law_bill" = some (some (.ref f5))) (l5 : K.lookup f5 = some ⟨oc5, od5, .func (PySem.W.fnOf "_law_bill" "_law_bill" (defArgs s__law_bill) (defBody s__law_bill) (defScope s__law_bill) .none kV5 dc5 pm5 an5 cd5 ct5), sl5⟩) (c5 : PySem.W.codeIn K cd5 "_law_bill" = true) (k5 : PySem.W.keepIn K (.ref f5) = true)
    {f6 : Addr} {od6 an6 : Option Addr} {sl6 : Array (Option Value)} {oc6 kV6 dc6 pm6 cd6 ct6 : Value} (a6 : PySem.W.nsIn K mainGlobals "_law_books" = some (some (.ref f6))) (l6 : K.lookup f6 = some ⟨oc6, od6, .func (PySem.W.fnOf "_law_books" "_law_books" (defArgs s__law_books) (defBody s__law_books) (defScope s__law_books) .none kV6 dc6 pm6 an6 cd6 ct6), sl6⟩) (c6 : PySem.W.codeIn K cd6 "_law_books" = true) (k6 : PySem.W.keepIn K (.ref f6) = true)
    {f7 : Addr} {od7 an7 : Option Addr} {sl7 : Array (Option Value)} {oc7 kV7 dc7 pm7 cd7 ct7 : Value} (a7 : PySem.W.nsIn K mainGlobals "_law_plan" = some (some (.ref f7))) (l7 : K.lookup f7 = some ⟨oc7, od7, .func (PySem.W.fnOf "_law_plan" "_law_plan" (defArgs s__law_plan) (defBody s__law_plan) (defScope s__law_plan) .none kV7 dc7 pm7 an7 cd7 ct7), sl7⟩) (c7 : PySem.W.codeIn K cd7 "_law_plan" = true) (k7 : PySem.W.keepIn K (.ref f7) = true)
    {f8 : Addr} {od8 an8 : Option Addr} {sl8 : Array (Option Value)} {oc8 kV8 dc8 pm8 cd8 ct8 : Value} (a8 : PySem.W.nsIn K mainGlobals "_law_last" = some (some (.ref f8))) (l8 : K.lookup f8 = some ⟨oc8, od8, .func (PySem.W.fnOf "_law_last" "_law_last" (defArgs s__law_last) (defBody s__law_last) (defScope s__law_last) .none kV8 dc8 pm8 an8 cd8 ct8), sl8⟩) (c8 : PySem.W.codeIn K cd8 "_law_last" = true) (k8 : PySem.W.keepIn K (.ref f8) = true)
    {f9 : Addr} {od9 an9 : Option Addr} {sl9 : Array (Option Value)} {oc9 kV9 dc9 pm9 cd9 ct9 : Value} (a9 : PySem.W.nsIn K mainGlobals "_law_supplied" = some (some (.ref f9))) (l9 : K.lookup f9 = some ⟨oc9, od9, .func (PySem.W.fnOf "_law_supplied" "_law_supplied" (defArgs s__law_supplied) (defBody s__law_supplied) (defScope s__law_supplied) .none kV9 dc9 pm9 an9 cd9 ct9), sl9⟩) (c9 : PySem.W.codeIn K cd9 "_law_supplied" = true) (k9 : PySem.W.keepIn K (.ref f9) = true)
    {f10 : Addr} {od10 an10 : Option Addr} {sl10 : Array (Option Value)} {oc10 kV10 dc10 pm10 cd10 ct10 : Value} (a10 : PySem.W.nsIn K mainGlobals "_law_ordered" = some (some (.ref f10))) (l10 : K.lookup f10 = some ⟨oc10, od10, .func (PySem.W.fnOf "_law_ordered" "_law_ordered" (defArgs s__law_ordered) (defBody s__law_ordered) (defScope s__law_ordered) .none kV10 dc10 pm10 an10 cd10 ct10), sl10⟩) (c10 : PySem.W.codeIn K cd10 "_law_ordered" = true) (k10 : PySem.W.keepIn K (.ref f10) = true)
    {f11 : Addr} {od11 an11 : Option Addr} {sl11 : Array (Option Value)} {oc11 kV11 dc11 pm11 cd11 ct11 : Value} (a11 : PySem.W.nsIn K mainGlobals "_law_started" = some (some (.ref f11))) (l11 : K.lookup f11 = some ⟨oc11, od11, .func (PySem.W.fnOf "_law_started" "_law_started" (defArgs s__law_started) (defBody s__law_started) (defScope s__law_started) .none kV11 dc11 pm11 an11 cd11 ct11), sl11⟩) (c11 : PySem.W.codeIn K cd11 "_law_started" = true) (k11 : PySem.W.keepIn K (.ref f11) = true)
    {f12 : Addr} {od12 an12 : Option Addr} {sl12 : Array (Option Value)} {oc12 kV12 dc12 pm12 cd12 ct12 : Value} (a12 : PySem.W.nsIn K mainGlobals "_law_balance" = some (some (.ref f12))) (l12 : K.lookup f12 = some ⟨oc12, od12, .func (PySem.W.fnOf "_law_balance" "_law_balance" (defArgs s__law_balance) (defBody s__law_balance) (defScope s__law_balance) .none kV12 dc12 pm12 an12 cd12 ct12), sl12⟩) (c12 : PySem.W.codeIn K cd12 "_law_balance" = true) (k12 : PySem.W.keepIn K (.ref f12) = true)
    {f13 : Addr} {od13 an13 : Option Addr} {sl13 : Array (Option Value)} {oc13 kV13 dc13 pm13 cd13 ct13 : Value} (a13 : PySem.W.nsIn K mainGlobals "_law_shortages" = some (some (.ref f13))) (l13 : K.lookup f13 = some ⟨oc13, od13, .func (PySem.W.fnOf "_law_shortages" "_law_shortages" (defArgs s__law_shortages) (defBody s__law_shortages) (defScope s__law_shortages) .none kV13 dc13 pm13 an13 cd13 ct13), sl13⟩) (c13 : PySem.W.codeIn K cd13 "_law_shortages" = true) (k13 : PySem.W.keepIn K (.ref f13) = true)
    {f14 : Addr} {od14 an14 : Option Addr} {sl14 : Array (Option Value)} {oc14 kV14 dc14 pm14 cd14 ct14 : Value} (a14 : PySem.W.nsIn K mainGlobals "last_day" = some (some (.ref f14))) (l14 : K.lookup f14 = some ⟨oc14, od14, .func (PySem.W.fnOf "last_day" "last_day" (defArgs s_last_day) (defBody s_last_day) (defScope s_last_day) .none kV14 dc14 pm14 an14 cd14 ct14), sl14⟩) (c14 : PySem.W.codeIn K cd14 "last_day" = true) (k14 : PySem.W.keepIn K (.ref f14) = true)
    {f15 : Addr} {od15 an15 : Option Addr} {sl15 : Array (Option Value)} {oc15 kV15 dc15 pm15 cd15 ct15 : Value} (a15 : PySem.W.nsIn K mainGlobals "supplied" = some (some (.ref f15))) (l15 : K.lookup f15 = some ⟨oc15, od15, .func (PySem.W.fnOf "supplied" "supplied" (defArgs s_supplied) (defBody s_supplied) (defScope s_supplied) .none kV15 dc15 pm15 an15 cd15 ct15), sl15⟩) (c15 : PySem.W.codeIn K cd15 "supplied" = true) (k15 : PySem.W.keepIn K (.ref f15) = true)
    {f16 : Addr} {od16 an16 : Option Addr} {sl16 : Array (Option Value)} {oc16 kV16 dc16 pm16 cd16 ct16 : Value} (a16 : PySem.W.nsIn K mainGlobals "started" = some (some (.ref f16))) (l16 : K.lookup f16 = some ⟨oc16, od16, .func (PySem.W.fnOf "started" "started" (defArgs s_started) (defBody s_started) (defScope s_started) .none kV16 dc16 pm16 an16 cd16 ct16), sl16⟩) (c16 : PySem.W.codeIn K cd16 "started" = true) (k16 : PySem.W.keepIn K (.ref f16) = true)
    {f17 : Addr} {od17 an17 : Option Addr} {sl17 : Array (Option Value)} {oc17 kV17 dc17 pm17 cd17 ct17 : Value} (a17 : PySem.W.nsIn K mainGlobals "ordered" = some (some (.ref f17))) (l17 : K.lookup f17 = some ⟨oc17, od17, .func (PySem.W.fnOf "ordered" "ordered" (defArgs s_ordered) (defBody s_ordered) (defScope s_ordered) .none kV17 dc17 pm17 an17 cd17 ct17), sl17⟩) (c17 : PySem.W.codeIn K cd17 "ordered" = true) (k17 : PySem.W.keepIn K (.ref f17) = true)
    {f18 : Addr} {od18 an18 : Option Addr} {sl18 : Array (Option Value)} {oc18 kV18 dc18 pm18 cd18 ct18 : Value} (a18 : PySem.W.nsIn K mainGlobals "quantity_in" = some (some (.ref f18))) (l18 : K.lookup f18 = some ⟨oc18, od18, .func (PySem.W.fnOf "quantity_in" "quantity_in" (defArgs s_quantity_in) (defBody s_quantity_in) (defScope s_quantity_in) .none kV18 dc18 pm18 an18 cd18 ct18), sl18⟩) (c18 : PySem.W.codeIn K cd18 "quantity_in" = true) (k18 : PySem.W.keepIn K (.ref f18) = true)
    {f19 : Addr} {od19 an19 : Option Addr} {sl19 : Array (Option Value)} {oc19 kV19 dc19 pm19 cd19 ct19 : Value} (a19 : PySem.W.nsIn K mainGlobals "used_by" = some (some (.ref f19))) (l19 : K.lookup f19 = some ⟨oc19, od19, .func (PySem.W.fnOf "used_by" "used_by" (defArgs s_used_by) (defBody s_used_by) (defScope s_used_by) .none kV19 dc19 pm19 an19 cd19 ct19), sl19⟩) (c19 : PySem.W.codeIn K cd19 "used_by" = true) (k19 : PySem.W.keepIn K (.ref f19) = true)
    {f20 : Addr} {od20 an20 : Option Addr} {sl20 : Array (Option Value)} {oc20 kV20 dc20 pm20 cd20 ct20 : Value} (a20 : PySem.W.nsIn K mainGlobals "balance" = some (some (.ref f20))) (l20 : K.lookup f20 = some ⟨oc20, od20, .func (PySem.W.fnOf "balance" "balance" (defArgs s_balance) (defBody s_balance) (defScope s_balance) .none kV20 dc20 pm20 an20 cd20 ct20), sl20⟩) (c20 : PySem.W.codeIn K cd20 "balance" = true) (k20 : PySem.W.keepIn K (.ref f20) = true)
    {f21 : Addr} {od21 an21 : Option Addr} {sl21 : Array (Option Value)} {oc21 kV21 dc21 pm21 cd21 ct21 : Value} (a21 : PySem.W.nsIn K mainGlobals "shortages" = some (some (.ref f21))) (l21 : K.lookup f21 = some ⟨oc21, od21, .func (PySem.W.fnOf "shortages" "shortages" (defArgs s_shortages) (defBody s_shortages) (defScope s_shortages) .none kV21 dc21 pm21 an21 cd21 ct21), sl21⟩) (c21 : PySem.W.codeIn K cd21 "shortages" = true) (k21 : PySem.W.keepIn K (.ref f21) = true)
    {f22 : Addr} {od22 an22 : Option Addr} {sl22 : Array (Option Value)} {oc22 kV22 dc22 pm22 cd22 ct22 : Value} (a22 : PySem.W.nsIn K mainGlobals "_law_same" = some (some (.ref f22))) (l22 : K.lookup f22 = some ⟨oc22, od22, .func (PySem.W.fnOf "_law_same" "_law_same" (defArgs s__law_same) (defBody s__law_same) (defScope s__law_same) .none kV22 dc22 pm22 an22 cd22 ct22), sl22⟩) (c22 : PySem.W.codeIn K cd22 "_law_same" = true) (k22 : PySem.W.keepIn K (.ref f22) = true)
    {f23 : Addr} {od23 an23 : Option Addr} {sl23 : Array (Option Value)} {oc23 kV23 dc23 pm23 cd23 ct23 : Value} (a23 : PySem.W.nsIn K mainGlobals "works" = some (some (.ref f23))) (l23 : K.lookup f23 = some ⟨oc23, od23, .func (PySem.W.fnOf "works" "works" (defArgs s_works) (defBody s_works) (defScope s_works) .none kV23 dc23 pm23 an23 cd23 ct23), sl23⟩) (c23 : PySem.W.codeIn K cd23 "works" = true) (k23 : PySem.W.keepIn K (.ref f23) = true)
    {f24 : Addr} {od24 an24 : Option Addr} {sl24 : Array (Option Value)} {oc24 kV24 dc24 pm24 cd24 ct24 : Value} (a24 : PySem.W.nsIn K mainGlobals "law" = some (some (.ref f24))) (l24 : K.lookup f24 = some ⟨oc24, od24, .func (PySem.W.fnOf "law" "law" (defArgs s_law) (defBody s_law) (defScope s_law) .none kV24 dc24 pm24 an24 cd24 ct24), sl24⟩) (c24 : PySem.W.codeIn K cd24 "law" = true) (k24 : PySem.W.keepIn K (.ref f24) = true)
    (z_bool : PySem.W.nsIn K mainGlobals "bool" = some none)
    (z_int : PySem.W.nsIn K mainGlobals "int" = some none)
    (z_isinstance : PySem.W.nsIn K mainGlobals "isinstance" = some none)
    (z_len : PySem.W.nsIn K mainGlobals "len" = some none)
    (z_list : PySem.W.nsIn K mainGlobals "list" = some none)
    (z_max : PySem.W.nsIn K mainGlobals "max" = some none)
    (z_range : PySem.W.nsIn K mainGlobals "range" = some none)
    (z_sorted : PySem.W.nsIn K mainGlobals "sorted" = some none)
    (z_str : PySem.W.nsIn K mainGlobals "str" = some none)
    (z_sum : PySem.W.nsIn K mainGlobals "sum" = some none)
    (z_tuple : PySem.W.nsIn K mainGlobals "tuple" = some none)
    (law : ∀ ns : List Int, ns.length ≤ 63 → ∃ as, f_law_k10 [.shr (.lst (ns.map D.int))] = .ok (.d (.bl true)) as) :
    ∃ fd : FuncData, (∀ (s : Shared) (v : Value), BindsTo s fd ⟨[v], []⟩ [("_law_script", v)]) ∧ ∀ base : Heap, K.In base → base.Ns mainGlobals mg → FnOk l.prog w K mg base (L2.CX l.prog w) 61 fa fd ["_law_script"] (spLaw K) := by
  have e := hfa.symm.trans (PySem.W.mg_of X G a24)
  cases e
  have T : Tp K mg := ⟨PySem.W.mg_none_of X G z_bool, PySem.W.mg_none_of X G z_int, PySem.W.mg_none_of X G z_isinstance, PySem.W.mg_none_of X G z_len, PySem.W.mg_none_of X G z_list, PySem.W.mg_none_of X G z_max, PySem.W.mg_none_of X G z_range, PySem.W.mg_none_of X G z_sorted, PySem.W.mg_none_of X G z_str, PySem.W.mg_none_of X G z_sum, PySem.W.mg_none_of X G z_tuple⟩
  have F0 := fun_mk (st := s__law_cell) l0 c0 k0
  have b0 := F0.binds (ps := ["_law_script", "_law_k"]) fun _ _ _ _ _ _ us hl => match us, hl with | [_, _], _ => rfl
  have F1 := fun_mk (st := s__law_digits) l1 c1 k1
  have b1 := F1.binds (ps := ["_law_script", "_law_first", "_law_last_here"]) fun _ _ _ _ _ _ us hl => match us, hl with | [_, _, _], _ => rfl
  have F2 := fun_mk (st := s__law_draw) l2 c2 k2
  have b2 := F2.binds (ps := ["_law_box", "_law_many"]) fun _ _ _ _ _ _ us hl => match us, hl with | [_, _], _ => rfl
  have F3 := fun_mk (st := s__law_run) l3 c3 k3
  have b3 := F3.binds (ps := ["_law_box", "_law_many", "_law_chars"]) fun _ _ _ _ _ _ us hl => match us, hl with | [_, _, _], _ => rfl
  have F4 := fun_mk (st := s__law_name) l4 c4 k4
  have b4 := F4.binds (ps := ["_law_box", "_law_taken"]) fun _ _ _ _ _ _ us hl => match us, hl with | [_, _], _ => rfl
  have F5 := fun_mk (st := s__law_bill) l5 c5 k5
  have b5 := F5.binds (ps := ["_law_box", "_law_most"]) fun _ _ _ _ _ _ us hl => match us, hl with | [_, _], _ => rfl
  have F6 := fun_mk (st := s__law_books) l6 c6 k6
  have b6 := F6.binds (ps := ["_law_box", "_law_bill_here"]) fun _ _ _ _ _ _ us hl => match us, hl with | [_, _], _ => rfl
  have F7 := fun_mk (st := s__law_plan) l7 c7 k7
  have b7 := F7.binds (ps := ["_law_box", "_law_bill_here", "_law_books_here"]) fun _ _ _ _ _ _ us hl => match us, hl with | [_, _, _], _ => rfl
  have F8 := fun_mk (st := s__law_last) l8 c8 k8
  have b8 := F8.binds (ps := ["_law_bill_here", "_law_books_here", "_law_plan_here"]) fun _ _ _ _ _ _ us hl => match us, hl with | [_, _, _], _ => rfl
  have F9 := fun_mk (st := s__law_supplied) l9 c9 k9
  have b9 := F9.binds (ps := ["_law_books_here", "_law_item", "_law_day"]) fun _ _ _ _ _ _ us hl => match us, hl with | [_, _, _], _ => rfl
  have F10 := fun_mk (st := s__law_ordered) l10 c10 k10
  have b10 := F10.binds (ps := ["_law_books_here", "_law_item", "_law_day"]) fun _ _ _ _ _ _ us hl => match us, hl with | [_, _, _], _ => rfl
  have F11 := fun_mk (st := s__law_started) l11 c11 k11
  have b11 := F11.binds (ps := ["_law_plan_here", "_law_item", "_law_day"]) fun _ _ _ _ _ _ us hl => match us, hl with | [_, _, _], _ => rfl
  have F12 := fun_mk (st := s__law_balance) l12 c12 k12
  have b12 := F12.binds (ps := ["_law_bill_here", "_law_books_here", "_law_plan_here", "_law_item", "_law_day"]) fun _ _ _ _ _ _ us hl => match us, hl with | [_, _, _, _, _], _ => rfl
  have F13 := fun_mk (st := s__law_shortages) l13 c13 k13
  have b13 := F13.binds (ps := ["_law_bill_here", "_law_books_here", "_law_plan_here"]) fun _ _ _ _ _ _ us hl => match us, hl with | [_, _, _], _ => rfl
  have F14 := fun_mk (st := s_last_day) l14 c14 k14
  have b14 := F14.binds (ps := ["bill", "books", "plan"]) fun _ _ _ _ _ _ us hl => match us, hl with | [_, _, _], _ => rfl
  have F15 := fun_mk (st := s_supplied) l15 c15 k15
  have b15 := F15.binds (ps := ["books", "item", "day"]) fun _ _ _ _ _ _ us hl => match us, hl with | [_, _, _], _ => rfl
  have F16 := fun_mk (st := s_started) l16 c16 k16
  have b16 := F16.binds (ps := ["plan", "item", "day"]) fun _ _ _ _ _ _ us hl => match us, hl with | [_, _, _], _ => rfl
  have F17 := fun_mk (st := s_ordered) l17 c17 k17
  have b17 := F17.binds (ps := ["books", "item", "day"]) fun _ _ _ _ _ _ us hl => match us, hl with | [_, _, _], _ => rfl
  have F18 := fun_mk (st := s_quantity_in) l18 c18 k18
  have b18 := F18.binds (ps := ["bill", "parent", "item"]) fun _ _ _ _ _ _ us hl => match us, hl with | [_, _, _], _ => rfl
  have F19 := fun_mk (st := s_used_by) l19 c19 k19
  have b19 := F19.binds (ps := ["bill", "item"]) fun _ _ _ _ _ _ us hl => match us, hl with | [_, _], _ => rfl
  have F20 := fun_mk (st := s_balance) l20 c20 k20
  have b20 := F20.binds (ps := ["bill", "books", "plan", "item", "day"]) fun _ _ _ _ _ _ us hl => match us, hl with | [_, _, _, _, _], _ => rfl
  have F21 := fun_mk (st := s_shortages) l21 c21 k21
  have b21 := F21.binds (ps := ["bill", "books", "plan"]) fun _ _ _ _ _ _ us hl => match us, hl with | [_, _, _], _ => rfl
  have F22 := fun_mk (st := s__law_same) l22 c22 k22
  have b22 := F22.binds (ps := ["_law_actual", "_law_due"]) fun _ _ _ _ _ _ us hl => match us, hl with | [_, _], _ => rfl
  have F23 := fun_mk (st := s_works) l23 c23 k23
  have b23 := F23.binds (ps := ["bill", "books", "plan"]) fun _ _ _ _ _ _ us hl => match us, hl with | [_, _, _], _ => rfl
  have F24 := fun_mk (st := s_law) l24 c24 k24
  have b24 := F24.binds (ps := ["_law_script"]) fun _ _ _ _ _ _ us hl => match us, hl with | [_], _ => rfl
  refine ⟨PySem.W.fnOf "law" "law" (defArgs s_law) (defBody s_law) (defScope s_law) .none kV24 dc24 pm24 an24 cd24 ct24, fun s v => .of_eq rfl, fun base _ _ => ?_⟩
  have H__law_cell : Kp l.prog w K mg base 1 "_law_cell" 2 f__law_cell := ⟨_, _, _, (ok__law_cell T  F0), b0, PySem.W.mg_of X G a0, k0⟩
  have H__law_digits : Kp l.prog w K mg base 2 "_law_digits" 3 f__law_digits := ⟨_, _, _, (ok__law_digits T H__law_cell F1), b1, PySem.W.mg_of X G a1, k1⟩
  have H__law_draw : Kp l.prog w K mg base 1 "_law_draw" 2 f__law_draw := ⟨_, _, _, (ok__law_draw T  F2), b2, PySem.W.mg_of X G a2, k2⟩
  have H__law_run : Kp l.prog w K mg base 2 "_law_run" 3 f__law_run := ⟨_, _, _, (ok__law_run T H__law_draw F3), b3, PySem.W.mg_of X G a3, k3⟩
  have H__law_name : Kp l.prog w K mg base 3 "_law_name" 2 f__law_name := ⟨_, _, _, (ok__law_name T H__law_draw H__law_run F4), b4, PySem.W.mg_of X G a4, k4⟩
  have H__law_bill : Kp l.prog w K mg base 4 "_law_bill" 2 f__law_bill := ⟨_, _, _, (ok__law_bill T H__law_draw H__law_name F5), b5, PySem.W.mg_of X G a5, k5⟩
  have H__law_books : Kp l.prog w K mg base 2 "_law_books" 2 f__law_books := ⟨_, _, _, (ok__law_books T H__law_draw F6), b6, PySem.W.mg_of X G a6, k6⟩
  have H__law_plan : Kp l.prog w K mg base 2 "_law_plan" 3 f__law_plan := ⟨_, _, _, (ok__law_plan T H__law_draw F7), b7, PySem.W.mg_of X G a7, k7⟩
  have H__law_last : Kp l.prog w K mg base 1 "_law_last" 3 f__law_last := ⟨_, _, _, (ok__law_last T  F8), b8, PySem.W.mg_of X G a8, k8⟩
  have H__law_supplied : Kp l.prog w K mg base 1 "_law_supplied" 3 f__law_supplied := ⟨_, _, _, (ok__law_supplied T  F9), b9, PySem.W.mg_of X G a9, k9⟩
  have H__law_ordered : Kp l.prog w K mg base 1 "_law_ordered" 3 f__law_ordered := ⟨_, _, _, (ok__law_ordered T  F10), b10, PySem.W.mg_of X G a10, k10⟩
  have H__law_started : Kp l.prog w K mg base 1 "_law_started" 3 f__law_started := ⟨_, _, _, (ok__law_started T  F11), b11, PySem.W.mg_of X G a11, k11⟩
  have H__law_balance : Kp l.prog w K mg base 2 "_law_balance" 5 f__law_balance := ⟨_, _, _, (ok__law_balance T H__law_supplied H__law_ordered H__law_started F12), b12, PySem.W.mg_of X G a12, k12⟩
  have H__law_shortages : Kp l.prog w K mg base 3 "_law_shortages" 3 f__law_shortages := ⟨_, _, _, (ok__law_shortages T H__law_last H__law_balance F13), b13, PySem.W.mg_of X G a13, k13⟩
  have H_last_day : Kp l.prog w K mg base 1 "last_day" 3 f_last_day := ⟨_, _, _, (ok_last_day T  F14), b14, PySem.W.mg_of X G a14, k14⟩
  have H_supplied : Kp l.prog w K mg base 1 "supplied" 3 f_supplied := ⟨_, _, _, (ok_supplied T  F15), b15, PySem.W.mg_of X G a15, k15⟩
  have H_started : Kp l.prog w K mg base 1 "started" 3 f_started := ⟨_, _, _, (ok_started T  F16), b16, PySem.W.mg_of X G a16, k16⟩
  have H_ordered : Kp l.prog w K mg base 1 "ordered" 3 f_ordered := ⟨_, _, _, (ok_ordered T  F17), b17, PySem.W.mg_of X G a17, k17⟩
  have H_quantity_in : Kp l.prog w K mg base 1 "quantity_in" 3 f_quantity_in := ⟨_, _, _, (ok_quantity_in T  F18), b18, PySem.W.mg_of X G a18, k18⟩
  have H_used_by : Kp l.prog w K mg base 2 "used_by" 2 f_used_by := ⟨_, _, _, (ok_used_by T H_quantity_in F19), b19, PySem.W.mg_of X G a19, k19⟩
  have H_balance : Kp l.prog w K mg base 3 "balance" 5 f_balance := ⟨_, _, _, (ok_balance T H_supplied H_started H_ordered H_used_by F20), b20, PySem.W.mg_of X G a20, k20⟩
  have H_shortages : Kp l.prog w K mg base 4 "shortages" 3 f_shortages := ⟨_, _, _, (ok_shortages T H_last_day H_balance F21), b21, PySem.W.mg_of X G a21, k21⟩
  have H__law_same : Kp l.prog w K mg base 60 "_law_same" 2 f__law_same := ⟨_, _, _, (by rw [f__law_same_eq]; exact okk__law_same T  F22 b22 (PySem.W.mg_of X G a22) 60), b22, PySem.W.mg_of X G a22, k22⟩
  have H_works : Kp l.prog w K mg base 5 "works" 3 f_works := ⟨_, _, _, (ok_works T H_shortages F23), b23, PySem.W.mg_of X G a23, k23⟩
  exact fn_law (ok_law_k10 T H__law_digits H__law_bill H__law_books H__law_plan H__law_shortages H_shortages H__law_same H_works F24) law
end Mw.K10
open PySem PySem.W PyProof.Rows
set_option maxHeartbeats 0 in
theorem PySem.Challenge.cw_latestart_k10_shortages_holds : PySem.Challenge.rw_latestart_k10_shortages.Holds := by
  w_on; o_law; k_head; (case hw => w_witness2)
  k_fill
  refine L2.walk_of (l := PySem.Challenge.rw_latestart_k10_shortages) (n := 63) (k := 61) (x := "_law_script") (CX := fun w => L2.CX PySem.Challenge.rw_latestart_k10_shortages.prog w) (sp := fun w => Mw.spLaw _) rfl (by decide) rfl ⟨rfl, by decide, by decide⟩ (fun w h Y => PySem.W.kIn_of Y) ?F (fun _ _ a ns hl _ hS => ⟨a, ns, rfl, hS, hl, fun _ => rfl⟩) (fun _ _ _ _ _ h => by obtain ⟨_, _, _, _, _, _, _, _, _, _, _, _, z⟩ := h; exact z)
  case F =>
    intro w mg fa h KX G hmg
    refine' Mw.K10.all_mk KX G hmg ?a0 ?l0 ?c0 ?k0 ?a1 ?l1 ?c1 ?k1 ?a2 ?l2 ?c2 ?k2 ?a3 ?l3 ?c3 ?k3 ?a4 ?l4 ?c4 ?k4 ?a5 ?l5 ?c5 ?k5 ?a6 ?l6 ?c6 ?k6 ?a7 ?l7 ?c7 ?k7 ?a8 ?l8 ?c8 ?k8 ?a9 ?l9 ?c9 ?k9 ?a10 ?l10 ?c10 ?k10 ?a11 ?l11 ?c11 ?k11 ?a12 ?l12 ?c12 ?k12 ?a13 ?l13 ?c13 ?k13 ?a14 ?l14 ?c14 ?k14 ?a15 ?l15 ?c15 ?k15 ?a16 ?l16 ?c16 ?k16 ?a17 ?l17 ?c17 ?k17 ?a18 ?l18 ?c18 ?k18 ?a19 ?l19 ?c19 ?k19 ?a20 ?l20 ?c20 ?k20 ?a21 ?l21 ?c21 ?k21 ?a22 ?l22 ?c22 ?k22 ?a23 ?l23 ?c23 ?k23 ?a24 ?l24 ?c24 ?k24 ?z_bool ?z_int ?z_isinstance ?z_len ?z_list ?z_max ?z_range ?z_sorted ?z_str ?z_sum ?z_tuple Mw.K10.law_true
    (case a0 => k_is)
    (case l0 => k_is)
    (case c0 => k_is)
    (case k0 => k_is)
    (case a1 => k_is)
    (case l1 => k_is)
    (case c1 => k_is)
    (case k1 => k_is)
    (case a2 => k_is)
    (case l2 => k_is)
    (case c2 => k_is)
    (case k2 => k_is)
    (case a3 => k_is)
    (case l3 => k_is)
    (case c3 => k_is)
    (case k3 => k_is)
    (case a4 => k_is)
    (case l4 => k_is)
    (case c4 => k_is)
    (case k4 => k_is)
    (case a5 => k_is)
    (case l5 => k_is)
    (case c5 => k_is)
    (case k5 => k_is)
    (case a6 => k_is)
    (case l6 => k_is)
    (case c6 => k_is)
    (case k6 => k_is)
    (case a7 => k_is)
    (case l7 => k_is)
    (case c7 => k_is)
    (case k7 => k_is)
    (case a8 => k_is)
    (case l8 => k_is)
    (case c8 => k_is)
    (case k8 => k_is)
    (case a9 => k_is)
    (case l9 => k_is)
    (case c9 => k_is)
    (case k9 => k_is)
    (case a10 => k_is)
    (case l10 => k_is)
    (case c10 => k_is)
    (case k10 => k_is)
    (case a11 => k_is)
    (case l11 => k_is)
    (case c11 => k_is)
    (case k11 => k_is)
    (case a12 => k_is)
    (case l12 => k_is)
    (case c12 => k_is)
    (case k12 => k_is)
    (case a13 => k_is)
    (case l13 => k_is)
    (case c13 => k_is)
    (case k13 => k_is)
    (case a14 => k_is)
    (case l14 => k_is)
    (case c14 => k_is)
    (case k14 => k_is)
    (case a15 => k_is)
    (case l15 => k_is)
    (case c15 => k_is)
    (case k15 => k_is)
    (case a16 => k_is)
    (case l16 => k_is)
    (case c16 => k_is)
    (case k16 => k_is)
    (case a17 => k_is)
    (case l17 => k_is)
    (case c17 => k_is)
    (case k17 => k_is)
    (case a18 => k_is)
    (case l18 => k_is)
    (case c18 => k_is)
    (case k18 => k_is)
    (case a19 => k_is)
    (case l19 => k_is)
    (case c19 => k_is)
    (case k19 => k_is)
    (case a20 => k_is)
    (case l20 => k_is)
    (case c20 => k_is)
    (case k20 => k_is)
    (case a21 => k_is)
    (case l21 => k_is)
    (case c21 => k_is)
    (case k21 => k_is)
    (case a22 => k_is)
    (case l22 => k_is)
    (case c22 => k_is)
    (case k22 => k_is)
    (case a23 => k_is)
    (case l23 => k_is)
    (case c23 => k_is)
    (case k23 => k_is)
    (case a24 => k_is)
    (case l24 => k_is)
    (case c24 => k_is)
    (case k24 => k_is)
    (case z_bool => k_is)
    (case z_int => k_is)
    (case z_isinstance => k_is)
    (case z_len => k_is)
    (case z_list => k_is)
    (case z_max => k_is)
    (case z_range => k_is)
    (case z_sorted => k_is)
    (case z_str => k_is)
    (case z_sum => k_is)
    (case z_tuple => k_is)
