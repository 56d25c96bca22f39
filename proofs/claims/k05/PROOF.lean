import PyProof.Rows.All
import Wide.All
import OpenK.AllK
import Wide.FinOn
import HandS.ForMost
import HandS.ForExc
import HandS.IsInst
import HandS.TupAny
import HandS.CallSlots
import HandS.Deep
import PyProof.ListOps
import PyProof.Walk
import PyProof.WalkLemmas
import HandS.List
import HandS.Walk
import HandS.ExcCtx
import HandS.Comp
import HandS.SortInts
import HandS.Style
import HandS.Iter
import HandS.Conv
import HandS.SortRule
import HandS.Dict
import HandS.More
import HandS.ExcOwn
import HandS.TryOnly
import PyProof.Rows.RaiseClass
import PyProof.EnumMake
import PyProof.Draws
import KE.GoesMore
import HandS.ExcField
import HandS.TryMany
import HandS.ExcInit
import KE.KExcSuper
import HandS.ExcValue
import HandS.TupMul
import HandS.Zip
import KE.SortData
import PyProof.TupleOfSeq
import KE.KTupSum
import HandS.TupLe
import HandS.HotCalls
import HandS.Text
import HandS.FStr
import PySem.Challenge.RW_latestart_k05_written_bills
set_option Elab.async false
set_option linter.all false
set_option maxRecDepth 100000
namespace Mw
open PySem PySem.Spec PyProof.Rows L2
structure Wd where
  K : PySem.W.Frag
  mg : Str → Option Value
  xa : Option (Addr × Obj)
abbrev Wd.m (K : PySem.W.Frag) (mg : Str → Option Value) : Wd := ⟨K, mg, none⟩
inductive D where
  | non | bl (b : Bool) | int (i : Int) | str (s : List Nat)
  | tup (xs : List D) | lst (xs : List D)
  | obj (c : Str) (ns : List Str) (xs : List D)
inductive O where
  | d (x : D) | lst (xs : List O) | dct (ks : List D) (xs : List O) | obj (c : Str) (ns : List Str) (xs : List O) | hole
mutual
def O.toD : O → D
  | .d x => x
  | .lst xs => .lst (toDs xs)
  | .dct _ _ => .non
  | .obj c ns xs => .obj c ns (toDs xs)
  | .hole => .non
def toDs : List O → List D
  | [] => []
  | x :: xs => x.toD :: toDs xs
end
mutual
def O.fz : O → Bool
  | .d _ => true
  | .lst xs => fzs xs
  | .dct _ _ => false
  | .obj _ _ xs => fzs xs
  | .hole => false
def fzs : List O → Bool
  | [] => true
  | x :: xs => x.fz && fzs xs
end
abbrev O.l (ds : List D) : O := .lst (ds.map O.d)
theorem toDs_d : ∀ ds : List D, toDs (ds.map O.d) = ds
  | [] => rfl
  | d :: ds => by show d :: toDs (ds.map O.d) = _; rw [toDs_d ds]
theorem fzs_d : ∀ ds : List D, fzs (ds.map O.d) = true
  | [] => rfl
  | d :: ds => by show (true && fzs (ds.map O.d)) = true; rw [fzs_d ds]; rfl
def keyD : Key → D
  | .inl i => .int i
  | .inr s => .str s.cps.toList
mutual
inductive Rep (g : Wd) (F : Hp) : V → D → Prop
  | non : Rep g F .non .non
  | bl (b : Bool) : Rep g F (.bl b) (.bl b)
  | int (i : Int) : Rep g F (.int i) (.int i)
  | str {s : List Nat} (h : s.length ≤ sizeLine) : Rep g F (.str ⟨s.toArray⟩) (.str s)
  | tup {a : Addr} {vs : List V} {ds : List D} (h : F a = some (.tup vs)) (hl : vs.length ≤ sizeLine) (r : Reps g F vs ds) : Rep g F (.ref a) (.tup ds)
  | lst {a : Addr} {vs : List V} {ds : List D} (h : SqL g.K F a vs) (hl : vs.length ≤ sizeLine) (r : Reps g F vs ds) : Rep g F (.ref a) (.lst ds)
  | obj {a C dx : Addr} {fs : List (Str × V)} {c : Str} {ns : List Str} {ds : List D} (hc : g.mg c = some (.ref C)) (h : F a = some (.ins C dx fs)) (hd : F dx = some (.own a))
      (hn : fs.map (·.1) = ns) (r : Reps g F (fs.map (·.2)) ds) : Rep g F (.ref a) (.obj c ns ds)
inductive Reps (g : Wd) (F : Hp) : List V → List D → Prop
  | nil : Reps g F [] []
  | cons {v : V} {vs : List V} {d : D} {ds : List D} (h : Rep g F v d) (t : Reps g F vs ds) : Reps g F (v :: vs) (d :: ds)
end
mutual
inductive RepO (g : Wd) (F H : Hp) : V → O → List Addr → Prop
  | d {v : V} {x : D} (r : Rep g F v x) : RepO g F H v (.d x) []
  | lst {a : Addr} {vs : List V} {os : List O} {fp : List Addr} (h : H a = some (.lst vs)) (hl : vs.length ≤ sizeLine) (r : RepOs g F H vs os fp) : RepO g F H (.ref a) (.lst os) (a :: fp)
  | obj {a C dx : Addr} {fs : List (Str × V)} {c : Str} {ns : List Str} {os : List O} {fp : List Addr} (hc : g.mg c = some (.ref C)) (h : H a = some (.ins C dx fs)) (hd : H dx = some (.own a))
      (hn : fs.map (·.1) = ns) (r : RepOs g F H (fs.map (·.2)) os fp) : RepO g F H (.ref a) (.obj c ns os) (a :: dx :: fp)
  | dk {a : Addr} {kvs : List (Key × V)} {ks : List D} {os : List O} {fp : List Addr} (h : H a = some (.dK kvs)) (hk : kvs.map (fun p => keyD p.1) = ks) (r : RepOs g F H (kvs.map (·.2)) os fp) : RepO g F H (.ref a) (.dct ks os) (a :: fp)
  | dt {a : Addr} {kvs : List (List Key × V)} {ks : List D} {os : List O} {fp : List Addr} (h : H a = some (.dT kvs)) (hk : D.non :: kvs.map (fun p => D.tup (p.1.map keyD)) = ks) (r : RepOs g F H (kvs.map (·.2)) os fp) : RepO g F H (.ref a) (.dct ks os) (a :: fp)
  | hole {v : V} : RepO g F H v .hole []
inductive RepOs (g : Wd) (F H : Hp) : List V → List O → List Addr → Prop
  | nil : RepOs g F H [] [] []
  | cons {v : V} {vs : List V} {o : O} {os : List O} {f fp : List Addr} (h : RepO g F H v o f) (t : RepOs g F H vs os fp) : RepOs g F H (v :: vs) (o :: os) (f ++ fp)
end
def Ext (F F' : Hp) : Prop := ∀ a o, F a = some o → F' a = some o
theorem Ext.refl (F : Hp) : Ext F F := fun _ _ h => h
theorem Ext.trans {A B C : Hp} (x : Ext A B) (y : Ext B C) : Ext A C := fun a o h => y a o (x a o h)
theorem Ext.rd {F F' : Hp} {a : Addr} {u : HO} (e : Ext F F') (h : Rd F a u) : Rd F' a u := by
  rcases h with h | ⟨o, h⟩
  · exact .inl (e _ _ h)
  · exact .inr ⟨o, e _ _ h⟩
theorem Ext.sqT {K : PySem.W.Frag} {F F' : Hp} {a : Addr} {vs : List V} (e : Ext F F') (h : SqT K F a vs) : SqT K F' a vs := h.imp e.rd id
theorem Ext.sqL {K : PySem.W.Frag} {F F' : Hp} {a : Addr} {vs : List V} (e : Ext F F') (h : SqL K F a vs) : SqL K F' a vs := h.imp e.rd id
mutual
theorem Rep.mono {g : Wd} {F F' : Hp} (e : Ext F F') : ∀ {v : V} {d : D}, Rep g F v d → Rep g F' v d
  | _, _, .non => .non
  | _, _, .bl b => .bl b
  | _, _, .int i => .int i
  | _, _, .str h => .str h
  | _, _, .tup h hl r => .tup (e _ _ h) hl (Reps.mono e r)
  | _, _, .lst h hl r => .lst (e.sqL h) hl (Reps.mono e r)
  | _, _, .obj hc h hd hn r => .obj hc (e _ _ h) (e _ _ hd) hn (Reps.mono e r)
theorem Reps.mono {g : Wd} {F F' : Hp} (e : Ext F F') : ∀ {vs : List V} {ds : List D}, Reps g F vs ds → Reps g F' vs ds
  | _, _, .nil => .nil
  | _, _, .cons h t => .cons (Rep.mono e h) (Reps.mono e t)
end
mutual
/-- the exception in hand is no part of data -/
theorem Rep.xa {K : PySem.W.Frag} {mg : Str → Option Value} {x y : Option (Addr × Obj)} {F : Hp} : ∀ {v : V} {d : D}, Rep ⟨K, mg, x⟩ F v d → Rep ⟨K, mg, y⟩ F v d
  | _, _, .non => .non
  | _, _, .bl b => .bl b
  | _, _, .int i => .int i
  | _, _, .str h => .str h
  | _, _, .tup h hl r => .tup h hl (Reps.xa r)
  | _, _, .lst h hl r => .lst h hl (Reps.xa r)
  | _, _, .obj hc h hd hn r => .obj hc h hd hn (Reps.xa r)
theorem Reps.xa {K : PySem.W.Frag} {mg : Str → Option Value} {x y : Option (Addr × Obj)} {F : Hp} : ∀ {vs : List V} {ds : List D}, Reps ⟨K, mg, x⟩ F vs ds → Reps ⟨K, mg, y⟩ F vs ds
  | _, _, .nil => .nil
  | _, _, .cons h t => .cons (Rep.xa h) (Reps.xa t)
end
mutual
theorem RepO.xa {K : PySem.W.Frag} {mg : Str → Option Value} {x y : Option (Addr × Obj)} {F H : Hp} : ∀ {v : V} {o : O} {fp : List Addr}, RepO ⟨K, mg, x⟩ F H v o fp → RepO ⟨K, mg, y⟩ F H v o fp
  | _, _, _, .d r => .d r.xa
  | _, _, _, .lst h hl r => .lst h hl (RepOs.xa r)
  | _, _, _, .obj hc h hd hn r => .obj hc h hd hn (RepOs.xa r)
  | _, _, _, .dk h hk r => .dk h hk (RepOs.xa r)
  | _, _, _, .dt h hk r => .dt h hk (RepOs.xa r)
  | _, _, _, .hole => .hole
theorem RepOs.xa {K : PySem.W.Frag} {mg : Str → Option Value} {x y : Option (Addr × Obj)} {F H : Hp} : ∀ {vs : List V} {os : List O} {fp : List Addr}, RepOs ⟨K, mg, x⟩ F H vs os fp → RepOs ⟨K, mg, y⟩ F H vs os fp
  | _, _, _, .nil => .nil
  | _, _, _, .cons h t => .cons (RepO.xa h) (RepOs.xa t)
end
mutual
theorem RepO.mono {g : Wd} {F F' H H' : Hp} (e : Ext F F') : ∀ {v : V} {o : O} {fp : List Addr}, RepO g F H v o fp → (∀ a ∈ fp, ∀ u, H a = some u → H' a = some u) → RepO g F' H' v o fp
  | _, _, _, .d r, _ => .d (r.mono e)
  | _, _, _, .lst h hl r, k => .lst (k _ (by simp) _ h) hl (RepOs.mono e r fun a ha => k a (by simp [ha]))
  | _, _, _, .obj hc h hd hn r, k => .obj hc (k _ (by simp) _ h) (k _ (by simp) _ hd) hn (RepOs.mono e r fun a ha => k a (by simp [ha]))
  | _, _, _, .dk h hk r, k => .dk (k _ (by simp) _ h) hk (RepOs.mono e r fun a ha => k a (by simp [ha]))
  | _, _, _, .dt h hk r, k => .dt (k _ (by simp) _ h) hk (RepOs.mono e r fun a ha => k a (by simp [ha]))
  | _, _, _, .hole, _ => .hole
theorem RepOs.mono {g : Wd} {F F' H H' : Hp} (e : Ext F F') : ∀ {vs : List V} {os : List O} {fp : List Addr}, RepOs g F H vs os fp → (∀ a ∈ fp, ∀ u, H a = some u → H' a = some u) → RepOs g F' H' vs os fp
  | _, _, _, .nil, _ => .nil
  | _, _, _, .cons h t, k => .cons (RepO.mono e h fun a ha => k a (by simp [ha])) (RepOs.mono e t fun a ha => k a (by simp [ha]))
end
mutual
theorem RepO.there {g : Wd} {F H : Hp} : ∀ {v : V} {o : O} {fp : List Addr}, RepO g F H v o fp → ∀ a ∈ fp, H a ≠ none
  | _, _, _, .d r, _, h => by cases h
  | _, _, _, .hole, _, h => by cases h
  | _, _, _, .lst h hl r, a, ha => by
    rcases List.mem_cons.mp ha with rfl | ha
    · rw [h]; simp
    · exact RepOs.there r a ha
  | _, _, _, .obj hc h hd hn r, a, ha => by
    rcases List.mem_cons.mp ha with rfl | ha
    · rw [h]; simp
    · rcases List.mem_cons.mp ha with rfl | ha
      · rw [hd]; simp
      · exact RepOs.there r a ha
  | _, _, _, .dk h hk r, a, ha => by
    rcases List.mem_cons.mp ha with rfl | ha
    · rw [h]; simp
    · exact RepOs.there r a ha
  | _, _, _, .dt h hk r, a, ha => by
    rcases List.mem_cons.mp ha with rfl | ha
    · rw [h]; simp
    · exact RepOs.there r a ha
theorem RepOs.there {g : Wd} {F H : Hp} : ∀ {vs : List V} {os : List O} {fp : List Addr}, RepOs g F H vs os fp → ∀ a ∈ fp, H a ≠ none
  | _, _, _, .nil, _, h => by cases h
  | _, _, _, .cons h t, a, ha => by
    rcases List.mem_append.mp ha with ha | ha
    · exact RepO.there h a ha
    · exact RepOs.there t a ha
end
def Fr (H : Hp) (a : Addr) : Prop := H a = none ∨ ∃ xs, H a = some (.tup xs)
mutual
theorem RepO.ntup {g : Wd} {F H : Hp} : ∀ {v : V} {o : O} {fp : List Addr}, RepO g F H v o fp → ∀ a ∈ fp, ¬ Fr H a
  | _, _, _, .d r, _, h => by cases h
  | _, _, _, .hole, _, h => by cases h
  | _, _, _, .lst h hl r, a, ha => by
    rcases List.mem_cons.mp ha with rfl | ha
    · rintro (z | ⟨xs, z⟩) <;> rw [h] at z <;> cases z
    · exact RepOs.ntup r a ha
  | _, _, _, .obj hc h hd hn r, a, ha => by
    rcases List.mem_cons.mp ha with rfl | ha
    · rintro (z | ⟨xs, z⟩) <;> rw [h] at z <;> cases z
    · rcases List.mem_cons.mp ha with rfl | ha
      · rintro (z | ⟨xs, z⟩) <;> rw [hd] at z <;> cases z
      · exact RepOs.ntup r a ha
  | _, _, _, .dk h hk r, a, ha => by
    rcases List.mem_cons.mp ha with rfl | ha
    · rintro (z | ⟨xs, z⟩) <;> rw [h] at z <;> cases z
    · exact RepOs.ntup r a ha
  | _, _, _, .dt h hk r, a, ha => by
    rcases List.mem_cons.mp ha with rfl | ha
    · rintro (z | ⟨xs, z⟩) <;> rw [h] at z <;> cases z
    · exact RepOs.ntup r a ha
theorem RepOs.ntup {g : Wd} {F H : Hp} : ∀ {vs : List V} {os : List O} {fp : List Addr}, RepOs g F H vs os fp → ∀ a ∈ fp, ¬ Fr H a
  | _, _, _, .nil, _, h => by cases h
  | _, _, _, .cons h t, a, ha => by
    rcases List.mem_append.mp ha with ha | ha
    · exact RepO.ntup h a ha
    · exact RepOs.ntup t a ha
end
mutual
/-- what is owned is frozen: F' knows all of its footprint -/
theorem RepO.freeze {g : Wd} {F F' H : Hp} (e : Ext F F') : ∀ {v : V} {o : O} {fp : List Addr}, RepO g F H v o fp → o.fz = true → (∀ a ∈ fp, ∀ u, H a = some u → F' a = some u) → Rep g F' v o.toD
  | _, _, _, .d r, _, _ => r.mono e
  | _, _, _, .lst h hl r, z, k => .lst (.inl (.inl (k _ (by simp) _ h))) hl (RepOs.freeze e r z fun a ha => k a (by simp [ha]))
  | _, _, _, .obj hc h hd hn r, z, k => .obj hc (k _ (by simp) _ h) (k _ (by simp) _ hd) hn (RepOs.freeze e r z fun a ha => k a (by simp [ha]))
  | _, _, _, .dk h hk r, z, _ => nomatch z
  | _, _, _, .dt h hk r, z, _ => nomatch z
  | _, _, _, .hole, z, _ => nomatch z
theorem RepOs.freeze {g : Wd} {F F' H : Hp} (e : Ext F F') : ∀ {vs : List V} {os : List O} {fp : List Addr}, RepOs g F H vs os fp → fzs os = true → (∀ a ∈ fp, ∀ u, H a = some u → F' a = some u) → Reps g F' vs (toDs os)
  | _, _, _, .nil, _, _ => .nil
  | _, _, _, .cons h t, z, k => by
    have z := Bool.and_eq_true_iff.mp (show (_ && _) = true from z)
    exact .cons (RepO.freeze e h z.1 fun a ha => k a (by simp [ha])) (RepOs.freeze e t z.2 fun a ha => k a (by simp [ha]))
end
theorem Reps.length {g : Wd} {F : Hp} : ∀ {vs : List V} {ds : List D}, Reps g F vs ds → vs.length = ds.length
  | _, _, .nil => rfl
  | _, _, .cons h t => by simp [Reps.length t]
theorem RepOs.length {g : Wd} {F H : Hp} : ∀ {vs : List V} {os : List O} {fp}, RepOs g F H vs os fp → vs.length = os.length
  | _, _, _, .nil => rfl
  | _, _, _, .cons h t => by simp [RepOs.length t]
theorem Reps.get {g : Wd} {F : Hp} : ∀ {vs : List V} {ds : List D} {i : Nat} {d : D}, Reps g F vs ds → ds[i]? = some d → ∃ v, vs[i]? = some v ∧ Rep g F v d
  | _, _, _, _, .nil, h => by simp at h
  | _, _, 0, _, .cons h t, e => by simp at e; subst e; exact ⟨_, rfl, h⟩
  | _, _, i + 1, _, .cons h t, e => by simpa using Reps.get (i := i) t (by simpa using e)
theorem Reps.getV {g : Wd} {F : Hp} : ∀ {vs : List V} {ds : List D} {i : Nat} {v : V}, Reps g F vs ds → vs[i]? = some v → ∃ d, ds[i]? = some d ∧ Rep g F v d
  | _, _, _, _, .nil, h => by simp at h
  | _, _, 0, _, .cons h t, e => by simp at e; subst e; exact ⟨_, rfl, h⟩
  | _, _, i + 1, _, .cons h t, e => by simpa using Reps.getV (i := i) t (by simpa using e)
theorem Reps.app {g : Wd} {F : Hp} : ∀ {vs ws : List V} {ds es : List D}, Reps g F vs ds → Reps g F ws es → Reps g F (vs ++ ws) (ds ++ es)
  | _, _, _, _, .nil, s => s
  | _, _, _, _, .cons h t, s => .cons h (Reps.app t s)
theorem Reps.take {g : Wd} {F : Hp} : ∀ {vs : List V} {ds : List D} (n : Nat), Reps g F vs ds → Reps g F (vs.take n) (ds.take n)
  | _, _, 0, _ => .nil
  | _, _, _ + 1, .nil => .nil
  | _, _, n + 1, .cons r t => .cons r (Reps.take n t)
theorem Reps.drop {g : Wd} {F : Hp} : ∀ {vs : List V} {ds : List D} (n : Nat), Reps g F vs ds → Reps g F (vs.drop n) (ds.drop n)
  | _, _, 0, r => r
  | _, _, _ + 1, .nil => .nil
  | _, _, n + 1, .cons _ t => Reps.drop n t
theorem RepOs.ofReps {g : Wd} {F H : Hp} : ∀ {vs : List V} {ds : List D}, Reps g F vs ds → RepOs g F H vs (ds.map O.d) []
  | _, _, .nil => .nil
  | _, _, .cons h t => .cons (f := []) (fp := []) (.d h) (RepOs.ofReps t)
theorem RepOs.toReps {g : Wd} {F H : Hp} : ∀ {vs : List V} {ds : List D} {fp}, RepOs g F H vs (ds.map O.d) fp → Reps g F vs ds ∧ fp = []
  | _, [], _, .nil => ⟨.nil, rfl⟩
  | _, _ :: ds, _, .cons (.d h) t => by
    obtain ⟨r, rfl⟩ := RepOs.toReps (ds := ds) t
    exact ⟨.cons h r, rfl⟩
end Mw
set_option Elab.async false
set_option linter.all false
set_option maxRecDepth 100000
set_option autoImplicit false
namespace Mw
open PySem PySem.Spec PyProof.Rows L2
structure Exc where
  c : Str
  ns : List Str
  ds : List D
inductive Slo where
  | un | shr (d : D) | mu (b : Bool) (o : O) | xc (x : Exc)
abbrev Ro := List Slo
inductive R where
  | d (x : D) | own (o : O) | pk (o : O)
inductive Res (α : Type) where
  | ok (a : α) (ρ : Ro) (q : Bool) | ex (x : Exc) (ρ : Ro) | no
def Res.bind {α β : Type} : Res α → (α → Ro → Bool → Res β) → Res β
  | .ok a ρ q, k => k a ρ q
  | .ex x ρ, _ => .ex x ρ
  | .no, _ => .no
@[simp] theorem Res.bind_ok {α β : Type} (a : α) (ρ : Ro) (q : Bool) (k : α → Ro → Bool → Res β) : (Res.ok a ρ q).bind k = k a ρ q := rfl
@[simp] theorem Res.bind_ex {α β : Type} (x : Exc) (ρ : Ro) (k : α → Ro → Bool → Res β) : (Res.ex x ρ : Res α).bind k = .ex x ρ := rfl
@[simp] theorem Res.bind_no {α β : Type} (k : α → Ro → Bool → Res β) : (Res.no : Res α).bind k = .no := rfl
abbrev M := Ro → Res R
abbrev MB := Ro → Res Bool
def R.isPk : R → Bool
  | .pk _ => true
  | _ => false
def RepX (g : Wd) (F : Hp) (cls : Value) (d : Option Addr) (x : Exc) : Prop :=
  ∃ C, cls = .ref C ∧ g.mg x.c = some (.ref C) ∧ ((d = none ∧ x.ns = [] ∧ x.ds = []) ∨ ∃ dx fs, d = some dx ∧ F dx = some (.xd fs) ∧ fs.map (·.1) = x.ns ∧ Reps g F (fs.map (·.2)) x.ds)
theorem RepX.mono {g : Wd} {F F' : Hp} {cls : Value} {d : Option Addr} {x : Exc} (h : RepX g F cls d x) (e : Ext F F') : RepX g F' cls d x := by
  obtain ⟨C, h1, h2, h3⟩ := h
  refine ⟨C, h1, h2, h3.imp id ?_⟩
  rintro ⟨dx, fs, a, b, c, r⟩
  exact ⟨dx, fs, a, e _ _ b, c, r.mono e⟩
def HasX (g : Wd) (F : Hp) (w : Option V) (x : Exc) : Prop := ∃ a oe, g.xa = some (a, oe) ∧ w = some (.ref a) ∧ RepX g F oe.cls oe.dict x
theorem HasX.mono {g : Wd} {F F' : Hp} {w : Option V} {x : Exc} (h : HasX g F w x) (e : Ext F F') : HasX g F' w x := by
  obtain ⟨a, oe, h1, h2, h3⟩ := h
  exact ⟨a, oe, h1, h2, h3.mono e⟩
structure Stt (g : Wd) (F H : Hp) (σ : L2.St) (ρ : Ro) (fp : Nat → List Addr) : Prop where
  sub : Ext F H
  len : σ.length = ρ.length
  un : ∀ (i : Nat), (∀ (b : Bool) (o : O), ρ[i]? ≠ some (.mu b o)) → fp i = []
  shr : ∀ (i : Nat) (d : D), ρ[i]? = some (.shr d) → ∃ v, σ[i]? = some (some v) ∧ Rep g F v d
  mu : ∀ (i : Nat) (b : Bool) (o : O), ρ[i]? = some (.mu b o) → ∃ v, σ[i]? = some (some v) ∧ RepO g F H v o (fp i)
  nd : ∀ i, (fp i).Nodup
  dis : ∀ i j a, a ∈ fp i → a ∈ fp j → i = j
  fre : ∀ i a, a ∈ fp i → F a = none
  xc : ∀ (i : Nat) (x : Exc), ρ[i]? = some (.xc x) → ∃ w, σ[i]? = some w ∧ HasX g F w x
def Own (fp : Nat → List Addr) : Addr → Prop := fun a => ∃ i, a ∈ fp i
def Plus (S : Addr → Prop) (fr : List Addr) : Addr → Prop := fun a => S a ∨ a ∈ fr
structure Step (F H : Hp) (S : Addr → Prop) (F' H' : Hp) (S' : Addr → Prop) : Prop where
  ext : Ext F F'
  keep : ∀ a o, ¬ S a → H a = some o → H' a = some o
  new : ∀ a o, F' a = some o → F a = some o ∨ S a ∨ Fr H a
  fre : ∀ a, S' a → S a ∨ H a = none
theorem Step.refl (F H : Hp) (S : Addr → Prop) : Step F H S F H S := ⟨.refl F, fun _ _ _ h => h, fun _ _ h => .inl h, fun _ h => .inl h⟩
theorem Step.trans {F H F1 H1 F2 H2 : Hp} {S S1 S2 : Addr → Prop} (a : Step F H S F1 H1 S1) (b : Step F1 H1 S1 F2 H2 S2) : Step F H S F2 H2 S2 := by
  have back : ∀ x, Fr H1 x → S x ∨ Fr H x := fun x h => by
    by_cases hs : S x
    · exact .inl hs
    · cases q : H x with
      | none => exact .inr (.inl q)
      | some o =>
        have q1 := a.keep x o hs q
        rcases h with h | ⟨xs, h⟩
        · rw [h] at q1; cases q1
        · rw [h] at q1; cases q1; exact .inr (.inr ⟨xs, q⟩)
  have backN : ∀ x, H1 x = none → S x ∨ H x = none := fun x h => by
    by_cases hs : S x
    · exact .inl hs
    · cases q : H x with
      | none => exact .inr rfl
      | some o => rw [a.keep x o hs q] at h; cases h
  refine ⟨a.ext.trans b.ext, fun x o hs h => b.keep x o (fun z => ?_) (a.keep x o hs h), fun x o h => ?_, fun x h => ?_⟩
  · rcases a.fre x z with z | z
    · exact hs z
    · rw [h] at z; cases z
  · rcases b.new x o h with h | h | h
    · exact a.new x o h
    · exact .inr ((a.fre x h).imp id .inl)
    · exact .inr (back x h)
  · rcases b.fre x h with h | h
    · exact a.fre x h
    · exact backN x h
theorem Step.frame {F H F' H' : Hp} {S S' : Addr → Prop} (a : Step F H S F' H' S') (fr : List Addr) : Step F H (Plus S fr) F' H' (Plus S' fr) :=
  ⟨a.ext, fun x o hs h => a.keep x o (fun z => hs (.inl z)) h, fun x o h => (a.new x o h).imp id (fun z => z.imp .inl id), fun x h => by
    rcases h with h | h
    · exact (a.fre x h).imp .inl id
    · exact .inl (.inr h)⟩
theorem Step.weak {F H F' H' : Hp} {S S' S'' : Addr → Prop} (a : Step F H S F' H' S') (h : ∀ x, S'' x → S' x) : Step F H S F' H' S'' := ⟨a.ext, a.keep, a.new, fun x z => a.fre x (h x z)⟩
def RepR (g : Wd) (F H : Hp) (S : Addr → Prop) (v : V) (r : R) (fr : List Addr) : Prop := match r with
  | .d x => Rep g F v x ∧ fr = []
  | .own o => RepO g F H v o fr ∧ ∀ a ∈ fr, F a = none ∧ ¬ S a
  | .pk o => fr = [] ∧ ∃ fp, RepO g F H v o fp
inductive RepRs (g : Wd) (F H : Hp) (S : Addr → Prop) : List V → List R → List Addr → Prop
  | nil : RepRs g F H S [] [] []
  | cons {v : V} {vs : List V} {r : R} {rs : List R} {f fr : List Addr} (h : RepR g F H S v r f) (t : RepRs g F H S vs rs fr) : RepRs g F H S (v :: vs) (r :: rs) (f ++ fr)
theorem RepR.out {g : Wd} {F H : Hp} {S : Addr → Prop} {v : V} {r : R} {fr : List Addr} (h : RepR g F H S v r fr) : ∀ a ∈ fr, F a = none ∧ ¬ S a ∧ H a ≠ none := by
  cases r with
  | d x => obtain ⟨_, rfl⟩ := h; intro a ha; cases ha
  | own o => exact fun a ha => ⟨(h.2 a ha).1, (h.2 a ha).2, h.1.there a ha⟩
  | pk o => obtain ⟨rfl, _⟩ := h; intro a ha; cases ha
theorem RepRs.out {g : Wd} {F H : Hp} {S : Addr → Prop} {vs : List V} {rs : List R} {fr : List Addr} (h : RepRs g F H S vs rs fr) : ∀ a ∈ fr, F a = none ∧ ¬ S a ∧ H a ≠ none := by
  induction h with
  | nil => intro a ha; cases ha
  | cons h t ih =>
    intro a ha
    rcases List.mem_append.mp ha with ha | ha
    · exact h.out a ha
    · exact ih a ha
theorem RepR.outN {g : Wd} {F H : Hp} {S : Addr → Prop} {v : V} {r : R} {fr : List Addr} (h : RepR g F H S v r fr) : ∀ a ∈ fr, ¬ Fr H a := by
  cases r with
  | d x => obtain ⟨_, rfl⟩ := h; intro a ha; cases ha
  | own o => exact h.1.ntup
  | pk o => obtain ⟨rfl, _⟩ := h; intro a ha; cases ha
theorem RepR.keep {g : Wd} {F H F' H' : Hp} {S S' : Addr → Prop} {v : V} {r : R} {fr : List Addr} (h : RepR g F H S v r fr) (s : Step F H S F' H' S') (q : r.isPk = true → Ext H H') : RepR g F' H' S' v r fr := by
  cases r with
  | d x => exact ⟨h.1.mono s.ext, h.2⟩
  | own o =>
    have o' := RepR.out (r := .own o) h
    refine ⟨h.1.mono s.ext fun a ha u e => s.keep a u (o' a ha).2.1 e, fun a ha => ⟨?_, fun z => ?_⟩⟩
    · cases e : F' a with
      | none => rfl
      | some u =>
        rcases s.new a u e with e | e | e
        · rw [(o' a ha).1] at e; cases e
        · exact absurd e (o' a ha).2.1
        · exact absurd e (RepR.outN (r := .own o) h a ha)
    · rcases s.fre a z with z | z
      · exact (o' a ha).2.1 z
      · exact (o' a ha).2.2 z
  | pk o => exact ⟨h.1, h.2.imp fun fp r => r.mono s.ext fun a _ u e => q rfl a u e⟩
section
variable {K : PySem.W.Frag} {mg : Str → Option Value} {x y : Option (Addr × Obj)} {F H : Hp} {S : Addr → Prop}
theorem RepR.xa {v : V} {r : R} {fr : List Addr} (h : RepR ⟨K, mg, x⟩ F H S v r fr) : RepR ⟨K, mg, y⟩ F H S v r fr := by
  cases r with
  | d d => exact ⟨h.1.xa, h.2⟩
  | own o => exact ⟨h.1.xa, h.2⟩
  | pk o => exact ⟨h.1, h.2.imp fun fp r => r.xa⟩
theorem RepX.xa {cls : Value} {d : Option Addr} {e : Exc} (h : RepX ⟨K, mg, x⟩ F cls d e) : RepX ⟨K, mg, y⟩ F cls d e := by
  obtain ⟨C, h1, h2, h3⟩ := h
  refine ⟨C, h1, h2, h3.imp id ?_⟩
  rintro ⟨dx, fs, a, b, c, r⟩
  exact ⟨dx, fs, a, b, c, r.xa⟩
theorem Stt.xa {σ : L2.St} {ρ : Ro} {fp : Nat → List Addr} (st : Stt ⟨K, mg, x⟩ F H σ ρ fp) (n : ∀ (i : Nat) (e : Exc), ρ[i]? ≠ some (Slo.xc e)) : Stt ⟨K, mg, y⟩ F H σ ρ fp :=
  ⟨st.sub, st.len, st.un, fun i d h => (st.shr i d h).imp fun v h => ⟨h.1, h.2.xa⟩, fun i b o h => (st.mu i b o h).imp fun v h => ⟨h.1, h.2.xa⟩, st.nd, st.dis, st.fre, fun i e h => absurd h (n i e)⟩
theorem Stt.noxc {σ : L2.St} {ρ : Ro} {fp : Nat → List Addr} (st : Stt (.m K mg) F H σ ρ fp) (i : Nat) (e : Exc) : ρ[i]? ≠ some (Slo.xc e) := fun h => by
  obtain ⟨w, _, a, oe, z, _⟩ := st.xc i e h
  cases z
end
abbrev VRel (α β : Type) := Hp → Hp → (Addr → Prop) → β → α → List Addr → Prop
def Ob {α β : Type} (g : Wd) (W : WX) (σ : L2.St) (F H : Hp) (S : Addr → Prop) (Z : Bool → Hp → Ro → Prop) (RR : VRel α β) (res : Res α) (Q : β → Hp → Prop) : Prop :=
  res ≠ .no ∧
  (∀ r ρ' q, res = .ok r ρ' q → ∀ v F' H' fp' fr, Step F H S F' H' (Plus (Own fp') fr) → Stt g F' H' σ ρ' fp' → RR F' H' (Own fp') v r fr → fr.Nodup → Z q H' ρ' → Q v H') ∧
  (∀ x ρ', res = .ex x ρ' → ∀ cls d F' H' fp', Step F H S F' H' (Own fp') → Stt g F' H' σ ρ' fp' → RepX g F' cls d x → Z false H' ρ' → W cls d σ H')
def Kb (ρ ρ' : Ro) : Prop := ∀ (k : Nat) (o : O), ρ[k]? = some (.mu true o) → ∃ o', ρ'[k]? = some (.mu true o')
theorem Kb.refl (ρ : Ro) : Kb ρ ρ := fun _ o h => ⟨o, h⟩
theorem Kb.trans {a b c : Ro} (x : Kb a b) (y : Kb b c) : Kb a c := fun k o h => by
  obtain ⟨o', h⟩ := x k o h
  exact y k o' h
def Zq (H : Hp) (ρ : Ro) : Bool → Hp → Ro → Prop := fun q H' ρ' => Kb ρ ρ' ∧ (q = true → Ext H H' ∧ ρ' = ρ)
def tR {α β : Type} (g : Wd) (W : WX) (RR : VRel α β) (m : Ro → Res α) : L2.St → Hp → (β → Hp → Prop) → Prop := fun σ H Q =>
  ∃ F ρ fp, Stt g F H σ ρ fp ∧ Ob g W σ F H (Own fp) (Zq H ρ) RR (m ρ) Q
abbrev tM (g : Wd) (W : WX) (m : M) : TE := tR g W (RepR g) m
def mArgs : List M → Ro → Res (List R)
  | [], ρ => .ok [] ρ true
  | m :: ms, ρ => (m ρ).bind fun r ρ1 q1 => (mArgs ms ρ1).bind fun rs ρ2 q2 => if (r.isPk && !q2) = true then .no else .ok (r :: rs) ρ2 (q1 && q2)
abbrev tA (g : Wd) (W : WX) (ms : List M) : TA := tR g W (RepRs g) (mArgs ms)
theorem Ob.imp {α β : Type} {g : Wd} {W : WX} {σ : L2.St} {F H : Hp} {S : Addr → Prop} {Z : Bool → Hp → Ro → Prop} {RR : VRel α β} {res : Res α} {Q Q' : β → Hp → Prop} (h : Ob g W σ F H S Z RR res Q) (i : ∀ v H, Q v H → Q' v H) : Ob g W σ F H S Z RR res Q' :=
  ⟨h.1, fun r ρ' q e v F' H' fp' fr a b c d z => i _ _ (h.2.1 r ρ' q e v F' H' fp' fr a b c d z), h.2.2⟩
theorem tR.imp {α β : Type} {g : Wd} {W : WX} {RR : VRel α β} {m : Ro → Res α} {σ : L2.St} {H : Hp} {Q Q' : β → Hp → Prop} (h : tR g W RR m σ H Q) (i : ∀ v H, Q v H → Q' v H) : tR g W RR m σ H Q' := by
  obtain ⟨F, ρ, fp, st, ob⟩ := h
  exact ⟨F, ρ, fp, st, ob.imp i⟩
theorem Ob.after {α β : Type} {g : Wd} {W : WX} {σ : L2.St} {F H F1 H1 : Hp} {S S1 : Addr → Prop} {Z : Bool → Hp → Ro → Prop} {RR : VRel α β} {res : Res α} {Q : β → Hp → Prop} (h : Ob g W σ F H S Z RR res Q) (s : Step F H S F1 H1 S1) : Ob g W σ F1 H1 S1 Z RR res Q :=
  ⟨h.1, fun r ρ' q e v F' H' fp' fr a b c d z => h.2.1 r ρ' q e v F' H' fp' fr (s.trans a) b c d z, fun x ρ' e cls d F' H' fp' a b c z => h.2.2 x ρ' e cls d F' H' fp' (s.trans a) b c z⟩
theorem Ob.bind {α β γ δ : Type} {g : Wd} {W : WX} {σ : L2.St} {F H : Hp} {S : Addr → Prop} {Z Z1 : Bool → Hp → Ro → Prop} {RR : VRel α β} {RR1 : VRel γ δ} {res : Res γ} {k : γ → Ro → Bool → Res α} {Q : β → Hp → Prop} {Q1 : δ → Hp → Prop}
    (h : Ob g W σ F H S Z RR (res.bind k) Q)
    (i : ∀ r ρ1 q1, res = .ok r ρ1 q1 → ∀ v F1 H1 fp1 fr1, Step F H S F1 H1 (Plus (Own fp1) fr1) → Stt g F1 H1 σ ρ1 fp1 → RR1 F1 H1 (Own fp1) v r fr1 → fr1.Nodup → Z1 q1 H1 ρ1 → Ob g W σ F1 H1 (Plus (Own fp1) fr1) Z RR (k r ρ1 q1) Q → Q1 v H1)
    (hz : ∀ H' ρ', Z1 false H' ρ' → Z false H' ρ') : Ob g W σ F H S Z1 RR1 res Q1 := by
  refine ⟨fun e => ?_, fun r ρ1 q1 e v F1 H1 fp1 fr1 a b c d z => ?_, fun x ρ' e => ?_⟩
  · subst e; exact h.1 rfl
  · subst e; exact i r ρ1 q1 rfl v F1 H1 fp1 fr1 a b c d z (Ob.after h a)
  · subst e; exact fun cls d F' H' fp' a b c z => h.2.2 x ρ' rfl cls d F' H' fp' a b c (hz _ _ z)
theorem tR.bind {α β γ δ : Type} {g : Wd} {W : WX} {RR : VRel α β} {RR1 : VRel γ δ} {m : Ro → Res γ} {k : γ → Ro → Bool → Res α} {σ : L2.St} {H : Hp} {Q : β → Hp → Prop} {Q1 : δ → Hp → Prop}
    (h : tR g W RR (fun ρ => (m ρ).bind k) σ H Q)
    (i : ∀ F ρ fp, Stt g F H σ ρ fp → ∀ r ρ1 q1, m ρ = .ok r ρ1 q1 → ∀ v F1 H1 fp1 fr1, Step F H (Own fp) F1 H1 (Plus (Own fp1) fr1) → Stt g F1 H1 σ ρ1 fp1 → RR1 F1 H1 (Own fp1) v r fr1 → fr1.Nodup → Zq H ρ q1 H1 ρ1 → Ob g W σ F1 H1 (Plus (Own fp1) fr1) (Zq H ρ) RR (k r ρ1 q1) Q → Q1 v H1) :
    tR g W RR1 m σ H Q1 := by
  obtain ⟨F, ρ, fp, st, ob⟩ := h
  exact ⟨F, ρ, fp, st, ob.bind (i F ρ fp st) fun _ _ z => z⟩
theorem tA_nil {g : Wd} {W : WX} {σ : L2.St} {H : Hp} {Q : List V → Hp → Prop} (h : tA g W [] σ H Q) : Q [] H := by
  obtain ⟨F, ρ, fp, st, ob⟩ := h
  exact ob.2.1 [] ρ true rfl [] F H fp [] ⟨.refl F, fun _ _ _ h => h, fun _ _ h => .inl h, fun a h => .inl (h.elim id fun z => nomatch z)⟩ st .nil List.nodup_nil ⟨.refl ρ, fun _ => ⟨.refl H, rfl⟩⟩
theorem tA_cons {g : Wd} {W : WX} {m : M} {ms : List M} {σ : L2.St} {H : Hp} {Q : List V → Hp → Prop} (h : tA g W (m :: ms) σ H Q) : tM g W m σ H fun x H1 => tA g W ms σ H1 fun xs H2 => Q (x :: xs) H2 := by
  refine tR.bind h fun F ρ fp st r ρ1 q1 e1 v F1 H1 fp1 fr1 s1 st1 r1 n1 z1 ob => ⟨F1, ρ1, fp1, st1, ?_⟩
  refine ⟨fun e => ob.1 (by rw [e]; rfl), fun rs ρ2 q2 e vs F2 H2 fp2 fr2 s2 st2 r2 n2 z2 => ?_, fun x ρ' e cls d F' H' fp' a b c z => ?_⟩
  · rw [e] at ob
    by_cases hp : (r.isPk && !q2) = true
    · exact absurd (if_pos hp) ob.1
    · have hq : r.isPk = true → Ext H1 H2 := fun hk => (z2.2 (by cases q2 <;> simp_all)).1
      have o1 := r1.out
      have r1' := r1.keep s2 hq
      have o1' := r1'.out
      refine ob.2.1 (r :: rs) ρ2 (q1 && q2) (if_neg hp) (v :: vs) F2 H2 fp2 (fr1 ++ fr2) ((s2.frame fr1).weak fun x hx => ?_) st2 (.cons (r1.keep (s2.weak fun x hx => .inl hx) hq) r2) ?_ ⟨z1.1.trans z2.1, fun hz => ?_⟩
      · rcases hx with hx | hx
        · exact .inl (.inl hx)
        · rcases List.mem_append.mp hx with hx | hx
          · exact .inr hx
          · exact .inl (.inr hx)
      · exact List.nodup_append.mpr ⟨n1, n2, fun a ha b hb e => (o1' a ha).2.1 (.inr (e ▸ hb))⟩
      · have hz := Bool.and_eq_true_iff.mp hz
        exact ⟨(z1.2 hz.1).1.trans (z2.2 hz.2).1, (z2.2 hz.2).2.trans (z1.2 hz.1).2⟩
  · rw [e] at ob
    exact ob.2.2 x ρ' rfl cls d F' H' fp' ((a.frame fr1).weak fun x hx => .inl hx) b c ⟨z1.1.trans z.1, fun z => nomatch z⟩
structure LStep (F H : Hp) (fr : List Addr) (F' H' : Hp) (fr' : List Addr) : Prop where
  ext : Ext F F'
  exh : Ext H H'
  sub : Ext F' H'
  new : ∀ a o, F' a = some o → F a = some o ∨ a ∈ fr ∨ Fr H a
  fre : ∀ a ∈ fr', a ∈ fr ∨ H a = none
def LeafG (g : Wd) (leaf : List R → Option R) (vs : List V) (H : Hp) (Q : VK) : Prop :=
  ∃ F S rs fr rr, Ext F H ∧ (∀ a, S a → H a ≠ none ∧ F a = none) ∧ RepRs g F H S vs rs fr ∧ fr.Nodup ∧ leaf rs = some rr ∧
    ∀ v F' H' fr', LStep F H fr F' H' fr' → RepR g F' H' S v rr fr' → fr'.Nodup → Q v H'
def mOps (ms : List M) (leaf : List R → Option R) : M := fun ρ => (mArgs ms ρ).bind fun rs ρ' q => match leaf rs with
  | some r => .ok r ρ' q
  | none => .no
theorem Stt.grown {g : Wd} {F H F' H' : Hp} {σ : L2.St} {ρ : Ro} {fp : Nat → List Addr} (s : Stt g F H σ ρ fp) (e : Ext F F') (eh : Ext H H') (sub : Ext F' H') (n : ∀ a, Own fp a → F' a = none) : Stt g F' H' σ ρ fp :=
  ⟨sub, s.len, s.un, fun i d h => (s.shr i d h).imp fun v h => ⟨h.1, h.2.mono e⟩, fun i b o h => (s.mu i b o h).imp fun v h => ⟨h.1, h.2.mono e fun a _ u => eh a u⟩, s.nd, s.dis, fun i a h => n a ⟨i, h⟩, fun i x h => (s.xc i x h).imp fun w h => ⟨h.1, h.2.mono e⟩⟩
theorem Stt.there {g : Wd} {F H : Hp} {σ : L2.St} {ρ : Ro} {fp : Nat → List Addr} (s : Stt g F H σ ρ fp) {a : Addr} (h : Own fp a) : H a ≠ none ∧ F a = none := by
  obtain ⟨i, h⟩ := h
  refine ⟨?_, s.fre i a h⟩
  cases e : ρ[i]? with
  | none => rw [s.un i fun b o z => by rw [e] at z; cases z] at h; cases h
  | some x =>
    cases x with
    | un => rw [s.un i fun b o z => by rw [e] at z; cases z] at h; cases h
    | xc x => rw [s.un i fun b o z => by rw [e] at z; cases z] at h; cases h
    | shr d => rw [s.un i fun b o z => by rw [e] at z; cases z] at h; cases h
    | mu b o =>
      obtain ⟨v, _, r⟩ := s.mu i b o e
      exact r.there a h
theorem Stt.thereN {g : Wd} {F H : Hp} {σ : L2.St} {ρ : Ro} {fp : Nat → List Addr} (s : Stt g F H σ ρ fp) {a : Addr} (h : Own fp a) : ¬ Fr H a := by
  obtain ⟨i, h⟩ := h
  cases e : ρ[i]? with
  | none => rw [s.un i fun b o z => by rw [e] at z; cases z] at h; cases h
  | some x =>
    cases x with
    | un => rw [s.un i fun b o z => by rw [e] at z; cases z] at h; cases h
    | xc x => rw [s.un i fun b o z => by rw [e] at z; cases z] at h; cases h
    | shr d => rw [s.un i fun b o z => by rw [e] at z; cases z] at h; cases h
    | mu b o =>
      obtain ⟨v, _, r⟩ := s.mu i b o e
      exact r.ntup a h
theorem tM_ops {g : Wd} {W : WX} {ms : List M} {leaf : List R → Option R} {σ : L2.St} {H : Hp} {Q : VK} (h : tM g W (mOps ms leaf) σ H Q) : tA g W ms σ H fun vs H1 => LeafG g leaf vs H1 Q := by
  refine tR.bind h fun F ρ fp st rs ρ1 q1 e1 vs F1 H1 fp1 fr1 s1 st1 r1 n1 z1 ob => ?_
  cases e : leaf rs with
  | none => rw [e] at ob; exact absurd rfl ob.1
  | some rr =>
    rw [e] at ob
    have o1 := r1.out
    refine ⟨F1, Own fp1, rs, fr1, rr, st1.sub, fun a ha => st1.there ha, r1, n1, e, fun v F' H' fr' l r' n' => ?_⟩
    refine ob.2.1 rr ρ1 q1 rfl v F' H' fp1 fr' ⟨l.ext, fun a o _ h => l.exh a o h, fun a o h => ?_, fun a h => ?_⟩ (st1.grown l.ext l.exh l.sub fun a ha => ?_) r' n' ⟨z1.1, fun z => ⟨(z1.2 z).1.trans l.exh, (z1.2 z).2⟩⟩
    · rcases l.new a o h with h | h | h
      · exact .inl h
      · exact .inr (.inl (.inr h))
      · exact .inr (.inr h)
    · rcases h with h | h
      · exact .inl (.inl h)
      · exact (l.fre a h).imp .inr id
    · cases q : F' a with
      | none => rfl
      | some u =>
        rcases l.new a u q with q | q | q
        · rw [(st1.there ha).2] at q; cases q
        · exact absurd ha (o1 a q).2.1
        · exact absurd q (st1.thereN ha)
end Mw
set_option Elab.async false
set_option linter.all false
set_option maxRecDepth 100000
set_option autoImplicit false
namespace Mw
open PySem PySem.Spec PyProof.Rows L2
noncomputable section
def hide {α : Type} (a : α) : α := Classical.choose (⟨a, rfl⟩ : ∃ x, x = a)
theorem hide_eq {α : Type} (a : α) : hide a = a := Classical.choose_spec (⟨a, rfl⟩ : ∃ x, x = a)
theorem hide_dec {p : Prop} [Decidable p] (h : hide (decide p) = true) : p := by rw [hide_eq] at h; exact of_decide_eq_true h
theorem dec_hide {p : Prop} [Decidable p] (h : p) : hide (decide p) = true := by rw [hide_eq]; exact decide_eq_true h
def lenOk (n : Nat) : Bool := hide (decide (n ≤ 16777216))
theorem lenOk_le {n : Nat} (h : lenOk n = true) : n ≤ 16777216 := hide_dec h
theorem lenOk_of {n : Nat} (h : n ≤ 1000000) : lenOk n = true := dec_hide (by omega)
def mulOk (i j : Int) : Bool := hide (decide ((-18446744073709551616 < i ∧ i < 18446744073709551616) ∨ (-18446744073709551616 < j ∧ j < 18446744073709551616)))
theorem mulOk_iff {i j : Int} (h : mulOk i j = true) : (-18446744073709551616 < i ∧ i < 18446744073709551616) ∨ (-18446744073709551616 < j ∧ j < 18446744073709551616) := hide_dec h
theorem mulOk_l {i j : Int} (h0 : -1000000000 ≤ i) (h : i ≤ 1000000000) : mulOk i j = true := dec_hide (by omega)
theorem mulOk_r {i j : Int} (h0 : -1000000000 ≤ j) (h : j ≤ 1000000000) : mulOk i j = true := dec_hide (by omega)
def repOk (n : Int) (l : Nat) : Bool := hide (decide (0 ≤ n ∧ n ≤ 1000 ∧ l ≤ 1000))
theorem repOk_iff {n : Int} {l : Nat} (h : repOk n l = true) : 0 ≤ n ∧ n ≤ 1000 ∧ l ≤ 1000 := hide_dec h
theorem repOk_of {n : Int} {l : Nat} (h0 : 0 ≤ n) (h : n ≤ 1000) (hl : l ≤ 1000) : repOk n l = true := dec_hide ⟨h0, h, hl⟩
def rgOk (j : Int) : Bool := hide (decide (-4611686018427387904 ≤ j ∧ j < 4611686018427387904))
theorem rgOk_iff {j : Int} (h : rgOk j = true) : -4611686018427387904 ≤ j ∧ j < 4611686018427387904 := hide_dec h
theorem rgOk_of {j : Int} (h0 : -1000000 ≤ j) (h : j ≤ 1000000) : rgOk j = true := dec_hide (by omega)
def powOk (i j : Int) : Bool := hide (decide (0 ≤ j ∧ j ≤ 1000 ∧ i.natAbs < 1000000))
theorem powOk_iff {i j : Int} (h : powOk i j = true) : 0 ≤ j ∧ j ≤ 1000 ∧ i.natAbs < 1000000 := hide_dec h
theorem powOk_of {i j : Int} (h0 : 0 ≤ j) (h : j ≤ 1000) (h1 : 0 ≤ i) (h2 : i < 1000000) : powOk i j = true := dec_hide ⟨h0, h, by omega⟩
def divOk (j : Int) : Bool := hide (decide (0 < j ∧ j < 1073741824))
theorem divOk_iff {j : Int} (h : divOk j = true) : 0 < j ∧ j < 1073741824 := hide_dec h
theorem divOk_of {j : Int} (h0 : 0 < j) (h : j < 1000000000) : divOk j = true := dec_hide (by omega)
def modOk (j : Int) : Bool := hide (decide (0 < j))
theorem modOk_iff {j : Int} (h : modOk j = true) : 0 < j := hide_dec h
theorem modOk_of {j : Int} (h0 : 0 < j) : modOk j = true := dec_hide h0
def undO : List O → Option (List D)
  | [] => some []
  | .d x :: r => (undO r).map (x :: ·)
  | _ :: _ => none
def O.plain : O → Option D
  | .d x => some x
  | .lst os => (undO os).map D.lst
  | _ => none
def R.pl : R → Option D
  | .d x => some x
  | .own o => o.plain
  | .pk o => o.plain
def R.ol : R → Option (List D)
  | .own (.lst os) => undO os
  | .pk (.lst os) => undO os
  | _ => none
@[simp] theorem undO_map (ds : List D) : undO (ds.map O.d) = some ds := by
  induction ds with
  | nil => rfl
  | cons d ds ih => simp [undO, ih]
@[simp] theorem undO_nil : undO [] = some [] := rfl
@[simp] theorem undO_cons (x : D) (r : List O) : undO (.d x :: r) = (undO r).map (x :: ·) := rfl
@[simp] theorem undO_app (ds : List D) (r : List O) : undO (ds.map O.d ++ r) = (undO r).map (ds ++ ·) := by
  induction ds with
  | nil => simp [undO]
  | cons d ds ih => simp [undO, ih, Option.map_map, Function.comp_def]
theorem undO_eq {os : List O} {ds : List D} (h : undO os = some ds) : os = ds.map O.d := by
  induction os generalizing ds with
  | nil => cases h; rfl
  | cons o os ih =>
    cases o with
    | d x =>
      rw [undO_cons] at h
      cases e : undO os with
      | none => rw [e] at h; cases h
      | some es => rw [e] at h; cases h; rw [ih e]; rfl
    | lst xs => cases h
    | dct ks xs => cases h
    | obj c ns xs => cases h
    | hole => cases h
@[simp] theorem R.pl_d (x : D) : (R.d x).pl = some x := rfl
@[simp] theorem R.pl_own (ds : List D) : (R.own (.lst (ds.map O.d))).pl = some (.lst ds) := by simp [R.pl, O.plain]
@[simp] theorem R.pl_pk (ds : List D) : (R.pk (.lst (ds.map O.d))).pl = some (.lst ds) := by simp [R.pl, O.plain]
@[simp] theorem R.ol_own (ds : List D) : (R.own (.lst (ds.map O.d))).ol = some ds := by simp [R.ol]
@[simp] theorem R.ol_pk (ds : List D) : (R.pk (.lst (ds.map O.d))).ol = some ds := by simp [R.ol]
@[simp] theorem R.isPk_d (x : D) : (R.d x).isPk = false := rfl
@[simp] theorem R.isPk_own (o : O) : (R.own o).isPk = false := rfl
@[simp] theorem R.isPk_pk (o : O) : (R.pk o).isPk = true := rfl
section
variable {g : Wd} {F H : Hp} {S : Addr → Prop} {v : V} {r : R} {fr : List Addr}
theorem RepR.ofOl (h : RepR g F H S v r fr) {ds : List D} (e : r.ol = some ds) : ∃ a vs, v = .ref a ∧ H a = some (.lst vs) ∧ vs.length ≤ sizeLine ∧ Reps g F vs ds := by
  have key : ∀ {o : O} {fp}, RepO g F H v o fp → ∀ os, o = .lst os → undO os = some ds → ∃ a vs, v = .ref a ∧ H a = some (.lst vs) ∧ vs.length ≤ sizeLine ∧ Reps g F vs ds := by
    intro o fp hr os e1 e2
    subst e1
    rw [undO_eq e2] at hr
    cases hr with
    | lst h1 hl r => exact ⟨_, _, rfl, h1, hl, r.toReps.1⟩
  cases r with
  | d x => cases e
  | own o =>
    cases o with
    | lst os => exact key h.1 os rfl e
    | d _ => cases e
    | dct _ _ => cases e
    | obj _ _ _ => cases e
    | hole => cases e
  | pk o =>
    cases o with
    | lst os => obtain ⟨_, fp, hr⟩ := h; exact key hr os rfl e
    | d _ => cases e
    | dct _ _ => cases e
    | obj _ _ _ => cases e
    | hole => cases e
theorem plain_lst {o : O} {x : D} (e : o.plain = some x) : o = .d x ∨ ∃ os ds, o = .lst os ∧ undO os = some ds ∧ x = .lst ds := by
  cases o with
  | d y => cases e; exact .inl rfl
  | lst os =>
    right
    have e : (undO os).map D.lst = some x := e
    cases q : undO os with
    | none => rw [q] at e; cases e
    | some ds => rw [q] at e; cases e; exact ⟨os, ds, rfl, q, rfl⟩
  | dct _ _ => cases e
  | obj _ _ _ => cases e
  | hole => cases e
theorem RepR.ofPl (h : RepR g F H S v r fr) {x : D} (e : r.pl = some x) : Rep g F v x ∨ ∃ a vs ds, x = .lst ds ∧ v = .ref a ∧ H a = some (.lst vs) ∧ vs.length ≤ sizeLine ∧ Reps g F vs ds := by
  cases r with
  | d y => cases e; exact .inl h.1
  | own o =>
    rcases plain_lst e with rfl | ⟨os, ds, rfl, q, rfl⟩
    · cases h.1; exact .inl (by assumption)
    · obtain ⟨a, vs, e1, e2, e3, e4⟩ := RepR.ofOl (r := .own (.lst os)) h q
      exact .inr ⟨a, vs, ds, rfl, e1, e2, e3, e4⟩
  | pk o =>
    rcases plain_lst e with rfl | ⟨os, ds, rfl, q, rfl⟩
    · obtain ⟨_, fp, hr⟩ := h; cases hr; exact .inl (by assumption)
    · obtain ⟨a, vs, e1, e2, e3, e4⟩ := RepR.ofOl (r := .pk (.lst os)) h q
      exact .inr ⟨a, vs, ds, rfl, e1, e2, e3, e4⟩
theorem RepR.int (h : RepR g F H S v r fr) {i : Int} (e : r.pl = some (.int i)) : v = .int i := by
  rcases h.ofPl e with h | ⟨_, _, _, z, _⟩
  · cases h; rfl
  · cases z
theorem RepR.bl (h : RepR g F H S v r fr) {i : Bool} (e : r.pl = some (.bl i)) : v = .bl i := by
  rcases h.ofPl e with h | ⟨_, _, _, z, _⟩
  · cases h; rfl
  · cases z
theorem RepR.non (h : RepR g F H S v r fr) (e : r.pl = some .non) : v = .non := by
  rcases h.ofPl e with h | ⟨_, _, _, z, _⟩
  · cases h; rfl
  · cases z
theorem RepR.str (h : RepR g F H S v r fr) {s : List Nat} (e : r.pl = some (.str s)) : v = .str ⟨s.toArray⟩ ∧ s.length ≤ sizeLine := by
  rcases h.ofPl e with h | ⟨_, _, _, z, _⟩
  · cases h with | str h1 => exact ⟨rfl, h1⟩
  · cases z
theorem RepR.tup (h : RepR g F H S v r fr) {ds : List D} (e : r.pl = some (.tup ds)) : ∃ a vs, v = .ref a ∧ SqT g.K F a vs ∧ vs.length ≤ sizeLine ∧ Reps g F vs ds := by
  rcases h.ofPl e with h | ⟨_, _, _, z, _⟩
  · cases h with | tup h1 hl r => exact ⟨_, _, rfl, .inl (.inl h1), hl, r⟩
  · cases z
theorem RepR.tupF (h : RepR g F H S v r fr) {ds : List D} (e : r.pl = some (.tup ds)) : ∃ a vs, v = .ref a ∧ F a = some (.tup vs) ∧ vs.length ≤ sizeLine ∧ Reps g F vs ds := by
  rcases h.ofPl e with h | ⟨_, _, _, z, _⟩
  · cases h with | tup h1 hl r => exact ⟨_, _, rfl, h1, hl, r⟩
  · cases z
theorem RepR.lst (h : RepR g F H S v r fr) (sub : Ext F H) {ds : List D} (e : r.pl = some (.lst ds)) : ∃ a vs, v = .ref a ∧ SqL g.K H a vs ∧ vs.length ≤ sizeLine ∧ Reps g F vs ds := by
  rcases h.ofPl e with h | ⟨a, vs, _, z, e1, e2, e3, e4⟩
  · cases h with | lst h1 hl r => exact ⟨_, _, rfl, sub.sqL h1, hl, r⟩
  · cases z; exact ⟨a, vs, e1, .inl (.inl e2), e3, e4⟩
theorem RepR.whole (h : RepR g F H S v r fr) (sub : Ext F H) {x : D} (e : r.pl = some x) : Rep g H v x := by
  rcases h.ofPl e with h | ⟨a, vs, ds, rfl, rfl, e2, e3, e4⟩
  · exact h.mono sub
  · exact .lst (.inl (.inl e2)) e3 (e4.mono sub)
end
theorem RepRs.one {g : Wd} {F H : Hp} {S : Addr → Prop} {vs : List V} {r : R} {fr : List Addr} (h : RepRs g F H S vs [r] fr) : ∃ v, vs = [v] ∧ RepR g F H S v r fr := by
  cases h with
  | cons h t => cases t; exact ⟨_, rfl, by simpa using h⟩
theorem RepRs.two {g : Wd} {F H : Hp} {S : Addr → Prop} {vs : List V} {r q : R} {fr : List Addr} (h : RepRs g F H S vs [r, q] fr) : ∃ v w f1 f2, vs = [v, w] ∧ fr = f1 ++ f2 ∧ RepR g F H S v r f1 ∧ RepR g F H S w q f2 := by
  cases h with
  | cons h t =>
    obtain ⟨w, rfl, h2⟩ := t.one
    exact ⟨_, _, _, _, rfl, rfl, h, h2⟩
theorem LStep.refl {F H : Hp} {fr : List Addr} (s : Ext F H) : LStep F H fr F H [] := ⟨.refl F, .refl H, s, fun _ _ h => .inl h, fun _ h => nomatch h⟩
theorem leaf_d {g : Wd} {F H : Hp} {S : Addr → Prop} {fr : List Addr} {d : D} {Q : VK} (s : Ext F H) (k : ∀ v F' H' fr', LStep F H fr F' H' fr' → RepR g F' H' S v (.d d) fr' → fr'.Nodup → Q v H') {v : V} (h : Rep g F v d) : Q v H :=
  k v F H [] (.refl s) ⟨h, rfl⟩ List.nodup_nil
theorem ext_upd {H : Hp} {p : Addr} {o : HO} (h : H p = none) : Ext H (upd H p o) := fun a u e => by
  rw [upd_ne (ne_of_none e h)]; exact e
theorem ext_upd2 {F H : Hp} {p : Addr} {o : HO} (s : Ext F H) : Ext F H → Ext (upd F p o) (upd H p o) := fun _ a u e => by
  unfold upd at e ⊢
  split at e
  · next z => rw [if_pos z]; exact e
  · next z => rw [if_neg z]; exact s a u e
theorem fnone {F H : Hp} {p : Addr} (s : Ext F H) (h : H p = none) : F p = none := by
  cases e : F p with
  | none => rfl
  | some o => rw [s p o e] at h; cases h
theorem leaf_tup {g : Wd} {F H : Hp} {S : Addr → Prop} {fr : List Addr} {ds : List D} {Q : VK} (s : Ext F H) (k : ∀ v F' H' fr', LStep F H fr F' H' fr' → RepR g F' H' S v (.d (.tup ds)) fr' → fr'.Nodup → Q v H')
    {vs : List V} (h : Reps g F vs ds) (hl : vs.length ≤ sizeLine) {p : Addr} (hp : H p = none) : Q (.ref p) (upd H p (.tup vs)) := by
  have fp := fnone s hp
  refine k (.ref p) (upd F p (.tup vs)) (upd H p (.tup vs)) [] ⟨ext_upd fp, ext_upd hp, ext_upd2 s s, fun a o e => ?_, fun _ h => nomatch h⟩ ⟨.tup upd_same hl (h.mono (ext_upd fp)), rfl⟩ List.nodup_nil
  by_cases z : a = p
  · subst z; exact .inr (.inr (.inl hp))
  · rw [upd_ne z] at e; exact .inl e
theorem leaf_lst {g : Wd} {F H : Hp} {S : Addr → Prop} {fr : List Addr} {ds : List D} {Q : VK} (s : Ext F H) (hS : ∀ a, S a → H a ≠ none ∧ F a = none) (k : ∀ v F' H' fr', LStep F H fr F' H' fr' → RepR g F' H' S v (.own (O.l ds)) fr' → fr'.Nodup → Q v H')
    {vs : List V} (h : Reps g F vs ds) (hl : vs.length ≤ sizeLine) {p : Addr} (hp : H p = none) : Q (.ref p) (upd H p (.lst vs)) := by
  have fp := fnone s hp
  refine k (.ref p) F (upd H p (.lst vs)) [p] ⟨.refl F, ext_upd hp, s.trans (ext_upd hp), fun a o e => .inl e, fun a h => ?_⟩ ⟨.lst upd_same hl (.ofReps h), fun a h => ?_⟩ (by simp)
  · rw [List.mem_singleton] at h; subst h; exact .inr hp
  · rw [List.mem_singleton] at h; subst h; exact ⟨fp, fun z => (hS a z).1 hp⟩
def frz (F H : Hp) (fr : List Addr) : Hp := fun a => if a ∈ fr then H a else F a
theorem frz_ext {F H : Hp} {fr : List Addr} (s : Ext F H) : Ext F (frz F H fr) := fun a o e => by
  unfold frz; split
  · exact s a o e
  · exact e
theorem frz_sub {F H : Hp} {fr : List Addr} (s : Ext F H) : Ext (frz F H fr) H := fun a o e => by
  unfold frz at e; split at e
  · exact e
  · exact s a o e
theorem frz_mem {F H : Hp} {fr : List Addr} {a : Addr} (h : a ∈ fr) : frz F H fr a = H a := if_pos h
theorem frz_new {F H : Hp} {fr : List Addr} {a : Addr} {o : HO} (e : frz F H fr a = some o) : F a = some o ∨ a ∈ fr := by
  unfold frz at e; split at e
  · exact .inr (by assumption)
  · exact .inl e
def R.st : R → Option D
  | .d x => some x
  | .own o => if o.fz = true then some o.toD else none
  | .pk (.d x) => some x
  | .pk _ => none
@[simp] theorem R.st_d (x : D) : (R.d x).st = some x := rfl
@[simp] theorem R.st_own (ds : List D) : (R.own (.lst (ds.map O.d))).st = some (.lst ds) := by
  show (if (O.lst (ds.map O.d)).fz = true then some (O.lst (ds.map O.d)).toD else none) = _
  rw [show (O.lst (ds.map O.d)).fz = true from fzs_d ds, if_pos rfl, show (O.lst (ds.map O.d)).toD = .lst (toDs (ds.map O.d)) from rfl, toDs_d]
def sts : List R → Option (List D)
  | [] => some []
  | r :: rs => match r.st, sts rs with
    | some x, some xs => some (x :: xs)
    | _, _ => none
theorem RepR.st {g : Wd} {F H F' : Hp} {S : Addr → Prop} {v : V} {r : R} {fr : List Addr} (h : RepR g F H S v r fr) {x : D} (e : r.st = some x) (ex : Ext F F') (k : ∀ a ∈ fr, F' a = H a) : Rep g F' v x := by
  cases r with
  | d y => cases e; exact h.1.mono ex
  | own o =>
    unfold R.st at e
    dsimp only at e
    split at e
    · next z => cases e; exact h.1.freeze ex z fun a ha u q => (k a ha).trans q
    · cases e
  | pk o =>
    cases o with
    | d y =>
      cases e
      obtain ⟨_, fp, hr⟩ := h
      cases hr with
      | d r => exact r.mono ex
    | lst _ => cases e
    | dct _ _ => cases e
    | obj _ _ _ => cases e
    | hole => cases e
theorem RepRs.sts {g : Wd} {F H F' : Hp} {S : Addr → Prop} {vs : List V} {rs : List R} {fr : List Addr} (h : RepRs g F H S vs rs fr) {xs : List D} (e : sts rs = some xs) (ex : Ext F F') (k : ∀ a ∈ fr, F' a = H a) : Reps g F' vs xs := by
  induction h generalizing xs with
  | nil => cases e; exact .nil
  | @cons v vs r rs f fr h t ih =>
    unfold Mw.sts at e
    split at e
    · next x' xs' e1 e2 =>
      cases e
      exact .cons (h.st e1 ex fun a ha => k a (by simp [ha])) (ih e2 fun a ha => k a (by simp [ha]))
    · cases e
theorem lstep_frz {F H : Hp} {fr : List Addr} (s : Ext F H) : LStep F H fr (frz F H fr) H [] :=
  ⟨frz_ext s, .refl H, frz_sub s, fun a o e => (frz_new e).imp id .inl, fun _ h => nomatch h⟩
theorem LStep.thn {F H F1 H1 F2 H2 : Hp} {fr f2 : List Addr} (a : LStep F H fr F1 H1 []) (b : LStep F1 H1 [] F2 H2 f2) : LStep F H fr F2 H2 f2 :=
  ⟨a.ext.trans b.ext, a.exh.trans b.exh, b.sub, fun x o e => by
    rcases b.new x o e with e | e | e
    · exact a.new x o e
    · cases e
    · cases q : H x with
      | none => exact .inr (.inr (.inl q))
      | some u =>
        have q1 := a.exh x u q
        rcases e with e | ⟨xs, e⟩
        · rw [e] at q1; cases q1
        · rw [e] at q1; cases q1; exact .inr (.inr (.inr ⟨xs, q⟩)), fun x h => by
    rcases b.fre x h with h | h
    · cases h
    · cases q : H x with
      | none => exact .inr rfl
      | some u => exact absurd (a.exh x u q) (by rw [h]; simp)⟩
abbrev gOf (X : Cx) : Wd := ⟨X.K, X.mg, if X.calm = true then none else X.pn.head?⟩
abbrev SE (X : Cx) (W : WX) (e : Expr) (m : M) : Prop := PE X e (tM (gOf X) W m)
abbrev SA (X : Cx) (W : WX) (es : List Expr) (ms : List M) : Prop := PA X es (tA (gOf X) W ms)
theorem PE.wk {X : Cx} {e : Expr} {t t' : TE} (h : PE X e t) (i : ∀ σ H Q, t' σ H Q → t σ H Q) : PE X e t' := ⟨fun pins s σ H Q I q => h.run pins s σ H Q I (i σ H Q q)⟩
theorem PA.wk {X : Cx} {e : List Expr} {t t' : TA} (h : PA X e t) (i : ∀ σ H Q, t' σ H Q → t σ H Q) : PA X e t' := ⟨fun po pins s σ H Q I q => h.run po pins s σ H Q I (i σ H Q q)⟩
theorem PT.wk {X : Cx} {e : Expr} {t t' : TT} (h : PT X e t) (i : ∀ σ H Q, t' σ H Q → t σ H Q) : PT X e t' := ⟨fun pins s σ H Q I q => h.run pins s σ H Q I (i σ H Q q)⟩
theorem PW.wk {X : Cx} {e : Expr} {t t' : TT} (h : PW X e t) (i : ∀ σ H Q, t' σ H Q → t σ H Q) : PW X e t' := ⟨fun wh pins s σ H Q I q => h.run wh pins s σ H Q I (i σ H Q q)⟩
theorem PS.wk {X : Cx} {e : Stmt} {t t' : TS} (h : PS X e t) (i : ∀ D σ H, t' D σ H → t D σ H) : PS X e t' := ⟨fun pins s σ H D I q => h.run pins s σ H D I (i D σ H q)⟩
theorem PSs.wk {X : Cx} {e : List Stmt} {t t' : TS} (h : PSs X e t) (i : ∀ D σ H, t' D σ H → t D σ H) : PSs X e t' := ⟨fun pins s σ H D I q => h.run pins s σ H D I (i D σ H q)⟩
section
variable {X : Cx} {W : WX} {pos : Pos} {a b c : Expr} {es : List Expr} {ma mb mc : M} {ms : List M}
theorem a_nil : SA X W [] [] := PA.wk pa_nil fun σ H Q h => tA_nil h
theorem a_cons (ha : SE X W a ma) (hr : SA X W es ms) (hs : starEach (a :: es) X.env = (false, eval a X.env) :: starEach es X.env := by rfl) : SA X W (a :: es) (ma :: ms) := PA.wk (pa_cons ha hr hs) fun σ H Q h => tA_cons h
def nm (i : Nat) : M := fun ρ => match ρ[i]? with
  | some (.shr d) => .ok (.d d) ρ true
  | some (.mu _ o) => .ok (.pk o) ρ true
  | _ => .no
theorem tR.ret {α β : Type} {g : Wd} {W : WX} {RR : VRel α β} {m : Ro → Res α} {σ : L2.St} {H : Hp} {Q : β → Hp → Prop} (h : tR g W RR m σ H Q)
    (i : ∀ F ρ fp, Stt g F H σ ρ fp → Ob g W σ F H (Own fp) (Zq H ρ) RR (m ρ) Q → ∃ v r, m ρ = .ok r ρ true ∧ RR F H (Own fp) v r []) : ∃ v, ∃ F ρ fp r, Stt g F H σ ρ fp ∧ m ρ = .ok r ρ true ∧ RR F H (Own fp) v r [] ∧ Q v H := by
  obtain ⟨F, ρ, fp, st, ob⟩ := h
  obtain ⟨v, r, e, rr⟩ := i F ρ fp st ob
  exact ⟨v, F, ρ, fp, r, st, e, rr, ob.2.1 r ρ true e v F H fp [] ⟨.refl F, fun _ _ _ h => h, fun _ _ h => .inl h, fun x h => .inl (h.elim id fun z => nomatch z)⟩ st rr List.nodup_nil ⟨.refl ρ, fun _ => ⟨.refl H, rfl⟩⟩⟩
theorem tM_nm {g : Wd} {i : Nat} {σ : L2.St} {H : Hp} {Q : VK} (h : tM g W (nm i) σ H Q) : tVar i σ H Q := by
  obtain ⟨F, ρ, fp, st, ob⟩ := h
  have fin : ∀ {v : V} {r : R}, σ[i]? = some (some v) → nm i ρ = .ok r ρ true → RepR g F H (Own fp) v r [] → tVar i σ H Q := fun {v r} e1 e2 rr =>
    ⟨v, e1, ob.2.1 r ρ true e2 v F H fp [] ⟨.refl F, fun _ _ _ h => h, fun _ _ h => .inl h, fun x h => .inl (h.elim id fun z => nomatch z)⟩ st rr List.nodup_nil ⟨.refl ρ, fun _ => ⟨.refl H, rfl⟩⟩⟩
  cases e : ρ[i]? with
  | none => exact absurd (by unfold nm; rw [e]) ob.1
  | some x =>
    cases x with
    | un => exact absurd (by unfold nm; rw [e]) ob.1
    | xc x => exact absurd (by unfold nm; rw [e]) ob.1
    | shr d =>
      obtain ⟨v, e1, r⟩ := st.shr i d e
      exact fin (r := .d d) e1 (by unfold nm; rw [e]) ⟨r, rfl⟩
    | mu b o =>
      obtain ⟨v, e1, r⟩ := st.mu i b o e
      exact fin (r := .pk o) e1 (by unfold nm; rw [e]) ⟨rfl, _, r⟩
theorem s_nm {i : Nat} {x : Str} (hN : X.N[i]? = some x) (hv : Vis X.env.scope x) (hd : (x == ("__debug__" : Str)) = false := by decide) (hcd : (x == ("__classdict__" : Str)) = false := by decide) : SE X W (.Name x pos) (nm i) :=
  PE.wk (pe_var hN hv hd hcd) fun σ H Q h => tM_nm h
def mC (d : D) : M := fun ρ => .ok (.d d) ρ true
theorem tM_C {g : Wd} {d : D} {v : V} {σ : L2.St} {H : Hp} {Q : VK} (h : tM g W (mC d) σ H Q) (r : ∀ F, Rep g F v d) : tC v σ H Q := by
  obtain ⟨F, ρ, fp, st, ob⟩ := h
  exact ob.2.1 (.d d) ρ true rfl v F H fp [] ⟨.refl F, fun _ _ _ h => h, fun _ _ h => .inl h, fun x h => .inl (h.elim id fun z => nomatch z)⟩ st ⟨r F, rfl⟩ List.nodup_nil ⟨.refl ρ, fun _ => ⟨.refl H, rfl⟩⟩
theorem s_int {i : Int} {j : Nat} : SE X W (.Constant (.int i) j pos) (mC (.int i)) := PE.wk pe_int fun σ H Q h => tM_C h fun F => .int i
theorem s_bl {i : Bool} {j : Nat} : SE X W (.Constant (.bool i) j pos) (mC (.bl i)) := PE.wk pe_bl fun σ H Q h => tM_C h fun F => .bl i
theorem s_non {j : Nat} : SE X W (.Constant .none j pos) (mC .non) := PE.wk pe_non fun σ H Q h => tM_C h fun F => .non
theorem rep_str {g : Wd} {F : Hp} {x : Str} {s : List Nat} (e : x.cps.toList = s) (hl : s.length ≤ sizeLine) : Rep g F (.str x) (.str s) := by
  subst e
  obtain ⟨c⟩ := x
  have := Rep.str (g := g) (F := F) (s := c.toList) hl
  simpa using this
theorem s_str {x : Str} {s : List Nat} {j : Nat} (e : x.cps.toList = s := by rfl) (hl : s.length ≤ sizeLine := by decide) : SE X W (.Constant (.str x) j pos) (mC (.str s)) := PE.wk pe_str fun σ H Q h => tM_C h fun F => rep_str e hl
theorem s_glob {x : Str} {v : V} {u : Value} {d : D} (hg : Gl X x) (hm : X.mg x = some u) (r : RelV v u) (hr : ∀ F, Rep (gOf X) F v d) (hd : (x == ("__debug__" : Str)) = false := by decide) : SE X W (.Name x pos) (mC d) :=
  PE.wk (pe_glob hg hm r hd) fun σ H Q h => tM_C h hr
end
end
end Mw
set_option Elab.async false
set_option linter.all false
set_option maxRecDepth 100000
set_option autoImplicit false
namespace Mw
open PySem PySem.Spec PyProof.Rows L2
noncomputable section
theorem ladd (l : Addr) (items : Array Value) (n : Nat) (sl1 : Array (Option Value)) (b : Addr) (items2 : Array Value) (n2 : Nat) (sl2 : Array (Option Value)) (hc0 : items.size + items2.size ≤ sizeLine) :
    Meets (Builtin.«list.__add__» ⟨[.ref l, .ref b], []⟩) (fun _ R s => s.heap.get? l = some { cls := .type "list", dict := none, data := .seq items n, slots := sl1 } ∧ s.heap.get? b = some { cls := .type "list", dict := none, data := .seq items2 n2, slots := sl2 } ∧ R (.ok (.ret (Value.ref s.heap.objs.size))) { s with heap := s.heap.push { cls := Value.type "list", data := Data.seq (items ++ items2) }, toks := s.toks }) :=
  .of_wp fun prog w A R s h => by obtain ⟨hp, g, d, tk, os⟩ := s; obtain ⟨hl, hb, h⟩ := h; have f1 := AutoSeq1.idx_int; have f2 := AutoSeq1.sub_tuple_tuple; have f3 := AutoSeq1.sub_list_list; have f4 := AutoSeq1.sub_tuple_list; have f5 := AutoSeq1.sub_list_tuple; wp_walk using AutoSeq1.wpAny_loadPart' hl, AutoSeq1.wpAny_loadPart' hb; exact ⟨_, rfl, h⟩
section
variable {X : Cx}
def rCatL (K : PySem.W.Frag) : R2 := fun x y H Q => ∃ l b xs zs, x = .ref l ∧ y = .ref b ∧ SqL K H l xs ∧ SqL K H b zs ∧ xs.length + zs.length ≤ sizeLine ∧ ∀ p, H p = none → Q (.ref p) (upd H p (.lst (xs ++ zs)))
theorem op_catL : OpR X (binaryOp .Add) (rCatL X.K) := by
  intro pins s σ H x y v u Q I rx ry h
  obtain ⟨l, b, xs, zs, rfl, rfl, hH, hB, hz, q⟩ := h
  cases rx
  cases ry
  obtain ⟨its, r, ⟨⟨cls, dd, data, sl⟩, n, ho, hc, hdn, hd⟩, hlen⟩ := I.list hH
  obtain ⟨its2, r2, ⟨⟨cls2, dd2, data2, sl2⟩, n2, ho2, hc2, hdn2, hd2⟩, hlen2⟩ := I.list hB
  simp only at hc hd hdn hc2 hd2 hdn2
  subst hc hd hdn hc2 hd2 hdn2
  have e1 := r.length
  have e2 := r2.length
  refine concat_meets ⟨_, ho, rfl⟩ ⟨_, ho2, rfl⟩ noFill_list_add seq_list_add F.slot_list_add F.entry_list_add (F.args_list_add_2 _ _) (ladd l its.toArray n _ b its2.toArray n2 _ (by rw [List.size_toArray, List.size_toArray]; omega)) ⟨ho, ho2, ?_⟩
  have ea : its.toArray ++ its2.toArray = (its ++ its2).toArray := by simp
  rw [ea]
  exact ⟨.ref _, _, I.lnew (t' := s.toks) (r.append r2) (by rw [List.length_append]; omega), rfl, q _ I.fresh⟩
end
section
variable {X : Cx} {W : WX} {pos : Pos} {a b c : Expr} {es : List Expr} {ma mb mc : M} {ms : List M}
abbrev leaf1 (f : R → Option R) : List R → Option R
  | [x] => f x
  | _ => none
abbrev leaf2 (f : R → R → Option R) : List R → Option R
  | [x, y] => f x y
  | _ => none
structure LF (g : Wd) (leaf : Option R) (F H : Hp) (S : Addr → Prop) (fr : List Addr) (Q : VK) : Prop where
  sub : Ext F H
  hS : ∀ a, S a → H a ≠ none ∧ F a = none
  nd : fr.Nodup
  go : ∃ rr, leaf = some rr ∧ ∀ v F' H' fr', LStep F H fr F' H' fr' → RepR g F' H' S v rr fr' → fr'.Nodup → Q v H'
theorem LF.val {g : Wd} {leaf : Option R} {F H : Hp} {S : Addr → Prop} {fr : List Addr} {Q : VK} (l : LF g leaf F H S fr Q) {d : D} (e : leaf = some (.d d)) {v : V} (h : Rep g F v d) : Q v H := by
  obtain ⟨rr, e', k⟩ := l.go
  rw [e] at e'; cases e'
  exact leaf_d l.sub k h
theorem LF.tup {g : Wd} {leaf : Option R} {F H : Hp} {S : Addr → Prop} {fr : List Addr} {Q : VK} (l : LF g leaf F H S fr Q) {ds : List D} (e : leaf = some (.d (.tup ds))) {vs : List V} (h : Reps g F vs ds) (hl : vs.length ≤ sizeLine) {p : Addr} (hp : H p = none) : Q (.ref p) (upd H p (.tup vs)) := by
  obtain ⟨rr, e', k⟩ := l.go
  rw [e] at e'; cases e'
  exact leaf_tup l.sub k h hl hp
theorem LF.lst {g : Wd} {leaf : Option R} {F H : Hp} {S : Addr → Prop} {fr : List Addr} {Q : VK} (l : LF g leaf F H S fr Q) {ds : List D} (e : leaf = some (.own (.lst (ds.map O.d)))) {vs : List V} (h : Reps g F vs ds) (hl : vs.length ≤ sizeLine) {p : Addr} (hp : H p = none) : Q (.ref p) (upd H p (.lst vs)) := by
  obtain ⟨rr, e', k⟩ := l.go
  rw [e] at e'; cases e'
  exact leaf_lst l.sub l.hS k h hl hp
theorem LF.has {g : Wd} {leaf : Option R} {F H : Hp} {S : Addr → Prop} {fr : List Addr} {Q : VK} (l : LF g leaf F H S fr Q) : ∃ r, leaf = some r := l.go.imp fun _ h => h.1
def LOk1 (g : Wd) (f : R → Option R) (r : V → Hp → VK → Prop) : Prop := ∀ F H S x p fr Q, RepR g F H S x p fr → LF g (f p) F H S fr Q → r x H Q
def LOk2 (g : Wd) (f : R → R → Option R) (r : R2) : Prop := ∀ F H S x y p q f1 f2 Q, RepR g F H S x p f1 → RepR g F H S y q f2 → LF g (f p q) F H S (f1 ++ f2) Q → r x y H Q
theorem LOk2.at {g : Wd} {f : R → R → Option R} {r : R2} (h : LOk2 g f r) {vs : List V} {H : Hp} {Q : VK} (l : LeafG g (leaf2 f) vs H Q) : ∃ x y, vs = [x, y] ∧ r x y H Q := by
  obtain ⟨F, S, rs, fr, rr, sub, hS, rp, nd, e, k⟩ := l
  match rs, e, rp with
  | [p, q], e, rp =>
    obtain ⟨v, w, f1, f2, rfl, rfl, h1, h2⟩ := rp.two
    exact ⟨v, w, rfl, h F H S v w p q f1 f2 Q h1 h2 ⟨sub, hS, nd, rr, e, k⟩⟩
theorem LOk1.at {g : Wd} {f : R → Option R} {r : V → Hp → VK → Prop} (h : LOk1 g f r) {vs : List V} {H : Hp} {Q : VK} (l : LeafG g (leaf1 f) vs H Q) : ∃ x, vs = [x] ∧ r x H Q := by
  obtain ⟨F, S, rs, fr, rr, sub, hS, rp, nd, e, k⟩ := l
  match rs, e, rp with
  | [p], e, rp =>
    obtain ⟨v, rfl, h1⟩ := rp.one
    exact ⟨v, rfl, h F H S v p fr Q h1 ⟨sub, hS, nd, rr, e, k⟩⟩
def m1 (f : R → Option R) (ma : M) : M := mOps [ma] (leaf1 f)
def m2 (f : R → R → Option R) (ma mb : M) : M := mOps [ma, mb] (leaf2 f)
theorem tM_m1 {g : Wd} {f : R → Option R} {r : V → Hp → VK → Prop} (h : LOk1 g f r) {σ : L2.St} {H : Hp} {Q : VK} (t : tM g W (m1 f ma) σ H Q) : tM g W ma σ H fun x H1 => r x H1 Q := by
  refine (tA_cons (tM_ops t)).imp fun x H1 q => ?_
  obtain ⟨y, e, q⟩ := h.at (tA_nil q)
  cases e; exact q
theorem tM_m2 {g : Wd} {f : R → R → Option R} {r : R2} (h : LOk2 g f r) {σ : L2.St} {H : Hp} {Q : VK} (t : tM g W (m2 f ma mb) σ H Q) : tOp r (tM g W ma) (tM g W mb) σ H Q := by
  refine (tA_cons (tM_ops t)).imp fun x H1 q => (tA_cons q).imp fun y H2 q => ?_
  obtain ⟨x', y', e, q⟩ := h.at (tA_nil q)
  cases e; exact q
theorem s_bin {op : Operator} {f : R → R → Option R} {r : R2} (ho : OpR X (binaryOp op) r) (hl : LOk2 (gOf X) f r) (ha : SE X W a ma) (hb : SE X W b mb) : SE X W (.BinOp a op b pos) (m2 f ma mb) :=
  PE.wk (pe_op ho ha hb) fun σ H Q h => tM_m2 hl h
theorem s_cmp {op : CmpOp} {f : R → R → Option R} {r : R2} (ho : OpR X (compareOp op) r) (hl : LOk2 (gOf X) f r) (ha : SE X W a ma) (hb : SE X W b mb) (hm : behindInMarks op b = false) : SE X W (.Compare a [op] [b] pos) (m2 f ma mb) :=
  PE.wk (pe_cmpR ho ha hb hm) fun σ H Q h => tM_m2 hl h
theorem s_ix {f : R → R → Option R} {r : R2} (ho : IxR X r) (hl : LOk2 (gOf X) f r) (ha : SE X W a ma) (hb : SE X W b mb) (hs : PlainIx b) : SE X W (.Subscript a b pos) (m2 f ma mb) :=
  PE.wk (pe_ix ho ha hb hs) fun σ H Q h => tM_m2 hl h
theorem LOk2.or {g : Wd} {f : R → R → Option R} {r r' : R2} (h : ∀ F H S x y p q f1 f2 Q, RepR g F H S x p f1 → RepR g F H S y q f2 → LF g (f p q) F H S (f1 ++ f2) Q → r x y H Q ∨ r' x y H Q) : LOk2 g f (fun x y H Q => r x y H Q ∨ r' x y H Q) := h
def lAdd (p q : R) : Option R := match p.pl, q.pl with
  | some (.int i), some (.int j) => some (.d (.int (i + j)))
  | some (.str s), some (.str t) => if lenOk (s.length + t.length) = true then some (.d (.str (s ++ t))) else none
  | some (.tup s), some (.tup t) => if lenOk (s.length + t.length) = true then some (.d (.tup (s ++ t))) else none
  | some (.lst s), some (.lst t) => if lenOk (s.length + t.length) = true then some (.own (.lst ((s ++ t).map O.d))) else none
  | _, _ => none
theorem str_app {s t : List Nat} : (⟨s.toArray⟩ : Str) ++ ⟨t.toArray⟩ = ⟨(s ++ t).toArray⟩ := by
  show (⟨s.toArray ++ t.toArray⟩ : Str) = _
  simp
theorem str_len {s : List Nat} : (⟨s.toArray⟩ : Str).length = s.length := by
  show s.toArray.size = _
  simp
theorem op_addA : OpR X (binaryOp .Add) (fun x y H Q => (rI0 fun i j => .int (i + j)) x y H Q ∨ ((fun x y H Q => ∃ i j, x = .str i ∧ y = .str j ∧ i.length + j.length ≤ sizeLine ∧ Q (.str (i ++ j)) H) x y H Q ∨ (rCatA X.K x y H Q ∨ rCatL X.K x y H Q))) :=
  op_add.or (op_add_str.or (op_catA.or op_catL))
theorem l_add : LOk2 (gOf X) lAdd (fun x y H Q => (rI0 fun i j => .int (i + j)) x y H Q ∨ ((fun x y H Q => ∃ i j, x = .str i ∧ y = .str j ∧ i.length + j.length ≤ sizeLine ∧ Q (.str (i ++ j)) H) x y H Q ∨ (rCatA X.K x y H Q ∨ rCatL X.K x y H Q))) := by
  intro F H S x y p q f1 f2 Q rx ry l
  obtain ⟨rr, e⟩ := l.has
  have e0 := e
  unfold lAdd at e
  split at e
  · next i j e1 e2 =>
    cases e
    exact .inl ⟨i, j, rx.int e1, ry.int e2, l.val e0 (.int _)⟩
  · next s t e1 e2 =>
    split at e
    · next hl =>
      have hl := lenOk_le hl
      cases e
      obtain ⟨rfl, h1⟩ := rx.str e1
      obtain ⟨rfl, h2⟩ := ry.str e2
      rw [← sizeLine_eq] at hl
      refine .inr (.inl ⟨_, _, rfl, rfl, by rw [str_len, str_len]; exact hl, ?_⟩)
      rw [str_app]
      exact l.val e0 (.str (by rw [List.length_append]; exact hl))
    · cases e
  · next s t e1 e2 =>
    split at e
    · next hl =>
      have hl := lenOk_le hl
      cases e
      obtain ⟨a1, vs, rfl, k1, n1, r1⟩ := rx.tupF e1
      obtain ⟨a2, ws, rfl, k2, n2, r2⟩ := ry.tupF e2
      rw [← sizeLine_eq] at hl
      have hl' : vs.length + ws.length ≤ sizeLine := by rw [r1.length, r2.length]; exact hl
      refine .inr (.inr (.inl ⟨a1, a2, vs, ws, rfl, rfl, l.sub.sqT (.inl (.inl k1)), l.sub.sqT (.inl (.inl k2)), hl', fun z => ?_, fun _ z => ?_, fun _ _ p hp => ?_⟩))
      · subst z
        have z : s = [] := List.eq_nil_of_length_eq_zero r1.length.symm
        subst z
        exact l.val e0 (.tup k2 n2 (by simpa using r2))
      · subst z
        have z : t = [] := List.eq_nil_of_length_eq_zero r2.length.symm
        subst z
        exact l.val e0 (.tup k1 n1 (by simpa using r1))
      · exact l.tup e0 (r1.app r2) (by rw [List.length_append]; exact hl') hp
    · cases e
  · next s t e1 e2 =>
    split at e
    · next hl =>
      have hl := lenOk_le hl
      cases e
      obtain ⟨a1, vs, rfl, k1, n1, r1⟩ := rx.lst l.sub e1
      obtain ⟨a2, ws, rfl, k2, n2, r2⟩ := ry.lst l.sub e2
      rw [← sizeLine_eq] at hl
      have hl' : vs.length + ws.length ≤ sizeLine := by rw [r1.length, r2.length]; exact hl
      exact .inr (.inr (.inr ⟨a1, a2, vs, ws, rfl, rfl, k1, k2, hl', fun p hp => l.lst e0 (r1.app r2) (by rw [List.length_append]; exact hl') hp⟩))
    · cases e
  · cases e
theorem s_add (ha : SE X W a ma) (hb : SE X W b mb) : SE X W (.BinOp a .Add b pos) (m2 lAdd ma mb) := s_bin op_addA l_add ha hb
def lI (f : Int → Int → Option D) (p q : R) : Option R := match p.pl, q.pl with
  | some (.int i), some (.int j) => (f i j).map R.d
  | _, _ => none
theorem lI_some {f : Int → Int → Option D} {p q : R} {rr : R} (e : lI f p q = some rr) : ∃ i j d, p.pl = some (.int i) ∧ q.pl = some (.int j) ∧ f i j = some d ∧ rr = .d d := by
  unfold lI at e
  split at e
  · next i j e1 e2 =>
    cases q' : f i j with
    | none => rw [q'] at e; cases e
    | some d => rw [q'] at e; cases e; exact ⟨i, j, d, e1, e2, q', rfl⟩
  · cases e
theorem l_I {f : Int → Int → Option D} {C : Int → Int → Prop} {h : Int → Int → V} (k : ∀ i j d, f i j = some d → C i j ∧ ∀ F, Rep (gOf X) F (h i j) d) : LOk2 (gOf X) (lI f) (rI C h) := by
  intro F H S x y p q f1 f2 Q rx ry l
  obtain ⟨rr, e⟩ := l.has
  obtain ⟨i, j, d, e1, e2, e3, rfl⟩ := lI_some e
  exact ⟨i, j, rx.int e1, ry.int e2, (k i j d e3).1, l.val e ((k i j d e3).2 F)⟩
theorem l_I0 {f : Int → Int → Option D} {h : Int → Int → V} (k : ∀ i j d, f i j = some d → ∀ F, Rep (gOf X) F (h i j) d) : LOk2 (gOf X) (lI f) (rI0 h) := by
  intro F H S x y p q f1 f2 Q rx ry l
  obtain ⟨rr, e⟩ := l.has
  obtain ⟨i, j, d, e1, e2, e3, rfl⟩ := lI_some e
  exact ⟨i, j, rx.int e1, ry.int e2, l.val e (k i j d e3 F)⟩
abbrev lSub := lI fun i j => some (.int (i - j))
abbrev lMod := lI fun i j => if modOk j = true then some (.int (i % j)) else none
abbrev lDiv := lI fun i j => if divOk j = true then some (.int (i / j)) else none
abbrev lPow := lI fun i j => if powOk i j = true then some (.int (i ^ j.toNat)) else none
abbrev lLt := lI fun i j => some (.bl (decide (i < j)))
abbrev lLe := lI fun i j => some (.bl (decide (i ≤ j)))
abbrev lGt := lI fun i j => some (.bl (decide (j < i)))
abbrev lGe := lI fun i j => some (.bl (decide (j ≤ i)))
theorem s_sub (ha : SE X W a ma) (hb : SE X W b mb) : SE X W (.BinOp a .Sub b pos) (m2 lSub ma mb) := s_bin op_sub (l_I0 fun i j d e F => by cases e; exact .int _) ha hb
theorem s_mod (ha : SE X W a ma) (hb : SE X W b mb) : SE X W (.BinOp a .Mod b pos) (m2 lMod ma mb) := s_bin op_mod (l_I fun i j d e => by
  split at e
  · cases e; exact ⟨modOk_iff (by assumption), fun F => .int _⟩
  · cases e) ha hb
theorem s_div (ha : SE X W a ma) (hb : SE X W b mb) : SE X W (.BinOp a .FloorDiv b pos) (m2 lDiv ma mb) := s_bin op_fdiv (l_I fun i j d e => by
  split at e
  · cases e; exact ⟨divOk_iff (by assumption), fun F => .int _⟩
  · cases e) ha hb
theorem s_pow (ha : SE X W a ma) (hb : SE X W b mb) : SE X W (.BinOp a .Pow b pos) (m2 lPow ma mb) := s_bin op_pow (l_I fun i j d e => by
  split at e
  · next h => have h := powOk_iff h; cases e; exact ⟨⟨h.1, by omega, by have := h.2.2; omega⟩, fun F => .int _⟩
  · cases e) ha hb
abbrev lNeg (p : R) : Option R := match p.pl with
  | some (.int i) => some (.d (.int (-i)))
  | _ => none
end
end
end Mw
set_option Elab.async false
set_option linter.all false
set_option maxRecDepth 100000
set_option autoImplicit false
namespace Mw
open PySem PySem.Spec PyProof.Rows L2
noncomputable section
section
variable {X : Cx} {W : WX} {pos : Pos} {a b c : Expr} {es : List Expr} {ma mb mc : M} {ms : List M}
def rRepS : R2 := fun x y H Q => ∃ s n, x = .str s ∧ y = .int n ∧ 0 ≤ n ∧ n ≤ 1000 ∧ s.length ≤ 1000 ∧ Q (.str ⟨(List.replicate n.toNat s.cps.toList).flatten.toArray⟩) H
theorem size_repS (its : List Nat) : ∀ (m : Nat) (acc : Array Nat), (List.foldl (fun x1 x2 => x1 ++ x2) acc (List.replicate m its.toArray)) = acc ++ (List.replicate m its).flatten.toArray := by
  intro m
  induction m with
  | zero => intro acc; simp
  | succ m ih => intro acc; rw [List.replicate_succ, List.foldl_cons, ih, List.replicate_succ, List.flatten_cons]; simp [Array.append_assoc]
theorem flat_len {α : Type} (m : Nat) (l : List α) : (List.replicate m l).flatten.length = m * l.length := by
  induction m with
  | zero => simp
  | succ m ih => rw [List.replicate_succ, List.flatten_cons, List.length_append, ih, Nat.succ_mul, Nat.add_comm]
theorem op_repS : OpR X (binaryOp .Mult) rRepS := by
  intro pins s σ H x y v u Q I rx ry h
  obtain ⟨z, n, rfl, rfl, h0, h1, hz, q⟩ := h
  obtain ⟨t, rfl⟩ := rx
  obtain ⟨t', rfl⟩ := ry
  obtain ⟨⟨l⟩⟩ := z
  have hz : l.length ≤ 1000 := hz
  have sl : (1000 * 1000 : Nat) ≤ sizeLine := by rw [sizeLine_eq]; decide
  have hm : l.length * n.toNat ≤ 1000 * 1000 := Nat.mul_le_mul hz (by omega)
  have hlen : ((⟨⟨l⟩⟩ : Str)).length = l.length := rfl
  have n1 : ¬ n < -(2 ^ 63 : Int) := by omega
  have n2 : ¬ n ≥ (2 ^ 63 : Int) := by omega
  refine P.mul_str (by rw [decide_eq_false n1, decide_eq_false n2]; rfl) (fun h2 _ => ?_) (fun h2 _ => ?_) ?_
  · rw [hlen]
    have : (1000 : Int) ≤ (2 ^ 63 - 1) / n := by
      have : (2 ^ 63 - 1) / 1000 ≤ (2 ^ 63 - 1) / n := by
        have e1 : (2 ^ 63 - 1 : Int) / 1000 * n ≤ 2 ^ 63 - 1 := by omega
        exact Int.le_ediv_of_mul_le (by omega) e1
      omega
    omega
  · rw [hlen]
    unfold Builtin.Str.tooLong
    exact decide_eq_false (by omega)
  · have fin : ∀ (w : Str), w = ⟨(List.replicate n.toNat l).flatten.toArray⟩ → Q (.str w) H := fun w e => by rw [e]; exact q
    by_cases hn : n < 1
    · rw [if_pos hn]
      have : n = 0 := by omega
      subst this
      exact ⟨by decide, .str _, H, I.tok _, ⟨_, rfl⟩, fin _ rfl⟩
    · rw [if_neg hn]
      by_cases hk : (n == 1 || (⟨⟨l⟩⟩ : Str).length == 0) = true
      · rw [if_pos hk]
        refine ⟨.str ⟨⟨l⟩⟩, H, I, ⟨_, rfl⟩, fin _ ?_⟩
        rcases Bool.or_eq_true_iff.mp hk with hk | hk
        · have : n = 1 := by simpa using hk
          subst this; simp
        · have : l = [] := List.eq_nil_of_length_eq_zero (show l.length = 0 by simpa using (show (l.length == 0) = true from hk))
          subst this; simp
      · rw [if_neg hk]
        have e := size_repS l n.toNat #[]
        simp only [Array.empty_append] at e
        refine ⟨?_, .str _, H, I.tok _, ⟨_, rfl⟩, fin _ (by rw [← e])⟩
        show (List.foldl (fun x1 x2 => x1 ++ x2) #[] (List.replicate n.toNat l.toArray)).size ≤ sizeLine
        rw [e, List.size_toArray, flat_len]
        rw [Nat.mul_comm] at hm
        omega
def lMul (p q : R) : Option R := match p.pl, q.pl with
  | some (.int i), some (.int j) => if mulOk i j = true then some (.d (.int (i * j))) else none
  | some (.str s), some (.int n) => if repOk n s.length = true then some (.d (.str (List.replicate n.toNat s).flatten)) else none
  | some (.lst _), some (.int n) => match p.ol with
    | some s => if repOk n s.length = true then some (.own (.lst ((List.replicate n.toNat s).flatten.map O.d))) else none
    | none => none
  | _, _ => none
theorem Reps.flat {g : Wd} {F : Hp} {vs : List V} {ds : List D} (h : Reps g F vs ds) : ∀ n : Nat, Reps g F (List.replicate n vs).flatten (List.replicate n ds).flatten
  | 0 => .nil
  | n + 1 => by
    rw [List.replicate_succ, List.replicate_succ, List.flatten_cons, List.flatten_cons]
    exact h.app (Reps.flat h n)
theorem op_mulA : OpR X (binaryOp .Mult) (fun x y H Q => (rI CMul fun i j => .int (i * j)) x y H Q ∨ (rRepS x y H Q ∨ rRep x y H Q)) := op_mul.or (op_repS.or op_rep)
theorem l_mul : LOk2 (gOf X) lMul (fun x y H Q => (rI CMul fun i j => .int (i * j)) x y H Q ∨ (rRepS x y H Q ∨ rRep x y H Q)) := by
  intro F H S x y p q f1 f2 Q rx ry l
  obtain ⟨rr, e⟩ := l.has
  have e0 := e
  unfold lMul at e
  split at e
  · next i j e1 e2 =>
    split at e
    · next hc =>
      have hc := mulOk_iff hc
      cases e
      exact .inl ⟨i, j, rx.int e1, ry.int e2, by unfold CMul; omega, l.val e0 (.int _)⟩
    · cases e
  · next s n e1 e2 =>
    split at e
    · next hc =>
      have hc := repOk_iff hc
      cases e
      obtain ⟨rfl, h1⟩ := rx.str e1
      refine .inr (.inl ⟨_, n, rfl, ry.int e2, hc.1, hc.2.1, by rw [str_len]; exact hc.2.2, l.val e0 (.str ?_)⟩)
      show (List.replicate n.toNat s).flatten.length ≤ sizeLine
      rw [flat_len, sizeLine_eq]
      have := Nat.mul_le_mul (show n.toNat ≤ 1000 by omega) hc.2.2
      omega
    · cases e
  · next s' n e1 e2 =>
    split at e
    · next s e3 =>
      split at e
      · next hc =>
        have hc := repOk_iff hc
        cases e
        obtain ⟨a1, vs, rfl, k1, n1, r1⟩ := rx.ofOl e3
        have hz : vs.length * n.toNat ≤ sizeLine := by
          rw [sizeLine_eq, r1.length]
          have := Nat.mul_le_mul hc.2.2 (show n.toNat ≤ 1000 by omega)
          omega
        exact .inr (.inr ⟨a1, n, vs, rfl, ry.int e2, k1, by omega, by omega, hz, fun p hp => l.lst e0 (r1.flat _) (by rw [flat_len, Nat.mul_comm]; exact hz) hp⟩)
      · cases e
    · cases e
  · cases e
theorem s_mul (ha : SE X W a ma) (hb : SE X W b mb) : SE X W (.BinOp a .Mult b pos) (m2 lMul ma mb) := s_bin op_mulA l_mul ha hb
def D.isNon : D → Bool
  | .non => true
  | _ => false
theorem rep_non {g : Wd} {F : Hp} {v : V} {d : D} (h : Rep g F v d) : decide (v = .non) = d.isNon := by
  cases h <;> first | rfl | exact decide_eq_false (fun z => nomatch z)
def lIsN (p q : R) : Option R := match p.pl, q.pl with
  | some x, some .non => some (.d (.bl x.isNon))
  | _, _ => none
def lNotN (p q : R) : Option R := match p.pl, q.pl with
  | some x, some .non => some (.d (.bl (!x.isNon)))
  | _, _ => none
theorem s_isN (ha : SE X W a ma) (hb : SE X W b mb) : SE X W (.Compare a [.Is] [b] pos) (m2 lIsN ma mb) := s_cmp op_isN (by
  intro F H S x y p q f1 f2 Q rx ry l
  obtain ⟨rr, e⟩ := l.has
  have e0 := e
  unfold lIsN at e
  split at e
  · next i e1 e2 =>
    cases e
    refine ⟨ry.non e2, ?_⟩
    rw [rep_non (rx.whole l.sub e1)]
    exact l.val e0 (.bl _)
  · cases e) ha hb (nomark _)
mutual
def D.py : D → PyData
  | .non => .none
  | .bl b => .bool b
  | .int i => .int i
  | .str s => .str ⟨s.toArray⟩
  | .tup xs => .tuple (pys xs)
  | .lst xs => .list (pys xs)
  | .obj _ _ _ => .dict []
def pys : List D → List PyData
  | [] => []
  | x :: xs => x.py :: pys xs
end
mutual
def D.nob : D → Bool
  | .tup xs => nobs xs
  | .lst xs => nobs xs
  | .obj _ _ _ => false
  | _ => true
def nobs : List D → Bool
  | [] => true
  | x :: xs => x.nob && nobs xs
end
mutual
theorem Rep.dp {g : Wd} {H : Hp} : ∀ {v : V} {d : D}, Rep g H v d → d.nob = true → Dp g.K H v d.py
  | _, _, .non, _ => .non
  | _, _, .bl b, _ => .bl b
  | _, _, .int i, _ => .int i
  | _, _, .str h, _ => .str _
  | _, _, .tup h hl r, n => .tup (.inl (.inl h)) (Reps.dp r n)
  | _, _, .lst h hl r, n => .lst h (Reps.dp r n)
  | _, _, .obj hc h hd hn r, n => nomatch n
theorem Reps.dp {g : Wd} {H : Hp} : ∀ {vs : List V} {ds : List D}, Reps g H vs ds → nobs ds = true → DpAll g.K H vs (pys ds)
  | _, _, .nil, _ => .nil
  | _, _, .cons h t, n => by
    have n := Bool.and_eq_true_iff.mp (show (_ && _) = true from n)
    exact .cons (Rep.dp h n.1) (Reps.dp t n.2)
end
theorem pys_map (ds : List D) : pys ds = ds.map D.py := by
  induction ds with
  | nil => rfl
  | cons d ds ih => show d.py :: pys ds = _; rw [ih]; rfl
def D.shp (d : D) : Bool := d.nob && SeqAt.shaped d.py
def D.eqv (x y : D) : Bool := PyData.eqv x.py y.py
@[simp] theorem eqv_int (i j : Int) : D.eqv (.int i) (.int j) = (i == j) := rfl
@[simp] theorem eqv_bl (i j : Bool) : D.eqv (.bl i) (.bl j) = (i == j) := rfl
@[simp] theorem shp_int (i : Int) : D.shp (.int i) = true := rfl
@[simp] theorem shp_bl (i : Bool) : D.shp (.bl i) = true := rfl
@[simp] theorem shp_non : D.shp .non = true := rfl
def lEq (p q : R) : Option R := match p.pl, q.pl with
  | some (.int i), some (.int j) => some (.d (.bl (decide (i = j))))
  | some (.bl i), some (.bl j) => some (.d (.bl (decide (i = j))))
  | some (.str i), some (.str j) => some (.d (.bl (decide (i = j))))
  | some x, some y => if x.shp = true ∧ y.shp = true then some (.d (.bl (D.eqv x y))) else none
  | _, _ => none
def lNe (p q : R) : Option R := match p.pl, q.pl with
  | some (.int i), some (.int j) => some (.d (.bl (!decide (i = j))))
  | some (.bl i), some (.bl j) => some (.d (.bl (!decide (i = j))))
  | some (.str i), some (.str j) => some (.d (.bl (!decide (i = j))))
  | some x, some y => if x.shp = true ∧ y.shp = true then some (.d (.bl (!D.eqv x y))) else none
  | _, _ => none
theorem shp_dp {g : Wd} {H : Hp} {v : V} {d : D} (h : Rep g H v d) (s : d.shp = true) : Dp g.K H v d.py ∧ SeqAt.shaped d.py = true := by
  have s := Bool.and_eq_true_iff.mp s
  exact ⟨h.dp s.1, s.2⟩
theorem l_eq : LOk2 (gOf X) lEq (fun x y H Q => rEq x y H Q ∨ rEqD X.K x y H Q) := by
  intro F H S x y p q f1 f2 Q rx ry l
  obtain ⟨rr, e⟩ := l.has
  have e0 := e
  unfold lEq at e
  split at e
  · next i j e1 e2 =>
    cases e
    rw [rx.int e1, ry.int e2]
    refine .inl ⟨rfl, ?_⟩
    rw [show decide (V.int i = V.int j) = decide (i = j) from decide_eq_decide.mpr ⟨fun h => V.int.inj h, fun h => by rw [h]⟩]
    exact l.val e0 (.bl _)
  · next i j e1 e2 =>
    cases e
    rw [rx.bl e1, ry.bl e2]
    refine .inl ⟨rfl, ?_⟩
    rw [show decide (V.bl i = V.bl j) = decide (i = j) from decide_eq_decide.mpr ⟨fun h => V.bl.inj h, fun h => by rw [h]⟩]
    exact l.val e0 (.bl _)
  · next i j e1 e2 =>
    cases e
    rw [(rx.str e1).1, (ry.str e2).1]
    refine .inl ⟨rfl, ?_⟩
    rw [show decide (V.str ⟨i.toArray⟩ = V.str ⟨j.toArray⟩) = decide (i = j) from decide_eq_decide.mpr ⟨fun h => by simpa using h, fun h => by rw [h]⟩]
    exact l.val e0 (.bl _)
  · next x' y' _ _ _ e1 e2 =>
    split at e
    · next hs =>
      cases e
      obtain ⟨d1, s1⟩ := shp_dp (rx.whole l.sub e1) hs.1
      obtain ⟨d2, s2⟩ := shp_dp (ry.whole l.sub e2) hs.2
      exact .inr ⟨_, _, d1, d2, s1, s2, l.val e0 (.bl _)⟩
    · cases e
  · cases e
theorem l_ne : LOk2 (gOf X) lNe (fun x y H Q => rNe x y H Q ∨ rNeD X.K x y H Q) := by
  intro F H S x y p q f1 f2 Q rx ry l
  obtain ⟨rr, e⟩ := l.has
  have e0 := e
  unfold lNe at e
  split at e
  · next i j e1 e2 =>
    cases e
    rw [rx.int e1, ry.int e2]
    refine .inl ⟨rfl, ?_⟩
    rw [show decide (V.int i = V.int j) = decide (i = j) from decide_eq_decide.mpr ⟨fun h => V.int.inj h, fun h => by rw [h]⟩]
    exact l.val e0 (.bl _)
  · next i j e1 e2 =>
    cases e
    rw [rx.bl e1, ry.bl e2]
    refine .inl ⟨rfl, ?_⟩
    rw [show decide (V.bl i = V.bl j) = decide (i = j) from decide_eq_decide.mpr ⟨fun h => V.bl.inj h, fun h => by rw [h]⟩]
    exact l.val e0 (.bl _)
  · next i j e1 e2 =>
    cases e
    rw [(rx.str e1).1, (ry.str e2).1]
    refine .inl ⟨rfl, ?_⟩
    rw [show decide (V.str ⟨i.toArray⟩ = V.str ⟨j.toArray⟩) = decide (i = j) from decide_eq_decide.mpr ⟨fun h => by simpa using h, fun h => by rw [h]⟩]
    exact l.val e0 (.bl _)
  · next x' y' _ _ _ e1 e2 =>
    split at e
    · next hs =>
      cases e
      obtain ⟨d1, s1⟩ := shp_dp (rx.whole l.sub e1) hs.1
      obtain ⟨d2, s2⟩ := shp_dp (ry.whole l.sub e2) hs.2
      exact .inr ⟨_, _, d1, d2, s1, s2, l.val e0 (.bl _)⟩
    · cases e
  · cases e
theorem s_eq (hu : X.A.units + 64 < cLine) (ha : SE X W a ma) (hb : SE X W b mb) : SE X W (.Compare a [.Eq] [b] pos) (m2 lEq ma mb) := s_cmp (op_eq.or (op_eqD hu)) l_eq ha hb (nomark _)
def D.flat : D → Bool
  | .non | .bl _ | .int _ | .str _ => true
  | _ => false
def flats (ds : List D) : Bool := ds.all D.flat
theorem rep_flat {g : Wd} {F : Hp} {v : V} {d : D} (h : Rep g F v d) (e : d.flat = true) : L2.flatV v = true := by
  cases h <;> first | rfl | cases e
theorem reps_flat {g : Wd} {F : Hp} {vs : List V} {ds : List D} (h : Reps g F vs ds) (e : flats ds = true) : vs.all L2.flatV = true := by
  induction ds generalizing vs with
  | nil => cases h; rfl
  | cons d ds ih =>
    cases h with
    | cons h t =>
      have e := Bool.and_eq_true_iff.mp (show (d.flat && flats ds) = true from e)
      rw [List.all_cons, rep_flat h e.1, ih t e.2]; rfl
theorem eqV_eqv {g : Wd} {F F' : Hp} {v w : V} {d e : D} (h : Rep g F v d) (k : Rep g F' w e) (fd : d.flat = true) (fe : e.flat = true) : L2.eqV v w = D.eqv d e := by
  cases h <;> first | (cases fd; done) | skip
  all_goals (cases k <;> first | (cases fe; done) | rfl)
theorem inV_any {g : Wd} {F F' : Hp} {v : V} {d : D} (h : Rep g F v d) (fd : d.flat = true) : ∀ {vs : List V} {ds : List D}, Reps g F' vs ds → flats ds = true → L2.inV v vs = ds.any fun z => D.eqv z d
  | _, _, .nil, _ => rfl
  | _, _, .cons (d := d') (ds := ds') k t, e => by
    have e := Bool.and_eq_true_iff.mp (show (d'.flat && flats ds') = true from e)
    show (L2.eqV _ v || L2.inV v _) = (D.eqv _ _ || _)
    rw [eqV_eqv k h e.1 fd, inV_any h fd t e.2]
def isIn (p q : R) : Option Bool := match p.pl, q.pl with
  | some (.str [n]), some (.str s) => some (decide (n ∈ s))
  | some x, some (.tup ds) => if x.flat = true ∧ flats ds = true then some (ds.any fun z => D.eqv z x) else none
  | some x, some (.lst ds) => if x.flat = true ∧ flats ds = true then some (ds.any fun z => D.eqv z x) else if x.shp = true ∧ (D.lst ds).shp = true then some (ds.any fun z => D.eqv z x) else none
  | _, _ => none
def lIn (p q : R) : Option R := (isIn p q).map fun b => .d (.bl b)
def lNotIn (p q : R) : Option R := (isIn p q).map fun b => .d (.bl (!b))
def rInA (K : PySem.W.Frag) (neg : Bool) : R2 := fun x y H Q => (∃ (c : Nat) (z : Str), x = .str ⟨#[c]⟩ ∧ y = .str z ∧ Q (.bl (if neg then !decide (c ∈ z.cps.toList) else decide (c ∈ z.cps.toList))) H) ∨ (rIn K neg x y H Q ∨
  ∃ d ds, Dp K H x d ∧ Dp K H y (.list ds) ∧ SeqAt.shaped d = true ∧ SeqAt.shaped (.list ds) = true ∧ Q (.bl (if neg then !ds.any fun z => PyData.eqv z d else ds.any fun z => PyData.eqv z d)) H)
theorem l_inA (neg : Bool) : LOk2 (gOf X) (fun p q => (isIn p q).map fun b => .d (.bl (if neg then !b else b))) (rInA X.K neg) := by
  intro F H S x y p q f1 f2 Q rx ry l
  obtain ⟨rr, e⟩ := l.has
  dsimp only at e l
  cases e1 : isIn p q with
  | none => rw [e1] at e; cases e
  | some b =>
    rw [e1] at l
    have fin : Q (.bl (if neg then !b else b)) H := l.val rfl (.bl _)
    unfold isIn at e1
    split at e1
    · next n s h1 h2 =>
      cases e1
      exact .inl ⟨n, _, (rx.str h1).1, (ry.str h2).1, fin⟩
    · next x' ds h1 h2 =>
      split at e1
      · next hc =>
        cases e1
        obtain ⟨a1, vs, rfl, k1, n1, r1⟩ := ry.tup h2
        have rxw := rx.whole l.sub h1
        refine .inr (.inl ⟨a1, vs, rfl, .inr (l.sub.sqT k1), rep_flat rxw hc.1, reps_flat r1 hc.2, ?_⟩)
        rw [inV_any rxw hc.1 r1 hc.2]
        exact fin
      · cases e1
    · next x' ds _ h1 h2 =>
      obtain ⟨a1, vs, rfl, k1, n1, r1⟩ := ry.lst l.sub h2
      have rxw := rx.whole l.sub h1
      split at e1
      · next hc =>
        cases e1
        refine .inr (.inl ⟨a1, vs, rfl, .inl k1, rep_flat rxw hc.1, reps_flat r1 hc.2, ?_⟩)
        rw [inV_any rxw hc.1 r1 hc.2]
        exact fin
      · split at e1
        · next hc =>
          cases e1
          obtain ⟨d1, s1⟩ := shp_dp rxw hc.1
          obtain ⟨d2, s2⟩ := shp_dp (ry.whole l.sub h2) hc.2
          refine .inr (.inr ⟨_, _, d1, d2, s1, s2, ?_⟩)
          rw [pys_map, List.any_map]
          exact fin
        · cases e1
    · cases e1
theorem s_in (hu : X.A.units + 65 < cLine) (ha : SE X W a ma) (hb : SE X W b mb) (hm : behindInMarks .In b = false) : SE X W (.Compare a [.In] [b] pos) (m2 lIn ma mb) :=
  s_cmp (op_in_sign.or (op_in_seq.or (op_inD hu))) (l_inA false) ha hb hm
end
end
end Mw
set_option Elab.async false
set_option linter.all false
set_option maxRecDepth 100000
set_option autoImplicit false
namespace Mw
open PySem PySem.Spec PyProof.Rows L2
noncomputable section
section
variable {X : Cx} {W : WX} {pos : Pos} {a b c : Expr} {es : List Expr} {ma mb mc : M} {ms : List M}
theorem Reps.atI {g : Wd} {F : Hp} {vs : List V} {ds : List D} (h : Reps g F vs ds) {i : Int} {d : D} (e : L2.atI ds i = some d) : ∃ v, L2.atI vs i = some v ∧ Rep g F v d := by
  unfold L2.atI at e ⊢
  rw [h.length]
  cases q : ixN ds.length i with
  | none => rw [q] at e; cases e
  | some j => rw [q] at e; exact h.get e
theorem RepOs.get {g : Wd} {F H : Hp} : ∀ {vs : List V} {os : List O} {fp : List Addr} {i : Nat} {o : O}, RepOs g F H vs os fp → os[i]? = some o → ∃ v f, vs[i]? = some v ∧ RepO g F H v o f
  | _, _, _, _, _, .nil, h => by simp at h
  | _, _, _, 0, _, .cons h t, e => by simp at e; subst e; exact ⟨_, _, rfl, h⟩
  | _, _, _, i + 1, _, .cons h t, e => by simpa using RepOs.get (i := i) t (by simpa using e)
theorem RepOs.atI {g : Wd} {F H : Hp} {vs : List V} {os : List O} {fp : List Addr} (h : RepOs g F H vs os fp) {i : Int} {o : O} (e : L2.atI os i = some o) : ∃ v f, L2.atI vs i = some v ∧ RepO g F H v o f := by
  unfold L2.atI at e ⊢
  rw [h.length]
  cases q : ixN os.length i with
  | none => rw [q] at e; cases e
  | some j => rw [q] at e; exact h.get e
@[simp] theorem atI_map {α β : Type} (f : α → β) (xs : List α) (i : Int) : L2.atI (xs.map f) i = (L2.atI xs i).map f := by
  unfold L2.atI
  rw [List.length_map]
  cases ixN xs.length i with
  | none => rfl
  | some j => simp
def O.r : O → R
  | .d x => .d x
  | o => .pk o
@[simp] theorem O.r_d (x : D) : (O.d x).r = .d x := rfl
def lIx (p q : R) : Option R := match q.pl with
  | some (.int i) => match p with
    | .d (.lst ds) => (L2.atI ds i).map R.d
    | .d (.tup ds) => (L2.atI ds i).map R.d
    | .d (.str s) => (L2.atI s i).map fun c => .d (.str [c])
    | .own (.lst os) => (L2.atI os i).map O.r
    | .pk (.lst os) => (L2.atI os i).map O.r
    | _ => none
  | _ => none
theorem LF.pk {g : Wd} {leaf : Option R} {F H : Hp} {S : Addr → Prop} {fr : List Addr} {Q : VK} (l : LF g leaf F H S fr Q) {o : O} (e : leaf = some o.r) {v : V} {f : List Addr} (h : RepO g F H v o f) : Q v H := by
  obtain ⟨rr, e', k⟩ := l.go
  rw [e] at e'; cases e'
  refine k v F H [] (.refl l.sub) ?_ List.nodup_nil
  cases o with
  | d x => cases h; exact ⟨by assumption, rfl⟩
  | lst _ => exact ⟨rfl, f, h⟩
  | dct _ _ => exact ⟨rfl, f, h⟩
  | obj _ _ _ => exact ⟨rfl, f, h⟩
  | hole => exact ⟨rfl, f, h⟩
theorem l_ix : LOk2 (gOf X) lIx (rIx X.K) := by
  intro F H S x y p q f1 f2 Q rx ry l
  obtain ⟨rr, e⟩ := l.has
  have e0 := e
  unfold lIx at e
  split at e
  · next i e2 =>
    have hy := ry.int e2
    have own : ∀ {o : O} {os : List O} {fp}, RepO (gOf X) F H x o fp → o = .lst os → (L2.atI os i).map O.r = some rr → rIx X.K x y H Q := by
      intro o os fp hr eo e
      subst eo
      cases q' : L2.atI os i with
      | none => rw [q'] at e; cases e
      | some o =>
        rw [q'] at e; cases e
        cases hr with
        | lst h hl r =>
          obtain ⟨v, f, h1, h2⟩ := r.atI q'
          exact .inl ⟨_, _, i, v, rfl, hy, .inl (.inl h), h1, l.pk e0 h2⟩
    split at e
    · next ds =>
      obtain ⟨a1, vs, rfl, k1, n1, r1⟩ := rx.lst l.sub (ds := ds) rfl
      cases q' : L2.atI ds i with
      | none => rw [q'] at e; cases e
      | some d =>
        rw [q'] at e; cases e
        obtain ⟨v, h1, h2⟩ := r1.atI q'
        exact .inl ⟨a1, vs, i, v, rfl, hy, k1, h1, l.val e0 h2⟩
    · next ds =>
      obtain ⟨a1, vs, rfl, k1, n1, r1⟩ := rx.tup (ds := ds) rfl
      cases q' : L2.atI ds i with
      | none => rw [q'] at e; cases e
      | some d =>
        rw [q'] at e; cases e
        obtain ⟨v, h1, h2⟩ := r1.atI q'
        exact .inr (.inl ⟨a1, vs, i, v, rfl, hy, l.sub.sqT k1, h1, l.val e0 h2⟩)
    · next s =>
      obtain ⟨rfl, h1⟩ := rx.str (s := s) rfl
      cases q' : L2.atI s i with
      | none => rw [q'] at e; cases e
      | some d =>
        rw [q'] at e; cases e
        refine .inr (.inr ⟨_, i, d, rfl, hy, by rw [str_len]; exact h1, q', l.val e0 ?_⟩)
        exact .str (s := [d]) (by rw [sizeLine_eq]; show 1 ≤ 16777216; decide)
    · next os => exact own rx.1 rfl e
    · next os =>
      obtain ⟨_, fp, hr⟩ := rx
      exact own hr rfl e
    · cases e
  · cases e
theorem s_at (ha : SE X W a ma) (hb : SE X W b mb) (hs : PlainIx b := by exact fun _ _ => rfl) : SE X W (.Subscript a b pos) (m2 lIx ma mb) := s_ix ix_seq l_ix ha hb hs
def cutA {α : Type} (xs : List α) (lo hi : Option Int) : List α := (xs.drop (HT.sIx xs.length 0 lo)).take (HT.sIx xs.length xs.length hi - HT.sIx xs.length 0 lo)
theorem cutA_len {α : Type} (xs : List α) (lo hi : Option Int) : (cutA xs lo hi).length ≤ xs.length := by
  unfold cutA; rw [List.length_take, List.length_drop]; omega
theorem Reps.cut {g : Wd} {F : Hp} {vs : List V} {ds : List D} (h : Reps g F vs ds) (lo hi : Option Int) : Reps g F (cutV vs lo hi) (cutA ds lo hi) := by
  unfold cutV cutA
  rw [h.length]
  exact (h.drop _).take _
def lSl (p : R) (lo hi : Option Int) : Option R := match p.pl with
  | some (.str s) => some (.d (.str (cutA s lo hi)))
  | some (.tup ds) => some (.d (.tup (cutA ds lo hi)))
  | some (.lst ds) => some (.own (.lst ((cutA ds lo hi).map O.d)))
  | _ => none
def rSlAll (K : PySem.W.Frag) : V → Option Int → Option Int → Hp → VK → Prop := fun x lo hi H Q => rSlS x lo hi H Q ∨ (rSlA K x lo hi H Q ∨ rSlL K x lo hi H Q)
theorem l_sl {lo hi : Option Int} {F H : Hp} {S : Addr → Prop} {x : V} {p : R} {fr : List Addr} {Q : VK} (rx : RepR (gOf X) F H S x p fr) {fr' : List Addr} (l : LF (gOf X) (lSl p lo hi) F H S fr' Q) : rSlAll X.K x lo hi H Q := by
  obtain ⟨rr, e⟩ := l.has
  have e0 := e
  unfold lSl at e
  split at e
  · next s h1 =>
    cases e
    obtain ⟨rfl, h2⟩ := rx.str h1
    have hh : (cutS ⟨s.toArray⟩ lo hi) = ⟨(cutA s lo hi).toArray⟩ := by
      unfold cutS cutA
      rw [str_len]
    refine .inl ⟨_, rfl, by rw [str_len]; exact h2, ?_⟩
    rw [hh]
    exact l.val e0 (.str (Nat.le_trans (cutA_len _ _ _) h2))
  · next ds h1 =>
    cases e
    obtain ⟨a1, vs, rfl, k1, n1, r1⟩ := rx.tupF h1
    refine .inr (.inl ⟨a1, vs, rfl, l.sub.sqT (.inl (.inl k1)), fun z => ?_, fun _ p hp => l.tup e0 (r1.cut lo hi) (Nat.le_trans (cutV_length _ _ _) n1) hp⟩)
    have : cutA ds lo hi = ds := by
      unfold cutA
      rw [← r1.length, z.1, z.2]
      simp [r1.length]
    rw [this] at e0
    exact l.val e0 (.tup k1 n1 r1)
  · next ds h1 =>
    cases e
    obtain ⟨a1, vs, rfl, k1, n1, r1⟩ := rx.lst l.sub h1
    exact .inr (.inr ⟨a1, vs, rfl, k1, fun p hp => l.lst e0 (r1.cut lo hi) (Nat.le_trans (cutV_length _ _ _) n1) hp⟩)
  · cases e
theorem sl_all : SlR X (rSlAll X.K) := sl_str.or (sl_tupA.or sl_list)
def mInt (m : M) : M := fun ρ => (m ρ).bind fun r ρ' q => match r with
  | .d (.int i) => .ok (.d (.int i)) ρ' q
  | _ => .no
theorem tM_int {g : Wd} {m : M} {σ : L2.St} {H : Hp} {Q : VK} (h : tM g W (mInt m) σ H Q) : tM g W m σ H fun x H1 => ∃ i, x = .int i ∧ Q (.int i) H1 := by
  refine tR.bind h fun F ρ fp st r ρ1 q1 e1 v F1 H1 fp1 fr1 s1 st1 r1 n1 z1 ob => ?_
  cases r with
  | d x =>
    cases x with
    | int i =>
      refine ⟨i, r1.int rfl, ?_⟩
      have := ob.2.1 (.d (.int i)) ρ1 q1 rfl (.int i) F1 H1 fp1 fr1 (.refl _ _ _) st1 ⟨.int i, r1.2⟩ n1 z1
      exact this
    | _ => exact absurd rfl ob.1
  | _ => exact absurd rfl ob.1
def mSl (ma : M) : Option M → Option M → M
  | none, none => mOps [ma] fun rs => match rs with | [p] => lSl p none none | _ => none
  | some ml, none => mOps [ma, mInt ml] fun rs => match rs with | [p, .d (.int i)] => lSl p (some i) none | _ => none
  | none, some mh => mOps [ma, mInt mh] fun rs => match rs with | [p, .d (.int i)] => lSl p none (some i) | _ => none
  | some ml, some mh => mOps [ma, mInt ml, mInt mh] fun rs => match rs with | [p, .d (.int i), .d (.int j)] => lSl p (some i) (some j) | _ => none
variable {p2 : Pos}
theorem s_sl10 (ha : SE X W a ma) (hb : SE X W b mb) : SE X W (.Subscript a (.Slice (some b) none none p2) pos) (mSl ma (some mb) none) := PE.wk (pe_slice sl_all ha (po_some hb) po_none) fun σ H Q h =>
  (tA_cons (tM_ops h)).imp fun x H1 q => (tM_int (tA_cons q)).imp fun y H2 ⟨i, e1, q⟩ => ⟨i, e1, by
    obtain ⟨F, S, rs, fr, rr, sub, hS, rp, nd, e, k⟩ := tA_nil q
    dsimp only at e
    split at e
    · next p j =>
      obtain ⟨v, w, f1, f2, ev, rfl, h1, h2⟩ := rp.two
      cases ev
      cases h2.int rfl
      exact l_sl h1 (fr' := f1 ++ f2) ⟨sub, hS, nd, rr, e, k⟩
    · cases e⟩
theorem s_sl01 (ha : SE X W a ma) (hb : SE X W b mb) : SE X W (.Subscript a (.Slice none (some b) none p2) pos) (mSl ma none (some mb)) := PE.wk (pe_slice sl_all ha po_none (po_some hb)) fun σ H Q h =>
  (tA_cons (tM_ops h)).imp fun x H1 q => (tM_int (tA_cons q)).imp fun y H2 ⟨i, e1, q⟩ => ⟨i, e1, by
    obtain ⟨F, S, rs, fr, rr, sub, hS, rp, nd, e, k⟩ := tA_nil q
    dsimp only at e
    split at e
    · next p j =>
      obtain ⟨v, w, f1, f2, ev, rfl, h1, h2⟩ := rp.two
      cases ev
      cases h2.int rfl
      exact l_sl h1 (fr' := f1 ++ f2) ⟨sub, hS, nd, rr, e, k⟩
    · cases e⟩
theorem RepRs.three {g : Wd} {F H : Hp} {S : Addr → Prop} {vs : List V} {r q t : R} {fr : List Addr} (h : RepRs g F H S vs [r, q, t] fr) : ∃ v w u f1 f2 f3, vs = [v, w, u] ∧ fr = f1 ++ (f2 ++ f3) ∧ RepR g F H S v r f1 ∧ RepR g F H S w q f2 ∧ RepR g F H S u t f3 := by
  cases h with
  | cons h t =>
    obtain ⟨w, u, f2, f3, rfl, rfl, h2, h3⟩ := t.two
    exact ⟨_, _, _, _, _, _, rfl, rfl, h, h2, h3⟩
theorem s_sl11 (ha : SE X W a ma) (hb : SE X W b mb) (hc : SE X W c mc) : SE X W (.Subscript a (.Slice (some b) (some c) none p2) pos) (mSl ma (some mb) (some mc)) := PE.wk (pe_slice sl_all ha (po_some hb) (po_some hc)) fun σ H Q h =>
  (tA_cons (tM_ops h)).imp fun x H1 q => (tM_int (tA_cons q)).imp fun y H2 ⟨i, e1, q⟩ => ⟨i, e1, (tM_int (tA_cons q)).imp fun z H3 ⟨j, e2, q⟩ => ⟨j, e2, by
    obtain ⟨F, S, rs, fr, rr, sub, hS, rp, nd, e, k⟩ := tA_nil q
    dsimp only at e
    split at e
    · next p j =>
      obtain ⟨v, w, u, f1, f2, f3, ev, rfl, h1, h2, h3⟩ := rp.three
      cases ev
      cases h2.int rfl
      cases h3.int rfl
      exact l_sl h1 (fr' := f1 ++ (f2 ++ f3)) ⟨sub, hS, nd, rr, e, k⟩
    · cases e⟩⟩
variable {x : Str} {p : Pos}
theorem s_blt1 {id : String} {f : R → Option R} {r : List V → Hp → VK → Prop} (ho : CallR X (.builtin id) r) (hl : LOk1 (gOf X) f (fun v H Q => r [v] H Q)) (hg : Gl X x) (hm : X.mg x = none) (hv : bootBuiltins x = some (.builtin id)) (ha : SE X W a ma)
    (he : starEach [a] X.env = (false, eval a X.env) :: starEach [] X.env := by rfl) (hn : x ≠ "__name__" := by decide) (hdb : (x == ("__debug__" : Str)) = false := by decide) : SE X W (.Call (.Name x p) [a] [] pos) (m1 f ma) :=
  PE.wk (pe_callB ho hg hm hv (pa_cons ha pa_nil he) hn hdb he rfl) fun σ H Q h => tM_m1 hl h
theorem s_ty1 {T : String} {f : R → Option R} {r : List V → Hp → VK → Prop} (ho : CallR X (.type T) r) (hl : LOk1 (gOf X) f (fun v H Q => r [v] H Q)) (hg : Gl X x) (hm : X.mg x = none) (hv : bootBuiltins x = some (.type T)) (ha : SE X W a ma)
    (he : starEach [a] X.env = (false, eval a X.env) :: starEach [] X.env := by rfl) (hn : x ≠ "__name__" := by decide) (hdb : (x == ("__debug__" : Str)) = false := by decide) : SE X W (.Call (.Name x p) [a] [] pos) (m1 f ma) :=
  PE.wk (pe_callTy ho hg hm hv (pa_cons ha pa_nil he) hn hdb he rfl) fun σ H Q h => tM_m1 hl h
def lLen (p : R) : Option R := match p with
  | .d (.str s) => some (.d (.int s.length))
  | .d (.lst ds) => some (.d (.int ds.length))
  | .d (.tup ds) => some (.d (.int ds.length))
  | .own (.lst os) => some (.d (.int os.length))
  | .pk (.lst os) => some (.d (.int os.length))
  | _ => none
theorem l_len : LOk1 (gOf X) lLen (fun v H Q => (fun xs H Q => ∃ x n, xs = [x] ∧ LenV X.K x H n ∧ Q (.int n) H) [v] H Q) := by
  intro F H S x p fr Q rx l
  obtain ⟨rr, e⟩ := l.has
  have e0 := e
  have own : ∀ {o : O} {os : List O} {fp}, RepO (gOf X) F H x o fp → o = .lst os → LenV X.K x H os.length := by
    intro o os fp hr eo
    subst eo
    cases hr with
    | lst h hl r => exact .inl ⟨_, .inl (.inl h), r.length.symm⟩
  unfold lLen at e
  split at e
  · next s =>
    cases e
    obtain ⟨rfl, h1⟩ := rx.str (s := s) rfl
    exact ⟨_, s.length, rfl, ⟨by rw [str_len]; exact h1, str_len.symm⟩, l.val e0 (.int _)⟩
  · next ds =>
    cases e
    obtain ⟨a1, vs, rfl, k1, n1, r1⟩ := rx.lst l.sub (ds := ds) rfl
    exact ⟨_, ds.length, rfl, .inl ⟨vs, k1, r1.length.symm⟩, l.val e0 (.int _)⟩
  · next ds =>
    cases e
    obtain ⟨a1, vs, rfl, k1, n1, r1⟩ := rx.tup (ds := ds) rfl
    exact ⟨_, ds.length, rfl, .inr ⟨vs, l.sub.sqT k1, r1.length.symm⟩, l.val e0 (.int _)⟩
  · next os => cases e; exact ⟨_, os.length, rfl, own rx.1 rfl, l.val e0 (.int _)⟩
  · next os =>
    cases e
    obtain ⟨_, fp, hr⟩ := rx
    exact ⟨_, os.length, rfl, own hr rfl, l.val e0 (.int _)⟩
  · cases e
theorem s_len (hg : Gl X "len") (hm : X.mg "len" = none) (ha : SE X W a ma) (he : starEach [a] X.env = (false, eval a X.env) :: starEach [] X.env := by rfl) : SE X W (.Call (.Name "len" p) [a] [] pos) (m1 lLen ma) := s_blt1 call_len l_len hg hm PySem.boot_len ha he
def lInt1 (p : R) : Option R := match p.pl with
  | some (.int i) => some (.d (.int i))
  | some (.bl k) => some (.d (.int (if k then 1 else 0)))
  | _ => none
theorem s_int1 (hg : Gl X "int") (hm : X.mg "int" = none) (ha : SE X W a ma) (he : starEach [a] X.env = (false, eval a X.env) :: starEach [] X.env := by rfl) : SE X W (.Call (.Name "int" p) [a] [] pos) (m1 lInt1 ma) := s_ty1 call_int1 (by
  intro F H S x p fr Q rx l
  obtain ⟨rr, e⟩ := l.has
  have e0 := e
  unfold lInt1 at e
  split at e
  · next i h1 => cases e; rw [rx.int h1]; exact .inl ⟨i, rfl, l.val e0 (.int _)⟩
  · next i h1 => cases e; rw [rx.bl h1]; exact .inr ⟨i, rfl, l.val e0 (.int _)⟩
  · cases e) hg hm (by decide +kernel) ha he
def D.kind : D → Option String
  | .non => some "NoneType" | .bl _ => some "bool" | .int _ => some "int" | .str _ => some "str" | .tup _ => some "tuple" | .lst _ => some "list" | .obj _ _ _ => none
def isK (T : String) (k : String) : Bool := k == T || (T == "int" && k == "bool")
def lIsi (T : String) (p : R) : Option R := match p.pl with
  | some x => x.kind.map fun k => .d (.bl (isK T k))
  | none => none
theorem rep_ty {K : PySem.W.Frag} {mg : Str → Option Value} {xa : Option (Addr × Obj)} {H : Hp} {v : V} {d : D} (h : Rep ⟨K, mg, xa⟩ H v d) {k : String} (e : d.kind = some k) : TyX K H v (.type k) := by
  have tup : ∀ {a : Addr} {vs : List V}, SqT K H a vs → TyX K H (.ref a) (.type "tuple") := by
    intro a vs q
    rcases q with (q | ⟨o, q⟩) | ⟨o, its, n, h1, h2, _⟩
    · exact .base (.tup q)
    · exact .fTuple q
    · exact .kTuple h1 h2
  have lst : ∀ {a : Addr} {vs : List V}, SqL K H a vs → TyX K H (.ref a) (.type "list") := by
    intro a vs q
    rcases q with (q | ⟨o, q⟩) | ⟨o, its, n, h1, h2, _⟩
    · exact .base (.lst q)
    · exact .base (.frz q)
    · exact .kList h1 h2
  cases h with
  | non => cases e; exact .base .non
  | bl b => cases e; exact .base (.bl b)
  | int i => cases e; exact .base (.int i)
  | str h => cases e; exact .base (.str _)
  | tup h hl r => cases e; exact tup (.inl (.inl h))
  | lst h hl r => cases e; exact lst h
  | obj hc h hd hn r => cases e
theorem kit_is {K : PySem.W.Frag} {T k : String} (hT : T = "int" ∨ T = "bool" ∨ T = "str" ∨ T = "list" ∨ T = "tuple") {d : D} (e : d.kind = some k) : PySem.W.kitOne K (.type k) (.type T) = some (isK T k) := by
  have hk : k = "NoneType" ∨ k = "bool" ∨ k = "int" ∨ k = "str" ∨ k = "tuple" ∨ k = "list" := by
    cases d <;> simp [D.kind] at e <;> subst e <;> simp
  rcases hT with rfl | rfl | rfl | rfl | rfl <;> rcases hk with rfl | rfl | rfl | rfl | rfl | rfl <;> exact kit_ty (by decide +kernel)
theorem s_isi {T : String} {xT : Str} {pT : Pos} (hT : T = "int" ∨ T = "bool" ∨ T = "str" ∨ T = "list" ∨ T = "tuple") (hg : Gl X "isinstance") (hm : X.mg "isinstance" = none) (hgT : Gl X xT) (hmT : X.mg xT = none) (hvT : bootBuiltins xT = some (.type T)) (ha : SE X W a ma)
    (he : starEach [a, .Name xT pT] X.env = (false, eval a X.env) :: starEach [.Name xT pT] X.env := by rfl) (hn : xT ≠ "__name__" := by decide) (hdb : (xT == ("__debug__" : Str)) = false := by decide) :
    SE X W (.Call (.Name "isinstance" p) [a, .Name xT pT] [] pos) (m1 (lIsi T) ma) :=
  PE.wk (pe_callB call_isi hg hm (by decide +kernel) (pa_cons ha (pa_cons (pe_bltn hgT hmT hvT (v := .ty T) rfl hn hdb) pa_nil rfl) he) (by decide) (by decide) he rfl) fun σ H Q h => (tA_cons (tM_ops h)).imp fun x H1 q => by
    obtain ⟨F, S, rs, fr, rr, sub, hS, rp, nd, e, k⟩ := tA_nil q
    match rs, e, rp with
    | [p], e, rp =>
      obtain ⟨v, ev, h1⟩ := rp.one
      cases ev
      have l : LF (gOf X) (lIsi T p) F H1 S fr Q := ⟨sub, hS, nd, rr, e, k⟩
      have e : lIsi T p = some rr := e
      have e0 := e
      unfold lIsi at e
      split at e
      · next d h2 =>
        cases h3 : d.kind with
        | none => rw [h3] at e; cases e
        | some kd =>
          rw [h3] at e; cases e
          exact ⟨x, .ty T, .type kd, .type T, isK T kd, rfl, .ty T, rep_ty (h1.whole sub h2) h3, kit_is hT h3, l.val e0 (.bl _)⟩
      · cases e
end
end
end Mw
set_option Elab.async false
set_option linter.all false
set_option maxRecDepth 100000
set_option autoImplicit false
namespace Mw
open PySem PySem.Spec PyProof.Rows L2
noncomputable section
section
variable {X : Cx} {W : WX} {pos : Pos} {a b c : Expr} {es : List Expr} {ma mb mc : M} {ms : List M}
def mLst (ms : List M) : M := mOps ms fun rs => match sts rs with
  | some ds => if lenOk ds.length = true then some (.own (.lst (ds.map O.d))) else none
  | none => none
def mTup (ms : List M) : M := mOps ms fun rs => match sts rs with
  | some ds => if lenOk ds.length = true then some (.d (.tup ds)) else none
  | none => none
theorem s_lst (h : SA X W es ms) : SE X W (.List es pos) (mLst ms) := PE.wk (pe_lst h) fun σ H Q h => (tM_ops h).imp fun vs H1 q => by
  obtain ⟨F, S, rs, fr, rr, sub, hS, rp, nd, e, k⟩ := q
  dsimp only at e
  split at e
  · next ds e1 =>
    split at e
    · next hl =>
      have hl := lenOk_le hl
      cases e
      have r1 := rp.sts e1 (frz_ext sub) fun a ha => frz_mem ha
      have hl' : vs.length ≤ sizeLine := by rw [r1.length, sizeLine_eq]; exact hl
      refine ⟨hl', fun p hp => leaf_lst (S := S) (fr := []) (frz_sub sub) (fun a ha => ⟨(hS a ha).1, ?_⟩) (fun v F' H' fr' l => k v F' H' fr' ((lstep_frz sub).thn l)) r1 hl' hp⟩
      unfold frz
      rw [if_neg fun z => (rp.out a z).2.1 ha]
      exact (hS a ha).2
    · cases e
  · cases e
theorem s_tup {k0 : Nat} (h : SA X W es ms) : SE X W (.Tuple es k0 pos) (mTup ms) := PE.wk (pe_tup h) fun σ H Q h => (tM_ops h).imp fun vs H1 q => by
  obtain ⟨F, S, rs, fr, rr, sub, hS, rp, nd, e, k⟩ := q
  dsimp only at e
  split at e
  · next ds e1 =>
    split at e
    · next hl =>
      have hl := lenOk_le hl
      cases e
      have r1 := rp.sts e1 (frz_ext sub) fun a ha => frz_mem ha
      have hl' : vs.length ≤ sizeLine := by rw [r1.length, sizeLine_eq]; exact hl
      exact ⟨hl', fun p hp => leaf_tup (S := S) (fr := []) (frz_sub sub) (fun v F' H' fr' l => k v F' H' fr' ((lstep_frz sub).thn l)) r1 hl' hp⟩
    · cases e
  · cases e
def RepB : VRel Bool Bool := fun _ _ _ v b fr => v = b ∧ fr = []
abbrev tB' (g : Wd) (W : WX) (m : MB) : TT := tR g W RepB m
abbrev ST (X : Cx) (W : WX) (e : Expr) (m : MB) : Prop := PT X e (tB' (gOf X) W m)
abbrev SW (X : Cx) (W : WX) (e : Expr) (m : MB) : Prop := PW X e (tB' (gOf X) W m)
def mTest (m : M) : MB := fun ρ => (m ρ).bind fun r ρ' q => match r with
  | .d (.bl b) => .ok b ρ' q
  | _ => .no
theorem tM_test {g : Wd} {m : M} {σ : L2.St} {H : Hp} {Q : Bool → Hp → Prop} (h : tB' g W (mTest m) σ H Q) : tM g W m σ H fun x H1 => ∃ k, x = .bl k ∧ Q k H1 := by
  refine tR.bind h fun F ρ fp st r ρ1 q1 e1 v F1 H1 fp1 fr1 s1 st1 r1 n1 z1 ob => ?_
  cases r with
  | d x =>
    cases x with
    | bl i => exact ⟨i, r1.bl rfl, ob.2.1 i ρ1 q1 rfl i F1 H1 fp1 fr1 (.refl _ _ _) st1 ⟨rfl, r1.2⟩ n1 z1⟩
    | _ => exact absurd rfl ob.1
  | _ => exact absurd rfl ob.1
theorem st_val (h : SE X W a ma) (he : ∀ whole, isTrue a X.env whole = (do let v ← whole; standAt a.pos; holding [v] (truthy v)) := by intro _; rfl) : ST X W a (mTest ma) :=
  PT.wk (pt_val h he) fun σ H Q h => tM_test h
def mAnd (a b : MB) : MB := fun ρ => (a ρ).bind fun x ρ1 q1 => if x = true then (b ρ1).bind fun y ρ2 q2 => .ok y ρ2 (q1 && q2) else .ok false ρ1 q1
def mOr (a b : MB) : MB := fun ρ => (a ρ).bind fun x ρ1 q1 => if x = true then .ok true ρ1 q1 else (b ρ1).bind fun y ρ2 q2 => .ok y ρ2 (q1 && q2)
def mNot (a : MB) : MB := fun ρ => (a ρ).bind fun x ρ1 q1 => .ok (!x) ρ1 q1
theorem tR.after {α β : Type} {g : Wd} {RR : VRel α β} {b : Ro → Res α} {σ : L2.St} {H H1 F1 : Hp} {ρ ρ1 : Ro} {q1 : Bool} {fp1 : Nat → List Addr} {Q : β → Hp → Prop} (st1 : Stt g F1 H1 σ ρ1 fp1) (z1 : Zq H ρ q1 H1 ρ1)
    (ob : Ob g W σ F1 H1 (Own fp1) (Zq H ρ) RR ((b ρ1).bind fun y ρ2 q2 => .ok y ρ2 (q1 && q2)) Q) : tR g W RR b σ H1 Q := by
  refine ⟨F1, ρ1, fp1, st1, ?_⟩
  refine Ob.bind ob (fun r ρ2 q2 e2 v F2 H2 fp2 fr2 s2 st2 r2 n2 z2 ob2 => ?_) fun H' ρ' z => ⟨z1.1.trans z.1, fun z => nomatch z⟩
  have hm : ∀ {Z : Bool → Hp → Ro → Prop} {S : Addr → Prop}, Ob g W σ F2 H2 S Z RR (Res.ok r ρ2 (q1 && q2)) Q → Step F2 H2 S F2 H2 (Plus (Own fp2) fr2) → Z (q1 && q2) H2 ρ2 → Q v H2 := fun {Z S} ob s z => ob.2.1 r ρ2 (q1 && q2) rfl v F2 H2 fp2 fr2 s st2 r2 n2 z
  exact hm ob2 (.refl _ _ _) ⟨z1.1.trans z2.1, fun hz => by
    have hz := Bool.and_eq_true_iff.mp hz
    exact ⟨(z1.2 hz.1).1.trans (z2.2 hz.2).1, (z2.2 hz.2).2.trans (z1.2 hz.1).2⟩⟩
theorem plus_nil {S : Addr → Prop} : Plus S [] = S := by
  funext x
  exact propext ⟨fun h => Or.elim h id (fun z => nomatch z), fun h => Or.inl h⟩
theorem tB_and {g : Wd} {ta tb : MB} {σ : L2.St} {H : Hp} {Q : Bool → Hp → Prop} (h : tB' g W (mAnd ta tb) σ H Q) : tAnd (tB' g W ta) (tB' g W tb) σ H Q := by
  refine tR.bind h fun F ρ fp st x ρ1 q1 e1 v F1 H1 fp1 fr1 s1 st1 r1 n1 z1 ob => ?_
  obtain ⟨rfl, rfl⟩ := r1
  cases v with
  | true =>
    rw [if_pos rfl] at ob ⊢
    rw [plus_nil] at ob
    exact tR.after st1 z1 ob
  | false =>
    rw [if_neg (by decide)] at ob ⊢
    exact ob.2.1 false ρ1 q1 rfl false F1 H1 fp1 [] (.refl _ _ _) st1 ⟨rfl, rfl⟩ n1 z1
theorem tB_or {g : Wd} {ta tb : MB} {σ : L2.St} {H : Hp} {Q : Bool → Hp → Prop} (h : tB' g W (mOr ta tb) σ H Q) : tOr (tB' g W ta) (tB' g W tb) σ H Q := by
  refine tR.bind h fun F ρ fp st x ρ1 q1 e1 v F1 H1 fp1 fr1 s1 st1 r1 n1 z1 ob => ?_
  obtain ⟨rfl, rfl⟩ := r1
  cases v with
  | true =>
    rw [if_pos rfl] at ob ⊢
    exact ob.2.1 true ρ1 q1 rfl true F1 H1 fp1 [] (.refl _ _ _) st1 ⟨rfl, rfl⟩ n1 z1
  | false =>
    rw [if_neg (by decide)] at ob ⊢
    rw [plus_nil] at ob
    exact tR.after st1 z1 ob
theorem tB_not {g : Wd} {ta : MB} {σ : L2.St} {H : Hp} {Q : Bool → Hp → Prop} (h : tB' g W (mNot ta) σ H Q) : tNot (tB' g W ta) σ H Q := by
  refine tR.bind h fun F ρ fp st x ρ1 q1 e1 v F1 H1 fp1 fr1 s1 st1 r1 n1 z1 ob => ?_
  obtain ⟨rfl, rfl⟩ := r1
  exact ob.2.1 (!v) ρ1 q1 rfl (!v) F1 H1 fp1 [] (.refl _ _ _) st1 ⟨rfl, rfl⟩ n1 z1
variable {ta tb : MB}
theorem sw_and1 (ha : ST X W a ta) : SW X W (.BoolOp .And [a] pos) ta := pw_and1 ha
theorem sw_or1 (ha : ST X W a ta) : SW X W (.BoolOp .Or [a] pos) ta := pw_or1 ha
theorem sw_and (ha : ST X W a ta) (hb : SW X W (.BoolOp .And (b :: es) pos) tb) : SW X W (.BoolOp .And (a :: b :: es) pos) (mAnd ta tb) := PW.wk (pw_and ha hb) fun σ H Q h => tB_and h
theorem sw_or (ha : ST X W a ta) (hb : SW X W (.BoolOp .Or (b :: es) pos) tb) : SW X W (.BoolOp .Or (a :: b :: es) pos) (mOr ta tb) := PW.wk (pw_or ha hb) fun σ H Q h => tB_or h
theorem st_pw (h : SW X W a ta) : ST X W a ta := PW.pt h
theorem st_not (ha : ST X W a ta) : ST X W (.UnaryOp .Not a pos) (mNot ta) := PT.wk (pt_not ha) fun σ H Q h => tB_not h
def mAndV (a b : M) : M := fun ρ => (a ρ).bind fun x ρ1 q1 => match x with
  | .d (.bl true) => (b ρ1).bind fun y ρ2 q2 => .ok y ρ2 (q1 && q2)
  | .d (.bl false) => .ok (.d (.bl false)) ρ1 q1
  | _ => .no
def mOrV (a b : M) : M := fun ρ => (a ρ).bind fun x ρ1 q1 => match x with
  | .d (.bl false) => (b ρ1).bind fun y ρ2 q2 => .ok y ρ2 (q1 && q2)
  | .d (.bl true) => .ok (.d (.bl true)) ρ1 q1
  | _ => .no
def lNot (p : R) : Option R := match p.pl with
  | some (.bl b) => some (.d (.bl (!b)))
  | _ => none
theorem s_and1 {op : BoolOp} (ha : SE X W a ma) : SE X W (.BoolOp op [a] pos) ma := pe_one ha
theorem s_and (ha : SE X W a ma) (hb : SE X W (.BoolOp .And (b :: es) pos) mb) : SE X W (.BoolOp .And (a :: b :: es) pos) (mAndV ma mb) := PE.wk (pe_and ha hb) fun σ H Q h => by
  refine tR.bind h fun F ρ fp st x ρ1 q1 e1 v F1 H1 fp1 fr1 s1 st1 r1 n1 z1 ob => ?_
  cases x with
  | d x =>
    cases x with
    | bl i =>
      obtain rfl := r1.2
      refine ⟨i, r1.bl rfl, ?_⟩
      cases i with
      | true => rw [if_pos rfl]; rw [plus_nil] at ob; exact tR.after st1 z1 ob
      | false => rw [if_neg (by decide)]; exact ob.2.1 (.d (.bl false)) ρ1 q1 rfl (.bl false) F1 H1 fp1 [] (.refl _ _ _) st1 ⟨.bl _, rfl⟩ n1 z1
    | _ => exact absurd rfl ob.1
  | _ => exact absurd rfl ob.1
theorem s_not (ha : SE X W a ma) : SE X W (.UnaryOp .Not a pos) (m1 lNot ma) := PE.wk (pe_not ha) fun σ H Q h => tM_m1 (r := fun x H Q => ∃ c, x = .bl c ∧ Q (.bl (!c)) H) (by
  intro F H S x p fr Q rx l
  obtain ⟨rr, e⟩ := l.has
  have e0 := e
  unfold lNot at e
  split at e
  · next i h1 => cases e; exact ⟨i, rx.bl h1, l.val e0 (.bl _)⟩
  · cases e) h
end
inductive SRes where
  | nx (ρ : Ro) | rt (r : R) (ρ : Ro) | bk (ρ : Ro) | ct (ρ : Ro) | ex (x : Exc) (ρ : Ro) | no
abbrev MS := Ro → SRes
def Res.stm {α : Type} : Res α → (α → Ro → SRes) → SRes
  | .ok a ρ _, k => k a ρ
  | .ex x ρ, _ => .ex x ρ
  | .no, _ => .no
@[simp] theorem Res.stm_ok {α : Type} (a : α) (ρ : Ro) (q : Bool) (k : α → Ro → SRes) : (Res.ok a ρ q).stm k = k a ρ := rfl
@[simp] theorem Res.stm_ex {α : Type} (x : Exc) (ρ : Ro) (k : α → Ro → SRes) : (Res.ex x ρ : Res α).stm k = .ex x ρ := rfl
@[simp] theorem Res.stm_no {α : Type} (k : α → Ro → SRes) : (Res.no : Res α).stm k = .no := rfl
def SRes.thn : SRes → (Ro → SRes) → SRes
  | .nx ρ, k => k ρ
  | r, _ => r
@[simp] theorem SRes.thn_nx (ρ : Ro) (k : Ro → SRes) : (SRes.nx ρ).thn k = k ρ := rfl
@[simp] theorem SRes.thn_rt (r : R) (ρ : Ro) (k : Ro → SRes) : (SRes.rt r ρ).thn k = .rt r ρ := rfl
@[simp] theorem SRes.thn_bk (ρ : Ro) (k : Ro → SRes) : (SRes.bk ρ).thn k = .bk ρ := rfl
@[simp] theorem SRes.thn_ct (ρ : Ro) (k : Ro → SRes) : (SRes.ct ρ).thn k = .ct ρ := rfl
@[simp] theorem SRes.thn_ex (x : Exc) (ρ : Ro) (k : Ro → SRes) : (SRes.ex x ρ).thn k = .ex x ρ := rfl
@[simp] theorem SRes.thn_no (k : Ro → SRes) : SRes.no.thn k = .no := rfl
def Kbs (ρ : Ro) (σ : L2.St) (ρ' : Ro) (σ' : L2.St) : Prop := ∀ (k : Nat) (o : O), ρ[k]? = some (.mu true o) → (∃ o', ρ'[k]? = some (.mu true o')) ∧ σ'[k]? = σ[k]?
theorem Kbs.refl (ρ : Ro) (σ : L2.St) : Kbs ρ σ ρ σ := fun _ o h => ⟨⟨o, h⟩, rfl⟩
theorem Kbs.trans {a b c : Ro} {s t u : L2.St} (x : Kbs a s b t) (y : Kbs b t c u) : Kbs a s c u := fun k o h => by
  obtain ⟨⟨o', h1⟩, e1⟩ := x k o h
  obtain ⟨h2, e2⟩ := y k o' h1
  exact ⟨h2, e2.trans e1⟩
theorem Kb.s {a b : Ro} {σ : L2.St} (h : Kb a b) : Kbs a σ b σ := fun k o z => ⟨h k o z, rfl⟩
structure ObS (g : Wd) (W : WX) (ρ : Ro) (σ : L2.St) (F H : Hp) (S : Addr → Prop) (res : SRes) (D : Ends) : Prop where
  no : res ≠ .no
  nx : ∀ ρ', res = .nx ρ' → ∀ σ' F' H' fp', Step F H S F' H' (Own fp') → Stt g F' H' σ' ρ' fp' → Kbs ρ σ ρ' σ' → D.nx σ' H'
  bk : ∀ ρ', res = .bk ρ' → ∀ σ' F' H' fp', Step F H S F' H' (Own fp') → Stt g F' H' σ' ρ' fp' → Kbs ρ σ ρ' σ' → D.bk σ' H'
  ct : ∀ ρ', res = .ct ρ' → ∀ σ' F' H' fp', Step F H S F' H' (Own fp') → Stt g F' H' σ' ρ' fp' → Kbs ρ σ ρ' σ' → D.ct σ' H'
  rt : ∀ r ρ', res = .rt r ρ' → ∀ v σ' F' H' fp' fr, Step F H S F' H' (Plus (Own fp') fr) → Stt g F' H' σ' ρ' fp' → RepR g F' H' (Own fp') v r fr → fr.Nodup → Kbs ρ σ ρ' σ' → D.rt v H'
  ex : ∀ x ρ', res = .ex x ρ' → ∀ cls d σ' F' H' fp', Step F H S F' H' (Own fp') → Stt g F' H' σ' ρ' fp' → RepX g F' cls d x → Kbs ρ σ ρ' σ' → W cls d σ' H'
def tS (g : Wd) (W : WX) (m : MS) : TS := fun D σ H => ∃ F ρ fp, Stt g F H σ ρ fp ∧ ObS g W ρ σ F H (Own fp) (m ρ) D
abbrev SS (X : Cx) (W : WX) (st : Stmt) (m : MS) : Prop := PS X st (tS (gOf X) W m)
abbrev SSs (X : Cx) (W : WX) (st : List Stmt) (m : MS) : Prop := PSs X st (tS (gOf X) W m)
theorem ObS.after {g : Wd} {W : WX} {ρ ρ1 : Ro} {σ σ1 : L2.St} {F H F1 H1 : Hp} {S S1 : Addr → Prop} {res : SRes} {D : Ends} (h : ObS g W ρ σ F H S res D) (s : Step F H S F1 H1 S1) (k : Kbs ρ σ ρ1 σ1) : ObS g W ρ1 σ1 F1 H1 S1 res D :=
  ⟨h.no, fun ρ' e σ' F' H' fp' a b c => h.nx ρ' e σ' F' H' fp' (s.trans a) b (k.trans c), fun ρ' e σ' F' H' fp' a b c => h.bk ρ' e σ' F' H' fp' (s.trans a) b (k.trans c),
   fun ρ' e σ' F' H' fp' a b c => h.ct ρ' e σ' F' H' fp' (s.trans a) b (k.trans c), fun r ρ' e v σ' F' H' fp' fr a b c d f => h.rt r ρ' e v σ' F' H' fp' fr (s.trans a) b c d (k.trans f),
   fun x ρ' e cls d σ' F' H' fp' a b c f => h.ex x ρ' e cls d σ' F' H' fp' (s.trans a) b c (k.trans f)⟩
theorem tS_of {α β : Type} {g : Wd} {W : WX} {RR : VRel α β} {m : Ro → Res α} {k : α → Ro → SRes} {D : Ends} {σ : L2.St} {H : Hp} {Q : β → Hp → Prop} (h : tS g W (fun ρ => (m ρ).stm k) D σ H)
    (i : ∀ r ρ1 v F1 H1 fp1 fr1, Stt g F1 H1 σ ρ1 fp1 → RR F1 H1 (Own fp1) v r fr1 → fr1.Nodup → ObS g W ρ1 σ F1 H1 (Plus (Own fp1) fr1) (k r ρ1) D → Q v H1) : tR g W RR m σ H Q := by
  obtain ⟨F, ρ, fp, st, ob⟩ := h
  have ob : ObS g W ρ σ F H (Own fp) ((m ρ).stm k) D := ob
  refine ⟨F, ρ, fp, st, fun e => ?_, fun r ρ1 q e v F1 H1 fp1 fr1 s1 st1 r1 n1 z1 => ?_, fun x ρ' e cls d F' H' fp' a b c z => ?_⟩
  · rw [e] at ob; exact ob.no rfl
  · rw [e] at ob; exact i r ρ1 v F1 H1 fp1 fr1 st1 r1 n1 (ob.after s1 z1.1.s)
  · rw [e] at ob; exact ob.ex x ρ' rfl cls d σ F' H' fp' a b c z.1.s
section
variable {X : Cx} {W : WX} {pos : Pos} {a b c : Expr} {es : List Expr} {ma mb mc : M} {ms : List M} {st : Stmt} {sts : List Stmt} {m n : MS} {tc : MB}
def mNx : MS := fun ρ => .nx ρ
def mBk : MS := fun ρ => .bk ρ
def mCt : MS := fun ρ => .ct ρ
def mSeq (m n : MS) : MS := fun ρ => (m ρ).thn n
def mRt (m : M) : MS := fun ρ => (m ρ).stm fun r ρ' => .rt r ρ'
def mRtN : MS := fun ρ => .rt (.d .non) ρ
def mIf (c : MB) (m n : MS) : MS := fun ρ => (c ρ).stm fun b ρ' => if b = true then m ρ' else n ρ'
def mDrop (m : M) : MS := fun ρ => (m ρ).stm fun _ ρ' => .nx ρ'
theorem tS_nx {g : Wd} {D : Ends} {σ : L2.St} {H : Hp} (h : tS g W mNx D σ H) : D.nx σ H := by
  obtain ⟨F, ρ, fp, st, ob⟩ := h
  exact ob.nx ρ rfl σ F H fp (.refl _ _ _) st (.refl _ _)
theorem ss_nil : SSs X W [] mNx := PSs.wk pss_nil fun D σ H h => tS_nx h
theorem ss_cons (h1 : SS X W st m) (h2 : SSs X W sts n) : SSs X W (st :: sts) (mSeq m n) := PSs.wk (pss_cons h1 h2) fun D σ H h => by
  obtain ⟨F, ρ, fp, st, ob⟩ := h
  refine ⟨F, ρ, fp, st, ?_⟩
  have ob : ObS (gOf X) W ρ σ F H (Own fp) ((m ρ).thn n) D := ob
  cases e : m ρ with
  | nx ρ1 =>
    rw [e] at ob
    refine ⟨(fun z => nomatch z), fun ρ' q σ' F' H' fp' s1 st1 k1 => ?_, fun ρ' q => (nomatch q), fun ρ' q => (nomatch q), fun r ρ' q => (nomatch q), fun r ρ' q => (nomatch q)⟩
    cases q
    exact ⟨F', ρ1, fp', st1, ob.after s1 k1⟩
  | rt r ρ1 => rw [e] at ob; exact ⟨ob.no, fun ρ' q => (nomatch q), ob.bk, ob.ct, ob.rt, ob.ex⟩
  | bk ρ1 => rw [e] at ob; exact ⟨ob.no, fun ρ' q => (nomatch q), ob.bk, ob.ct, ob.rt, ob.ex⟩
  | ct ρ1 => rw [e] at ob; exact ⟨ob.no, fun ρ' q => (nomatch q), ob.bk, ob.ct, ob.rt, ob.ex⟩
  | ex x ρ1 => rw [e] at ob; exact ⟨ob.no, fun ρ' q => (nomatch q), ob.bk, ob.ct, ob.rt, ob.ex⟩
  | no => rw [e] at ob; exact absurd rfl ob.no
theorem ss_one (h1 : SS X W st m) : SSs X W [st] m := pss_one h1
theorem ss_ret (h : SE X W a ma) : SS X W (.Return (some a) pos) (mRt ma) := PS.wk (ps_ret h) fun D σ H h =>
  tS_of h fun r ρ1 v F1 H1 fp1 fr1 st1 r1 n1 ob => ob.rt r ρ1 rfl v σ F1 H1 fp1 fr1 (.refl _ _ _) st1 r1 n1 (.refl _ _)
theorem ss_if {sa sb : List Stmt} (hc : ST X W a tc) (h1 : SSs X W sa m) (h2 : SSs X W sb n) : SS X W (.If a sa sb pos) (mIf tc m n) := PS.wk (ps_if hc h1 h2) fun D σ H h =>
  tS_of h fun r ρ1 v F1 H1 fp1 fr1 st1 r1 n1 ob => by
    obtain ⟨rfl, rfl⟩ := r1
    rw [plus_nil] at ob
    cases v with
    | true => rw [if_pos rfl] at ob ⊢; exact ⟨F1, ρ1, fp1, st1, ob⟩
    | false => rw [if_neg (by decide)] at ob ⊢; exact ⟨F1, ρ1, fp1, st1, ob⟩
theorem ss_expr (h : SE X W a ma) (hs : swapsWith a none pos.line X.env = pure false := by rfl) : SS X W (.Expr a pos) (mDrop ma) := PS.wk (ps_expr h hs) fun D σ H h =>
  tS_of h fun r ρ1 v F1 H1 fp1 fr1 st1 r1 n1 ob => ob.nx ρ1 rfl σ F1 H1 fp1 ((Step.refl _ _ _).weak fun x z => .inl z) st1 (.refl _ _)
end
end
end Mw
set_option Elab.async false
set_option linter.all false
set_option maxRecDepth 100000
set_option autoImplicit false
namespace Mw
open PySem PySem.Spec PyProof.Rows L2
noncomputable section
def SlOk (g : Wd) (F H : Hp) (v : V) (s : Slo) (f : List Addr) : Prop := match s with
  | .un => f = []
  | .xc x => HasX g F (some v) x ∧ f = []
  | .shr d => Rep g F v d ∧ f = []
  | .mu _ o => RepO g F H v o f
theorem set_get {α : Type} {l : List α} {i j : Nat} {x y : α} (h : (l.set i x)[j]? = some y) : (i = j ∧ y = x ∧ i < l.length) ∨ (i ≠ j ∧ l[j]? = some y) := by
  rw [List.getElem?_set] at h
  split at h
  · next e =>
    split at h
    · cases h; exact .inl ⟨e, rfl, by omega⟩
    · cases h
  · next e => exact .inr ⟨e, h⟩
theorem Stt.put {g : Wd} {F H : Hp} {σ : L2.St} {ρ : Ro} {fp : Nat → List Addr} (st : Stt g F H σ ρ fp) {v : V} {s : Slo} {f : List Addr} (i : Nat) (h : SlOk g F H v s f) (nd : f.Nodup) (out : ∀ a ∈ f, F a = none ∧ ¬ Own fp a) :
    ∃ fp', Stt g F H (σ.set i (some v)) (ρ.set i s) fp' ∧ ∀ a, Own fp' a → Plus (Own fp) f a := by
  by_cases hi : i < ρ.length
  · have hi' : i < σ.length := by rw [st.len]; exact hi
    have hs : ∀ {w : Option V}, (σ.set i w)[i]? = some w := fun {w} => by rw [List.getElem?_set]; simp [hi']
    have hn : ∀ {j : Nat} {w : Option V}, i ≠ j → (σ.set i w)[j]? = σ[j]? := fun {j w} e => by rw [List.getElem?_set, if_neg e]
    have sl : ∀ b o, s = .mu b o → RepO g F H v o f := fun b o e => by subst e; exact h
    refine ⟨fun k => if k = i then f else fp k, ⟨st.sub, by simp [st.len], fun j hj => ?_, fun j d hd => ?_, fun j b o ho => ?_, fun j => ?_, fun j k a ha hb => ?_, fun j a ha => ?_, fun j x hx => ?_⟩, fun a ⟨j, ha⟩ => ?_⟩
    · try dsimp only
      split
      · next e =>
        subst e
        cases s with
        | un => exact h
        | xc x => exact h.2
        | shr d => exact h.2
        | mu b o => exact absurd (by rw [List.getElem?_set]; simp [hi]) (hj b o)
      · next e => exact st.un j fun b o z => hj b o (by rw [List.getElem?_set, if_neg fun z => e z.symm]; exact z)
    · rcases set_get hd with ⟨rfl, rfl, _⟩ | ⟨ne, hd⟩
      · exact ⟨v, hs, h.1⟩
      · rw [hn ne]; exact st.shr j d hd
    · rcases set_get ho with ⟨rfl, e, _⟩ | ⟨ne, ho⟩
      · (try dsimp only); rw [if_pos rfl]; exact ⟨v, hs, sl b o e.symm⟩
      · (try dsimp only); rw [if_neg fun z => ne z.symm, hn ne]; exact st.mu j b o ho
    · (try dsimp only); split
      · exact nd
      · exact st.nd j
    · try dsimp only at ha hb
      split at ha <;> split at hb
      · next e1 e2 => exact e1.trans e2.symm
      · exact absurd ⟨k, hb⟩ (out a ha).2
      · exact absurd ⟨j, ha⟩ (out a hb).2
      · exact st.dis j k a ha hb
    · try dsimp only at ha
      split at ha
      · exact (out a ha).1
      · exact st.fre j a ha
    · rcases set_get hx with ⟨rfl, e, _⟩ | ⟨ne, hx⟩
      · subst e; exact ⟨_, hs, h.1⟩
      · rw [hn ne]; exact st.xc j x hx
    · try dsimp only at ha
      split at ha
      · exact .inr ha
      · exact .inl ⟨j, ha⟩
  · have e1 : ρ.set i s = ρ := List.set_eq_of_length_le (by omega)
    have e2 : σ.set i (some v) = σ := List.set_eq_of_length_le (by rw [st.len]; omega)
    rw [e1, e2]
    exact ⟨fp, st, fun a h => .inl h⟩
theorem Stt.drop {g : Wd} {F H : Hp} {σ : L2.St} {ρ : Ro} {fp : Nat → List Addr} (st : Stt g F H σ ρ fp) (i : Nat) :
    ∃ fp', Stt g F H σ (ρ.set i .un) fp' ∧ (∀ a, Own fp' a → Own fp a) ∧ (i < ρ.length → ∀ a ∈ fp i, ¬ Own fp' a) := by
  refine ⟨fun k => if k = i then [] else fp k, ⟨st.sub, by simp [st.len], fun j hj => ?_, fun j d hd => ?_, fun j b o ho => ?_, fun j => ?_, fun j k a ha hb => ?_, fun j a ha => ?_, fun j x hx => ?_⟩, fun a ⟨j, ha⟩ => ?_, fun hi a ha ⟨j, hb⟩ => ?_⟩
  · try dsimp only
    split
    · rfl
    · next e => exact st.un j fun b o z => hj b o (by rw [List.getElem?_set, if_neg fun z => e z.symm]; exact z)
  · rcases set_get hd with ⟨rfl, z, _⟩ | ⟨ne, hd⟩
    · cases z
    · exact st.shr j d hd
  · rcases set_get ho with ⟨rfl, e, _⟩ | ⟨ne, ho⟩
    · cases e
    · (try dsimp only); rw [if_neg fun z => ne z.symm]; exact st.mu j b o ho
  · (try dsimp only); split
    · exact List.nodup_nil
    · exact st.nd j
  · try dsimp only at ha hb
    split at ha <;> split at hb
    · cases ha
    · cases ha
    · cases hb
    · exact st.dis j k a ha hb
  · try dsimp only at ha
    split at ha
    · cases ha
    · exact st.fre j a ha
  · rcases set_get hx with ⟨rfl, z, _⟩ | ⟨ne, hx⟩
    · cases z
    · exact st.xc j x hx
  · try dsimp only at ha
    split at ha
    · cases ha
    · exact ⟨j, ha⟩
  · try dsimp only at hb
    split at hb
    · cases hb
    · next e => exact e (st.dis j i a hb ha)
def isBor (ρ : Ro) (i : Nat) : Bool := match ρ[i]? with
  | some (.mu true _) => true
  | _ => false
theorem Kbs.set {ρ : Ro} {σ : L2.St} {i : Nat} (h : isBor ρ i = false) (s : Slo) (w : Option V) : Kbs ρ σ (ρ.set i s) (σ.set i w) := fun k o e => by
  by_cases hk : i = k
  · subst hk
    unfold isBor at h
    rw [e] at h; cases h
  · exact ⟨⟨o, by rw [List.getElem?_set, if_neg hk]; exact e⟩, by rw [List.getElem?_set, if_neg hk]⟩
theorem Kb.set {ρ : Ro} {i : Nat} (h : isBor ρ i = false) (s : Slo) : Kb ρ (ρ.set i s) := fun k o e => by
  by_cases hk : i = k
  · subst hk
    unfold isBor at h
    rw [e] at h; cases h
  · exact ⟨o, by rw [List.getElem?_set, if_neg hk]; exact e⟩
def R.slo : R → Option Slo
  | .d x => some (.shr x)
  | .own o => some (.mu false o)
  | .pk _ => none
@[simp] theorem R.slo_d (x : D) : (R.d x).slo = some (.shr x) := rfl
@[simp] theorem R.slo_own (o : O) : (R.own o).slo = some (.mu false o) := rfl
theorem RepR.slo {g : Wd} {F H : Hp} {S : Addr → Prop} {v : V} {r : R} {fr : List Addr} (h : RepR g F H S v r fr) {s : Slo} (e : r.slo = some s) : SlOk g F H v s fr := by
  cases r with
  | d x => cases e; exact h
  | own o => cases e; exact h.1
  | pk o => cases e
def mSet (i : Nat) (m : M) : MS := fun ρ => (m ρ).stm fun r ρ' => if isBor ρ' i = true then .no else match r.slo with
  | some s => .nx (ρ'.set i s)
  | none => .no
theorem tS_set {g : Wd} {W : WX} {i : Nat} {m : M} {D : Ends} {σ : L2.St} {H : Hp} (h : tS g W (mSet i m) D σ H) : tM g W m σ H fun x H1 => D.nx (σ.set i (some x)) H1 := by
  refine tS_of h fun r ρ1 v F1 H1 fp1 fr1 st1 r1 n1 ob => ?_
  by_cases hb : isBor ρ1 i = true
  · rw [if_pos hb] at ob; exact absurd rfl ob.no
  · rw [if_neg hb] at ob
    cases e : r.slo with
    | none => rw [e] at ob; exact absurd rfl ob.no
    | some s =>
      rw [e] at ob
      obtain ⟨fp', st', k⟩ := st1.put i (r1.slo e) n1 fun a ha => ⟨(r1.out a ha).1, (r1.out a ha).2.1⟩
      exact ob.nx _ rfl _ F1 H1 fp' ((Step.refl _ _ _).weak k) st' (.set (by simpa using hb) _ _)
section
variable {X : Cx} {W : WX} {pos : Pos} {a b c tg : Expr} {es : List Expr} {ma mb mc : M} {ms : List M} {st : Stmt} {sts : List Stmt} {m n : MS} {tc : MB}
theorem ss_set {i : Nat} {x : Str} {pos' : Pos} (hN : X.N.Nodup) (hi : X.N[i]? = some x) (hx : Loc X.env.scope x) (ha : SE X W a ma) (hs : swapsWith a (some (.Name x pos')) pos.line X.env = pure false := by rfl) (hf : X.fn x = true ∨ X.env.scope.names.lookup x = some .local := by first | exact .inl rfl | exact .inr rfl) :
    SS X W (.Assign [.Name x pos'] a pos) (mSet i ma) := PS.wk (ps_set hN hi hx ha hs hf) fun D σ H h => tS_set h
def lAddP (p q : R) : Option R := match p.pl, q.pl with
  | some (.int i), some (.int j) => some (.d (.int (i + j)))
  | some (.str s), some (.str t) => if lenOk (s.length + t.length) = true then some (.d (.str (s ++ t))) else none
  | _, _ => none
def rAddP : R2 := fun x y H Q => (rI0 fun i j => .int (i + j)) x y H Q ∨ (fun x y H Q => ∃ i j, x = .str i ∧ y = .str j ∧ i.length + j.length ≤ sizeLine ∧ Q (.str (i ++ j)) H) x y H Q
theorem l_addP : LOk2 (gOf X) lAddP rAddP := by
  intro F H S x y p q f1 f2 Q rx ry l
  obtain ⟨rr, e⟩ := l.has
  have e0 := e
  unfold lAddP at e
  split at e
  · next i j e1 e2 => cases e; exact .inl ⟨i, j, rx.int e1, ry.int e2, l.val e0 (.int _)⟩
  · next s t e1 e2 =>
    split at e
    · next hl =>
      have hl := lenOk_le hl
      cases e
      obtain ⟨rfl, h1⟩ := rx.str e1
      obtain ⟨rfl, h2⟩ := ry.str e2
      rw [← sizeLine_eq] at hl
      refine .inr ⟨_, _, rfl, rfl, by rw [str_len, str_len]; exact hl, ?_⟩
      rw [str_app]
      exact l.val e0 (.str (by rw [List.length_append]; exact hl))
    · cases e
  · cases e
def mAug (i : Nat) (m : M) : MS := mSet i (m2 lAddP (nm i) m)
theorem ss_aug {i : Nat} {x : Str} {pos' : Pos} (hN : X.N.Nodup) (hi : X.N[i]? = some x) (hx : Loc X.env.scope x) (ha : SE X W a ma) (hf : X.fn x = true ∨ X.env.scope.names.lookup x = some .local := by first | exact .inl rfl | exact .inr rfl) :
    SS X W (.AugAssign (.Name x pos') .Add a pos) (mAug i ma) := PS.wk (ps_aug (ti := rAddP) hN hi hx ha (fun pins s σ H x y v u Q I rx ry q => (iop_add.or iop_add_str) pins s σ H x y v u Q I rx ry q) hf) fun D σ H h => tM_nm (tM_m2 l_addP (tS_set h))
end
inductive Tg where
  | nm (i : Nat) | tup (ts : List Tg)
mutual
def asg : Tg → D → Ro → Option Ro
  | .nm i, x, ρ => if isBor ρ i = true then none else some (ρ.set i (.shr x))
  | .tup ts, .tup xs, ρ => asgs ts xs ρ
  | .tup _, _, _ => none
def asgs : List Tg → List D → Ro → Option Ro
  | [], [], ρ => some ρ
  | t :: ts, x :: xs, ρ => match asg t x ρ with
    | some ρ' => asgs ts xs ρ'
    | none => none
  | _, _, _ => none
end
theorem asgs_len : ∀ {ts : List Tg} {xs : List D} {ρ ρ' : Ro}, asgs ts xs ρ = some ρ' → ts.length = xs.length
  | [], [], _, _, _ => rfl
  | t :: ts, x :: xs, ρ, ρ', h => by
    unfold asgs at h
    split at h
    · rw [List.length_cons, List.length_cons, asgs_len h]
    · cases h
  | [], _ :: _, _, _, h => by simp [asgs] at h
  | _ :: _, [], _, _, h => by simp [asgs] at h
mutual
def Tg.slots : Tg → List Nat
  | .nm i => [i]
  | .tup ts => slotsL ts
def slotsL : List Tg → List Nat
  | [] => []
  | t :: ts => t.slots ++ slotsL ts
end
def Onl (l : List Nat) (σ σ' : L2.St) : Prop := σ'.length = σ.length ∧ ∀ j, j ∉ l → σ'[j]? = σ[j]?
theorem Onl.refl (l : List Nat) (σ : L2.St) : Onl l σ σ := ⟨rfl, fun _ _ => rfl⟩
theorem Onl.trans {l l' : List Nat} {a b c : L2.St} (x : Onl l a b) (y : Onl l' b c) : Onl (l ++ l') a c := ⟨y.1.trans x.1, fun j h => (y.2 j fun z => h (List.mem_append_right _ z)).trans (x.2 j fun z => h (List.mem_append_left _ z))⟩
def tG (g : Wd) (t : Tg) : TG := fun v σ H Q => ∃ F ρ fp x ρ', Stt g F H σ ρ fp ∧ Rep g F v x ∧ asg t x ρ = some ρ' ∧ ∀ σ' fp', Stt g F H σ' ρ' fp' → (∀ a, Own fp' a → Own fp a) → Kbs ρ σ ρ' σ' → Onl t.slots σ σ' → Q σ' H
def tGs (g : Wd) (ts : List Tg) : TGs := fun vs σ H Q => ∃ F ρ fp xs ρ', Stt g F H σ ρ fp ∧ Reps g F vs xs ∧ asgs ts xs ρ = some ρ' ∧ ∀ σ' fp', Stt g F H σ' ρ' fp' → (∀ a, Own fp' a → Own fp a) → Kbs ρ σ ρ' σ' → Onl (slotsL ts) σ σ' → Q σ' H
abbrev SG (X : Cx) (e : Expr) (t : Tg) : Prop := PG X e (tG (gOf X) t)
abbrev SGs (X : Cx) (e : List Expr) (ts : List Tg) : Prop := PGs X e (tGs (gOf X) ts)
theorem PG.wk {X : Cx} {e : Expr} {t t' : TG} (h : PG X e t) (i : ∀ v σ H Q, t' v σ H Q → t v σ H Q) : PG X e t' := ⟨fun pins s σ H v u Q I r q => h.run pins s σ H v u Q I r (i v σ H Q q)⟩
theorem PGs.wk {X : Cx} {e : List Expr} {t t' : TGs} (h : PGs X e t) (i : ∀ v σ H Q, t' v σ H Q → t v σ H Q) : PGs X e t' := ⟨fun pins s σ H v u Q I r q => h.run pins s σ H v u Q I r (i v σ H Q q)⟩
section
variable {X : Cx} {W : WX} {pos : Pos} {a b c tg : Expr} {es : List Expr} {ma mb mc : M} {ms : List M} {st : Stmt} {sts : List Stmt} {m n : MS} {tc : MB} {t : Tg} {ts : List Tg}
theorem sg_nm {i : Nat} {x : Str} (hN : X.N.Nodup) (hi : X.N[i]? = some x) (hx : Loc X.env.scope x) (hf : X.fn x = true ∨ X.env.scope.names.lookup x = some .local := by first | exact .inl rfl | exact .inr rfl) : SG X (.Name x pos) (.nm i) :=
  PG.wk (pg_name hN hi hx hf) fun v σ H Q h => by
    obtain ⟨F, ρ, fp, x, ρ', st, r, e, k⟩ := h
    unfold asg at e
    split at e
    · cases e
    · next hb =>
      cases e
      obtain ⟨fp', st', k'⟩ := st.put i (s := .shr x) (f := []) ⟨r, rfl⟩ List.nodup_nil fun a ha => nomatch ha
      exact k _ fp' st' (fun a ha => (k' a ha).elim id fun z => nomatch z) (.set (by simpa using hb) _ _) ⟨by simp, fun j hj => by rw [List.getElem?_set, if_neg fun z => hj (by simp [Tg.slots, z])]⟩
theorem sgs_nil : SGs X [] [] := PGs.wk pgs_nil fun v σ H Q h => by
  obtain ⟨F, ρ, fp, xs, ρ', st, r, e, k⟩ := h
  cases r with
  | nil => simp [asgs] at e; subst e; exact ⟨rfl, k σ fp st (fun _ h => h) (.refl _ _) (.refl _ _)⟩
  | cons => simp [asgs] at e
theorem sgs_cons (h1 : SG X a t) (h2 : SGs X es ts) (hs : (assignEach (a :: es) X.env).map (·.2) = assign a X.env :: (assignEach es X.env).map (·.2) := by rfl) : SGs X (a :: es) (t :: ts) := PGs.wk (pgs_cons h1 h2 hs) fun v σ H Q h => by
  obtain ⟨F, ρ, fp, xs, ρ', st, r, e, k⟩ := h
  cases r with
  | nil => simp [asgs] at e
  | @cons v vs d ds r rs =>
    unfold asgs at e
    split at e
    · next ρ1 e1 => exact ⟨v, vs, rfl, F, ρ, fp, d, ρ1, st, r, e1, fun σ1 fp1 st1 o1 k1 n1 => ⟨F, ρ1, fp1, ds, ρ', st1, rs, e, fun σ' fp' st' o' k' n' => k σ' fp' st' (fun a h => o1 a (o' a h)) (k1.trans k') (n1.trans n')⟩⟩
    · cases e
theorem sg_tup {k : Nat} {n : Nat} (hc : X.calm = true) (h : SGs X es ts) (hn : (assignEach es X.env).length = n := by rfl) (hst : (assignEach es X.env).findIdx? (·.1) = none := by rfl) (hl : ts.length = n := by rfl) : SG X (.Tuple es k pos) (.tup ts) :=
  PG.wk (pg_tup hc h hn hst) fun v σ H Q h => by
    obtain ⟨F, ρ, fp, x, ρ', st, r, e, q⟩ := h
    cases x with
    | tup xs =>
      cases r with
      | tup h1 hl1 rs =>
        have e : asgs ts xs ρ = some ρ' := by unfold asg at e; exact e
        exact ⟨_, _, rfl, st.sub.sqT (.inl (.inl h1)), by rw [rs.length, ← asgs_len e]; exact hl, F, ρ, fp, xs, ρ', st, rs, e, q⟩
    | _ => simp [asg] at e
def mAsg (t : Tg) (m : M) : MS := fun ρ => (m ρ).stm fun r ρ' => match r with
  | .d x => match asg t x ρ' with
    | some ρ2 => .nx ρ2
    | none => .no
  | _ => .no
end
def Yields (g : Wd) (F : Hp) (J : It) (xs : List D) : Prop := ∀ (i : Nat) (F2 H2 : Hp), Ext F F2 → Ext F2 H2 → (i = xs.length → J.stop i H2) ∧ (∀ d, xs[i]? = some d → J.go i H2 ∧ ∀ x H3, J.yld i H2 x H3 → ∃ F3, Ext F3 H3 ∧ Ext F2 F3 ∧ Ext H2 H3 ∧ (∀ a o, F3 a = some o → F2 a = some o ∨ H2 a = none) ∧ Rep g F3 x d)
theorem Yields.mono {g : Wd} {F F' : Hp} {J : It} {xs : List D} (y : Yields g F J xs) (e : Ext F F') : Yields g F' J xs := fun i F2 H2 e1 e2 => y i F2 H2 (e.trans e1) e2
def RepI (g : Wd) : VRel (List D) It := fun F H S J xs fr => Yields g F J xs ∧ fr = []
abbrev MI := Ro → Res (List D)
abbrev tI (g : Wd) (W : WX) (m : MI) : TI := tR g W (RepI g) m
abbrev SI (X : Cx) (W : WX) (tg e : Expr) (m : MI) : Prop := PI X tg e (tI (gOf X) W m)
theorem PI.wk {X : Cx} {tg e : Expr} {t t' : TI} (h : PI X tg e t) (i : ∀ σ H Q, t' σ H Q → t σ H Q) : PI X tg e t' := ⟨fun pins s σ H Q I q => h.run pins s σ H Q I (i σ H Q q)⟩
def forGoR (t : Tg) (b : MS) : List D → MS
  | [], ρ => .nx ρ
  | x :: xs, ρ => match asg t x ρ with
    | none => .no
    | some ρ1 => match b ρ1 with
      | .nx ρ2 => forGoR t b xs ρ2
      | .ct ρ2 => forGoR t b xs ρ2
      | .bk ρ2 => .nx ρ2
      | r => r
def forGo : Tg → MS → List D → MS := hide forGoR
theorem forGo_nil (t : Tg) (b : MS) (ρ : Ro) : forGo t b [] ρ = .nx ρ := by unfold forGo; rw [hide_eq]; rfl
theorem forGo_cons (t : Tg) (b : MS) (x : D) (xs : List D) (ρ : Ro) : forGo t b (x :: xs) ρ = match asg t x ρ with
    | none => .no
    | some ρ1 => (match b ρ1 with
      | .nx ρ2 => forGo t b xs ρ2
      | .ct ρ2 => forGo t b xs ρ2
      | .bk ρ2 => .nx ρ2
      | r => r) := by unfold forGo; rw [hide_eq]; rfl
def mFor (it : MI) (t : Tg) (b : MS) : MS := fun ρ => (it ρ).stm fun xs ρ' => forGo t b xs ρ'
def whGo (c : MB) (b : MS) : Nat → MS
  | 0, _ => .no
  | n + 1, ρ => (c ρ).stm fun x ρ1 => if x = true then (match b ρ1 with
      | .nx ρ2 => whGo c b n ρ2
      | .ct ρ2 => whGo c b n ρ2
      | .bk ρ2 => .nx ρ2
      | r => r) else .nx ρ1
open Classical in
def mWhile (c : MB) (b : MS) : MS := fun ρ => if h : ∃ n, whGo c b n ρ ≠ .no then whGo c b (Classical.choose h) ρ else .no
theorem whGo_more (c : MB) (b : MS) : ∀ (n : Nat) (ρ : Ro), whGo c b n ρ ≠ .no → whGo c b (n + 1) ρ = whGo c b n ρ
  | 0, ρ, h => absurd rfl h
  | n + 1, ρ, h => by
    rw [whGo] at h
    rw [whGo, whGo]
    cases e : c ρ with
    | no => rfl
    | ex x ρ1 => rfl
    | ok x ρ1 q =>
      rw [e] at h
      simp only [Res.stm_ok] at h ⊢
      cases x with
      | false => rfl
      | true =>
        rw [if_pos rfl] at h ⊢
        rw [if_pos rfl]
        cases e2 : b ρ1 with
        | nx ρ2 => rw [e2] at h; exact whGo_more c b n ρ2 h
        | ct ρ2 => rw [e2] at h; exact whGo_more c b n ρ2 h
        | _ => rfl
theorem whGo_le (c : MB) (b : MS) {n k : Nat} {ρ : Ro} (h : whGo c b n ρ ≠ .no) : whGo c b (n + k) ρ = whGo c b n ρ := by
  induction k with
  | zero => rfl
  | succ k ih => rw [← Nat.add_assoc, whGo_more c b (n + k) ρ (by rw [ih]; exact h), ih]
theorem mWhile_eq {c : MB} {b : MS} {n : Nat} {ρ : Ro} {r : SRes} (e : whGo c b n ρ = r) (h : r ≠ .no) : mWhile c b ρ = r := by
  have hx : ∃ n, whGo c b n ρ ≠ .no := ⟨n, by rw [e]; exact h⟩
  unfold mWhile
  rw [dif_pos hx]
  have h2 := Classical.choose_spec hx
  have a1 := whGo_le c b (k := Classical.choose hx) (n := n) (ρ := ρ) (by rw [e]; exact h)
  have a2 := whGo_le c b (k := n) h2
  rw [Nat.add_comm] at a2
  rw [← a2, a1, e]
section
variable {X : Cx} {W : WX} {pos : Pos} {a b c tg : Expr} {es : List Expr} {ma mb mc : M} {ms : List M} {st : Stmt} {sts : List Stmt} {m n : MS} {tc : MB} {t : Tg} {ts : List Tg} {mi : MI}
theorem ss_for (hp : PassesOwn (model X.prog X.w) X.A X.env X.xe) (hc : X.calm = true) (hi : SI X W tg a mi) (hg : SG X tg t) (hb : SSs X W sts m) (hs : ∀ x, foldedSetIterable a X.env x = pure x := by intro _; rfl) : SS X W (.For tg a sts [] pos) (mFor mi t m) :=
  PS.wk (ps_for hp hc hi hg hb hs) fun D σ H h => tS_of h fun xs ρ1 J F1 H1 fp1 fr1 st1 r1 n1 ob => by
    obtain ⟨yl, rfl⟩ := r1
    rw [plus_nil] at ob
    refine ⟨fun i k σ' H' => i ≤ xs.length ∧ k = xs.length - i ∧ ∃ F ρ fp, Stt (gOf X) F H' σ' ρ fp ∧ Ext F1 F ∧ ObS (gOf X) W ρ σ' F H' (Own fp) (forGo t m (xs.drop i) ρ) D, ⟨xs.length, Nat.zero_le _, rfl, F1, ρ1, fp1, st1, .refl _, ob⟩, fun i k σ2 H2 hw => ?_⟩
    obtain ⟨hi, rfl, F, ρ, fp, stt, ex, ob2⟩ := hw
    have Y := yl i F H2 ex stt.sub
    by_cases hl : i < xs.length
    · obtain ⟨d, hd⟩ : ∃ d, xs[i]? = some d := ⟨xs[i], List.getElem?_eq_getElem hl⟩
      have hdr : xs.drop i = d :: xs.drop (i + 1) := by
        rw [List.getElem?_eq_getElem hl] at hd
        cases hd
        exact (List.drop_eq_getElem_cons hl)
      rw [hdr] at ob2
      obtain ⟨go, yy⟩ := Y.2 d hd
      refine .inr ⟨go, fun σ' H' => i + 1 ≤ xs.length ∧ ∃ F ρ fp, Stt (gOf X) F H' σ' ρ fp ∧ Ext F1 F ∧ ObS (gOf X) W ρ σ' F H' (Own fp) (forGo t m (xs.drop (i + 1)) ρ) D, fun σ' H' hN => ⟨xs.length - (i + 1), by omega, hN.1, rfl, hN.2⟩, fun x H3 hy => ?_⟩
      obtain ⟨F3, s3, e3, eh3, n3, r3⟩ := yy x H3 hy
      have own3 : ∀ a, Own fp a → F3 a = none := fun a ha => by
        cases q : F3 a with
        | none => rfl
        | some u =>
          rcases n3 a u q with z | z
          · rw [(stt.there ha).2] at z; cases z
          · exact absurd z (stt.there ha).1
      have st3 := stt.grown e3 eh3 s3 own3
      have step3 : Step F H2 (Own fp) F3 H3 (Own fp) := ⟨e3, fun a o _ h => eh3 a o h, fun a o h => (n3 a o h).imp id fun z => .inr (.inl z), fun a h => .inl h⟩
      have ob3 := ob2.after step3 (.refl ρ σ2)
      cases e : asg t d ρ with
      | none => rw [forGo_cons, e] at ob3; exact absurd rfl ob3.no
      | some ρ4 =>
        rw [forGo_cons, e] at ob3
        dsimp only at ob3
        refine ⟨F3, ρ, fp, d, ρ4, st3, r3, e, fun σ4 fp4 st4 o4 k4 _ => ⟨F3, ρ4, fp4, st4, ?_⟩⟩
        have ob4 := ob3.after ((Step.refl F3 H3 (Own fp)).weak o4) k4
        have next : ∀ ρ5 σ5 F5 H5 fp5, ObS (gOf X) W ρ4 σ4 F3 H3 (Own fp4) (forGo t m (xs.drop (i + 1)) ρ5) D → Step F3 H3 (Own fp4) F5 H5 (Own fp5) → Stt (gOf X) F5 H5 σ5 ρ5 fp5 → Kbs ρ4 σ4 ρ5 σ5 → i + 1 ≤ xs.length ∧ ∃ F ρ fp, Stt (gOf X) F H5 σ5 ρ fp ∧ Ext F1 F ∧ ObS (gOf X) W ρ σ5 F H5 (Own fp) (forGo t m (xs.drop (i + 1)) ρ) D :=
          fun ρ5 σ5 F5 H5 fp5 o s st5 k => ⟨hl, F5, ρ5, fp5, st5, (ex.trans e3).trans s.ext, o.after s k⟩
        cases e5 : m ρ4 with
        | nx ρ5 =>
          rw [e5] at ob4
          exact ⟨fun z => (nomatch z), fun ρ' q σ' F' H' fp' s' st' k' => by cases q; exact next _ _ _ _ _ ob4 s' st' k', fun ρ' q => (nomatch q), fun ρ' q => (nomatch q), fun r ρ' q => (nomatch q), fun r ρ' q => (nomatch q)⟩
        | ct ρ5 =>
          rw [e5] at ob4
          exact ⟨fun z => (nomatch z), fun ρ' q => (nomatch q), fun ρ' q => (nomatch q), fun ρ' q σ' F' H' fp' s' st' k' => by cases q; exact next _ _ _ _ _ ob4 s' st' k', fun r ρ' q => (nomatch q), fun r ρ' q => (nomatch q)⟩
        | bk ρ5 =>
          rw [e5] at ob4
          exact ⟨fun z => (nomatch z), fun ρ' q => (nomatch q), fun ρ' q σ' F' H' fp' s' st' k' => by cases q; exact ob4.nx _ rfl σ' F' H' fp' s' st' k', fun ρ' q => (nomatch q), fun r ρ' q => (nomatch q), fun r ρ' q => (nomatch q)⟩
        | rt r ρ5 => rw [e5] at ob4; exact ⟨fun z => (nomatch z), fun ρ' q => (nomatch q), fun ρ' q => (nomatch q), fun ρ' q => (nomatch q), ob4.rt, ob4.ex⟩
        | ex x ρ5 => rw [e5] at ob4; exact ⟨fun z => (nomatch z), fun ρ' q => (nomatch q), fun ρ' q => (nomatch q), fun ρ' q => (nomatch q), ob4.rt, ob4.ex⟩
        | no => rw [e5] at ob4; exact absurd rfl ob4.no
    · have e : i = xs.length := by omega
      subst e
      refine .inl ⟨Y.1 rfl, ?_⟩
      rw [List.drop_length, forGo_nil] at ob2
      exact ob2.nx ρ rfl σ2 F H2 fp (.refl _ _ _) stt (.refl _ _)
theorem ss_while (hp : PassesOwn (model X.prog X.w) X.A X.env X.xe) (hc : ST X W a tc) (hb : SSs X W sts m) : SS X W (.While a sts [] pos) (mWhile tc m) :=
  PS.wk (ps_while hp hc hb) fun D σ H h => by
    obtain ⟨F, ρ, fp, st, ob⟩ := h
    have hx : ∃ n, whGo tc m n ρ ≠ .no := by
      by_cases hx : ∃ n, whGo tc m n ρ ≠ .no
      · exact hx
      · exact absurd (show mWhile tc m ρ = .no by unfold mWhile; rw [dif_neg hx]) ob.no
    obtain ⟨N, hN⟩ := hx
    rw [mWhile_eq (n := N) rfl hN] at ob
    refine ⟨fun k σ' H' => ∃ F ρ fp, Stt (gOf X) F H' σ' ρ fp ∧ ObS (gOf X) W ρ σ' F H' (Own fp) (whGo tc m k ρ) D, ⟨N, F, ρ, fp, st, ob⟩, fun k σ2 H2 hw => ?_⟩
    obtain ⟨F, ρ, fp, stt, ob2⟩ := hw
    cases k with
    | zero => exact absurd rfl ob2.no
    | succ k =>
      refine tS_of (D := D) (m := tc) (k := fun x ρ1 => if x = true then (match m ρ1 with
        | .nx ρ2 => whGo tc m k ρ2
        | .ct ρ2 => whGo tc m k ρ2
        | .bk ρ2 => .nx ρ2
        | r => r) else .nx ρ1) ⟨F, ρ, fp, stt, ob2⟩ fun x ρ3 v F3 H3 fp3 fr3 st3 r3 n3 ob3 => ?_
      obtain ⟨rfl, rfl⟩ := r3
      rw [plus_nil] at ob3
      cases v with
      | false =>
        rw [if_neg (by decide)] at ob3 ⊢
        exact ob3.nx ρ3 rfl σ2 F3 H3 fp3 (.refl _ _ _) st3 (.refl _ _)
      | true =>
        rw [if_pos rfl] at ob3 ⊢
        refine ⟨fun σ' H' => ∃ F ρ fp, Stt (gOf X) F H' σ' ρ fp ∧ ObS (gOf X) W ρ σ' F H' (Own fp) (whGo tc m k ρ) D, fun σ' H' hN => ⟨k, Nat.lt_succ_self k, hN⟩, F3, ρ3, fp3, st3, ?_⟩
        cases e5 : m ρ3 with
        | nx ρ5 =>
          rw [e5] at ob3
          exact ⟨fun z => (nomatch z), fun ρ' q σ' F' H' fp' s' st' k' => by cases q; exact ⟨F', ρ5, fp', st', ob3.after s' k'⟩, fun ρ' q => (nomatch q), fun ρ' q => (nomatch q), fun r ρ' q => (nomatch q), fun r ρ' q => (nomatch q)⟩
        | ct ρ5 =>
          rw [e5] at ob3
          exact ⟨fun z => (nomatch z), fun ρ' q => (nomatch q), fun ρ' q => (nomatch q), fun ρ' q σ' F' H' fp' s' st' k' => by cases q; exact ⟨F', ρ5, fp', st', ob3.after s' k'⟩, fun r ρ' q => (nomatch q), fun r ρ' q => (nomatch q)⟩
        | bk ρ5 =>
          rw [e5] at ob3
          exact ⟨fun z => (nomatch z), fun ρ' q => (nomatch q), fun ρ' q σ' F' H' fp' s' st' k' => by cases q; exact ob3.nx _ rfl σ' F' H' fp' s' st' k', fun ρ' q => (nomatch q), fun r ρ' q => (nomatch q), fun r ρ' q => (nomatch q)⟩
        | rt r ρ5 => rw [e5] at ob3; exact ⟨fun z => (nomatch z), fun ρ' q => (nomatch q), fun ρ' q => (nomatch q), fun ρ' q => (nomatch q), ob3.rt, ob3.ex⟩
        | ex x ρ5 => rw [e5] at ob3; exact ⟨fun z => (nomatch z), fun ρ' q => (nomatch q), fun ρ' q => (nomatch q), fun ρ' q => (nomatch q), ob3.rt, ob3.ex⟩
        | no => rw [e5] at ob3; exact absurd rfl ob3.no
end
end
end Mw
set_option Elab.async false
set_option linter.all false
set_option maxRecDepth 100000
set_option autoImplicit false
namespace Mw
open PySem PySem.Spec PyProof.Rows L2
noncomputable section
section
variable {X : Cx} {W : WX} {pos : Pos} {a b c tg : Expr} {es : List Expr} {ma mb mc : M} {ms : List M} {st : Stmt} {sts : List Stmt} {m n : MS} {tc : MB} {t : Tg} {ts : List Tg} {mi : MI}
theorem pi_seq {tl : TE} (hl : PE X a tl) : PI X tg a (fun σ H R => tl σ H fun x H1 => (∃ p xs, x = .ref p ∧ SqL X.K H1 p xs ∧ R (Itl X.K p) H1) ∨ (∃ p xs, x = .ref p ∧ SqT X.K H1 p xs ∧ R (Itt X.K p) H1) ∨ ∃ z, x = .str z ∧ R (Its z) H1) := by
  refine ⟨fun pins s σ H R I h => ?_⟩
  refine thn (hl.run pins s σ H _ I h) fun v s1 ⟨x, H1, I1, r1, q1⟩ => ?_
  rcases q1 with ⟨p, xs, e, hq, q⟩ | ⟨p, xs, e, hq, q⟩ | ⟨z, e, q⟩
  · subst e
    cases r1
    obtain ⟨its, rv, pl, hz⟩ := I1.list hq
    refine wpAny_pyIter_list pl.isList ?_
    refine ⟨s1.heap.objs.size, [s1.heap.objs.size], _, _, H1, rfl, I1.kept (t' := s1.toks) fun b o e => Heap.get?_push_of_some _ e, turn_list p _, ⟨_, Heap.get?_push_size _ rfl, rfl, rfl⟩, fun b hb => ?_, q⟩
    have e : b = s1.heap.objs.size := by simpa using hb
    subst e
    exact I1.fpOk (Nat.le_refl _) (I1.hok.fresh (Nat.le_refl _))
  · subst e
    cases r1
    obtain ⟨its, rv, pl, hz⟩ := I1.tuple hq
    refine wpAny_pyIter_tuple (show s1.heap.IsTuple p its.toArray from pl) ?_
    refine ⟨s1.heap.objs.size, [s1.heap.objs.size], _, _, H1, rfl, I1.kept (t' := s1.toks) fun b o e => Heap.get?_push_of_some _ e, turn_tuple p _, ⟨_, Heap.get?_push_size _ rfl, rfl, rfl⟩, fun b hb => ?_, q⟩
    have e : b = s1.heap.objs.size := by simpa using hb
    subst e
    exact I1.fpOk (Nat.le_refl _) (I1.hok.fresh (Nat.le_refl _))
  · subst e
    obtain ⟨t, rfl⟩ := r1
    cases ha : z.cps.all (· < 128)
    · exact wpAny_pyIter_wide ha (pi_one (tk := s1.toks) I1 _ (turn_str _ z t "str_iterator" (.inr rfl)) ⟨_, Heap.get?_push_size _ rfl, rfl, rfl⟩ q)
    · exact wpAny_pyIter_ascii ha (pi_one (tk := s1.toks) I1 _ (turn_str _ z t "str_ascii_iterator" (.inl rfl)) ⟨_, Heap.get?_push_size _ rfl, rfl, rfl⟩ q)
def R.its : R → Option (List D)
  | .d (.lst ds) => some ds
  | .d (.tup ds) => some ds
  | .d (.str s) => some (s.map fun c => .str [c])
  | .own (.lst os) => undO os
  | _ => none
@[simp] theorem R.its_l (ds : List D) : (R.d (.lst ds)).its = some ds := rfl
@[simp] theorem R.its_t (ds : List D) : (R.d (.tup ds)).its = some ds := rfl
@[simp] theorem R.its_o (ds : List D) : (R.own (.lst (ds.map O.d))).its = some ds := by simp [R.its]
def mIt (m : M) : MI := fun ρ => (m ρ).bind fun r ρ' q => match r.its with
  | some ds => .ok ds ρ' q
  | none => .no
theorem yields_list {g : Wd} {F : Hp} {p : Addr} {vs : List V} {ds : List D} (h : SqL g.K F p vs) (r : Reps g F vs ds) : Yields g F (Itl g.K p) ds := by
  intro i F2 H2 e1 e2
  have h2 := e2.sqL (e1.sqL h)
  refine ⟨fun e => ⟨vs, h2, by rw [e, r.length]; exact Nat.le_refl _⟩, fun d hd => ?_⟩
  obtain ⟨v, hv, rv⟩ := r.get hd
  refine ⟨⟨vs, v, h2, hv⟩, fun x H3 hy => ?_⟩
  obtain ⟨rfl, hy⟩ := hy
  have := hy vs h2
  rw [hv] at this; cases this
  exact ⟨F2, e2, .refl _, .refl _, fun a o h => .inl h, rv.mono e1⟩
theorem yields_tup {g : Wd} {F : Hp} {p : Addr} {vs : List V} {ds : List D} (h : SqT g.K F p vs) (r : Reps g F vs ds) : Yields g F (Itt g.K p) ds := by
  intro i F2 H2 e1 e2
  have h2 := e2.sqT (e1.sqT h)
  refine ⟨fun e => ⟨vs, h2, by rw [e, r.length]; exact Nat.le_refl _⟩, fun d hd => ?_⟩
  obtain ⟨v, hv, rv⟩ := r.get hd
  refine ⟨⟨vs, v, h2, hv⟩, fun x H3 hy => ?_⟩
  obtain ⟨rfl, hy⟩ := hy
  have := hy vs h2
  rw [hv] at this; cases this
  exact ⟨F2, e2, .refl _, .refl _, fun a o h => .inl h, rv.mono e1⟩
theorem yields_str {g : Wd} {F : Hp} {s : List Nat} : Yields g F (Its ⟨s.toArray⟩) (s.map fun c => .str [c]) := by
  have w := walk_str (z := ⟨s.toArray⟩)
  intro i F2 H2 e1 e2
  refine ⟨fun e => ?_, fun d hd => ?_⟩
  · have := w.stops H2 trivial
    rw [e, List.length_map]
    simpa using this
  · rw [List.getElem?_map] at hd
    cases hc : s[i]? with
    | none => rw [hc] at hd; cases hd
    | some c =>
      rw [hc] at hd; cases hd
      have hi : i < (⟨s.toArray⟩ : Str).cps.size := by
        have := (List.getElem?_eq_some_iff.mp hc).1
        simpa using this
      refine ⟨w.goes i H2 hi trivial, fun x H3 hy => ?_⟩
      obtain ⟨rfl, c', hc', rfl⟩ := w.yields i H2 x H3 hi trivial hy
      have : c' = c := by
        have h2 : s[i]? = some c' := by simpa using hc'
        rw [hc] at h2; cases h2; rfl
      subst this
      exact ⟨F2, e2, .refl _, .refl _, fun a o h => .inl h, .str (s := [c']) (by rw [sizeLine_eq]; show 1 ≤ 16777216; decide)⟩
theorem si_seq (ha : SE X W a ma) : SI X W tg a (mIt ma) := PI.wk (pi_seq ha) fun σ H R h => by
  refine tR.bind h fun F ρ fp st r ρ1 q1 e1 v F1 H1 fp1 fr1 s1 st1 r1 n1 z1 ob => ?_
  cases e : r.its with
  | none => rw [e] at ob; exact absurd rfl ob.1
  | some ds =>
    rw [e] at ob
    have fin : ∀ (J : It), fr1 = [] → Yields (gOf X) F1 J ds → R J H1 := fun J hf y => by
      subst hf
      exact ob.2.1 ds ρ1 q1 rfl J F1 H1 fp1 [] (by rw [plus_nil]; exact .refl _ _ _) st1 ⟨y, rfl⟩ n1 z1
    cases r with
    | d x =>
      cases x with
      | lst es =>
        cases e
        obtain ⟨hr, hf⟩ := r1
        cases hr with
        | lst h hl rr => exact .inl ⟨_, _, rfl, st1.sub.sqL h, fin _ hf (yields_list h rr)⟩
      | tup es =>
        cases e
        obtain ⟨hr, hf⟩ := r1
        cases hr with
        | tup h hl rr => exact .inr (.inl ⟨_, _, rfl, st1.sub.sqT (.inl (.inl h)), fin _ hf (yields_tup (.inl (.inl h)) rr)⟩)
      | str s =>
        cases e
        obtain ⟨hr, hf⟩ := r1
        cases hr with
        | str h => exact .inr (.inr ⟨_, rfl, fin _ hf yields_str⟩)
      | _ => cases e
    | own o =>
      cases o with
      | lst os =>
        have o1 := RepR.out (r := .own (.lst os)) r1
        obtain ⟨p, vs, rfl, hp, hl, rr⟩ := RepR.ofOl (r := .own (.lst os)) r1 (ds := ds) e
        obtain ⟨hr, ho⟩ := r1
        cases hr with
        | @lst _ vs' _ fp' h hl' r' =>
          have hpm : p ∈ p :: fp' := by simp
          have st2 : Stt (gOf X) (frz F1 H1 (p :: fp')) H1 σ ρ1 fp1 := st1.grown (frz_ext st1.sub) (.refl _) (frz_sub st1.sub) fun a ha => by
            unfold frz
            rw [if_neg fun z => (o1 a z).2.1 ha]
            exact (st1.there ha).2
          refine .inl ⟨p, vs, rfl, .inl (.inl hp), ?_⟩
          refine ob.2.1 ds ρ1 q1 rfl _ (frz F1 H1 (p :: fp')) H1 fp1 [] ?_ st2 ⟨yields_list (.inl (.inl ((frz_mem hpm).trans hp))) (rr.mono (frz_ext st1.sub)), rfl⟩ List.nodup_nil z1
          rw [plus_nil]
          exact ⟨frz_ext st1.sub, fun a o _ h => h, fun a o h => (frz_new h).imp id fun z => .inl (.inr z), fun a h => .inl (.inl h)⟩
      | _ => cases e
    | pk o => cases e
variable {p : Pos}
def mRg1 (m : M) : MI := fun ρ => (m ρ).bind fun r ρ' q => match r with
  | .d (.int j) => if rgOk j = true then .ok ((List.range j.toNat).map fun (k : Nat) => D.int k) ρ' q else .no
  | _ => .no
theorem yields_rng {g : Wd} {F : Hp} {lo : Int} {n : Nat} : Yields g F (Itr lo n) ((List.range n).map fun (k : Nat) => D.int (lo + k)) := by
  intro i F2 H2 e1 e2
  refine ⟨fun e => by rw [e, List.length_map, List.length_range]; exact Nat.le_refl _, fun d hd => ?_⟩
  rw [List.getElem?_map] at hd
  cases hc : (List.range n)[i]? with
  | none => rw [hc] at hd; cases hd
  | some c =>
    rw [hc] at hd; cases hd
    obtain ⟨hi, e⟩ := List.getElem?_eq_some_iff.mp hc
    rw [List.length_range] at hi
    rw [List.getElem_range] at e
    subst e
    refine ⟨hi, fun x H3 hy => ?_⟩
    obtain ⟨rfl, rfl⟩ := hy
    exact ⟨F2, e2, .refl _, .refl _, fun a o h => .inl h, .int _⟩
theorem si_rg1 (hg : Gl X "range") (hm : X.mg "range" = none) (ha : SE X W a ma) (he : starEach [a] X.env = (false, eval a X.env) :: starEach [] X.env := by rfl) : SI X W tg (.Call (.Name "range" p) [a] [] pos) (mRg1 ma) := PI.wk (pi_range1 hg hm (pa_cons ha pa_nil he) he) fun σ H R h => by
  refine tR.bind h fun F ρ fp st r ρ1 q1 e1 v F1 H1 fp1 fr1 s1 st1 r1 n1 z1 ob => ?_
  show ∃ j : Int, [v] = [.int j] ∧ -(2 ^ 62) ≤ j ∧ j < 2 ^ 62 ∧ R (Itr 0 j.toNat) H1
  cases r with
  | d x =>
    cases x with
    | int j =>
      dsimp only at ob
      split at ob
      · next hj =>
        have hj := rgOk_iff hj
        obtain ⟨hr, rfl⟩ := r1
        cases hr
        refine ⟨j, rfl, by omega, by omega, ?_⟩
        have y := yields_rng (g := gOf X) (F := F1) (lo := 0) (n := j.toNat)
        simp only [Int.zero_add] at y
        exact ob.2.1 _ ρ1 q1 rfl _ F1 H1 fp1 [] (by rw [plus_nil]; exact .refl _ _ _) st1 ⟨y, rfl⟩ n1 z1
      · exact absurd rfl ob.1
    | _ => exact absurd rfl ob.1
  | _ => exact absurd rfl ob.1
def mRg2 (ma mb : M) : MI := fun ρ => (mArgs [ma, mb] ρ).bind fun rs ρ' q => match rs with
  | [.d (.int i), .d (.int j)] => if (rgOk i && rgOk j) = true then .ok ((List.range (j - i).toNat).map fun (k : Nat) => D.int (i + k)) ρ' q else .no
  | _ => .no
theorem si_rg2 (hg : Gl X "range") (hm : X.mg "range" = none) (ha : SE X W a ma) (hb : SE X W b mb) (he : starEach [a, b] X.env = [(false, eval a X.env), (false, eval b X.env)] := by rfl) (hs2 : starEach [b] X.env = [(false, eval b X.env)] := by rfl) :
    SI X W tg (.Call (.Name "range" p) [a, b] [] pos) (mRg2 ma mb) := PI.wk (pi_range2 hg hm (a_cons ha (a_cons hb a_nil hs2) (he.trans (by rw [hs2]))) he hs2) fun σ H R h => by
  refine tR.bind h fun F ρ fp st rs ρ1 q1 e1 vs F1 H1 fp1 fr1 s1 st1 r1 n1 z1 ob => ?_
  have key : ∀ i j, rs = [.d (.int i), .d (.int j)] → ∃ i j : Int, vs = [.int i, .int j] ∧ (-(2 ^ 62) ≤ i ∧ i < 2 ^ 62 ∧ -(2 ^ 62) ≤ j ∧ j < 2 ^ 62) ∧ R (Itr i (j - i).toNat) H1 := fun i j e => by
    subst e
    dsimp only at ob
    split at ob
    · next hj =>
      have hj := Bool.and_eq_true_iff.mp hj
      have hi := rgOk_iff hj.1
      have hj := rgOk_iff hj.2
      obtain ⟨v, w, f1, f2, rfl, rfl, h1, h2⟩ := r1.two
      obtain ⟨h1, rfl⟩ := h1
      obtain ⟨h2, rfl⟩ := h2
      cases h1; cases h2
      refine ⟨i, j, rfl, by omega, ?_⟩
      exact ob.2.1 _ ρ1 q1 rfl _ F1 H1 fp1 [] (by rw [plus_nil]; exact (Step.refl _ _ _).weak fun x h => .inl h) st1 ⟨yields_rng, rfl⟩ n1 z1
    · exact absurd rfl ob.1
  match rs with
  | [.d (.int i), .d (.int j)] => exact key i j rfl
  | [] => exact absurd rfl ob.1
  | [.d (.int i)] => exact absurd rfl ob.1
  | .d (.int i) :: .d (.int j) :: _ :: _ => exact absurd rfl ob.1
  | .d (.int i) :: .d .non :: _ => exact absurd rfl ob.1
  | .d (.int i) :: .d (.bl _) :: _ => exact absurd rfl ob.1
  | .d (.int i) :: .d (.str _) :: _ => exact absurd rfl ob.1
  | .d (.int i) :: .d (.tup _) :: _ => exact absurd rfl ob.1
  | .d (.int i) :: .d (.lst _) :: _ => exact absurd rfl ob.1
  | .d (.int i) :: .d (.obj _ _ _) :: _ => exact absurd rfl ob.1
  | .d (.int i) :: .own _ :: _ => exact absurd rfl ob.1
  | .d (.int i) :: .pk _ :: _ => exact absurd rfl ob.1
  | .d .non :: _ => exact absurd rfl ob.1
  | .d (.bl _) :: _ => exact absurd rfl ob.1
  | .d (.str _) :: _ => exact absurd rfl ob.1
  | .d (.tup _) :: _ => exact absurd rfl ob.1
  | .d (.lst _) :: _ => exact absurd rfl ob.1
  | .d (.obj _ _ _) :: _ => exact absurd rfl ob.1
  | .own _ :: _ => exact absurd rfl ob.1
  | .pk _ :: _ => exact absurd rfl ob.1
def mv (i : Nat) : M := fun ρ => match ρ[i]? with
  | some (.shr d) => .ok (.d d) ρ true
  | some (.mu false o) => .ok (.own o) (ρ.set i .un) false
  | _ => .no
def fz (i : Nat) : M := fun ρ => match ρ[i]? with
  | some (.shr d) => .ok (.d d) ρ true
  | some (.mu false o) => if o.fz = true then .ok (.d o.toD) (ρ.set i (.shr o.toD)) false else .no
  | _ => .no
theorem tM_mv {g : Wd} {i : Nat} {σ : L2.St} {H : Hp} {Q : VK} (h : tM g W (mv i) σ H Q) : tVar i σ H Q := by
  obtain ⟨F, ρ, fp, st, ob⟩ := h
  cases e : ρ[i]? with
  | none => exact absurd (by unfold mv; rw [e]) ob.1
  | some x =>
    have hi : i < ρ.length := (List.getElem?_eq_some_iff.mp e).1
    cases x with
    | un => exact absurd (by unfold mv; rw [e]) ob.1
    | xc x => exact absurd (by unfold mv; rw [e]) ob.1
    | shr d =>
      obtain ⟨v, e1, r⟩ := st.shr i d e
      exact ⟨v, e1, ob.2.1 (.d d) ρ true (by unfold mv; rw [e]) v F H fp [] (by rw [plus_nil]; exact .refl _ _ _) st ⟨r, rfl⟩ List.nodup_nil ⟨.refl ρ, fun _ => ⟨.refl H, rfl⟩⟩⟩
    | mu b o =>
      cases b with
      | true => exact absurd (by unfold mv; rw [e]) ob.1
      | false =>
        obtain ⟨v, e1, r⟩ := st.mu i false o e
        obtain ⟨fp', st', k1, k2⟩ := st.drop i
        refine ⟨v, e1, ob.2.1 (.own o) (ρ.set i .un) false (by unfold mv; rw [e]) v F H fp' (fp i) ⟨.refl F, fun a o _ h => h, fun a o h => .inl h, fun a h => .inl (h.elim (k1 a) fun z => ⟨i, z⟩)⟩ st' ⟨r, fun a ha => ⟨st.fre i a ha, k2 hi a ha⟩⟩ (st.nd i) ⟨.set (by unfold isBor; rw [e]) _, fun z => nomatch z⟩⟩
theorem tM_fz {g : Wd} {i : Nat} {σ : L2.St} {H : Hp} {Q : VK} (h : tM g W (fz i) σ H Q) : tVar i σ H Q := by
  obtain ⟨F, ρ, fp, st, ob⟩ := h
  cases e : ρ[i]? with
  | none => exact absurd (by unfold fz; rw [e]) ob.1
  | some x =>
    have hi : i < ρ.length := (List.getElem?_eq_some_iff.mp e).1
    cases x with
    | un => exact absurd (by unfold fz; rw [e]) ob.1
    | xc x => exact absurd (by unfold fz; rw [e]) ob.1
    | shr d =>
      obtain ⟨v, e1, r⟩ := st.shr i d e
      exact ⟨v, e1, ob.2.1 (.d d) ρ true (by unfold fz; rw [e]) v F H fp [] (by rw [plus_nil]; exact .refl _ _ _) st ⟨r, rfl⟩ List.nodup_nil ⟨.refl ρ, fun _ => ⟨.refl H, rfl⟩⟩⟩
    | mu b o =>
      cases b with
      | true => exact absurd (by unfold fz; rw [e]) ob.1
      | false =>
        have he : fz i ρ = if o.fz = true then .ok (.d o.toD) (ρ.set i (.shr o.toD)) false else .no := by unfold fz; rw [e]
        by_cases hz : o.fz = true
        · rw [if_pos hz] at he
          obtain ⟨v, e1, r⟩ := st.mu i false o e
          obtain ⟨fp1, st1, k1, k2⟩ := st.drop i
          have r' : Rep g (frz F H (fp i)) v o.toD := r.freeze (frz_ext st.sub) hz fun a ha u q => (frz_mem ha).trans q
          have st2 : Stt g (frz F H (fp i)) H σ (ρ.set i .un) fp1 := st1.grown (frz_ext st.sub) (.refl _) (frz_sub st.sub) fun a ha => by
            unfold frz
            rw [if_neg fun z => k2 hi a z ha]
            exact (st1.there ha).2
          obtain ⟨fp3, st3, k3⟩ := st2.put i (s := .shr o.toD) (f := []) (v := v) ⟨r', rfl⟩ List.nodup_nil fun a ha => nomatch ha
          have es : (σ.set i (some v)) = σ := by
            apply List.ext_getElem?
            intro j
            rw [List.getElem?_set]
            split
            · next z =>
              subst z
              split
              · exact e1.symm
              · rw [List.getElem?_eq_none (by omega)]
            · rfl
          rw [es, List.set_set] at st3
          refine ⟨v, e1, ob.2.1 _ _ false he v (frz F H (fp i)) H fp3 [] ?_ st3 ⟨r', rfl⟩ List.nodup_nil ⟨.set (by unfold isBor; rw [e]) _, fun z => nomatch z⟩⟩
          rw [plus_nil]
          exact ⟨frz_ext st.sub, fun a o _ h => h, fun a o h => (frz_new h).imp id fun z => .inl ⟨i, z⟩, fun a h => .inl (k1 a ((k3 a h).elim id fun z => nomatch z))⟩
        · rw [if_neg hz] at he
          exact absurd he ob.1
theorem s_mv {i : Nat} {x : Str} (hN : X.N[i]? = some x) (hv : Vis X.env.scope x) (hd : (x == ("__debug__" : Str)) = false := by decide) (hcd : (x == ("__classdict__" : Str)) = false := by decide) : SE X W (.Name x pos) (mv i) :=
  PE.wk (pe_var hN hv hd hcd) fun σ H Q h => tM_mv h
theorem s_fz {i : Nat} {x : Str} (hN : X.N[i]? = some x) (hv : Vis X.env.scope x) (hd : (x == ("__debug__" : Str)) = false := by decide) (hcd : (x == ("__classdict__" : Str)) = false := by decide) : SE X W (.Name x pos) (fz i) :=
  PE.wk (pe_var hN hv hd hcd) fun σ H Q h => tM_fz h
end
theorem Stt.chg {g : Wd} {F H H' : Hp} {σ : L2.St} {ρ : Ro} {fp : Nat → List Addr} (st : Stt g F H σ ρ fp) {i : Nat} {b : Bool} {o o' : O} (e : ρ[i]? = some (.mu b o)) {v : V} (ev : σ[i]? = some (some v)) {f : List Addr}
    (keep : ∀ a u, a ∉ fp i → H a = some u → H' a = some u) (r : RepO g F H' v o' f) (nd : f.Nodup) (fr : ∀ a ∈ f, a ∈ fp i ∨ H a = none) :
    ∃ fp', Stt g F H' σ (ρ.set i (.mu b o')) fp' ∧ Step F H (Own fp) F H' (Own fp') := by
  have hi : i < ρ.length := (List.getElem?_eq_some_iff.mp e).1
  have nf : ∀ a ∈ f, F a = none := fun a ha => by
    rcases fr a ha with z | z
    · exact st.fre i a z
    · exact fnone st.sub z
  have nj : ∀ j, j ≠ i → ∀ a ∈ f, a ∉ fp j := fun j hj a ha hb => by
    rcases fr a ha with z | z
    · exact hj (st.dis j i a hb z)
    · exact (st.there ⟨j, hb⟩).1 z
  have sub' : Ext F H' := fun a u h => keep a u (fun z => by rw [st.fre i a z] at h; cases h) (st.sub a u h)
  refine ⟨fun k => if k = i then f else fp k, ⟨sub', by simp [st.len], fun j hj => ?_, fun j d hd => ?_, fun j b' o1 ho => ?_, fun j => ?_, fun j k a ha hb => ?_, fun j a ha => ?_, fun j x hx => ?_⟩, ⟨.refl F, fun a u hs h => keep a u (fun z => hs ⟨i, z⟩) h, fun a o h => .inl h, fun a ⟨j, ha⟩ => ?_⟩⟩
  · try dsimp only
    split
    · next z => subst z; exact absurd (by rw [List.getElem?_set]; simp [hi]) (hj b o')
    · next z => exact st.un j fun b o q => hj b o (by rw [List.getElem?_set, if_neg fun y => z y.symm]; exact q)
  · rcases set_get hd with ⟨rfl, z, _⟩ | ⟨ne, hd⟩
    · cases z
    · exact st.shr j d hd
  · rcases set_get ho with ⟨rfl, z, _⟩ | ⟨ne, ho⟩
    · cases z
      (try dsimp only); rw [if_pos rfl]; exact ⟨v, ev, r⟩
    · (try dsimp only); rw [if_neg fun z => ne z.symm]
      obtain ⟨w, ew, rw'⟩ := st.mu j b' o1 ho
      exact ⟨w, ew, rw'.mono (.refl F) fun a ha u h => keep a u (fun z => ne (st.dis i j a z ha)) h⟩
  · (try dsimp only); split
    · exact nd
    · exact st.nd j
  · try dsimp only at ha hb
    split at ha <;> split at hb
    · next e1 e2 => exact e1.trans e2.symm
    · next e1 e2 => exact absurd hb (nj k e2 a ha)
    · next e1 e2 => exact absurd ha (nj j e1 a hb)
    · exact st.dis j k a ha hb
  · try dsimp only at ha
    split at ha
    · exact nf a ha
    · exact st.fre j a ha
  · rcases set_get hx with ⟨rfl, z, _⟩ | ⟨ne, hx⟩
    · cases z
    · exact st.xc j x hx
  · try dsimp only at ha
    split at ha
    · exact (fr a ha).imp (fun z => ⟨i, z⟩) id
    · exact .inl ⟨j, ha⟩
theorem Kb.chg {ρ : Ro} {i : Nat} {b : Bool} {o o' : O} (e : ρ[i]? = some (.mu b o)) : Kb ρ (ρ.set i (.mu b o')) := fun k u h => by
  by_cases hk : i = k
  · subst hk
    rw [e] at h; cases h
    exact ⟨o', by rw [List.getElem?_set]; simp [(List.getElem?_eq_some_iff.mp e).1]⟩
  · exact ⟨u, by rw [List.getElem?_set, if_neg hk]; exact h⟩
theorem Step.frz {F H : Hp} {S : Addr → Prop} {fr : List Addr} (s : Ext F H) : Step F H (Plus S fr) (frz F H fr) H S :=
  ⟨frz_ext s, fun a o _ h => h, fun a o h => (frz_new h).imp id fun z => .inl (.inr z), fun a h => .inl (.inl h)⟩
theorem Stt.frzd {g : Wd} {F H : Hp} {σ : L2.St} {ρ : Ro} {fp : Nat → List Addr} {fr : List Addr} (st : Stt g F H σ ρ fp) (h : ∀ a ∈ fr, ¬ Own fp a) : Stt g (frz F H fr) H σ ρ fp :=
  st.grown (frz_ext st.sub) (.refl _) (frz_sub st.sub) fun a ha => by
    unfold Mw.frz
    rw [if_neg fun z => h a z ha]
    exact (st.there ha).2
theorem RepOs.app1 {g : Wd} {F H : Hp} : ∀ {vs : List V} {os : List O} {fp : List Addr} {v : V} {x : D}, RepOs g F H vs os fp → Rep g F v x → RepOs g F H (vs ++ [v]) (os ++ [.d x]) fp
  | _, _, _, v, x, .nil, r => .cons (f := []) (fp := []) (.d r) .nil
  | _, _, _, v, x, .cons h t, r => .cons h (RepOs.app1 t r)
theorem RepOs.set1 {g : Wd} {F H : Hp} : ∀ {vs : List V} {os : List O} {fp : List Addr} {v : V} {x : D} (j : Nat), RepOs g F H vs os fp → Rep g F v x → ∃ fp', RepOs g F H (vs.set j v) (os.set j (.d x)) fp' ∧ List.Sublist fp' fp
  | _, _, _, v, x, j, .nil, r => ⟨[], .nil, List.Sublist.refl _⟩
  | _, _, _, v, x, 0, .cons (f := f) (fp := fp) h t, r => ⟨[] ++ fp, .cons (.d r) t, List.sublist_append_right f fp⟩
  | _, _, _, v, x, j + 1, .cons (f := f) (fp := fp) h t, r => by
    obtain ⟨fp', r', s⟩ := RepOs.set1 j t r
    exact ⟨f ++ fp', .cons h r', (List.Sublist.refl f).append s⟩
def isLst (ρ : Ro) (i : Nat) : Bool := match ρ[i]? with
  | some (.mu _ (.lst _)) => true
  | _ => false
def pushAt (ρ : Ro) (i : Nat) (x : D) : Option Ro := match ρ[i]? with
  | some (.mu b (.lst os)) => if lenOk (os.length + 1) = true then some (ρ.set i (.mu b (.lst (os ++ [.d x])))) else none
  | _ => none
def mApp (i : Nat) (m : M) : M := fun ρ => if isLst ρ i = true then (m ρ).bind fun r ρ' _ => match r.st with
  | some x => match pushAt ρ' i x with
    | some ρ2 => .ok (.d .non) ρ2 false
    | none => .no
  | none => .no
  else .no
section
variable {X : Cx} {W : WX} {pos : Pos} {a b c tg : Expr} {es : List Expr} {ma mb mc : M} {ms : List M} {st : Stmt} {sts : List Stmt} {m n : MS} {tc : MB} {t : Tg} {ts : List Tg} {mi : MI} {p : Pos}
theorem s_append {i : Nat} {x : Str} {apos : Pos} (hN : X.N[i]? = some x) (hv : Vis X.env.scope x) (ha : SE X W a ma) (hd : (x == ("__debug__" : Str)) = false := by decide) (hcd : (x == ("__classdict__" : Str)) = false := by decide)
    (hbase : attributeBase (.Name x p) "append" X.env (eval (.Name x p) X.env) = eval (.Name x p) X.env := by rfl)
    (hfew : ((backTo pos (starEach (a :: []) X.env)).all (fun x => !x.1) && (backToKw pos (keywordEach [] X.env)).all (fun x => x.1.isSome)
      && decide ((a :: ([] : List Expr)).length + ([] : List Keyword).length + (if ([] : List Keyword).isEmpty then 0 else 1) < 30)) = true := by rfl)
    (hline : (apos.endLine == pos.line) = true := by rfl) (hs : starEach (a :: []) X.env = (false, eval a X.env) :: starEach [] X.env := by rfl) :
    SE X W (.Call (.Attribute (.Name x p) "append" apos) [a] [] pos) (mApp i ma) :=
  PE.wk (pe_bm PySem.F.plainAttrs_list PySem.F.slot_list_append PySem.F.type_list_append mt_append (pe_var hN hv hd hcd) (pa_cons ha pa_nil hs) hbase hfew hline hs rfl) fun σ H Q h => by
    obtain ⟨F, ρ, fp, st, ob⟩ := h
    have ob : Ob (gOf X) W σ F H (Own fp) (Zq H ρ) (RepR (gOf X)) (if isLst ρ i = true then _ else _) Q := ob
    by_cases hl : isLst ρ i = true
    · rw [if_pos hl] at ob
      obtain ⟨b, os, e⟩ : ∃ b os, ρ[i]? = some (.mu b (.lst os)) := by
        unfold isLst at hl
        split at hl
        · next b os e => exact ⟨b, os, e⟩
        · cases hl
      obtain ⟨v, ev, r⟩ := st.mu i b _ e
      obtain ⟨f0, hf0⟩ : ∃ f, f = fp i := ⟨_, rfl⟩
      rw [← hf0] at r
      refine ⟨v, ev, ?_, ?_⟩
      · cases r with
        | lst h hl r => exact .inl ⟨rfl, _, .inl (.inl h)⟩
      · show tM (gOf X) W ma σ H fun y H2 => rAppend v [y] H2 Q
        refine tR.bind (m := ma) (k := fun r ρ' _ => match r.st with
          | some x => match pushAt ρ' i x with
            | some ρ2 => .ok (.d .non) ρ2 false
            | none => .no
          | none => .no) (RR := RepR (gOf X)) (Q := Q) ⟨F, ρ, fp, st, ob⟩ fun F0 ρ0 fp0 st0 r0 ρ1 q1 e1 y F1 H1 fp1 fr1 s1 st1 r1 n1 z1 ob1 => ?_
        cases ex : r0.st with
        | none => rw [ex] at ob1; exact absurd rfl ob1.1
        | some x =>
          rw [ex] at ob1
          dsimp only at ob1
          unfold pushAt at ob1
          split at ob1
          · next ρ2 e2 =>
            split at e2
            · next b2 os2 e3 =>
              split at e2
              · next hlen =>
                have hlen := lenOk_le hlen
                cases e2
                obtain ⟨v2, ev2, r2⟩ := st1.mu i b2 _ e3
                rw [ev] at ev2; cases ev2
                obtain ⟨f1, hf1⟩ : ∃ f, f = fp1 i := ⟨_, rfl⟩
                have nd1 := st1.nd i
                rw [← hf1] at r2 nd1
                cases r2 with
                | @lst l vs2 _ fe h2 hl2 rs2 =>
                  have hne : ∀ a ∈ fe, a ≠ l := fun a ha z => (List.nodup_cons.mp nd1).1 (z ▸ ha)
                  have hlt : vs2.length < sizeLine := by rw [rs2.length, sizeLine_eq]; omega
                  have st2 := st1.frzd fun a ha => (r1.out a ha).2.1
                  have ry : Rep (gOf X) (frz F1 H1 fr1) y x := r1.st ex (frz_ext st1.sub) fun a ha => frz_mem ha
                  obtain ⟨fp3, st3, sp3⟩ := st2.chg (H' := upd H1 l (.lst (vs2 ++ [y]))) e3 ev (o' := .lst (os2 ++ [.d x])) (f := l :: fe) (fun a u ha hu => by
                    rw [upd_ne fun z => ha (by rw [← hf1, z]; simp)]; exact hu)
                    (.lst upd_same (by rw [List.length_append]; exact hlt) (RepOs.app1 (rs2.mono (frz_ext st1.sub) fun a ha u hu => by rw [upd_ne (hne a ha)]; exact hu) ry)) nd1 fun a ha => .inl (by rw [← hf1]; exact ha)
                  refine ⟨l, vs2, y, rfl, rfl, h2, hlt, ob1.2.1 (.d .non) _ false rfl .non _ _ fp3 [] ?_ st3 ⟨.non, rfl⟩ List.nodup_nil ⟨z1.1.trans (.chg e3), fun z => nomatch z⟩⟩
                  rw [plus_nil]
                  exact (Step.frz st1.sub).trans sp3
              · cases e2
            · cases e2
          · exact absurd rfl ob1.1
    · rw [if_neg hl] at ob; exact absurd rfl ob.1
def putAt (ρ : Ro) (i : Nat) (k : Int) (x : D) : Option Ro := match ρ[i]? with
  | some (.mu b (.lst os)) => match ixN os.length k with
    | some j => some (ρ.set i (.mu b (.lst (os.set j (.d x)))))
    | none => none
  | _ => none
def mPut (i : Nat) (mk me : M) : MS := fun ρ => if isLst ρ i = true then (mArgs [me, mInt mk] ρ).stm fun rs ρ' => match rs with
  | [r, .d (.int k)] => match r.st with
    | some x => match putAt ρ' i k x with
      | some ρ2 => .nx ρ2
      | none => .no
    | none => .no
  | _ => .no
  else .no
theorem Kbs.chg {ρ : Ro} {σ : L2.St} {i : Nat} {b : Bool} {o o' : O} (e : ρ[i]? = some (.mu b o)) : Kbs ρ σ (ρ.set i (.mu b o')) σ := fun k u h => ⟨Kb.chg e k u h, rfl⟩
theorem ss_put {i : Nat} {x : Str} {spos : Pos} (hN : X.N[i]? = some x) (hv : Vis X.env.scope x) (ha : SE X W a ma) (hb : SE X W b mb) (hd : (x == ("__debug__" : Str)) = false := by decide) (hcd : (x == ("__classdict__" : Str)) = false := by decide)
    (hA : ∀ v, assign (.Subscript (.Name x p) b spos) X.env v = (do
      let ov ← holding [v] (eval (.Name x p) X.env)
      let iv ← holding [v, ov] (eval b X.env)
      standAt spos
      holding [v, ov, iv] (setItem ov iv v)
      release [v, ov, iv] []) := by intro _; rfl)
    (hs : swapsWithSole [.Subscript (.Name x p) b spos] a pos.line X.env = pure false := by rfl) (hw : swappedStores [.Subscript (.Name x p) b spos] a X.env = pure none := by rfl) (h1 : (assignEach [.Subscript (.Name x p) b spos] X.env).map (·.2) = [assign (.Subscript (.Name x p) b spos) X.env] := by rfl) :
    SS X W (.Assign [.Subscript (.Name x p) b spos] a pos) (mPut i mb ma) :=
  PS.wk (ps_asg ha (pg_sub (pe_var hN hv hd hcd) hb set_list hA) hs hw h1) fun D σ H h => by
    obtain ⟨F, ρ, fp, st, ob⟩ := h
    have ob : ObS (gOf X) W ρ σ F H (Own fp) (if isLst ρ i = true then _ else _) D := ob
    by_cases hl : isLst ρ i = true
    · rw [if_pos hl] at ob
      obtain ⟨b, os, e⟩ : ∃ b os, ρ[i]? = some (.mu b (.lst os)) := by
        unfold isLst at hl
        split at hl
        · next b os e => exact ⟨b, os, e⟩
        · cases hl
      obtain ⟨v, ev, _⟩ := st.mu i b _ e
      have h2 : tA (gOf X) W [ma, mInt mb] σ H fun vs H2 => ∃ y k, vs = [y, .int k] ∧ rSetL v (.int k) y H2 fun H4 => D.nx σ H4 := by
        refine tS_of (m := mArgs [ma, mInt mb]) (k := fun rs ρ' => match rs with
          | [r, .d (.int k)] => match r.st with
            | some x => match putAt ρ' i k x with
              | some ρ2 => .nx ρ2
              | none => .no
            | none => .no
          | _ => .no) (D := D) ⟨F, ρ, fp, st, ob⟩ fun rs ρ1 vs F1 H1 fp1 fr1 st1 r1 n1 ob1 => ?_
        split at ob1
        · next r k =>
          obtain ⟨y, w, fa, fb, rfl, rfl, ra, rb⟩ := r1.two
          obtain ⟨rb, rfl⟩ := rb
          cases rb
          rw [List.append_nil] at ob1 n1
          refine ⟨y, k, rfl, ?_⟩
          split at ob1
          · next x ex =>
            unfold putAt at ob1
            split at ob1
            · next ρ2 e2 =>
              split at e2
              · next b2 os2 e3 =>
                split at e2
                · next j hj =>
                  cases e2
                  obtain ⟨v2, ev2, r2⟩ := st1.mu i b2 _ e3
                  rw [ev] at ev2; cases ev2
                  obtain ⟨f1, hf1⟩ : ∃ f, f = fp1 i := ⟨_, rfl⟩
                  have nd1 := st1.nd i
                  rw [← hf1] at r2 nd1
                  cases r2 with
                  | @lst l vs2 _ fe h2 hl2 rs2 =>
                    have hne : ∀ a ∈ fe, a ≠ l := fun a ha z => (List.nodup_cons.mp nd1).1 (z ▸ ha)
                    have st2 := st1.frzd fun a ha => (ra.out a ha).2.1
                    have ry : Rep (gOf X) (frz F1 H1 fa) y x := ra.st ex (frz_ext st1.sub) fun a ha => frz_mem ha
                    obtain ⟨fe', re', sb⟩ := RepOs.set1 j (rs2.mono (frz_ext st1.sub) (F' := frz F1 H1 fa) (H' := upd H1 l (.lst (vs2.set j y))) fun a ha u hu => by rw [upd_ne (hne a ha)]; exact hu) ry
                    obtain ⟨fp3, st3, sp3⟩ := st2.chg (H' := upd H1 l (.lst (vs2.set j y))) e3 ev (o' := .lst (os2.set j (.d x))) (f := l :: fe') (fun a u ha hu => by
                      rw [upd_ne fun z => ha (by rw [← hf1, z]; simp)]; exact hu)
                      (.lst upd_same (by rw [List.length_set]; exact hl2) re') (List.nodup_cons.mpr ⟨fun z => (List.nodup_cons.mp nd1).1 (sb.subset z), (List.nodup_cons.mp nd1).2.sublist sb⟩) fun a ha => .inl (by
                        rw [← hf1]
                        rcases List.mem_cons.mp ha with z | z
                        · rw [z]; simp
                        · exact List.mem_cons_of_mem _ (sb.subset z))
                    refine ⟨l, vs2, k, j, rfl, rfl, h2, by rw [rs2.length]; exact hj, ob1.nx _ rfl σ _ _ fp3 ?_ st3 (.chg e3)⟩
                    exact (Step.frz st1.sub).trans sp3
                · cases e2
              · cases e2
            · exact absurd rfl ob1.no
          · exact absurd rfl ob1.no
        · exact absurd rfl ob1.no
      refine (tA_cons h2).imp fun y H1 q => ⟨v, ev, (tM_int (tA_cons q)).imp fun z H2 ⟨k, e1, q⟩ => ?_⟩
      obtain ⟨y', k', e2, q⟩ := tA_nil q
      cases e2
      rw [e1]
      exact q
    · rw [if_neg hl] at ob; exact absurd rfl ob.no
end
end
end Mw
set_option Elab.async false
set_option linter.all false
set_option maxRecDepth 100000
set_option autoImplicit false
namespace Mw
open PySem PySem.Spec PyProof.Rows L2
noncomputable section
inductive FRes where
  | ok (r : R) (as : List Slo) | ex (x : Exc) (as : List Slo) | no
abbrev Fn := List Slo → FRes
def spF (g : Wd) (n : Nat) (f : Fn) : Sp := fun vs H Q E => vs.length = n ∧ ∃ F as fp, Stt g F H (vs.map some) as fp ∧ f as ≠ .no ∧
  (∀ r as', f as = .ok r as' → ∀ v F' H' fp' fr, Step F H (Own fp) F' H' (Plus (Own fp') fr) → Stt g F' H' (vs.map some) as' fp' → RepR g F' H' (Own fp') v r fr → fr.Nodup → r.isPk = false → Kb as as' → Q v H') ∧
  (∀ x as', f as = .ex x as' → ∀ cls d F' H' fp', Step F H (Own fp) F' H' (Own fp') → Stt g F' H' (vs.map some) as' fp' → RepX g F' cls d x → Kb as as' → E cls d H')
def keep : List Slo → Ro → List Slo
  | [], _ => []
  | .mu true _ :: as, s :: ρ => s :: keep as ρ
  | _ :: as, _ :: ρ => .un :: keep as ρ
  | _ :: as, [] => .un :: keep as []
def mkFn (n : Nat) (b : MS) : Fn := fun as => match b (as ++ List.replicate (n - as.length) .un) with
  | .nx ρ => .ok (.d .non) (keep as ρ)
  | .rt r ρ => if r.isPk = true then .no else .ok r (keep as ρ)
  | .ex x ρ => .ex x (keep as ρ)
  | _ => .no
theorem keep_len : ∀ (as : List Slo) (ρ : Ro), (keep as ρ).length = as.length
  | [], _ => rfl
  | .mu true _ :: as, s :: ρ => by simp [keep, keep_len as ρ]
  | .mu false _ :: as, s :: ρ => by simp [keep, keep_len as ρ]
  | .un :: as, s :: ρ => by simp [keep, keep_len as ρ]
  | .xc _ :: as, s :: ρ => by simp [keep, keep_len as ρ]
  | .shr _ :: as, s :: ρ => by simp [keep, keep_len as ρ]
  | .mu true _ :: as, [] => by simp [keep, keep_len as []]
  | .mu false _ :: as, [] => by simp [keep, keep_len as []]
  | .un :: as, [] => by simp [keep, keep_len as []]
  | .xc _ :: as, [] => by simp [keep, keep_len as []]
  | .shr _ :: as, [] => by simp [keep, keep_len as []]
theorem keep_get : ∀ (as : List Slo) (ρ : Ro) (k : Nat), (keep as ρ)[k]? = if isBor as k = true then some (ρ[k]?.getD .un) else if k < as.length then some .un else none
  | [], ρ, k => by simp [keep, isBor]
  | a :: as, [], 0 => by
    cases a with
    | mu b o => cases b <;> simp [keep, isBor]
    | un => simp [keep, isBor]
    | xc x => simp [keep, isBor]
    | shr d => simp [keep, isBor]
  | a :: as, s :: ρ, 0 => by
    cases a with
    | mu b o => cases b <;> simp [keep, isBor]
    | un => simp [keep, isBor]
    | xc x => simp [keep, isBor]
    | shr d => simp [keep, isBor]
  | a :: as, [], k + 1 => by
    have ih := keep_get as [] k
    have e : isBor (a :: as) (k + 1) = isBor as k := by unfold isBor; simp
    have e2 : (keep (a :: as) [])[k + 1]? = (keep as [])[k]? := by
      cases a with
      | mu b o => cases b <;> simp [keep]
      | un => simp [keep]
      | xc x => simp [keep]
      | shr d => simp [keep]
    rw [e2, ih, e]
    simp
  | a :: as, s :: ρ, k + 1 => by
    have ih := keep_get as ρ k
    have e : isBor (a :: as) (k + 1) = isBor as k := by unfold isBor; simp
    have e2 : (keep (a :: as) (s :: ρ))[k + 1]? = (keep as ρ)[k]? := by
      cases a with
      | mu b o => cases b <;> simp [keep]
      | un => simp [keep]
      | xc x => simp [keep]
      | shr d => simp [keep]
    rw [e2, ih, e]
    simp
theorem isBor_iff {ρ : Ro} {k : Nat} : isBor ρ k = true ↔ ∃ o, ρ[k]? = some (.mu true o) := by
  unfold isBor
  constructor
  · intro h
    split at h
    · next o e => exact ⟨o, e⟩
    · cases h
  · rintro ⟨o, e⟩; rw [e]
theorem Stt.keeps {g : Wd} {F H : Hp} {σ : L2.St} {ρ : Ro} {as : List Slo} {vs : List V} {fp : Nat → List Addr} (st : Stt g F H σ ρ fp) (hl : vs.length = as.length)
    (h0 : ∀ (k : Nat) (o : O), as[k]? = some (.mu true o) → (∃ o', ρ[k]? = some (.mu true o')) ∧ σ[k]? = (vs.map some)[k]?) :
    ∃ fp', Stt g F H (vs.map some) (keep as ρ) fp' ∧ (∀ a, Own fp' a → Own fp a) ∧ Kb as (keep as ρ) := by
  have kg := fun k => keep_get as ρ k
  have bor : ∀ {k : Nat} {s : Slo}, (keep as ρ)[k]? = some s → s ≠ .un → isBor as k = true ∧ ρ[k]? = some s := by
    intro k s h hs
    rw [kg] at h
    split at h
    · next hb =>
      obtain ⟨o, e⟩ := isBor_iff.mp hb
      obtain ⟨⟨o', e'⟩, _⟩ := h0 k o e
      rw [e'] at h ⊢
      exact ⟨hb, h⟩
    · split at h
      · cases h; exact absurd rfl hs
      · cases h
  refine ⟨fun k => if isBor as k = true then fp k else [], ⟨st.sub, by simp [keep_len, hl], fun k hk => ?_, fun k d hd => ?_, fun k b o ho => ?_, fun k => ?_, fun j k a ha hb => ?_, fun k a ha => ?_, fun k x hx => ?_⟩, fun a ⟨k, ha⟩ => ?_, fun k o e => ?_⟩
  · (try dsimp only); split
    · next hb =>
      obtain ⟨o, e⟩ := isBor_iff.mp hb
      obtain ⟨⟨o', e'⟩, _⟩ := h0 k o e
      exact absurd (by rw [kg, if_pos hb, e']; rfl) (hk true o')
    · rfl
  · obtain ⟨hb, e⟩ := bor hd (by simp)
    obtain ⟨o, e1⟩ := isBor_iff.mp hb
    obtain ⟨⟨o', e'⟩, _⟩ := h0 k o e1
    rw [e] at e'; cases e'
  · obtain ⟨hb, e⟩ := bor ho (by simp)
    (try dsimp only); rw [if_pos hb]
    obtain ⟨o1, e1⟩ := isBor_iff.mp hb
    obtain ⟨_, e2⟩ := h0 k o1 e1
    rw [← e2]
    exact st.mu k b o e
  · (try dsimp only); split
    · exact st.nd k
    · exact List.nodup_nil
  · (try dsimp only at ha hb)
    split at ha
    · split at hb
      · exact st.dis j k a ha hb
      · cases hb
    · cases ha
  · (try dsimp only at ha)
    split at ha
    · exact st.fre k a ha
    · cases ha
  · obtain ⟨hb, e⟩ := bor hx (by simp)
    obtain ⟨o, e1⟩ := isBor_iff.mp hb
    obtain ⟨⟨o', e'⟩, _⟩ := h0 k o e1
    rw [e] at e'; cases e'
  · (try dsimp only at ha)
    split at ha
    · exact ⟨k, ha⟩
    · cases ha
  · obtain ⟨⟨o', e'⟩, _⟩ := h0 k o e
    exact ⟨o', by rw [kg, if_pos (isBor_iff.mpr ⟨o, e⟩), e']; rfl⟩
theorem Stt.pad {g : Wd} {F H : Hp} {σ : L2.St} {ρ : Ro} {fp : Nat → List Addr} (st : Stt g F H σ ρ fp) (n : Nat) : Stt g F H (σ ++ List.replicate n none) (ρ ++ List.replicate n .un) fp := by
  have key : ∀ {i : Nat} {s : Slo}, (ρ ++ List.replicate n .un)[i]? = some s → s ≠ .un → ρ[i]? = some s := by
    intro i s h hs
    by_cases hi : i < ρ.length
    · rw [List.getElem?_append_left hi] at h; exact h
    · rw [List.getElem?_append_right (by omega), List.getElem?_replicate] at h
      split at h
      · cases h; exact absurd rfl hs
      · cases h
  have ks : ∀ {i : Nat} {w : Option V}, σ[i]? = some w → (σ ++ List.replicate n none)[i]? = some w := by
    intro i w h
    rw [List.getElem?_append_left (List.getElem?_eq_some_iff.mp h).1]; exact h
  refine ⟨st.sub, by simp [st.len], fun i h => st.un i fun b o e => h b o ?_, fun i d h => ?_, fun i b o h => ?_, st.nd, st.dis, st.fre, fun i x h => ?_⟩
  · rw [List.getElem?_append_left (List.getElem?_eq_some_iff.mp e).1]; exact e
  · exact (st.shr i d (key h (by simp))).imp fun v h => ⟨ks h.1, h.2⟩
  · exact (st.mu i b o (key h (by simp))).imp fun v h => ⟨ks h.1, h.2⟩
  · exact (st.xc i x (key h (by simp))).imp fun v h => ⟨ks h.1, h.2⟩
theorem okXN {P : Program} {w : World} {K : PySem.W.Frag} {mg : Str → Option Value} {base : Heap} {x qual : Str} {st : Stmt} {f : Addr} {fd : FuncData} {N ps : List Str} {k : Nat} {sp : Sp} (F : L2.Fun K x qual st f fd) (S : FnScope N ps (defScope st)) (len : ∀ vs H Q E, sp vs H Q E → vs.length = ps.length)
    (hbody : ∀ (cdv : Value) (A : Around) (outer : List Env) (s : Shared) (H : Hp) (vs : List V) (Q : VK) (E : XK), Room k (A.deeper (envOfC qual (defScope st) s.heap.objs.size f cdv)) → sp vs H Q E →
      ∃ t, PSs (cxOf (L2N.CX P w) P w K mg base N qual (defScope st) f cdv A outer s H E) (defBody st) t ∧ t { nx := fun _ H' => Q .non H', rt := Q } (start N vs) H) : FnOk P w K mg base (L2N.CX P w) (k + 1) f fd ps sp := by
  obtain ⟨oc, od, kV, doc, pm, an, cdv, ct, osl, rfl, lk, hcd⟩ := F.ex
  exact fn_of lk hcd S len fun A outer s H vs Q E hr hsp => hbody cdv A outer s H vs Q E hr hsp
theorem fn_ok {P : Program} {w : World} {K : PySem.W.Frag} {mg : Str → Option Value} {base : Heap} {x qual : Str} {st : Stmt} {f : Addr} {fd : FuncData} {N ps : List Str} {k : Nat} {b : MS} (F : L2.Fun K x qual st f fd) (S : FnScope N ps (defScope st))
    (hbody : ∀ (cdv : Value) (A : Around) (outer : List Env) (s : Shared) (H : Hp) (E : XK), Room k (A.deeper (envOfC qual (defScope st) s.heap.objs.size f cdv)) →
      SSs (cxOf (L2N.CX P w) P w K mg base N qual (defScope st) f cdv A outer s H E) (fun c d _ H => E c d H) (defBody st) b) :
    FnOk P w K mg base (L2N.CX P w) (k + 1) f fd ps (spF (.m K mg) ps.length (mkFn N.length b)) := by
  have hpn : ps.length ≤ N.length := by have := congrArg List.length S.pre; rw [List.length_take] at this; omega
  refine okXN F S (fun vs H Q E h => h.1) fun cdv A outer s H vs Q E hr h => ?_
  obtain ⟨hlen, F0, as, fp, stt, hno, hok, hex⟩ := h
  have hal : vs.length = as.length := by have := stt.len; simpa using this
  have hst : L2.start N vs = vs.map some ++ List.replicate (N.length - vs.length) none := rfl
  refine ⟨_, hbody cdv A outer s H E hr, F0, as ++ List.replicate (N.length - as.length) .un, fp, ?_, ?_⟩
  · rw [hst, hal]; exact stt.pad _
  · have fin : ∀ (ρ' : Ro) (σ' : L2.St) (F' H' : Hp) (fp' : Nat → List Addr), Stt (.m K mg) F' H' σ' ρ' fp' → Kbs (as ++ List.replicate (N.length - as.length) .un) (L2.start N vs) ρ' σ' →
        ∃ fp2, Stt (.m K mg) F' H' (vs.map some) (keep as ρ') fp2 ∧ (∀ a, Own fp2 a → Own fp' a) ∧ Kb as (keep as ρ') := by
      intro ρ' σ' F' H' fp' st' kb
      refine st'.keeps hal fun k o e => ?_
      have hk := (List.getElem?_eq_some_iff.mp e).1
      obtain ⟨h1, h2⟩ := kb k o (by rw [List.getElem?_append_left hk]; exact e)
      refine ⟨h1, h2.trans ?_⟩
      rw [hst, List.getElem?_append_left (by rw [List.length_map, hal]; exact hk)]
    unfold mkFn at hno hok hex
    refine ⟨fun e => hno (by rw [e]), fun ρ' e σ' F' H' fp' s' st' k' => ?_, fun ρ' e => absurd (by rw [e]) hno, fun ρ' e => absurd (by rw [e]) hno, fun r ρ' e v σ' F' H' fp' fr s' st' r' n' k' => ?_, fun x ρ' e cls d σ' F' H' fp' s' st' r' k' => ?_⟩
    all_goals rw [e] at hno hok hex
    · obtain ⟨fp2, h1, h2, h3⟩ := fin ρ' σ' F' H' fp' st' k'
      exact hok _ _ rfl .non F' H' fp2 [] (by rw [plus_nil]; exact s'.weak h2) h1 ⟨.non, rfl⟩ List.nodup_nil rfl h3
    · obtain ⟨fp2, h1, h2, h3⟩ := fin ρ' σ' F' H' fp' st' k'
      dsimp only at hno hok
      by_cases hp : r.isPk = true
      · rw [if_pos hp] at hno; exact absurd rfl hno
      · rw [if_neg hp] at hok
        refine hok _ _ rfl v F' H' fp2 fr (s'.weak fun x hx => hx.imp (h2 x) id) h1 ?_ n' (by simpa using hp) h3
        cases r with
        | d x => exact r'
        | own o => exact ⟨r'.1, fun a ha => ⟨(r'.2 a ha).1, fun z => (r'.2 a ha).2 (h2 a z)⟩⟩
        | pk o => exact r'
    · obtain ⟨fp2, h1, h2, h3⟩ := fin ρ' σ' F' H' fp' st' k'
      exact hex _ _ rfl cls d F' H' fp2 (s'.weak h2) h1 r' h3
end
end Mw
set_option Elab.async false
set_option linter.all false
set_option maxRecDepth 100000
set_option autoImplicit false
namespace Mw
open PySem PySem.Spec PyProof.Rows L2
noncomputable section
theorem Stt.cons {g : Wd} {F H : Hp} {σ : L2.St} {ρ : Ro} {fp : Nat → List Addr} (st : Stt g F H σ ρ fp) {v : V} {s : Slo} {f : List Addr} (h : SlOk g F H v s f) (nd : f.Nodup) (out : ∀ a ∈ f, F a = none ∧ ¬ Own fp a) :
    ∃ fp', Stt g F H (some v :: σ) (s :: ρ) fp' ∧ (∀ a, Own fp' a ↔ Own fp a ∨ a ∈ f) := by
  refine ⟨fun k => match k with | 0 => f | k + 1 => fp k, ⟨st.sub, by simp [st.len], fun k hk => ?_, fun k d hd => ?_, fun k b o ho => ?_, fun k => ?_, fun j k a ha hb => ?_, fun k a ha => ?_, fun k x hx => ?_⟩, fun a => ⟨fun ⟨k, ha⟩ => ?_, fun ha => ?_⟩⟩
  · cases k with
    | zero =>
      cases s with
      | un => exact h
      | xc x => exact h.2
      | shr d => exact h.2
      | mu b o => exact absurd rfl (hk b o)
    | succ k => exact st.un k fun b o e => hk b o (by simpa using e)
  · cases k with
    | zero => simp at hd; subst hd; exact ⟨v, rfl, h.1⟩
    | succ k => simpa using st.shr k d (by simpa using hd)
  · cases k with
    | zero => simp at ho; subst ho; exact ⟨v, rfl, h⟩
    | succ k => simpa using st.mu k b o (by simpa using ho)
  · cases k with
    | zero => exact nd
    | succ k => exact st.nd k
  · cases j with
    | zero =>
      cases k with
      | zero => rfl
      | succ k => exact absurd ⟨k, hb⟩ (out a ha).2
    | succ j =>
      cases k with
      | zero => exact absurd ⟨j, ha⟩ (out a hb).2
      | succ k => exact congrArg (· + 1) (st.dis j k a ha hb)
  · cases k with
    | zero => exact (out a ha).1
    | succ k => exact st.fre k a ha
  · cases k with
    | zero => simp at hx; subst hx; exact ⟨_, rfl, h.1⟩
    | succ k => simpa using st.xc k x (by simpa using hx)
  · cases k with
    | zero => exact .inr ha
    | succ k => exact .inl ⟨k, ha⟩
  · rcases ha with ⟨k, ha⟩ | ha
    · exact ⟨k + 1, ha⟩
    · exact ⟨0, ha⟩
theorem Stt.tail {g : Wd} {F H : Hp} {σ : L2.St} {ρ : Ro} {v : V} {s : Slo} {fp : Nat → List Addr} (st : Stt g F H (some v :: σ) (s :: ρ) fp) :
    SlOk g F H v s (fp 0) ∧ Stt g F H σ ρ (fun k => fp (k + 1)) ∧ (∀ a ∈ fp 0, ¬ Own (fun k => fp (k + 1)) a) := by
  refine ⟨?_, ⟨st.sub, by simpa using st.len, fun k hk => st.un (k + 1) fun b o e => hk b o (by simpa using e), fun k d hd => ?_, fun k b o ho => ?_, fun k => st.nd (k + 1), fun j k a ha hb => by simpa using st.dis (j + 1) (k + 1) a ha hb, fun k a ha => st.fre (k + 1) a ha, fun k x hx => by simpa using st.xc (k + 1) x (by simpa using hx)⟩, fun a ha ⟨k, hb⟩ => ?_⟩
  · cases s with
    | un => exact st.un 0 fun b o e => by simp at e
    | xc x =>
      obtain ⟨w, e, r⟩ := st.xc 0 x rfl
      simp at e; subst e
      exact ⟨r, st.un 0 fun b o e => by simp at e⟩
    | shr d =>
      obtain ⟨w, e, r⟩ := st.shr 0 d rfl
      simp at e; subst e
      exact ⟨r, st.un 0 fun b o e => by simp at e⟩
    | mu b o =>
      obtain ⟨w, e, r⟩ := st.mu 0 b o rfl
      simp at e; subst e
      exact r
  · simpa using st.shr (k + 1) d (by simpa using hd)
  · simpa using st.mu (k + 1) b o (by simpa using ho)
  · have := st.dis 0 (k + 1) a ha hb
    omega
inductive Ar where
  | v (m : M) | b (i : Nat)
inductive Av where
  | r (r : R) | b (i : Nat)
def live (ρ : Ro) (i : Nat) : Bool := match ρ[i]? with
  | some (.mu _ _) => true
  | some (.shr _) => true
  | _ => false
def mArgB : List Ar → Ro → Res (List Av)
  | [], ρ => .ok [] ρ true
  | .v m :: as, ρ => (m ρ).bind fun r ρ1 q1 => (mArgB as ρ1).bind fun rs ρ2 q2 => if r.isPk = true then .no else .ok (.r r :: rs) ρ2 (q1 && q2)
  | .b i :: as, ρ => if live ρ i = true then (mArgB as ρ).bind fun rs ρ2 q2 => .ok (.b i :: rs) ρ2 q2 else .no
inductive RepAs (g : Wd) (σ : L2.St) (F H : Hp) (S : Addr → Prop) : List V → List Av → List Addr → Prop
  | nil : RepAs g σ F H S [] [] []
  | r {v : V} {vs : List V} {r : R} {rs : List Av} {f fr : List Addr} (h : RepR g F H S v r f) (hp : r.isPk = false) (t : RepAs g σ F H S vs rs fr) : RepAs g σ F H S (v :: vs) (.r r :: rs) (f ++ fr)
  | b {v : V} {vs : List V} {i : Nat} {rs : List Av} {fr : List Addr} (h : σ[i]? = some (some v)) (t : RepAs g σ F H S vs rs fr) : RepAs g σ F H S (v :: vs) (.b i :: rs) fr
def tB (g : Wd) (W : WX) (as : List Ar) : TA := fun σ H Q => tR g W (fun F H S vs rs fr => RepAs g σ F H S vs rs fr) (mArgB as) σ H Q
theorem RepAs.out {g : Wd} {σ : L2.St} {F H : Hp} {S : Addr → Prop} {vs : List V} {rs : List Av} {fr : List Addr} (h : RepAs g σ F H S vs rs fr) : ∀ a ∈ fr, F a = none ∧ ¬ S a ∧ H a ≠ none := by
  induction h with
  | nil => intro a ha; cases ha
  | r h hp t ih =>
    intro a ha
    rcases List.mem_append.mp ha with ha | ha
    · exact h.out a ha
    · exact ih a ha
  | b h t ih => exact ih
theorem tB_nil {g : Wd} {W : WX} {σ : L2.St} {H : Hp} {Q : List V → Hp → Prop} (h : tB g W [] σ H Q) : Q [] H := by
  obtain ⟨F, ρ, fp, st, ob⟩ := h
  exact ob.2.1 [] ρ true rfl [] F H fp [] (by rw [plus_nil]; exact .refl _ _ _) st .nil List.nodup_nil ⟨.refl ρ, fun _ => ⟨.refl H, rfl⟩⟩
theorem tB_v {g : Wd} {W : WX} {m : M} {as : List Ar} {σ : L2.St} {H : Hp} {Q : List V → Hp → Prop} (h : tB g W (.v m :: as) σ H Q) : tM g W m σ H fun x H1 => tB g W as σ H1 fun xs H2 => Q (x :: xs) H2 := by
  refine tR.bind h fun F ρ fp st r ρ1 q1 e1 v F1 H1 fp1 fr1 s1 st1 r1 n1 z1 ob => ⟨F1, ρ1, fp1, st1, ?_⟩
  refine ⟨fun e => ob.1 (by rw [e]; rfl), fun rs ρ2 q2 e vs F2 H2 fp2 fr2 s2 st2 r2 n2 z2 => ?_, fun x ρ' e cls d F' H' fp' a b c z => ?_⟩
  · rw [e] at ob
    by_cases hp : r.isPk = true
    · exact absurd (if_pos hp) ob.1
    · have hp' : r.isPk = false := by simpa using hp
      have hq : r.isPk = true → Ext H1 H2 := fun hk => absurd hk hp
      have o1' := (r1.keep s2 hq).out
      refine ob.2.1 (.r r :: rs) ρ2 (q1 && q2) (if_neg hp) (v :: vs) F2 H2 fp2 (fr1 ++ fr2) ((s2.frame fr1).weak fun x hx => ?_) st2 (.r (r1.keep (s2.weak fun x hx => .inl hx) hq) hp' r2) ?_ ⟨z1.1.trans z2.1, fun hz => ?_⟩
      · rcases hx with hx | hx
        · exact .inl (.inl hx)
        · rcases List.mem_append.mp hx with hx | hx
          · exact .inr hx
          · exact .inl (.inr hx)
      · exact List.nodup_append.mpr ⟨n1, n2, fun a ha b hb e => (o1' a ha).2.1 (.inr (e ▸ hb))⟩
      · have hz := Bool.and_eq_true_iff.mp hz
        exact ⟨(z1.2 hz.1).1.trans (z2.2 hz.2).1, (z2.2 hz.2).2.trans (z1.2 hz.1).2⟩
  · rw [e] at ob
    exact ob.2.2 x ρ' rfl cls d F' H' fp' ((a.frame fr1).weak fun x hx => .inl hx) b c ⟨z1.1.trans z.1, fun z => nomatch z⟩
theorem tB_b {g : Wd} {W : WX} {i : Nat} {as : List Ar} {σ : L2.St} {H : Hp} {Q : List V → Hp → Prop} (h : tB g W (.b i :: as) σ H Q) : tVar i σ H fun x H1 => tB g W as σ H1 fun xs H2 => Q (x :: xs) H2 := by
  obtain ⟨F, ρ, fp, st, ob⟩ := h
  have ob : Ob g W σ F H (Own fp) (Zq H ρ) _ (if live ρ i = true then (mArgB as ρ).bind fun rs ρ2 q2 => .ok (.b i :: rs) ρ2 q2 else .no) Q := ob
  by_cases hl : live ρ i = true
  · rw [if_pos hl] at ob
    obtain ⟨v, ev⟩ : ∃ v, σ[i]? = some (some v) := by
      unfold live at hl
      split at hl
      · next b o e => exact (st.mu i b o e).imp fun _ h => h.1
      · next d e => exact (st.shr i d e).imp fun _ h => h.1
      · cases hl
    refine ⟨v, ev, F, ρ, fp, st, ?_⟩
    refine ⟨fun e => ob.1 (by rw [e]; rfl), fun rs ρ2 q2 e vs F2 H2 fp2 fr2 s2 st2 r2 n2 z2 => ?_, fun x ρ' e cls d F' H' fp' a b c z => ?_⟩
    · rw [e] at ob
      exact ob.2.1 (.b i :: rs) ρ2 q2 rfl (v :: vs) F2 H2 fp2 fr2 s2 st2 (.b ev r2) n2 z2
    · rw [e] at ob
      exact ob.2.2 x ρ' rfl cls d F' H' fp' a b c z
  · rw [if_neg hl] at ob; exact absurd rfl ob.1
abbrev Loan := Option (Nat × Bool)
def lend : List Av → Ro → Option (List Slo × List Loan × Ro)
  | [], ρ => some ([], [], ρ)
  | .r r :: rs, ρ => match r.st, lend rs ρ with
    | some x, some (as, ls, ρ') => some (.shr x :: as, none :: ls, ρ')
    | _, _ => none
  | .b i :: rs, ρ => match ρ[i]? with
    | some (.shr d) => match lend rs ρ with
      | some (as, ls, ρ') => some (.shr d :: as, none :: ls, ρ')
      | none => none
    | some (.mu b o) => match lend rs (ρ.set i .un) with
      | some (as, ls, ρ') => some (.mu true o :: as, some (i, b) :: ls, ρ')
      | none => none
    | _ => none
def back : List Loan → List Slo → Ro → Ro
  | some (i, b) :: ls, .mu true o :: as, ρ => back ls as (ρ.set i (.mu b o))
  | _ :: ls, _ :: as, ρ => back ls as ρ
  | _, _, ρ => ρ
inductive Lent (σ : L2.St) : List V → List Slo → List Loan → Prop
  | nil : Lent σ [] [] []
  | no {v : V} {vs : List V} {s : Slo} {as : List Slo} {ls : List Loan} (t : Lent σ vs as ls) : Lent σ (v :: vs) (s :: as) (none :: ls)
  | yes {v : V} {vs : List V} {o : O} {as : List Slo} {ls : List Loan} {i : Nat} {b : Bool} (h : σ[i]? = some (some v)) (t : Lent σ vs as ls) : Lent σ (v :: vs) (.mu true o :: as) (some (i, b) :: ls)
inductive RepAf (g : Wd) (σ : L2.St) (F : Hp) : List V → List Av → Prop
  | nil : RepAf g σ F [] []
  | r {v : V} {vs : List V} {r : R} {rs : List Av} (h : ∀ x, r.st = some x → Rep g F v x) (t : RepAf g σ F vs rs) : RepAf g σ F (v :: vs) (.r r :: rs)
  | b {v : V} {vs : List V} {i : Nat} {rs : List Av} (h : σ[i]? = some (some v)) (t : RepAf g σ F vs rs) : RepAf g σ F (v :: vs) (.b i :: rs)
theorem RepAs.frz {g : Wd} {σ : L2.St} {F H : Hp} {S : Addr → Prop} {vs : List V} {rs : List Av} {fr : List Addr} (h : RepAs g σ F H S vs rs fr) {F' : Hp} (e : Ext F F') (k : ∀ a ∈ fr, F' a = H a) : RepAf g σ F' vs rs := by
  induction h with
  | nil => exact .nil
  | r h hp t ih => exact .r (fun x ex => h.st ex e fun a ha => k a (by simp [ha])) (ih fun a ha => k a (by simp [ha]))
  | b h t ih => exact .b h (ih k)
theorem set_self {σ : L2.St} {i : Nat} {v : V} (e : σ[i]? = some (some v)) : σ.set i (some v) = σ := by
  apply List.ext_getElem?
  intro j
  rw [List.getElem?_set]
  split
  · next z =>
    subst z
    rw [if_pos (List.getElem?_eq_some_iff.mp e).1, e]
  · rfl
def lix (ls : List Loan) : List Nat := ls.filterMap fun l => l.map (·.1)
theorem mem_lix {ls : List Loan} {j : Nat} : j ∈ lix ls ↔ ∃ b, some (j, b) ∈ ls := by
  unfold lix
  rw [List.mem_filterMap]
  constructor
  · rintro ⟨l, h, e⟩
    cases l with
    | none => cases e
    | some p => cases e; exact ⟨p.2, h⟩
  · rintro ⟨b, h⟩; exact ⟨_, h, rfl⟩
theorem lend_ok {g : Wd} {σ : L2.St} {F H : Hp} : ∀ {rs : List Av} {vs : List V} {ρ : Ro} {fp : Nat → List Addr} {as : List Slo} {ls : List Loan} {ρu : Ro}, Stt g F H σ ρ fp → RepAf g σ F vs rs → lend rs ρ = some (as, ls, ρu) →
    ∃ fpc fpu, Stt g F H (vs.map some) as fpc ∧ Stt g F H σ ρu fpu ∧ (∀ a, Own fpu a → Own fp a) ∧ (∀ a, Own fpc a → Own fp a) ∧ (∀ a, Own fpu a → ¬ Own fpc a) ∧ Lent σ vs as ls ∧
      (ls.all Option.isNone = true → ρu = ρ ∧ ∀ a, ¬ Own fpc a) ∧ (∀ (j : Nat) (o : O), ρ[j]? = some (.mu true o) → ρu[j]? = some (.mu true o) ∨ some (j, true) ∈ ls) ∧ (lix ls).Nodup ∧ (∀ (i : Nat) (b : Bool), some (i, b) ∈ ls → ∃ o, ρ[i]? = some (.mu b o))
  | [], _, ρ, fp, _, _, _, st, .nil, e => by
    cases e
    refine ⟨fun _ => [], fp, ⟨st.sub, rfl, fun _ _ => rfl, fun i d h => by simp at h, fun i b o h => by simp at h, fun _ => List.nodup_nil, (fun _ _ _ h => nomatch h), (fun _ _ h => nomatch h), fun i x h => by simp at h⟩, st, fun _ h => h, (fun a ⟨_, h⟩ => nomatch h), (fun a _ ⟨_, h⟩ => nomatch h), .nil, (fun _ => ⟨rfl, (fun a ⟨_, h⟩ => nomatch h)⟩), (fun j o h => .inl h), List.nodup_nil, (fun i b h => nomatch h)⟩
  | .r r :: rs, _, ρ, fp, _, _, _, st, .r (v := v) (vs := vs) h t, e => by
    unfold lend at e
    split at e
    · next x as ls ρ' e1 e2 =>
      cases e
      obtain ⟨fpc, fpu, c1, c2, c3, c4, c5, c6, c7, c8, c9, c10⟩ := lend_ok st t e2
      obtain ⟨fpc', d1, d2⟩ := c1.cons (s := .shr x) (f := []) ⟨h x e1, rfl⟩ List.nodup_nil fun a ha => nomatch ha
      have d3 : ∀ a, Own fpc' a → Own fpc a := fun a ha => ((d2 a).mp ha).elim id fun z => nomatch z
      exact ⟨fpc', fpu, d1, c2, c3, fun a ha => c4 a (d3 a ha), fun a ha hb => c5 a ha (d3 a hb), .no c6, fun hn => ⟨(c7 (by simpa using hn)).1, fun a ha => (c7 (by simpa using hn)).2 a (d3 a ha)⟩, fun j o h => (c8 j o h).imp id fun z => List.mem_cons_of_mem _ z, c9, fun i b h => c10 i b (by simpa using h)⟩
    · cases e
  | .b i :: rs, _, ρ, fp, _, _, _, st, .b (v := v) (vs := vs) h t, e => by
    unfold lend at e
    split at e
    · next d e1 =>
      split at e
      · next as ls ρ' e2 =>
        cases e
        obtain ⟨fpc, fpu, c1, c2, c3, c4, c5, c6, c7, c8, c9, c10⟩ := lend_ok st t e2
        obtain ⟨w, ew, rw'⟩ := st.shr i d e1
        rw [h] at ew; cases ew
        obtain ⟨fpc', d1, d2⟩ := c1.cons (s := .shr d) (f := []) ⟨rw', rfl⟩ List.nodup_nil fun a ha => nomatch ha
        have d3 : ∀ a, Own fpc' a → Own fpc a := fun a ha => ((d2 a).mp ha).elim id fun z => nomatch z
        exact ⟨fpc', fpu, d1, c2, c3, fun a ha => c4 a (d3 a ha), fun a ha hb => c5 a ha (d3 a hb), .no c6, fun hn => ⟨(c7 (by simpa using hn)).1, fun a ha => (c7 (by simpa using hn)).2 a (d3 a ha)⟩, fun j o h => (c8 j o h).imp id fun z => List.mem_cons_of_mem _ z, c9, fun i b h => c10 i b (by simpa using h)⟩
      · cases e
    · next b o e1 =>
      split at e
      · next as ls ρ' e2 =>
        cases e
        have hi : i < ρ.length := (List.getElem?_eq_some_iff.mp e1).1
        obtain ⟨w, ew, rw'⟩ := st.mu i b o e1
        rw [h] at ew; cases ew
        obtain ⟨fp1, st1, k1, k2⟩ := st.drop i
        obtain ⟨fpc, fpu, c1, c2, c3, c4, c5, c6, c7, c8, c9, c10⟩ := lend_ok st1 t e2
        obtain ⟨fpc', d1, d2⟩ := c1.cons (s := .mu true o) (f := fp i) rw' (st.nd i) fun a ha => ⟨st.fre i a ha, fun z => k2 hi a ha (c4 a z)⟩
        refine ⟨fpc', fpu, d1, c2, fun a ha => k1 a (c3 a ha), fun a ha => ?_, fun a ha hb => ?_, .yes h c6, fun hn => absurd hn (by simp), fun j o' h' => ?_, ?_, fun j b' h' => ?_⟩
        · rcases (d2 a).mp ha with z | z
          · exact k1 a (c4 a z)
          · exact ⟨i, z⟩
        · rcases (d2 a).mp hb with z | z
          · exact c5 a ha z
          · exact k2 hi a z (c3 a ha)
        · by_cases hj : i = j
          · subst hj
            rw [e1] at h'; cases h'
            exact .inr (by simp)
          · exact (c8 j o' (by rw [List.getElem?_set, if_neg hj]; exact h')).imp id fun z => List.mem_cons_of_mem _ z
        · show (i :: lix ls).Nodup
          refine List.nodup_cons.mpr ⟨fun z => ?_, c9⟩
          obtain ⟨b', z⟩ := mem_lix.mp z
          obtain ⟨o', z⟩ := c10 i b' z
          rw [List.getElem?_set] at z
          simp [hi] at z
        · rcases List.mem_cons.mp h' with z | z
          · cases z; exact ⟨o, e1⟩
          · obtain ⟨o', q⟩ := c10 j b' z
            rw [List.getElem?_set] at q
            split at q
            · first
                | cases q; done
                | (split at q <;> cases q)
            · exact ⟨o', q⟩
      · cases e
    · cases e
theorem back_ok {g : Wd} {σ : L2.St} {F H : Hp} : ∀ {vs : List V} {as as' : List Slo} {ls : List Loan} {ρu : Ro} {fpu fpc : Nat → List Addr}, Lent σ vs as ls → Stt g F H σ ρu fpu → Stt g F H (vs.map some) as' fpc → (∀ a, Own fpu a → ¬ Own fpc a) → Kb as as' → (lix ls).Nodup →
    (∃ fp2, Stt g F H σ (back ls as' ρu) fp2 ∧ (∀ a, Own fp2 a → Own fpu a ∨ Own fpc a)) ∧ (∀ (j : Nat), j ∉ lix ls → (back ls as' ρu)[j]? = ρu[j]?) ∧ (∀ (j : Nat), j < ρu.length → some (j, true) ∈ ls → ∃ o, (back ls as' ρu)[j]? = some (.mu true o))
  | _, _, as', _, ρu, fpu, fpc, .nil, st, sc, dj, kb, nd => ⟨⟨fpu, by cases as' <;> exact st, fun a h => .inl h⟩, fun j h => by cases as' <;> rfl, (fun j _ h => nomatch h)⟩
  | _, _, [], _, ρu, fpu, fpc, .no t, st, sc, dj, kb, nd => by have := sc.len; simp at this
  | _, _, [], _, ρu, fpu, fpc, .yes h t, st, sc, dj, kb, nd => by have := sc.len; simp at this
  | _, _, s' :: as', _, ρu, fpu, fpc, .no (as := as) (ls := ls) t, st, sc, dj, kb, nd => by
    obtain ⟨h1, h2, h3⟩ := Stt.tail sc
    have e : back (none :: ls) (s' :: as') ρu = back ls as' ρu := by cases s' <;> rfl
    rw [e]
    have ih := back_ok t st h2 (fun a ha ⟨k, hb⟩ => dj a ha ⟨k + 1, hb⟩) (fun k o q => by simpa using kb (k + 1) o (by simpa using q)) nd
    obtain ⟨⟨fp2, a1, a2⟩, a3, a4⟩ := ih
    exact ⟨⟨fp2, a1, fun a ha => (a2 a ha).imp id fun ⟨k, z⟩ => ⟨k + 1, z⟩⟩, a3, fun j hj hm => a4 j hj (by simpa using hm)⟩
  | _, _, s' :: as', _, ρu, fpu, fpc, .yes (as := as) (ls := ls) (i := i) (b := b) h t, st, sc, dj, kb, nd => by
    obtain ⟨o', eo⟩ := kb 0 _ rfl
    simp at eo
    subst eo
    have nd : (i :: lix ls).Nodup := nd
    obtain ⟨h1, h2, h3⟩ := Stt.tail sc
    obtain ⟨fp1, st1, k1⟩ := st.put (v := _) i (s := .mu b o') (f := fpc 0) h1 (sc.nd 0) fun a ha => ⟨sc.fre 0 a ha, fun z => dj a z ⟨0, ha⟩⟩
    rw [set_self h] at st1
    have dj1 : ∀ a, Own fp1 a → ¬ Own (fun k => fpc (k + 1)) a := fun a ha ⟨k, hb⟩ => by
      rcases k1 a ha with z | z
      · exact dj a z ⟨k + 1, hb⟩
      · exact h3 a z ⟨k, hb⟩
    have ih := back_ok t st1 h2 dj1 (fun k o q => by simpa using kb (k + 1) o (by simpa using q)) (List.nodup_cons.mp nd).2
    obtain ⟨⟨fp2, a1, a2⟩, a3, a4⟩ := ih
    have hi : i < ρu.length := by rw [← st.len]; exact (List.getElem?_eq_some_iff.mp h).1
    refine ⟨⟨fp2, a1, fun a ha => ?_⟩, fun j hj => ?_, fun j hj hm => ?_⟩
    · rcases a2 a ha with z | ⟨k, z⟩
      · rcases k1 a z with z | z
        · exact .inl z
        · exact .inr ⟨0, z⟩
      · exact .inr ⟨k + 1, z⟩
    · have hj : j ∉ i :: lix ls := hj
      have := a3 j fun z => hj (List.mem_cons_of_mem _ z)
      refine this.trans ?_
      rw [List.getElem?_set, if_neg fun z => hj (by simp [z])]
    · rcases List.mem_cons.mp hm with z | z
      · cases z
        exact ⟨o', (a3 i (List.nodup_cons.mp nd).1).trans (by rw [List.getElem?_set]; simp [hi])⟩
      · exact a4 j (by simpa using hj) z
def mCall (f : Fn) (args : List Ar) : M := fun ρ => (mArgB args ρ).bind fun rs ρ1 q => match lend rs ρ1 with
  | none => .no
  | some (as, ls, ρu) => match f as with
    | .ok r as' => .ok r (back ls as' ρu) (q && ls.all Option.isNone)
    | .ex x as' => .ex x (back ls as' ρu)
    | .no => .no
theorem Stt.framed {g : Wd} {F H F' H' : Hp} {σ : L2.St} {ρ : Ro} {fp : Nat → List Addr} {S S' : Addr → Prop} (st : Stt g F H σ ρ fp) (s : Step F H S F' H' S') (sub : Ext F' H') (d : ∀ a, Own fp a → ¬ S a) : Stt g F' H' σ ρ fp :=
  ⟨sub, st.len, st.un, fun i x h => (st.shr i x h).imp fun v h => ⟨h.1, h.2.mono s.ext⟩, fun i b o h => (st.mu i b o h).imp fun v h => ⟨h.1, h.2.mono s.ext fun a ha u e => s.keep a u (d a ⟨i, ha⟩) e⟩, st.nd, st.dis, fun i a ha => by
    cases q : F' a with
    | none => rfl
    | some u =>
      rcases s.new a u q with z | z | z
      · rw [st.fre i a ha] at z; cases z
      · exact absurd z (d a ⟨i, ha⟩)
      · exact absurd z (st.thereN ⟨i, ha⟩), fun i x h => (st.xc i x h).imp fun w h => ⟨h.1, h.2.mono s.ext⟩⟩
theorem lend_noxc : ∀ {rs : List Av} {ρ : Ro} {as : List Slo} {ls : List Loan} {ρu : Ro}, lend rs ρ = some (as, ls, ρu) → ∀ (i : Nat) (e : Exc), as[i]? ≠ some (Slo.xc e)
  | [], ρ, _, _, _, h, i, e => by cases h; simp
  | .r r :: rs, ρ, _, _, _, h, i, e => by
    unfold lend at h
    split at h
    · next x as ls ρ' e1 e2 =>
      cases h
      cases i with
      | zero => simp
      | succ i => simpa using lend_noxc e2 i e
    · cases h
  | .b j :: rs, ρ, _, _, _, h, i, e => by
    unfold lend at h
    split at h
    · split at h
      · next as ls ρ' e2 =>
        cases h
        cases i with
        | zero => simp
        | succ i => simpa using lend_noxc e2 i e
      · cases h
    · split at h
      · next as ls ρ' e2 =>
        cases h
        cases i with
        | zero => simp
        | succ i => simpa using lend_noxc e2 i e
      · cases h
    · cases h
theorem tM_call {g : Wd} {W : WX} {n : Nat} {f : Fn} {args : List Ar} {σ : L2.St} {H : Hp} {Q : VK} (hn : args.length = n) (h : tM g W (mCall f args) σ H Q) : tB g W args σ H fun vs H1 => spF (.m g.K g.mg) n f vs H1 Q (WE W σ) := by
  have alen : ∀ (as : List Ar) (ρ : Ro) {rs : List Av} {ρ1 : Ro} {q : Bool}, mArgB as ρ = .ok rs ρ1 q → rs.length = as.length := by
    intro as
    induction as with
    | nil => intro ρ rs ρ1 q e; cases e; rfl
    | cons a as ih =>
      intro ρ rs ρ1 q e
      cases a with
      | v m =>
        unfold mArgB at e
        cases e1 : m ρ with
        | no => rw [e1] at e; cases e
        | ex x ρ' => rw [e1] at e; cases e
        | ok r ρ' q' =>
          rw [e1] at e
          simp only [Res.bind_ok] at e
          cases e2 : mArgB as ρ' with
          | no => rw [e2] at e; cases e
          | ex x ρ'' => rw [e2] at e; cases e
          | ok rs' ρ'' q'' =>
            rw [e2] at e
            simp only [Res.bind_ok] at e
            split at e
            · cases e
            · cases e; simp [ih _ e2]
      | b i =>
        unfold mArgB at e
        split at e
        · cases e2 : mArgB as ρ with
          | no => rw [e2] at e; cases e
          | ex x ρ'' => rw [e2] at e; cases e
          | ok rs' ρ'' q'' => rw [e2] at e; cases e; simp [ih _ e2]
        · cases e
  have vlen : ∀ {F H : Hp} {S : Addr → Prop} {vs : List V} {rs : List Av} {fr : List Addr}, RepAs g σ F H S vs rs fr → vs.length = rs.length := by
    intro F H S vs rs fr h
    induction h with
    | nil => rfl
    | r h hp t ih => simp [ih]
    | b h t ih => simp [ih]
  refine tR.bind h fun F ρ fp st rs ρ1 q1 e1 vs F1 H1 fp1 fr1 s1 st1 r1 n1 z1 ob => ?_
  refine ⟨(vlen r1).trans ((alen _ _ e1).trans hn), ?_⟩
  cases el : lend rs ρ1 with
  | none => rw [el] at ob; exact absurd rfl ob.1
  | some p =>
    obtain ⟨as, ls, ρu⟩ := p
    rw [el] at ob
    dsimp only at ob
    have st2 := st1.frzd fun a ha => (r1.out a ha).2.1
    obtain ⟨fpc, fpu, c1, c2, c3, c4, c5, c6, c7, c8, c9, c10⟩ := lend_ok st2 (r1.frz (frz_ext st1.sub) fun a ha => frz_mem ha) el
    have after : ∀ {as' : List Slo} {F' H' : Hp} {fp' : Nat → List Addr} {fr : List Addr}, Step (frz F1 H1 fr1) H1 (Own fpc) F' H' (Plus (Own fp') fr) → Stt g F' H' (vs.map some) as' fp' → Kb as as' →
        ∃ fp2, Stt g F' H' σ (back ls as' ρu) fp2 ∧ (∀ a, Own fp2 a → Own fpu a ∨ Own fp' a) ∧ Kb ρ1 (back ls as' ρu) ∧ Step F1 H1 (Plus (Own fp1) fr1) F' H' (Plus (Own fp2) fr) := by
      intro as' F' H' fp' fr s' sc' kb
      have su := c2.framed s' sc'.sub c5
      obtain ⟨⟨fp2, a1, a2⟩, a3, a4⟩ := back_ok c6 su sc' (fun a ha hb => by
        rcases s'.fre a (.inl hb) with z | z
        · exact c5 a ha z
        · exact (c2.there ha).1 z) kb c9
      refine ⟨fp2, a1, a2, fun j o h => ?_, ?_⟩
      · have hj : j < ρu.length := by rw [← c2.len, st1.len]; exact (List.getElem?_eq_some_iff.mp h).1
        by_cases hm : j ∈ lix ls
        · obtain ⟨b, hb⟩ := mem_lix.mp hm
          obtain ⟨o', ho'⟩ := c10 j b hb
          rw [h] at ho'; cases ho'
          exact a4 j hj hb
        · rcases c8 j o h with z | z
          · exact ⟨o, (a3 j hm).trans z⟩
          · exact a4 j hj z
      · refine (Step.frz st1.sub).trans ⟨s'.ext, fun a u hs hh => s'.keep a u (fun z => hs (c4 a z)) hh, fun a u hh => (s'.new a u hh).imp id fun z => z.imp (c4 a) id, fun a hh => ?_⟩
        rcases hh with hh | hh
        · rcases a2 a hh with z | z
          · exact .inl (c3 a z)
          · exact (s'.fre a (.inl z)).imp (c4 a) id
        · exact (s'.fre a (.inr hh)).imp (c4 a) id
    refine ⟨frz F1 H1 fr1, as, fpc, c1.xa (lend_noxc el), fun e => ob.1 (by rw [e]), fun r as' e v F' H' fp' fr s' sc0 r0 n' hp kb => ?_, fun x as' e cls d F' H' fp' s' sc0 r0 kb => ?_⟩
    · rw [e] at ob
      have sc' : Stt g F' H' (vs.map some) as' fp' := sc0.xa sc0.noxc
      have r' : RepR g F' H' (Own fp') v r fr := r0.xa
      obtain ⟨fp2, b1, b2, b3, b4⟩ := after s' sc' kb
      refine ob.2.1 r _ _ rfl v F' H' fp2 fr b4 b1 ?_ n' ⟨z1.1.trans b3, fun hq => ?_⟩
      · cases r with
        | d x => exact r'
        | own o =>
          refine ⟨r'.1, fun a ha => ⟨(r'.2 a ha).1, fun z => ?_⟩⟩
          rcases b2 a z with w | w
          · rcases s'.fre a (.inr ha) with y | y
            · exact c5 a w y
            · exact (c2.there w).1 y
          · exact (r'.2 a ha).2 w
        | pk o => exact r'
      · have hq := Bool.and_eq_true_iff.mp hq
        obtain ⟨h1, h2⟩ := c7 hq.2
        refine ⟨(z1.2 hq.1).1.trans fun a u hh => s'.keep a u (h2 a) hh, ?_⟩
        have hb : ∀ (ls : List Loan) (as' : List Slo) (ρ : Ro), ls.all Option.isNone = true → back ls as' ρ = ρ := by
          intro ls
          induction ls with
          | nil => intro as' ρ _; cases as' <;> rfl
          | cons l ls ih =>
            intro as' ρ hl
            cases l with
            | some p => simp at hl
            | none =>
              cases as' with
              | nil => rfl
              | cons s as' => rw [show back (none :: ls) (s :: as') ρ = back ls as' ρ by cases s <;> rfl]; exact ih as' ρ (by simpa using hl)
        rw [hb ls as' ρu hq.2, h1]
        exact (z1.2 hq.1).2
    · rw [e] at ob
      have sc' : Stt g F' H' (vs.map some) as' fp' := sc0.xa sc0.noxc
      have r' : RepX g F' cls d x := r0.xa
      obtain ⟨fp2, b1, b2, b3, b4⟩ := after (fr := []) (by rw [plus_nil]; exact s') sc' kb
      rw [plus_nil] at b4
      exact ob.2.2 x _ rfl cls d F' H' fp2 b4 b1 r' ⟨z1.1.trans b3, fun z => nomatch z⟩
section
variable {X : Cx} {W : WX} {pos : Pos} {a b c : Expr} {es : List Expr} {ma mb mc : M} {as : List Ar} {x : Str} {p : Pos}
abbrev SB (X : Cx) (W : WX) (es : List Expr) (as : List Ar) : Prop := PA X es (tB (gOf X) W as)
theorem b_nil : SB X W [] [] := PA.wk pa_nil fun σ H Q h => tB_nil h
theorem b_v (ha : SE X W a ma) (hr : SB X W es as) (hs : starEach (a :: es) X.env = (false, eval a X.env) :: starEach es X.env := by rfl) : SB X W (a :: es) (.v ma :: as) := PA.wk (pa_cons ha hr hs) fun σ H Q h => tB_v h
theorem b_b {i : Nat} (hN : X.N[i]? = some x) (hv : Vis X.env.scope x) (hr : SB X W es as) (hs : starEach (.Name x p :: es) X.env = (false, eval (.Name x p) X.env) :: starEach es X.env := by rfl) (hd : (x == ("__debug__" : Str)) = false := by decide) (hcd : (x == ("__classdict__" : Str)) = false := by decide) :
    SB X W (.Name x p :: es) (.b i :: as) := PA.wk (pa_cons (pe_var hN hv hd hcd) hr hs) fun σ H Q h => tB_b h
structure Kp (P : Program) (w : World) (K : PySem.W.Frag) (mg : Str → Option Value) (base : Heap) (k : Nat) (x : Str) (n : Nat) (f : Fn) : Prop where
  ex : ∃ fa fd ps, FnOk P w K mg base (L2N.CX P w) k fa fd ps (spF (.m K mg) n f) ∧ Binds K fd ps [] ∧ mg x = some (.ref fa) ∧ PySem.W.keepIn K (.ref fa) = true
theorem Kp.mono {P : Program} {w : World} {K : PySem.W.Frag} {mg : Str → Option Value} {base : Heap} {j k : Nat} {x : Str} {n : Nat} {f : Fn} (h : Kp P w K mg base j x n f) (l : j ≤ k) : Kp P w K mg base k x n f := by
  obtain ⟨fa, fd, ps, h1, h2⟩ := h.ex
  exact ⟨fa, fd, ps, h1.mono l, h2⟩
theorem s_call {k n : Nat} {f : Fn} (G : Kp X.prog X.w X.K X.mg X.base k x n f) (hr : Room k X.A) (hg : Gl X x) (tk : L2N.Takes X W) (ha : SB X W (a :: es) as) (hn : as.length = n := by rfl)
    (hdb : (x == ("__debug__" : Str)) = false := by decide) (he : starEach (a :: es) X.env = (false, eval a X.env) :: starEach es X.env := by rfl) (hpl : (backTo pos (starEach es X.env)).any (·.1) = false := by rfl) :
    SE X W (.Call (.Name x p) (a :: es) [] pos) (mCall f as) := by
  obtain ⟨fa, fd, ps, h1, h2, h3, h4⟩ := G.ex
  exact PE.wk (pe_callSD (E := WE W) (dvs := []) (ds := []) h1 hr hg h3 h4 h2 .nil (fun σ => L2N.passAt tk σ) ha hdb he hpl) fun σ H Q h => (tM_call hn h).imp fun vs H1 q => by rw [List.append_nil]; exact q
end
end
end Mw
set_option Elab.async false
set_option linter.all false
set_option maxRecDepth 100000
set_option autoImplicit false
namespace Mw
open PySem PySem.Spec PyProof.Rows L2
noncomputable section
def CmpB (X : Cx) (op : CmpOp) (f : R → R → Option R) : Prop := ∃ r, OpR X (compareOp op) r ∧ LOk2 (gOf X) f r
section
variable {X : Cx} {W : WX} {pos : Pos} {a b : Expr} {ma mb : M} {op : CmpOp} {f : R → R → Option R}
theorem st_cmp (h : CmpB X op f) (ha : SE X W a ma) (hb : SE X W b mb) (hm : behindInMarks op b = false) : ST X W (.Compare a [op] [b] pos) (mTest (m2 f ma mb)) := by
  obtain ⟨r, h1, h2⟩ := h
  exact PT.wk (pt_cmpR h1 ha hb hm) fun σ H Q h => tM_m2 h2 (tM_test h)
theorem cb_lt : CmpB X .Lt lLt := ⟨_, op_lt, l_I0 fun i j d e F => by cases e; exact .bl _⟩
theorem cb_le : CmpB X .LtE lLe := ⟨_, op_le, l_I0 fun i j d e F => by cases e; exact .bl _⟩
theorem cb_gt : CmpB X .Gt lGt := ⟨_, op_gt, l_I0 fun i j d e F => by cases e; exact .bl _⟩
theorem cb_ge : CmpB X .GtE lGe := ⟨_, op_ge, l_I0 fun i j d e F => by cases e; exact .bl _⟩
theorem cb_eq (hu : X.A.units + 64 < cLine) : CmpB X .Eq lEq := ⟨_, op_eq.or (op_eqD hu), l_eq⟩
theorem cb_ne (hu : X.A.units + 64 < cLine) : CmpB X .NotEq lNe := ⟨_, op_ne.or (op_neD hu), l_ne⟩
theorem cb_in (hu : X.A.units + 65 < cLine) : CmpB X .In lIn := ⟨_, op_in_sign.or (op_in_seq.or (op_inD hu)), l_inA false⟩
theorem cb_notin (hu : X.A.units + 65 < cLine) : CmpB X .NotIn lNotIn := ⟨_, op_notIn_sign.or (op_notIn_seq.or (op_notInD hu)), l_inA true⟩
theorem cb_isN : CmpB X .Is lIsN := ⟨_, op_isN, by
  intro F H S x y p q f1 f2 Q rx ry l
  obtain ⟨rr, e⟩ := l.has
  have e0 := e
  unfold lIsN at e
  split at e
  · next i e1 e2 =>
    cases e
    refine ⟨ry.non e2, ?_⟩
    rw [rep_non (rx.whole l.sub e1)]
    exact l.val e0 (.bl _)
  · cases e⟩
end
structure Cst (K : PySem.W.Frag) (mg : Str → Option Value) (x : Str) (d : D) : Prop where
  ex : ∃ v u, mg x = some u ∧ RelV v u ∧ ∀ F xa, Rep ⟨K, mg, xa⟩ F v d
theorem Cst.int {K : PySem.W.Frag} {mg : Str → Option Value} {x : Str} {i : Int} {t : Tok} (h : mg x = some (.int i t)) : Cst K mg x (.int i) := ⟨⟨.int i, _, h, ⟨_, rfl⟩, fun F xa => .int i⟩⟩
theorem Cst.str {K : PySem.W.Frag} {mg : Str → Option Value} {x : Str} {z : Str} {t : Tok} {s : List Nat} (h : mg x = some (.str z t)) (e : z.cps.toList = s) (hl : s.length ≤ sizeLine) : Cst K mg x (.str s) :=
  ⟨⟨.str z, _, h, ⟨_, rfl⟩, fun F xa => rep_str e hl⟩⟩
section
variable {X : Cx} {W : WX} {pos : Pos} {x : Str} {d : D}
theorem s_cst (hg : Gl X x) (h : Cst X.K X.mg x d) (hd : (x == ("__debug__" : Str)) = false := by decide) : SE X W (.Name x pos) (mC d) := by
  obtain ⟨v, u, h1, h2, h3⟩ := h.ex
  exact s_glob hg h1 h2 (fun F => h3 F _) hd
theorem hu65 {A : Around} {k : Nat} (hr : Room k A) : A.units + 65 < cLine := by have := hr.un; omega
end
theorem fn_no {P : Program} {w : World} {K : PySem.W.Frag} {mg : Str → Option Value} {base : Heap} {k : Nat} {f : Addr} {fd : FuncData} {ps : List Str} : FnOk P w K mg base (L2N.CX P w) k f fd ps (spF (.m K mg) ps.length fun _ => .no) :=
  ⟨fun vs H Q E h => h.1, fun A outer s H args us vs Q E hr e0 hb r h => by
    obtain ⟨_, F, as, fp, st, hno, _⟩ := h
    exact absurd rfl hno⟩
def spLaw (K : PySem.W.Frag) : Sp := fun vs H Q E => ∃ (a : Addr) (ns : List Int), vs = [.ref a] ∧ SqL K H a (ns.map V.int) ∧ ns.length ≤ 63 ∧ ∀ H', Q (.bl true) H'
theorem Reps.ints {g : Wd} {F : Hp} : ∀ ns : List Int, Reps g F (ns.map V.int) (ns.map D.int)
  | [] => .nil
  | n :: ns => .cons (.int n) (Reps.ints ns)
theorem fn_law {P : Program} {w : World} {K : PySem.W.Frag} {mg : Str → Option Value} {base : Heap} {k : Nat} {fa : Addr} {fd : FuncData} {p : Str} {f : Fn} (h : FnOk P w K mg base (L2N.CX P w) k fa fd [p] (spF (.m K mg) 1 f))
    (law : ∀ ns : List Int, ns.length ≤ 63 → ∃ as, f [.shr (.lst (ns.map D.int))] = .ok (.d (.bl true)) as) : FnOk P w K mg base (L2N.CX P w) k fa fd [p] (spLaw K) :=
  h.imp (fun vs H Q E ⟨a, ns, e, hs, hl, q⟩ => by
    subst e
    obtain ⟨as', e⟩ := law ns hl
    refine ⟨rfl, fun b => if b = a then H a else none, [.shr (.lst (ns.map D.int))], fun _ => [], ⟨fun b o h => ?_, rfl, fun _ _ => rfl, fun i d h => ?_, fun i b o h => ?_, fun _ => List.nodup_nil, (fun _ _ _ h => nomatch h), (fun _ _ h => nomatch h), fun i x h => ?_⟩, ?_, fun r as2 e2 v F' H' fp' fr s st' rr nd hp kb => ?_, fun x as2 e2 => ?_⟩
    · split at h
      · next z => subst z; exact h
      · cases h
    · cases i with
      | zero =>
        simp at h; subst h
        refine ⟨.ref a, rfl, .lst (vs := ns.map V.int) ?_ (by rw [List.length_map]; exact Nat.le_trans hl (by rw [sizeLine_eq]; decide)) (Reps.ints ns)⟩
        rcases hs with (hs | ⟨o, hs⟩) | hs
        · exact .inl (.inl ((if_pos rfl).trans hs))
        · exact .inl (.inr ⟨o, (if_pos rfl).trans hs⟩)
        · exact .inr hs
      | succ i => simp at h
    · cases i with
      | zero => simp at h
      | succ i => simp at h
    · cases i with
      | zero => simp at h
      | succ i => simp at h
    · rw [e]; simp
    · rw [e] at e2; cases e2
      obtain ⟨rr, _⟩ := rr
      cases rr
      exact q H'
    · rw [e] at e2; cases e2)
end
end Mw
set_option Elab.async false
set_option linter.all false
set_option maxRecDepth 100000
set_option autoImplicit false
namespace Mw
open PySem PySem.Spec PyProof.Rows L2
noncomputable section
def wipeR (ρ : Ro) : List Nat → Ro
  | [] => ρ
  | v :: vs => (wipeR ρ vs).set v .un
def keepS (ρ : Ro) (v : Nat) : Slo := match ρ[v]? with
  | some (.shr d) => .shr d
  | _ => .un
def unwipe (ρ0 ρ : Ro) : List Nat → Ro
  | [] => ρ
  | v :: vs => (unwipe ρ0 ρ vs).set v (keepS ρ0 v)
def noMu (ρ : Ro) : List Nat → Bool
  | [] => true
  | v :: vs => (match ρ[v]? with | some (.mu _ _) => false | some (.xc _) => false | _ => true) && noMu ρ vs
def lcR (t : Tg) (c : MB) (e : M) (vs : List Nat) : List D → Ro → Bool → List D → Option (List D × Ro × Bool)
  | [], ρ, q, ys => some (ys, ρ, q)
  | x :: xs, ρ, q, ys => match asg t x ρ with
    | none => none
    | some ρ1 => match c ρ1 with
      | .ok b ρ2 q1 => if b = true then (match e ρ2 with
          | .ok r ρ3 q2 => (match r.st with
            | some y => lcR t c e vs xs (wipeR ρ3 vs) (q && q1 && q2) (ys ++ [y])
            | none => none)
          | _ => none)
        else lcR t c e vs xs (wipeR ρ2 vs) (q && q1) ys
      | _ => none
def lcGo : Tg → MB → M → List Nat → List D → Ro → Bool → List D → Option (List D × Ro × Bool) := hide lcR
theorem lcGo_nil (t : Tg) (c : MB) (e : M) (vs : List Nat) (ρ : Ro) (q : Bool) (ys : List D) : lcGo t c e vs [] ρ q ys = some (ys, ρ, q) := by unfold lcGo; rw [hide_eq]; rfl
theorem lcGo_cons (t : Tg) (c : MB) (e : M) (vs : List Nat) (x : D) (xs : List D) (ρ : Ro) (q : Bool) (ys : List D) : lcGo t c e vs (x :: xs) ρ q ys = match asg t x ρ with
    | none => none
    | some ρ1 => (match c ρ1 with
      | .ok b ρ2 q1 => if b = true then (match e ρ2 with
          | .ok r ρ3 q2 => (match r.st with
            | some y => lcGo t c e vs xs (wipeR ρ3 vs) (q && q1 && q2) (ys ++ [y])
            | none => none)
          | _ => none)
        else lcGo t c e vs xs (wipeR ρ2 vs) (q && q1) ys
      | _ => none) := by unfold lcGo; rw [hide_eq]; rfl
def mLc (it : MI) (t : Tg) (c : MB) (e : M) (vs : List Nat) : M := fun ρ => (it ρ).bind fun xs ρ1 q1 => if (lenOk xs.length && noMu ρ1 vs) = true then (match lcGo t c e vs xs (wipeR ρ1 vs) true [] with
  | some (ys, ρ2, q) => .ok (.own (.lst (ys.map O.d))) (unwipe ρ1 ρ2 vs) (q1 && q)
  | none => .no) else .no
def mYes : MB := fun ρ => .ok true ρ true
theorem wipeR_len (ρ : Ro) : ∀ vs : List Nat, (wipeR ρ vs).length = ρ.length
  | [] => rfl
  | v :: vs => by unfold wipeR; rw [List.length_set, wipeR_len ρ vs]
theorem wipeR_get (ρ : Ro) (j : Nat) : ∀ vs : List Nat, (wipeR ρ vs)[j]? = if j ∈ vs then (if j < ρ.length then some .un else none) else ρ[j]?
  | [] => by simp [wipeR]
  | v :: vs => by
    unfold wipeR
    rw [List.getElem?_set, wipeR_get ρ j vs, wipeR_len]
    by_cases h : v = j
    · subst h; simp
    · rw [if_neg h]
      by_cases h2 : j ∈ vs
      · rw [if_pos h2, if_pos (List.mem_cons_of_mem _ h2)]
      · rw [if_neg h2, if_neg fun z => (List.mem_cons.mp z).elim (fun z => h z.symm) h2]
theorem unwipe_len (ρ0 ρ : Ro) : ∀ vs : List Nat, (unwipe ρ0 ρ vs).length = ρ.length
  | [] => rfl
  | v :: vs => by unfold unwipe; rw [List.length_set, unwipe_len ρ0 ρ vs]
theorem unwipe_get (ρ0 ρ : Ro) (j : Nat) : ∀ vs : List Nat, (unwipe ρ0 ρ vs)[j]? = if j ∈ vs then (if j < ρ.length then some (keepS ρ0 j) else none) else ρ[j]?
  | [] => by simp [unwipe]
  | v :: vs => by
    unfold unwipe
    rw [List.getElem?_set, unwipe_get ρ0 ρ j vs, unwipe_len]
    by_cases h : v = j
    · subst h; simp
    · rw [if_neg h]
      by_cases h2 : j ∈ vs
      · rw [if_pos h2, if_pos (List.mem_cons_of_mem _ h2)]
      · rw [if_neg h2, if_neg fun z => (List.mem_cons.mp z).elim (fun z => h z.symm) h2]
theorem wipe_get (σ : L2.St) (j : Nat) : ∀ vs : List Nat, (wipe σ vs)[j]? = if j ∈ vs then (if j < σ.length then some none else none) else σ[j]?
  | [] => by simp [wipe]
  | v :: vs => by
    unfold wipe
    rw [List.getElem?_set, wipe_get σ j vs, wipe_length]
    by_cases h : v = j
    · subst h; simp
    · rw [if_neg h]
      by_cases h2 : j ∈ vs
      · rw [if_pos h2, if_pos (List.mem_cons_of_mem _ h2)]
      · rw [if_neg h2, if_neg fun z => (List.mem_cons.mp z).elim (fun z => h z.symm) h2]
theorem noMu_get {ρ : Ro} {j : Nat} : ∀ {vs : List Nat}, noMu ρ vs = true → j ∈ vs → ∀ b o, ρ[j]? ≠ some (.mu b o)
  | v :: vs, h, hj => by
    unfold noMu at h
    have h := Bool.and_eq_true_iff.mp h
    rcases List.mem_cons.mp hj with rfl | hj
    · intro b o e
      rw [e] at h; cases h.1
    · exact noMu_get h.2 hj
theorem noMu_getX {ρ : Ro} {j : Nat} : ∀ {vs : List Nat}, noMu ρ vs = true → j ∈ vs → ∀ x, ρ[j]? ≠ some (.xc x)
  | v :: vs, h, hj => by
    unfold noMu at h
    have h := Bool.and_eq_true_iff.mp h
    rcases List.mem_cons.mp hj with rfl | hj
    · intro x e
      rw [e] at h; cases h.1
    · exact noMu_getX h.2 hj
mutual
theorem asg_get : ∀ {t : Tg} {x : D} {ρ ρ' : Ro}, asg t x ρ = some ρ' → ρ'.length = ρ.length ∧ ∀ j, j ∉ t.slots → ρ'[j]? = ρ[j]?
  | .nm i, x, ρ, ρ', h => by
    unfold asg at h
    split at h
    · cases h
    · cases h
      exact ⟨by simp, fun j hj => by rw [List.getElem?_set, if_neg fun z => hj (by simp [Tg.slots, z])]⟩
  | .tup ts, .tup xs, ρ, ρ', h => by
    have h : asgs ts xs ρ = some ρ' := by unfold asg at h; exact h
    exact asgs_get h
  | .tup ts, .non, ρ, ρ', h => by simp [asg] at h
  | .tup ts, .bl _, ρ, ρ', h => by simp [asg] at h
  | .tup ts, .int _, ρ, ρ', h => by simp [asg] at h
  | .tup ts, .str _, ρ, ρ', h => by simp [asg] at h
  | .tup ts, .lst _, ρ, ρ', h => by simp [asg] at h
  | .tup ts, .obj _ _ _, ρ, ρ', h => by simp [asg] at h
theorem asgs_get : ∀ {ts : List Tg} {xs : List D} {ρ ρ' : Ro}, asgs ts xs ρ = some ρ' → ρ'.length = ρ.length ∧ ∀ j, j ∉ slotsL ts → ρ'[j]? = ρ[j]?
  | [], [], ρ, ρ', h => by simp [asgs] at h; subst h; exact ⟨rfl, fun _ _ => rfl⟩
  | [], _ :: _, ρ, ρ', h => by simp [asgs] at h
  | _ :: _, [], ρ, ρ', h => by simp [asgs] at h
  | t :: ts, x :: xs, ρ, ρ', h => by
    unfold asgs at h
    split at h
    · next ρ1 e1 =>
      have a := asg_get e1
      have b := asgs_get h
      refine ⟨b.1.trans a.1, fun j hj => ?_⟩
      unfold slotsL at hj
      rw [List.mem_append, not_or] at hj
      exact (b.2 j hj.2).trans (a.2 j hj.1)
    · cases h
end
theorem wipeR_eq {ρ ρ' : Ro} {vs l : List Nat} (hl : ρ'.length = ρ.length) (h : ∀ j, j ∉ l → ρ'[j]? = ρ[j]?) (hs : ∀ j ∈ l, j ∈ vs) : wipeR ρ' vs = wipeR ρ vs := by
  apply List.ext_getElem?
  intro j
  rw [wipeR_get, wipeR_get, hl]
  split
  · rfl
  · next z => exact h j fun y => z (hs j y)
theorem wipeR_idem (ρ : Ro) (vs : List Nat) : wipeR (wipeR ρ vs) vs = wipeR ρ vs := by
  apply List.ext_getElem?
  intro j
  rw [wipeR_get, wipeR_get, wipeR_len]
  split
  · rfl
  · rfl
theorem unwipe_wipeR {ρ : Ro} {vs : List Nat} (h : noMu ρ vs = true) : unwipe ρ (wipeR ρ vs) vs = ρ := by
  apply List.ext_getElem?
  intro j
  rw [unwipe_get, wipeR_get, wipeR_len]
  split
  · next z =>
    split
    · next y =>
      unfold keepS
      cases e : ρ[j]? with
      | none => exact absurd y (by have := List.getElem?_eq_none_iff.mp e; omega)
      | some s =>
        cases s with
        | un => rfl
        | xc x => exact absurd e (noMu_getX h z x)
        | shr d => rfl
        | mu b o => exact absurd e (noMu_get h z b o)
    · next y => exact (List.getElem?_eq_none (by omega)).symm
  · rfl
theorem Stt.wiped {g : Wd} {F H : Hp} {σ : L2.St} {ρ : Ro} {fp : Nat → List Addr} (st : Stt g F H σ ρ fp) (vs : List Nat) : ∃ fp', Stt g F H (wipe σ vs) (wipeR ρ vs) fp' ∧ ∀ a, Own fp' a → Own fp a := by
  refine ⟨fun j => if j ∈ vs then [] else fp j, ⟨st.sub, by rw [wipe_length, wipeR_len, st.len], fun j hj => ?_, fun j d hd => ?_, fun j b o ho => ?_, fun j => ?_, fun j k a ha hb => ?_, fun j a ha => ?_, fun j x hx => ?_⟩, fun a ⟨j, ha⟩ => ?_⟩
  · try dsimp only
    split
    · rfl
    · next z => exact st.un j fun b o e => hj b o (by rw [wipeR_get, if_neg z]; exact e)
  · rw [wipeR_get] at hd
    split at hd
    · split at hd <;> cases hd
    · next z => rw [wipe_get, if_neg z]; exact st.shr j d hd
  · rw [wipeR_get] at ho
    split at ho
    · split at ho <;> cases ho
    · next z => rw [wipe_get, if_neg z]; (try dsimp only); rw [if_neg z]; exact st.mu j b o ho
  · (try dsimp only); split
    · exact List.nodup_nil
    · exact st.nd j
  · try dsimp only at ha hb
    split at ha
    · cases ha
    · split at hb
      · cases hb
      · exact st.dis j k a ha hb
  · try dsimp only at ha
    split at ha
    · cases ha
    · exact st.fre j a ha
  · rw [wipeR_get] at hx
    split at hx
    · split at hx <;> cases hx
    · next z => rw [wipe_get, if_neg z]; exact st.xc j x hx
  · try dsimp only at ha
    split at ha
    · cases ha
    · exact ⟨j, ha⟩
theorem Stt.unwiped {g : Wd} {F H F1 H1 : Hp} {σ : L2.St} {ρ ρ1 : Ro} {fp fp1 : Nat → List Addr} {vs : List Nat} (st : Stt g F H (wipe σ vs) ρ fp) (hw : wipeR ρ vs = ρ) (st1 : Stt g F1 H1 σ ρ1 fp1) (ex : Ext F1 F) : Stt g F H σ (unwipe ρ1 ρ vs) fp := by
  have hv : ∀ {j : Nat}, j ∈ vs → ∀ b o, ρ[j]? ≠ some (.mu b o) := fun {j} hj b o e => by
    rw [← hw, wipeR_get, if_pos hj] at e
    split at e <;> cases e
  refine ⟨st.sub, by rw [unwipe_len, ← st.len, wipe_length], fun j hj => ?_, fun j d hd => ?_, fun j b o ho => ?_, st.nd, st.dis, st.fre, fun j x hx => ?_⟩
  · refine st.un j fun b o e => ?_
    by_cases z : j ∈ vs
    · exact hv z b o e
    · exact hj b o (by rw [unwipe_get, if_neg z]; exact e)
  · rw [unwipe_get] at hd
    split at hd
    · split at hd
      · unfold keepS at hd
        split at hd
        · next d' e =>
          cases hd
          exact (st1.shr j _ e).imp fun v h => ⟨h.1, h.2.mono ex⟩
        · cases hd
      · cases hd
    · next z =>
      obtain ⟨v, e, r⟩ := st.shr j d hd
      rw [wipe_get, if_neg z] at e
      exact ⟨v, e, r⟩
  · rw [unwipe_get] at ho
    split at ho
    · split at ho
      · unfold keepS at ho
        split at ho <;> cases ho
      · cases ho
    · next z =>
      obtain ⟨v, e, r⟩ := st.mu j b o ho
      rw [wipe_get, if_neg z] at e
      exact ⟨v, e, r⟩
  · rw [unwipe_get] at hx
    split at hx
    · split at hx
      · unfold keepS at hx
        split at hx <;> cases hx
      · cases hx
    · next z =>
      obtain ⟨v, e, r⟩ := st.xc j x hx
      rw [wipe_get, if_neg z] at e
      exact ⟨v, e, r⟩
theorem Stt.moved {g : Wd} {F H F' H' : Hp} {σ : L2.St} {ρ : Ro} {fp : Nat → List Addr} (s : Stt g F H σ ρ fp) (e : Ext F F') (eh : ∀ a o, Own fp a → H a = some o → H' a = some o) (sub : Ext F' H') (n : ∀ a, Own fp a → F' a = none) : Stt g F' H' σ ρ fp :=
  ⟨sub, s.len, s.un, fun i d h => (s.shr i d h).imp fun v h => ⟨h.1, h.2.mono e⟩, fun i b o h => (s.mu i b o h).imp fun v h => ⟨h.1, h.2.mono e fun a m u => eh a u ⟨i, m⟩⟩, s.nd, s.dis, fun i a h => n a ⟨i, h⟩, fun i x h => (s.xc i x h).imp fun w h => ⟨h.1, h.2.mono e⟩⟩
abbrev W0 : WX := fun _ _ _ _ => False
structure LcI (g : Wd) (σ : L2.St) (F1 H1 : Hp) (S1 : Addr → Prop) (ρ1 : Ro) (vs : List Nat) (L : Addr) (i : Nat) (q : Bool) (F H : Hp) (ρ : Ro) (fp : Nat → List Addr) (acc : List V) (ys : List D) : Prop where
  st : Stt g F H (wipe σ vs) ρ fp
  wd : wipeR ρ vs = ρ
  hd : H L = some (.lst acc)
  fd : F L = none
  od : ¬ Own fp L
  rp : Reps g F acc ys
  le : ys.length ≤ i
  sp : Step F1 H1 S1 F H (Plus (Own fp) [L])
  kb : Kb (wipeR ρ1 vs) ρ
  qt : q = true → Ext H1 H ∧ ρ = wipeR ρ1 vs
theorem kbs_kb {ρ ρ' : Ro} {σ σ' : L2.St} (h : Kbs ρ σ ρ' σ') : Kb ρ ρ' := fun k o e => (h k o e).1
theorem Kb.wiped {ρ0 ρ : Ro} {vs : List Nat} (h : Kb (wipeR ρ0 vs) ρ) : Kb (wipeR ρ0 vs) (wipeR ρ vs) := fun k o e => by
  obtain ⟨o', e'⟩ := h k o e
  rw [wipeR_get] at e
  split at e
  · split at e <;> cases e
  · next z => exact ⟨o', by rw [wipeR_get, if_neg z]; exact e'⟩
theorem tM_lc {g : Wd} {W : WX} {it : MI} {t : Tg} {c : MB} {e : M} {vs : List Nat} {σ : L2.St} {H : Hp} {Q : VK} (hs : ∀ j ∈ t.slots, j ∈ vs) (h : tM g W (mLc it t c e vs) σ H Q) :
    tLc (tI g W it) (tG g t) (tB' g W0 c) (tM g W0 e) vs σ H Q := by
  refine tR.bind h fun F0 ρ0 fp0 st0 xs ρ1 q1 e1 J F1 H1 fp1 fr1 s1 st1 r1 n1 z1 ob => ?_
  obtain ⟨yl, rfl⟩ := r1
  rw [plus_nil] at ob
  intro L hL
  by_cases hc : (lenOk xs.length && noMu ρ1 vs) = true
  · rw [if_pos hc] at ob
    have hc := Bool.and_eq_true_iff.mp hc
    have hlen := lenOk_le hc.1
    cases er : lcGo t c e vs xs (wipeR ρ1 vs) true [] with
    | none => rw [er] at ob; exact absurd rfl ob.1
    | some rr =>
      obtain ⟨zs, ρz, qz⟩ := rr
      rw [er] at ob
      dsimp only at ob
      have hF1 : F1 L = none := fnone st1.sub hL
      have oL : ∀ {a}, Own fp1 a → a ≠ L := fun {a} ha z => (st1.there ha).1 (z ▸ hL)
      refine ⟨fun i m H' => i ≤ xs.length ∧ m = xs.length - i ∧ ∃ q F ρ fp acc ys, LcI g σ F1 H1 (Own fp1) ρ1 vs L i q F H' ρ fp acc ys ∧ lcGo t c e vs (xs.drop i) ρ q ys = some (zs, ρz, qz), ⟨xs.length, Nat.zero_le _, rfl, ?_⟩, ?_⟩
      · obtain ⟨fp', st', k'⟩ := st1.wiped vs
        have eu : Ext H1 (upd H1 L (.lst [])) := ext_upd hL
        refine ⟨true, F1, wipeR ρ1 vs, fp', [], [], ⟨st'.grown (.refl _) eu (st1.sub.trans eu) fun a ha => (st'.there ha).2, wipeR_idem _ _, upd_same, hF1, fun z => (st'.there z).1 hL, .nil, Nat.zero_le _, ⟨.refl _, fun a o _ h => eu a o h, fun a o h => .inl h, fun a h => ?_⟩, .refl _, fun _ => ⟨eu, rfl⟩⟩, by rw [List.drop_zero]; exact er⟩
        rcases h with h | h
        · exact .inl (k' a h)
        · rw [List.mem_singleton] at h; subst h; exact .inr hL
      · intro i m H2 hW
        obtain ⟨hi, rfl, q, F, ρ, fp, acc, ys, I, eg⟩ := hW
        have Y := yl i F H2 I.sp.ext I.st.sub
        by_cases hl : i < xs.length
        · obtain ⟨d, hd⟩ : ∃ d, xs[i]? = some d := ⟨xs[i], List.getElem?_eq_getElem hl⟩
          have hdr : xs.drop i = d :: xs.drop (i + 1) := by
            rw [List.getElem?_eq_getElem hl] at hd
            cases hd
            exact (List.drop_eq_getElem_cons hl)
          rw [hdr, lcGo_cons] at eg
          obtain ⟨go, yy⟩ := Y.2 d hd
          refine .inr ⟨go, fun H' => i + 1 ≤ xs.length ∧ ∃ q F ρ fp acc ys, LcI g σ F1 H1 (Own fp1) ρ1 vs L (i + 1) q F H' ρ fp acc ys ∧ lcGo t c e vs (xs.drop (i + 1)) ρ q ys = some (zs, ρz, qz), fun H' hN => ⟨xs.length - (i + 1), by omega, hN.1, rfl, hN.2⟩, fun x H3 hy => ?_⟩
          obtain ⟨F3, s3, e3, eh3, n3, r3⟩ := yy x H3 hy
          have fL3 : F3 L = none := by
            cases z : F3 L with
            | none => rfl
            | some u =>
              rcases n3 L u z with z | z
              · rw [I.fd] at z; cases z
              · rw [I.hd] at z; cases z
          have own3 : ∀ a, Own fp a → F3 a = none := fun a ha => by
            cases z : F3 a with
            | none => rfl
            | some u =>
              rcases n3 a u z with z | z
              · rw [(I.st.there ha).2] at z; cases z
              · exact absurd z (I.st.there ha).1
          have st3 := I.st.grown e3 eh3 s3 own3
          have step3 : Step F H2 (Plus (Own fp) [L]) F3 H3 (Plus (Own fp) [L]) := ⟨e3, fun a o _ h => eh3 a o h, fun a o h => (n3 a o h).imp id fun z => .inr (.inl z), fun a h => .inl h⟩
          have sp3 := I.sp.trans step3
          have hd3 := eh3 L _ I.hd
          cases e4 : asg t d ρ with
          | none => rw [e4] at eg; cases eg
          | some ρ4 =>
            rw [e4] at eg
            dsimp only at eg
            refine ⟨F3, ρ, fp, d, ρ4, st3, r3, e4, fun σ4 fp4 st4 o4 k4 n4 => ?_⟩
            have hw : wipe σ4 vs = wipe σ vs := by
              apply List.ext_getElem?
              intro j
              rw [wipe_get, wipe_get]
              have hl4 : σ4.length = σ.length := by rw [n4.1, wipe_length]
              rw [hl4]
              split
              · rfl
              · next z =>
                rw [n4.2 j fun y => z (hs j y), wipe_get, if_neg z]
            refine ⟨hw, F3, ρ4, fp4, st4, ?_⟩
            have ag := asg_get e4
            have k4' : Kb (wipeR ρ1 vs) ρ4 := I.kb.trans (kbs_kb k4)
            have sp4 : Step F1 H1 (Own fp1) F3 H3 (Plus (Own fp4) [L]) := sp3.weak fun a ha => ha.imp (o4 a) id
            have od4 : ¬ Own fp4 L := fun z => I.od (o4 L z)
            have L3 : ∀ {F' H' : Hp} {S' : Addr → Prop}, Step F3 H3 (Own fp4) F' H' S' → H' L = some (.lst acc) ∧ F' L = none ∧ ¬ S' L := fun {F' H' S'} s => by
              refine ⟨s.keep L _ od4 hd3, ?_, fun z => ?_⟩
              · cases z : F' L with
                | none => rfl
                | some u =>
                  rcases s.new L u z with z | z | z
                  · rw [fL3] at z; cases z
                  · exact absurd z od4
                  · rcases z with z | ⟨_, z⟩ <;> rw [hd3] at z <;> cases z
              · rcases s.fre L z with z | z
                · exact od4 z
                · rw [hd3] at z; cases z
            -- the end of a turn
            have fin : ∀ {q' : Bool} {F' H' : Hp} {ρ' : Ro} {fp' : Nat → List Addr} {acc' : List V} {ys' : List D}, Stt g F' H' σ4 ρ' fp' → H' L = some (.lst acc') → F' L = none → ¬ Own fp' L → Reps g F' acc' ys' → ys'.length ≤ i + 1 →
                Step F1 H1 (Own fp1) F' H' (Plus (Own fp') [L]) → Kb (wipeR ρ1 vs) ρ' → (q' = true → Ext H1 H' ∧ ρ' = ρ4 ∧ q = true) →
                lcGo t c e vs (xs.drop (i + 1)) (wipeR ρ' vs) q' ys' = some (zs, ρz, qz) → i + 1 ≤ xs.length ∧ ∃ q F ρ fp acc ys, LcI g σ F1 H1 (Own fp1) ρ1 vs L (i + 1) q F H' ρ fp acc ys ∧ lcGo t c e vs (xs.drop (i + 1)) ρ q ys = some (zs, ρz, qz) :=
              fun {q' F' H' ρ' fp' acc' ys'} st' hd' fd' od' rp' le' sp' kb' qt' eg' => by
                obtain ⟨fp'', st'', k''⟩ := st'.wiped vs
                rw [hw] at st''
                refine ⟨hl, q', F', wipeR ρ' vs, fp'', acc', ys', ⟨st'', wipeR_idem _ _, hd', fd', fun z => od' (k'' L z), rp', le', sp'.weak fun a ha => ha.imp (k'' a) id, kb'.wiped, fun hq => ?_⟩, eg'⟩
                obtain ⟨a1, a2, a3⟩ := qt' hq
                refine ⟨a1, ?_⟩
                rw [a2, wipeR_eq ag.1 ag.2 hs, (I.qt a3).2, wipeR_idem]
            refine ⟨fun z => ?_, fun b ρ5 qb e5 vb F5 H5 fp5 fr5 s5 st5 r5 n5 z5 => ?_, fun x ρ' z => ?_⟩
            · rw [z] at eg; cases eg
            · obtain ⟨rfl, rfl⟩ := r5
              rw [plus_nil] at s5
              rw [e5] at eg
              dsimp only at eg
              obtain ⟨l5, f5, o5⟩ := L3 s5
              have sp5 : Step F1 H1 (Own fp1) F5 H5 (Plus (Own fp5) [L]) := sp4.trans (s5.frame [L])
              have rp5 : Reps g F5 acc ys := I.rp.mono (e3.trans s5.ext)
              cases vb with
              | false =>
                rw [if_neg (by decide)] at eg ⊢
                refine fin st5 l5 f5 o5 rp5 (by have := I.le; omega) sp5 (k4'.trans z5.1) (fun hq => ?_) eg
                have hq := Bool.and_eq_true_iff.mp hq
                exact ⟨((I.qt hq.1).1.trans eh3).trans (z5.2 hq.2).1, (z5.2 hq.2).2, hq.1⟩
              | true =>
                rw [if_pos rfl] at eg ⊢
                refine ⟨F5, ρ5, fp5, st5, ?_⟩
                refine ⟨fun z => ?_, fun r ρ6 q6 e6 v6 F6 H6 fp6 fr6 s6 st6 r6 n6 z6 => ?_, fun x ρ' z => ?_⟩
                · rw [z] at eg; cases eg
                · rw [e6] at eg
                  dsimp only at eg
                  cases ey : r.st with
                  | none => rw [ey] at eg; cases eg
                  | some y =>
                    rw [ey] at eg
                    dsimp only at eg
                    have l6 : H6 L = some (.lst acc) := s6.keep L _ o5 l5
                    have f6 : F6 L = none := by
                      cases z : F6 L with
                      | none => rfl
                      | some u =>
                        rcases s6.new L u z with z | z | z
                        · rw [f5] at z; cases z
                        · exact absurd z o5
                        · rcases z with z | ⟨_, z⟩ <;> rw [l5] at z <;> cases z
                    have o6 : ¬ Plus (Own fp6) fr6 L := fun z => by
                      rcases s6.fre L z with z | z
                      · exact o5 z
                      · rw [l5] at z; cases z
                    have out6 := r6.out
                    have lf : L ∉ fr6 := fun z => o6 (.inr z)
                    have fz : frz F6 H6 fr6 L = none := by unfold frz; rw [if_neg lf]; exact f6
                    have rp6 : Reps g (frz F6 H6 fr6) (acc ++ [v6]) (ys ++ [y]) := (rp5.mono (s6.ext.trans (frz_ext st6.sub))).app (.cons (r6.st ey (frz_ext st6.sub) fun a ha => frz_mem ha) .nil)
                    have la : acc.length = ys.length := I.rp.length
                    refine ⟨acc, l6, by rw [la, sizeLine_eq]; have := I.le; omega, ?_⟩
                    have sub' : Ext (frz F6 H6 fr6) (upd H6 L (.lst (acc ++ [v6]))) := fun a o z => by
                      have z' := frz_sub st6.sub a o z
                      exact (upd_ne (show a ≠ L from fun y => by rw [y, fz] at z; cases z)).trans z'
                    have st7 : Stt g (frz F6 H6 fr6) (upd H6 L (.lst (acc ++ [v6]))) σ4 ρ6 fp6 := st6.moved (frz_ext st6.sub) (fun a o m z => (upd_ne (show a ≠ L from fun y => o6 (.inl (y ▸ m)))).trans z) sub' fun a ha => by
                      unfold frz
                      rw [if_neg fun z => (out6 a z).2.1 ha]
                      exact (st6.there ha).2
                    have sp6 : Step F1 H1 (Own fp1) (frz F6 H6 fr6) (upd H6 L (.lst (acc ++ [v6]))) (Plus (Own fp6) [L]) := by
                      have a1 := sp5.trans (s6.frame [L])
                      refine a1.trans ⟨frz_ext st6.sub, fun a o m z => ?_, fun a o z => ?_, fun a m => ?_⟩
                      · exact (upd_ne (show a ≠ L from fun y => m (.inr (by simp [y])))).trans z
                      · exact (frz_new z).imp id fun z => .inl (.inl (.inr z))
                      · rcases m with m | m
                        · exact .inl (.inl (.inl m))
                        · exact .inl (.inr m)
                    refine fin st7 upd_same fz (fun z => o6 (.inl z)) rp6 (by rw [List.length_append]; have := I.le; simp; omega) sp6 ((k4'.trans z5.1).trans z6.1) (fun hq => ?_) eg
                    have hq := Bool.and_eq_true_iff.mp hq
                    have hq1 := Bool.and_eq_true_iff.mp hq.1
                    have ee : Ext H1 H6 := (((I.qt hq1.1).1.trans eh3).trans (z5.2 hq1.2).1).trans (z6.2 hq.2).1
                    exact ⟨fun a o z => (upd_ne (show a ≠ L from fun y => by rw [y, hL] at z; cases z)).trans (ee a o z), (z6.2 hq.2).2.trans (z5.2 hq1.2).2, hq1.1⟩
                · rw [z] at eg; cases eg
            · rw [z] at eg; cases eg
        · have ei : i = xs.length := by omega
          subst ei
          refine .inl ⟨Y.1 rfl, ?_⟩
          rw [List.drop_length, lcGo_nil] at eg
          cases eg
          have la := I.rp.length
          refine ob.2.1 _ _ _ rfl (.ref L) F H2 fp [L] I.sp (I.st.unwiped I.wd st1 I.sp.ext) ⟨.lst I.hd (by rw [la, sizeLine_eq]; have := I.le; omega) (.ofReps I.rp), fun a ha => ?_⟩ (by simp) ⟨fun k o z => ?_, fun hq => ?_⟩
          · rw [List.mem_singleton] at ha; subst ha
            exact ⟨I.fd, I.od⟩
          · obtain ⟨o1, k1⟩ := z1.1 k o z
            have nv : k ∉ vs := fun y => noMu_get hc.2 y _ _ k1
            obtain ⟨o2, k2⟩ := I.kb k o1 (by rw [wipeR_get, if_neg nv]; exact k1)
            exact ⟨o2, by rw [unwipe_get, if_neg nv]; exact k2⟩
          · have hq := Bool.and_eq_true_iff.mp hq
            refine ⟨(z1.2 hq.1).1.trans (I.qt hq.2).1, ?_⟩
            rw [(I.qt hq.2).2, unwipe_wipeR hc.2]
            exact (z1.2 hq.1).2
  · rw [if_neg hc] at ob; exact absurd rfl ob.1
theorem tYes_of {g : Wd} {W : WX} {σ : L2.St} {H : Hp} {Q : Bool → Hp → Prop} (h : tB' g W mYes σ H Q) : tYes σ H Q := by
  obtain ⟨F, ρ, fp, st, ob⟩ := h
  exact ob.2.1 true ρ true rfl true F H fp [] (by rw [plus_nil]; exact .refl _ _ _) st ⟨rfl, rfl⟩ List.nodup_nil ⟨.refl ρ, fun _ => ⟨.refl H, rfl⟩⟩
abbrev SFs (X : Cx) (es : List Expr) (m : MB) : Prop := PTs X es (tB' (gOf X) W0 m)
theorem sf_nil {X : Cx} : SFs X [] mYes := ⟨fun pins s σ H Q I h => pts_nil.run pins s σ H Q I (tYes_of h)⟩
section
variable {X : Cx} {W : WX} {elt tg iter : Expr} {ifs : List Expr} {scope : Scope} {own : List (Str × Nat)} {pos : Pos} {mi : MI} {t : Tg} {mc : MB} {me : M}
theorem gOf_blk (hc : X.calm = true) {s : Shared} {H : Hp} {ce : Env} {fp : List Addr} : gOf (X.blk s H scope ce fp) = gOf X := by unfold gOf; rw [hc]; rfl
theorem s_lc (hc : X.calm = true) (hN : X.N.Nodup) (ok : BlkOk X.N X.env.scope scope own) (hi : SI X W tg iter mi)
    (hg : ∀ (s : Shared) (H : Hp) (C : Addr) (cl : List (Str × Addr)) (fp : List Addr), SG (X.blk s H scope (compEnvC scope cl C X.env) fp) tg t) (ht : ∀ (s : Shared) (H : Hp) (C : Addr) (cl : List (Str × Addr)) (fp : List Addr), SFs (X.blk s H scope (compEnvC scope cl C X.env) fp) ifs mc)
    (he : ∀ (s : Shared) (H : Hp) (C : Addr) (cl : List (Str × Addr)) (fp : List Addr), SE (X.blk s H scope (compEnvC scope cl C X.env) fp) W0 elt me) (hs : ∀ j ∈ t.slots, j ∈ own.map (·.2) := by decide) (hf : ∀ x, foldedSetIterable iter X.env x = pure x := by intro _; rfl) :
    SE X W (.ListComp elt [⟨tg, iter, ifs, 0⟩] scope pos) (mLc mi t mc me (own.map (·.2))) :=
  PE.wk (pe_lc hc hN hi ok (fun s H C cl fp => (gOf_blk hc : gOf (X.blk s H scope (compEnvC scope cl C X.env) fp) = gOf X) ▸ hg s H C cl fp) (fun s H C cl fp => (gOf_blk hc : gOf (X.blk s H scope (compEnvC scope cl C X.env) fp) = gOf X) ▸ ht s H C cl fp) (fun s H C cl fp => (gOf_blk hc : gOf (X.blk s H scope (compEnvC scope cl C X.env) fp) = gOf X) ▸ he s H C cl fp) hf) fun σ H Q h => tM_lc hs h
theorem ss_setlc {i : Nat} {y : Str} {py spos : Pos} (hc : X.calm = true) (hN : X.N.Nodup) (hy : X.N[i]? = some y) (hyl : X.env.scope.names.lookup y = some .local)
    (hsw : swapsWith (.ListComp elt [⟨tg, iter, ifs, 0⟩] scope pos) (some (.Name y py)) spos.line X.env = pure true) (ok : BlkOk X.N X.env.scope scope own) (hi : SI X W tg iter mi)
    (hg : ∀ (s : Shared) (H : Hp) (C : Addr) (cl : List (Str × Addr)) (fp : List Addr), SG (X.blk s H scope (compEnvC scope cl C X.env) fp) tg t) (ht : ∀ (s : Shared) (H : Hp) (C : Addr) (cl : List (Str × Addr)) (fp : List Addr), SFs (X.blk s H scope (compEnvC scope cl C X.env) fp) ifs mc)
    (he : ∀ (s : Shared) (H : Hp) (C : Addr) (cl : List (Str × Addr)) (fp : List Addr), SE (X.blk s H scope (compEnvC scope cl C X.env) fp) W0 elt me) (hs : ∀ j ∈ t.slots, j ∈ own.map (·.2) := by decide) (hf : ∀ x, foldedSetIterable iter X.env x = pure x := by intro _; rfl) :
    SS X W (.Assign [.Name y py] (.ListComp elt [⟨tg, iter, ifs, 0⟩] scope pos) spos) (mSet i (mLc mi t mc me (own.map (·.2)))) :=
  PS.wk (ps_setLc hc hN hy hyl hsw hi ok (fun s H C cl fp => (gOf_blk hc : gOf (X.blk s H scope (compEnvC scope cl C X.env) fp) = gOf X) ▸ hg s H C cl fp) (fun s H C cl fp => (gOf_blk hc : gOf (X.blk s H scope (compEnvC scope cl C X.env) fp) = gOf X) ▸ ht s H C cl fp) (fun s H C cl fp => (gOf_blk hc : gOf (X.blk s H scope (compEnvC scope cl C X.env) fp) = gOf X) ▸ he s H C cl fp) hf) fun D σ H h => tM_lc hs (tS_set h)
end
end
end Mw
set_option Elab.async false
set_option linter.all false
set_option maxRecDepth 100000
set_option autoImplicit false
namespace Mw
open PySem PySem.Spec PyProof.Rows L2
noncomputable section
def dInts : List D → Option (List Int)
  | [] => some []
  | .int i :: ds => (dInts ds).map (i :: ·)
  | _ => none
def dBls : List D → Option (List Bool)
  | [] => some []
  | .bl i :: ds => (dBls ds).map (i :: ·)
  | _ => none
@[simp] theorem dInts_map (ns : List Int) : dInts (ns.map D.int) = some ns := by
  induction ns with
  | nil => rfl
  | cons n ns ih => show (dInts (ns.map D.int)).map (n :: ·) = _; rw [ih]; rfl
@[simp] theorem dBls_map (ns : List Bool) : dBls (ns.map D.bl) = some ns := by
  induction ns with
  | nil => rfl
  | cons n ns ih => show (dBls (ns.map D.bl)).map (n :: ·) = _; rw [ih]; rfl
def insI (x : Int) : List Int → List Int
  | [] => [x]
  | y :: ys => if x ≤ y then x :: y :: ys else y :: insI x ys
def srtI : List Int → List Int
  | [] => []
  | x :: xs => insI x (srtI xs)
section
variable {X : Cx} {W : WX} {pos : Pos} {a b c : Expr} {es : List Expr} {ma mb mc : M} {ms : List M} {x : Str} {p : Pos}
def lInts (f : List Int → Option R) (p : R) : Option R := match p.pl with
  | some (.lst ds) => match dInts ds with
    | some ns => f ns
    | none => none
  | _ => none
def lBls (f : List Bool → Option R) (p : R) : Option R := match p.pl with
  | some (.lst ds) => match dBls ds with
    | some ns => f ns
    | none => none
  | _ => none
def lList (p : R) : Option R := match p.pl with
  | some (.lst ds) => some (.own (.lst (ds.map O.d)))
  | some (.tup ds) => some (.own (.lst (ds.map O.d)))
  | _ => none
def lTuple (p : R) : Option R := match p.pl with
  | some (.lst ds) => some (.d (.tup ds))
  | some (.tup ds) => some (.d (.tup ds))
  | _ => none
theorem s_tuple (hg : Gl X "tuple") (hm : X.mg "tuple" = none) (ha : SE X W a ma) (he : starEach [a] X.env = (false, eval a X.env) :: starEach [] X.env := by rfl) : SE X W (.Call (.Name "tuple" p) [a] [] pos) (m1 lTuple ma) :=
  s_ty1 call_tuple_of (by
    intro F H S x p fr Q rx l
    obtain ⟨rr, e⟩ := l.has
    have e0 := e
    unfold lTuple at e
    split at e
    · next ds h1 =>
      cases e
      obtain ⟨a, vs, rfl, k, n, r⟩ := rx.lst l.sub h1
      exact ⟨a, vs, rfl, .inl ⟨k, fun q hq => l.tup e0 r n hq⟩⟩
    · next ds h1 =>
      cases e
      obtain ⟨a, vs, rfl, k, n, r⟩ := rx.tupF h1
      exact ⟨a, vs, rfl, .inr ⟨l.sub.sqT (.inl (.inl k)), l.val e0 (.tup k n r)⟩⟩
    · cases e) hg hm (by decide +kernel) ha he
def lRev (p : R) : Option R := match p.pl with
  | some (.lst ds) => some (.own (.lst (ds.reverse.map O.d)))
  | _ => none
end
theorem tk0 {X : Cx} : L2N.Takes X W0 := fun _ _ ⟨_, _, _, _, _, _, _, _, _, _, _, _, _, _, _, _, w⟩ => w.elim
end
end Mw
set_option Elab.async false
set_option linter.all false
set_option maxRecDepth 100000
set_option autoImplicit false
namespace Mw
open PySem PySem.Spec PyProof.Rows L2
noncomputable section
def mLs (m : M) : M := fun ρ => (m ρ).bind fun r ρ' q => match r.pl with
  | some (.lst _) => .ok r ρ' q
  | _ => .no
section
variable {X : Cx} {W : WX} {pos : Pos} {a b c tg : Expr} {es : List Expr} {ma mb mc : M} {ms : List M} {p : Pos}
theorem tM_ls {m : M} {σ : L2.St} {H : Hp} {Q : VK} (h : tM (gOf X) W (mLs m) σ H Q) : tM (gOf X) W m σ H fun x H1 => tyV X.K "list" x H1 ∧ Q x H1 := by
  refine tR.bind h fun F ρ fp st r ρ1 q1 e1 v F1 H1 fp1 fr1 s1 st1 r1 n1 z1 ob => ?_
  split at ob
  · next ds e =>
    obtain ⟨a, vs, rfl, k, _, _⟩ := r1.lst st1.sub e
    exact ⟨.inl ⟨rfl, vs, k⟩, ob.2.1 r ρ1 q1 rfl (.ref a) F1 H1 fp1 fr1 (.refl _ _ _) st1 r1 n1 z1⟩
  · exact absurd rfl ob.1
def lIndex (p q : R) : Option R := match p.pl, q.pl with
  | some (.lst ds), some y => if y.flat = true ∧ flats ds = true then (ds.findIdx? fun z => D.eqv z y).map fun (j : Nat) => .d (.int j) else none
  | _, _ => none
theorem l_index : LOk2 (gOf X) lIndex (fun x y H Q => rIndex X.K x [y] H Q) := by
  intro F H S x y p q f1 f2 Q rx ry l
  obtain ⟨rr, e⟩ := l.has
  have e0 := e
  unfold lIndex at e
  split at e
  · next ds y' h1 h2 =>
    split at e
    · next hc =>
      cases ej : ds.findIdx? (fun z => D.eqv z y') with
      | none => rw [ej] at e; cases e
      | some j =>
        rw [ej] at e; cases e
        obtain ⟨a1, vs, rfl, k1, n1, r1⟩ := rx.lst l.sub h1
        have ryw := ry.whole l.sub h2
        obtain ⟨hj, hp, hno⟩ := List.findIdx?_eq_some_iff_getElem.mp ej
        have fl : ∀ {k : Nat} {d : D}, ds[k]? = some d → d.flat = true := fun {k d} e => List.all_eq_true.mp hc.2 d (List.mem_of_getElem? e)
        obtain ⟨z, hz, rz⟩ := r1.get (List.getElem?_eq_getElem hj)
        refine ⟨a1, vs, y, j, z, rfl, rfl, k1, rep_flat ryw hc.1, reps_flat r1 hc.2, hz, ?_, fun m z' hm hz' => ?_, l.val e0 (.int _)⟩
        · rw [eqV_eqv rz ryw (fl (List.getElem?_eq_getElem hj)) hc.1]; exact hp
        · obtain ⟨d, hd, rd⟩ := r1.getV hz'
          rw [eqV_eqv rd ryw (fl hd) hc.1]
          have hml : m < ds.length := (List.getElem?_eq_some_iff.mp hd).1
          have := hno m hm
          rw [List.getElem?_eq_getElem hml] at hd; cases hd
          simpa using this
    · cases e
  · cases e
def mIndex (ma mb : M) : M := m2 lIndex (mLs ma) mb
theorem s_index {apos : Pos} (ha : SE X W a ma) (hb : SE X W b mb) 
    (hbase : attributeBase a "index" X.env (eval a X.env) = eval a X.env := by rfl)
    (hfew : ((backTo pos (starEach (b :: []) X.env)).all (fun x => !x.1) && (backToKw pos (keywordEach [] X.env)).all (fun x => x.1.isSome)
      && decide ((b :: ([] : List Expr)).length + ([] : List Keyword).length + (if ([] : List Keyword).isEmpty then 0 else 1) < 30)) = true := by rfl)
    (hline : (apos.endLine == pos.line) = true := by rfl) (hs : starEach (b :: []) X.env = (false, eval b X.env) :: starEach [] X.env := by rfl) :
    SE X W (.Call (.Attribute a "index" apos) [b] [] pos) (mIndex ma mb) :=
  PE.wk (pe_bm PySem.F.plainAttrs_list PySem.F.slot_list_index PySem.F.type_list_index mt_index ha (pa_cons hb pa_nil hs) hbase hfew hline hs rfl) fun σ H Q h =>
    (tM_ls (tA_cons (tM_ops h))).imp fun x H1 ⟨ty, q⟩ => ⟨ty, (tA_cons q).imp fun y H2 q => by
      obtain ⟨x', y', e, k⟩ := l_index.at (tA_nil q)
      cases e; exact k⟩
end
end
end Mw
set_option Elab.async false
set_option linter.all false
set_option maxRecDepth 100000
set_option autoImplicit false
namespace Mw
open PySem PySem.Spec PyProof.Rows L2
noncomputable section
def enumD : Nat → List D → List D
  | _, [] => []
  | k, d :: ds => .tup [.int k, d] :: enumD (k + 1) ds
theorem enumD_len : ∀ (ds : List D) (k : Nat), (enumD k ds).length = ds.length
  | [], _ => rfl
  | _ :: ds, k => by show (enumD (k + 1) ds).length + 1 = _; rw [enumD_len ds]; rfl
theorem enumD_get : ∀ (ds : List D) (k i : Nat), (enumD k ds)[i]? = ds[i]?.map fun d => .tup [.int ((k + i : Nat) : Int), d]
  | [], _, _ => by simp [enumD]
  | d :: ds, k, 0 => by simp [enumD]
  | d :: ds, k, i + 1 => by
    simp only [enumD, List.getElem?_cons_succ]
    rw [enumD_get ds (k + 1) i, show k + 1 + i = k + (i + 1) by omega]
def mEn (m : M) : MI := fun ρ => (m ρ).bind fun r ρ' q => match r with
  | .d (.lst ds) => .ok (enumD 0 ds) ρ' q
  | _ => .no
theorem yields_enum {g : Wd} {F : Hp} {p : Addr} {vs : List V} {ds : List D} (h : SqL g.K F p vs) (r : Reps g F vs ds) : Yields g F (Ite g.K p) (enumD 0 ds) := by
  intro i F2 H2 e1 e2
  have h2 := e2.sqL (e1.sqL h)
  refine ⟨fun e => ⟨vs, h2, by rw [e, enumD_len, r.length]; exact Nat.le_refl _⟩, fun d hd => ?_⟩
  rw [enumD_get] at hd
  cases hd0 : ds[i]? with
  | none => rw [hd0] at hd; cases hd
  | some d0 =>
    rw [hd0] at hd; cases hd
    obtain ⟨v, hv, rv⟩ := r.get hd0
    refine ⟨⟨vs, v, h2, hv⟩, fun x H3 hy => ?_⟩
    obtain ⟨T, x0, rfl, hT, rfl, hall⟩ := hy
    have := hall vs h2
    rw [hv] at this; cases this
    have fT := fnone e2 hT
    refine ⟨upd F2 T (.tup [.int (i : Nat), v]), ext_upd2 e2 e2, ext_upd fT, ext_upd hT, fun a o e => ?_, ?_⟩
    · by_cases z : a = T
      · subst z; exact .inr hT
      · rw [upd_ne z] at e; exact .inl e
    · have l2 : [V.int ((i : Nat) : Int), v].length ≤ sizeLine := by rw [sizeLine_eq]; show 2 ≤ 16777216; decide
      have := Rep.tup (g := g) (F := upd F2 T (.tup [.int (i : Nat), v])) (a := T) (vs := [.int ((i : Nat) : Int), v]) (ds := [.int ((i : Nat) : Int), d0]) upd_same l2 (.cons (.int _) (.cons ((rv.mono e1).mono (ext_upd fT)) .nil))
      simpa using this
section
variable {X : Cx} {W : WX} {pos tpos p : Pos} {a : Expr} {ma : M} {elts : List Expr} {kk : Nat}
theorem si_en (hg : Gl X "enumerate") (hm : X.mg "enumerate" = none) (ha : SE X W a ma) (he : starEach [a] X.env = (false, eval a X.env) :: starEach [] X.env := by rfl) (hs : starEach [a] X.env = [(false, eval a X.env)] := by rfl) :
    SI X W (.Tuple elts kk tpos) (.Call (.Name "enumerate" p) [a] [] pos) (mEn ma) := PI.wk (pi_enum hg hm (pa_cons ha pa_nil he) hs) fun σ H R h => by
  refine tR.bind h fun F ρ fp st r ρ1 q1 e1 v F1 H1 fp1 fr1 s1 st1 r1 n1 z1 ob => ?_
  show ∃ a xs, [v] = [.ref a] ∧ SqL X.K H1 a xs ∧ R (Ite X.K a) H1
  cases r with
  | d x =>
    cases x with
    | lst ds =>
      obtain ⟨hr, hf⟩ := r1
      subst hf
      cases hr with
      | lst h hl rr => exact ⟨_, _, rfl, st1.sub.sqL h, ob.2.1 _ ρ1 q1 rfl _ F1 H1 fp1 [] (by rw [plus_nil]; exact .refl _ _ _) st1 ⟨yields_enum h rr, rfl⟩ n1 z1⟩
    | _ => exact absurd rfl ob.1
  | _ => exact absurd rfl ob.1
end
end
end Mw
set_option Elab.async false
set_option linter.all false
set_option maxRecDepth 100000
set_option autoImplicit false
namespace Mw
open PySem PySem.Spec PyProof.Rows L2
noncomputable section
def klS : Slo → Slo
  | .mu true o => .mu true o
  | _ => .un
def kl : Ro → List Nat → Ro
  | ρ, [] => ρ
  | ρ, v :: vs => kl (match ρ[v]? with | some s => ρ.set v (klS s) | none => ρ) vs
theorem Kbs.un {ρ : Ro} {σ : L2.St} {i : Nat} (h : isBor ρ i = false) : Kbs ρ σ (ρ.set i .un) σ := fun k o e => by
  by_cases hk : i = k
  · subst hk
    unfold isBor at h
    rw [e] at h; cases h
  · exact ⟨⟨o, by rw [List.getElem?_set, if_neg hk]; exact e⟩, rfl⟩
theorem klS_bor {ρ : Ro} {i : Nat} {s : Slo} (e : ρ[i]? = some s) : (isBor ρ i = true ∧ klS s = s) ∨ (isBor ρ i = false ∧ klS s = .un) := by
  unfold isBor
  rw [e]
  cases s with
  | un => exact .inr ⟨rfl, rfl⟩
  | xc x => exact .inr ⟨rfl, rfl⟩
  | shr d => exact .inr ⟨rfl, rfl⟩
  | mu b o => cases b with
    | true => exact .inl ⟨rfl, rfl⟩
    | false => exact .inr ⟨rfl, rfl⟩
theorem Stt.kl {g : Wd} {F H : Hp} {σ : L2.St} : ∀ (vs : List Nat) {ρ : Ro} {fp : Nat → List Addr}, Stt g F H σ ρ fp → ∃ fp', Stt g F H σ (kl ρ vs) fp' ∧ (∀ a, Own fp' a → Own fp a) ∧ Kbs ρ σ (kl ρ vs) σ
  | [], ρ, fp, st => ⟨fp, st, fun _ h => h, .refl _ _⟩
  | v :: vs, ρ, fp, st => by
    have one : ∃ fp', Stt g F H σ (match ρ[v]? with | some s => ρ.set v (klS s) | none => ρ) fp' ∧ (∀ a, Own fp' a → Own fp a) ∧ Kbs ρ σ (match ρ[v]? with | some s => ρ.set v (klS s) | none => ρ) σ := by
      cases e : ρ[v]? with
      | none => exact ⟨fp, st, fun _ h => h, .refl _ _⟩
      | some s =>
        dsimp only
        rcases klS_bor e with ⟨_, h2⟩ | ⟨h1, h2⟩
        · have : ρ.set v (klS s) = ρ := by
            rw [h2]
            obtain ⟨hl, he⟩ := List.getElem?_eq_some_iff.mp e
            rw [← he]; exact List.set_getElem_self hl
          rw [this]
          exact ⟨fp, st, fun _ h => h, .refl _ _⟩
        · rw [h2]
          obtain ⟨fp', a, b, _⟩ := st.drop v
          exact ⟨fp', a, b, .un h1⟩
    obtain ⟨fp1, a1, b1, c1⟩ := one
    obtain ⟨fp2, a2, b2, c2⟩ := Stt.kl vs a1
    exact ⟨fp2, a2, fun a h => b1 a (b2 a h), c1.trans c2⟩
def mKl (vs : List Nat) (m : MS) : MS := fun ρ => match m ρ with
  | .nx ρ' => .nx (kl ρ' vs)
  | .bk ρ' => .bk (kl ρ' vs)
  | .ct ρ' => .ct (kl ρ' vs)
  | r => r
def mFz (i : Nat) (m : MS) : MS := fun ρ => (fz i ρ).stm fun _ ρ' => m ρ'
section
variable {X : Cx} {W : WX} {st : Stmt} {sts : List Stmt} {m n : MS}
theorem tS_kl {g : Wd} {W : WX} {vs : List Nat} {m : MS} {D : Ends} {σ : L2.St} {H : Hp} (h : tS g W (mKl vs m) D σ H) : tS g W m D σ H := by
  obtain ⟨F, ρ, fp, st, ob⟩ := h
  refine ⟨F, ρ, fp, st, ?_⟩
  unfold mKl at ob
  cases e : m ρ with
  | nx ρ1 =>
    rw [e] at ob
    refine ⟨(fun z => nomatch z), fun ρ' q σ' F' H' fp' s1 st1 k1 => ?_, fun ρ' q => (nomatch q), fun ρ' q => (nomatch q), fun r ρ' q => (nomatch q), fun r ρ' q => (nomatch q)⟩
    cases q
    obtain ⟨fp2, a, b, c⟩ := st1.kl vs
    exact ob.nx _ rfl σ' F' H' fp2 (s1.weak b) a (k1.trans c)
  | bk ρ1 =>
    rw [e] at ob
    refine ⟨(fun z => nomatch z), fun ρ' q => (nomatch q), fun ρ' q σ' F' H' fp' s1 st1 k1 => ?_, fun ρ' q => (nomatch q), fun r ρ' q => (nomatch q), fun r ρ' q => (nomatch q)⟩
    cases q
    obtain ⟨fp2, a, b, c⟩ := st1.kl vs
    exact ob.bk _ rfl σ' F' H' fp2 (s1.weak b) a (k1.trans c)
  | ct ρ1 =>
    rw [e] at ob
    refine ⟨(fun z => nomatch z), fun ρ' q => (nomatch q), fun ρ' q => (nomatch q), fun ρ' q σ' F' H' fp' s1 st1 k1 => ?_, fun r ρ' q => (nomatch q), fun r ρ' q => (nomatch q)⟩
    cases q
    obtain ⟨fp2, a, b, c⟩ := st1.kl vs
    exact ob.ct _ rfl σ' F' H' fp2 (s1.weak b) a (k1.trans c)
  | rt r ρ1 => rw [e] at ob; exact ob
  | ex x ρ1 => rw [e] at ob; exact ob
  | no => rw [e] at ob; exact absurd rfl ob.no
theorem ss_kl {vs : List Nat} (h : SS X W st m) : SS X W st (mKl vs m) := PS.wk h fun D σ H h => tS_kl h
theorem tS_fz {g : Wd} {W : WX} {i : Nat} {m : MS} {D : Ends} {σ : L2.St} {H : Hp} (h : tS g W (mFz i m) D σ H) : tS g W m D σ H := by
  have h2 : tM g W (fz i) σ H fun v H1 => tS g W m D σ H1 := by
    refine tS_of (m := fz i) (k := fun _ ρ' => m ρ') h fun r ρ1 v F1 H1 fp1 fr1 st1 r1 n1 ob => ?_
    cases r with
    | d x =>
      obtain ⟨r1, rfl⟩ := r1
      rw [plus_nil] at ob
      exact ⟨F1, ρ1, fp1, st1, ob⟩
    | own o => exact ⟨F1, ρ1, fp1, st1, ob.after ((Step.refl _ _ _).weak fun x z => .inl z) (.refl _ _)⟩
    | pk o => exact ⟨F1, ρ1, fp1, st1, ob.after ((Step.refl _ _ _).weak fun x z => .inl z) (.refl _ _)⟩
  obtain ⟨v, _, q⟩ := tM_fz h2
  exact q
theorem sss_fz {i : Nat} (h : SSs X W sts m) : SSs X W sts (mFz i m) := PSs.wk h fun D σ H h => tS_fz h
theorem sss_kl {vs : List Nat} (h : SSs X W sts m) : SSs X W sts (mKl vs m) := PSs.wk h fun D σ H h => tS_kl h
end
end
end Mw
set_option Elab.async false
set_option linter.all false
set_option maxRecDepth 100000
set_option autoImplicit false
namespace Mw
open PySem PySem.Spec PyProof.Rows L2
noncomputable section
theorem mArgs_len {ms : List M} : ∀ {ρ : Ro} {rs : List R} {ρ1 : Ro} {q : Bool}, mArgs ms ρ = .ok rs ρ1 q → rs.length = ms.length := by
  induction ms with
  | nil => intro ρ rs ρ1 q e; cases e; rfl
  | cons m ms ih =>
    intro ρ rs ρ1 q e
    unfold mArgs at e
    cases e1 : m ρ with
    | no => rw [e1] at e; cases e
    | ex x ρ' => rw [e1] at e; cases e
    | ok r ρ' q' =>
      rw [e1] at e
      simp only [Res.bind_ok] at e
      cases e2 : mArgs ms ρ' with
      | no => rw [e2] at e; cases e
      | ex x ρ'' => rw [e2] at e; cases e
      | ok rs' ρ'' q'' =>
        rw [e2] at e
        simp only [Res.bind_ok] at e
        split at e
        · cases e
        · cases e; simp [ih e2]
theorem RepRs.len {g : Wd} {F H : Hp} {S : Addr → Prop} {vs : List V} {rs : List R} {fr : List Addr} (h : RepRs g F H S vs rs fr) : vs.length = rs.length := by
  induction h with
  | nil => rfl
  | cons h t ih => simp [ih]
section
variable {X : Cx} {W : WX} {pos : Pos} {a b c tg : Expr} {es : List Expr} {ma mb mc : M} {ms : List M} {st : Stmt} {sts : List Stmt} {m n : MS} {tc : MB} {t : Tg} {ts : List Tg} {mi : MI} {p : Pos} {x : Str}
end
theorem RepOs.push {g : Wd} {F H : Hp} {l : Addr} {ws : List V} {y : V} {x : D} (hw : H l = some (.lst ws)) (hlen : ws.length + 1 ≤ sizeLine) (ry : Rep g F y x) : ∀ {vs : List V} {os : List O} {fp : List Addr} (j : Nat) {inn : List O}, RepOs g F H vs os fp → vs[j]? = some (.ref l) → os[j]? = some (.lst inn) → fp.Nodup →
    RepOs g F (upd H l (.lst (ws ++ [y]))) vs (os.set j (.lst (inn ++ [.d x]))) fp ∧ l ∈ fp
  | _, _, _, j, inn, .nil, h, _, _ => by simp at h
  | _, _, _, 0, inn, .cons (f := f) (fp := fp) h t, hv, ho, nd => by
    simp at hv ho
    subst hv ho
    have nd2 := List.nodup_append.mp nd
    cases h with
    | @lst _ ws' _ f' h1 h2 h3 =>
      rw [hw] at h1; cases h1
      have hne : ∀ a ∈ f', a ≠ l := fun a ha z => (List.nodup_cons.mp nd2.1).1 (z ▸ ha)
      refine ⟨.cons (.lst upd_same (by rw [List.length_append]; exact hlen) (RepOs.app1 (h3.mono (.refl F) fun a ha u hu => by rw [upd_ne (hne a ha)]; exact hu) ry)) (t.mono (.refl F) fun a ha u hu => ?_), by simp⟩
      rw [upd_ne fun z => nd2.2.2 l (by simp) a ha z.symm]; exact hu
  | _, _, _, j + 1, inn, .cons (f := f) (fp := fp) h t, hv, ho, nd => by
    have nd2 := List.nodup_append.mp nd
    obtain ⟨r, hl⟩ := RepOs.push hw hlen ry j t (by simpa using hv) (by simpa using ho) nd2.2.1
    refine ⟨.cons (h.mono (.refl F) fun a ha u hu => ?_) r, List.mem_append_right _ hl⟩
    rw [upd_ne fun z => nd2.2.2 a ha l hl z]; exact hu
section
variable {X : Cx} {W : WX} {pos : Pos} {a b c tg : Expr} {es : List Expr} {ma mb mc : M} {ms : List M} {st : Stmt} {sts : List Stmt} {m n : MS} {tc : MB} {t : Tg} {ts : List Tg} {mi : MI} {p ip : Pos}
end
end
end Mw
set_option Elab.async false
set_option linter.all false
set_option maxRecDepth 100000
set_option autoImplicit false
namespace Mw
open PySem PySem.Spec PyProof.Rows L2
noncomputable section
theorem RepOs.snoc {g : Wd} {F H : Hp} : ∀ {vs : List V} {os : List O} {fp : List Addr} {v : V} {o : O} {f : List Addr}, RepOs g F H vs os fp → RepO g F H v o f → RepOs g F H (vs ++ [v]) (os ++ [o]) (fp ++ f)
  | _, _, _, v, o, f, .nil, r => by
    have := RepOs.cons (f := f) (fp := []) r .nil
    rw [List.append_nil] at this; exact this
  | _, _, _, v, o, f, .cons (f := f1) (fp := fp) h t, r => by
    have := RepOs.cons h (RepOs.snoc t r)
    rw [← List.append_assoc] at this; exact this
section
variable {X : Cx} {W : WX} {elt tg iter : Expr} {scope : Scope} {own : List (Str × Nat)} {pos : Pos} {mi : MI} {t : Tg} {mc : MB} {me : M}
end
end
end Mw
set_option Elab.async false
set_option linter.all false
set_option maxRecDepth 100000
set_option autoImplicit false
namespace Mw
open PySem PySem.Spec PyProof.Rows L2
noncomputable section
def pairK (p : Int × Int) : List Key := [Sum.inl p.1, Sum.inl p.2]
end
end Mw
set_option Elab.async false
set_option linter.all false
set_option maxRecDepth 100000
set_option autoImplicit false
namespace Mw
open PySem PySem.Spec PyProof.Rows L2
noncomputable section
section
variable {κ β : Type} [DecidableEq κ]
def tget (kv : List (κ × β)) (k : κ) : Option β := (kv.find? fun p => decide (p.1 = k)).map (·.2)
def tput (kv : List (κ × β)) (k : κ) (x : β) : List (κ × β) := if (kv.any fun p => decide (p.1 = k)) = true then kv.map (fun p => if p.1 = k then (p.1, x) else p) else kv ++ [(k, x)]
end
abbrev PD := List ((Int × Int) × D)
def k2 (k : Int × Int) : D := .tup [.int k.1, .int k.2]
def prK : D → Option (Int × Int)
  | .tup [.int i, .int j] => some (i, j)
  | _ => none
theorem prK_k2 (k : Int × Int) : prK (k2 k) = some k := rfl
def prs : List D → List O → Option PD
  | [], [] => some []
  | k :: ks, .d x :: os => match prK k, prs ks os with
    | some q, some r => some ((q, x) :: r)
    | _, _ => none
  | _, _ => none
def O.pd : O → Option PD
  | .dct (.non :: ks) os => prs ks os
  | _ => none
def pdO (kv : PD) : O := .dct (.non :: kv.map fun p => k2 p.1) (kv.map fun p => .d p.2)
theorem prs_of : ∀ kv : PD, prs (kv.map fun p => k2 p.1) (kv.map fun p => O.d p.2) = some kv
  | [] => rfl
  | p :: kv => by
    rw [List.map_cons, List.map_cons]
    unfold prs
    rw [prK_k2, prs_of kv]
@[simp] theorem pd_pdO (kv : PD) : (pdO kv).pd = some kv := prs_of kv
def PDR (g : Wd) (F : Hp) (kvs : List (List Key × V)) (kv : PD) : Prop := Paired (fun (p : List Key × V) (q : (Int × Int) × D) => p.1 = pairK q.1 ∧ Rep g F p.2 q.2) kvs kv
theorem keyD_pair {p : List Key} {k : Int × Int} (h : D.tup (p.map keyD) = k2 k) : p = pairK k := by
  unfold k2 at h
  have h := D.tup.inj h
  match p, h with
  | [.inl a, .inl b], h =>
    simp only [List.map_cons, List.map_nil, keyD] at h
    have h1 := D.int.inj (List.cons.inj h).1
    have h2 := D.int.inj (List.cons.inj (List.cons.inj h).2).1
    rw [h1, h2]; rfl
  | [], h => simp at h
  | [_], h => simp at h
  | _ :: _ :: _ :: _, h => simp at h
  | [.inr a, b], h => simp [keyD] at h
  | [.inl a, .inr b], h => simp [keyD] at h
theorem pairK_inj {a b : Int × Int} (h : pairK a = pairK b) : a = b := by
  unfold pairK at h
  simp at h
  exact Prod.ext h.1 h.2
theorem pdr_of {g : Wd} {F : Hp} : ∀ {kv : PD} {kvs : List (List Key × V)}, kvs.map (fun p => D.tup (p.1.map keyD)) = kv.map (fun p => k2 p.1) → Reps g F (kvs.map (·.2)) (kv.map (·.2)) → PDR g F kvs kv
  | [], [], _, _ => .nil
  | [], _ :: _, h, _ => by simp at h
  | _ :: _, [], h, _ => by simp at h
  | q :: kv, p :: kvs, h, r => by
    rw [List.map_cons, List.map_cons] at h r
    have h := List.cons.inj h
    cases r with
    | cons a b => exact .cons ⟨keyD_pair h.1, a⟩ (pdr_of h.2 b)
theorem PDR.keys {g : Wd} {F : Hp} {kvs : List (List Key × V)} {kv : PD} (h : PDR g F kvs kv) : kvs.map (fun p => D.tup (p.1.map keyD)) = kv.map (fun p => k2 p.1) ∧ kvs.map (·.1) = kv.map (fun p => pairK p.1) ∧ kvs.length = kv.length := by
  unfold PDR at h
  induction h with
  | nil => exact ⟨rfl, rfl, rfl⟩
  | cons a t ih => exact ⟨by rw [List.map_cons, List.map_cons, ih.1, a.1]; rfl, by rw [List.map_cons, List.map_cons, ih.2.1, a.1], by rw [List.length_cons, List.length_cons, ih.2.2]⟩
theorem PDR.vals {g : Wd} {F H : Hp} {kvs : List (List Key × V)} {kv : PD} (h : PDR g F kvs kv) : RepOs g F H (kvs.map (·.2)) (kv.map fun p => .d p.2) [] := by
  unfold PDR at h
  induction h with
  | nil => exact .nil
  | cons a t ih => exact .cons (f := []) (fp := []) (.d a.2) ih
theorem PDR.mono {g : Wd} {F F' : Hp} {kvs : List (List Key × V)} {kv : PD} (h : PDR g F kvs kv) (e : Ext F F') : PDR g F' kvs kv := by
  unfold PDR at h
  induction h with
  | nil => exact .nil
  | cons a t ih => exact .cons ⟨a.1, a.2.mono e⟩ ih
theorem RepO.pd {g : Wd} {F H : Hp} {v : V} {kv : PD} {fp : List Addr} (h : RepO g F H v (pdO kv) fp) : ∃ a kvs, v = .ref a ∧ fp = [a] ∧ H a = some (.dT kvs) ∧ PDR g F kvs kv := by
  unfold pdO at h
  have em : (kv.map fun p => O.d p.2) = (kv.map (·.2)).map O.d := by rw [List.map_map]; rfl
  rw [em] at h
  cases h with
  | @dk a kvs ks os fp h hk r =>
    cases kvs with
    | nil => cases hk
    | cons p kvs =>
      have this : keyD p.1 = .non := (List.cons.inj hk).1
      cases e : p.1 <;> rw [e] at this <;> cases this
  | @dt a kvs ks os fp h hk r =>
    obtain ⟨r', e'⟩ := r.toReps
    subst e'
    exact ⟨a, kvs, rfl, rfl, h, pdr_of (List.cons.inj hk).2 r'⟩
theorem PDR.rep {g : Wd} {F H : Hp} {a : Addr} {kvs : List (List Key × V)} {kv : PD} (h : PDR g F kvs kv) (e : H a = some (.dT kvs)) : RepO g F H (.ref a) (pdO kv) [a] := .dt e (by rw [h.keys.1]) h.vals
theorem PDR.get {g : Wd} {F : Hp} {kvs : List (List Key × V)} {kv : PD} (h : PDR g F kvs kv) {k : Int × Int} {x : D} (e : tget kv k = some x) : ∃ v, valV kvs (pairK k) = some v ∧ Rep g F v x := by
  unfold PDR at h
  induction h with
  | nil => cases e
  | @cons p q kvs kv a t ih =>
    by_cases c : q.1 = k
    · have : tget (q :: kv) k = some q.2 := by simp [tget, List.find?_cons, c]
      rw [this] at e; cases e
      exact ⟨p.2, valV_pos (by rw [a.1, c]), a.2⟩
    · have : tget (q :: kv) k = tget kv k := by simp [tget, List.find?_cons, c]
      rw [this] at e
      obtain ⟨v, h1, h2⟩ := ih e
      exact ⟨v, by rw [valV_neg (fun z => c (pairK_inj (by rw [← a.1, z]))), h1], h2⟩
theorem PDR.none {g : Wd} {F : Hp} {kvs : List (List Key × V)} {kv : PD} (h : PDR g F kvs kv) {k : Int × Int} (e : tget kv k = none) : valV kvs (pairK k) = none := by
  unfold PDR at h
  induction h with
  | nil => rfl
  | @cons p q kvs kv a t ih =>
    by_cases c : q.1 = k
    · have : tget (q :: kv) k = some q.2 := by simp [tget, List.find?_cons, c]
      rw [this] at e; cases e
    · have : tget (q :: kv) k = tget kv k := by simp [tget, List.find?_cons, c]
      rw [this] at e
      rw [valV_neg (fun z => c (pairK_inj (by rw [← a.1, z])))]; exact ih e
theorem PDR.any {g : Wd} {F : Hp} {kvs : List (List Key × V)} {kv : PD} (h : PDR g F kvs kv) (k : Int × Int) : (kvs.any fun p => decide (p.1 = pairK k)) = kv.any fun p => decide (p.1 = k) := by
  unfold PDR at h
  induction h with
  | nil => rfl
  | @cons p q kvs kv a t ih =>
    rw [List.any_cons, List.any_cons, ih]
    congr 1
    refine decide_eq_decide.mpr ⟨fun z => pairK_inj (by rw [← a.1, z]), fun z => by rw [a.1, z]⟩
theorem PDR.mapPut {g : Wd} {F : Hp} {kvs : List (List Key × V)} {kv : PD} (h : PDR g F kvs kv) (k : Int × Int) {y : V} {x : D} (r : Rep g F y x) : PDR g F (kvs.map fun kv => if kv.1 = pairK k then (kv.1, y) else kv) (kv.map fun p => if p.1 = k then (p.1, x) else p) := by
  unfold PDR at h ⊢
  induction h with
  | nil => exact .nil
  | @cons p q kvs kv a t ih =>
    rw [List.map_cons, List.map_cons]
    refine .cons ?_ ih
    by_cases c : q.1 = k
    · rw [if_pos c, if_pos (by rw [a.1, c])]; exact ⟨a.1, r⟩
    · rw [if_neg c, if_neg fun z => c (pairK_inj (by rw [← a.1, z]))]; exact a
theorem PDR.snoc {g : Wd} {F : Hp} {kvs : List (List Key × V)} {kv : PD} (h : PDR g F kvs kv) (k : Int × Int) {y : V} {x : D} (r : Rep g F y x) : PDR g F (kvs ++ [(pairK k, y)]) (kv ++ [(k, x)]) := by
  unfold PDR at h ⊢
  induction h with
  | nil => exact .cons ⟨rfl, r⟩ .nil
  | cons a t ih => exact .cons a ih
theorem PDR.put {g : Wd} {F : Hp} {kvs : List (List Key × V)} {kv : PD} (h : PDR g F kvs kv) (k : Int × Int) {y : V} {x : D} (r : Rep g F y x) : PDR g F (putK kvs (pairK k) y) (tput kv k x) := by
  unfold putK tput
  rw [h.any k]
  split
  · exact h.mapPut k r
  · exact h.snoc k r
theorem Rep.k2 {g : Wd} {F : Hp} {y : V} {k : Int × Int} (h : Rep g F y (Mw.k2 k)) : ∃ b, y = .ref b ∧ F b = some (.tup ((pairK k).map kV)) := by
  cases h with
  | @tup a vs _ h hl r =>
    cases r with
    | cons a1 t =>
      cases t with
      | cons a2 t =>
        cases t
        cases a1; cases a2
        exact ⟨a, rfl, h⟩
section
variable {X : Cx} {W : WX} {pos : Pos} {a b c tg : Expr} {es : List Expr} {ma mb mc : M} {ms : List M} {p : Pos}
def isMu (ρ : Ro) (i : Nat) : Bool := match ρ[i]? with
  | some (.mu _ _) => true
  | _ => false
end
section
variable {X : Cx} {W : WX} {pos : Pos} {a b c tg : Expr} {es : List Expr} {ma mb mc : M} {ms : List M} {p : Pos}
end
end
end Mw
set_option Elab.async false
set_option linter.all false
set_option maxRecDepth 100000
set_option autoImplicit false
namespace Mw
open PySem PySem.Spec PyProof.Rows L2
noncomputable section
abbrev ID := List (Int × D)
def prI : D → Option Int
  | .int i => some i
  | _ => none
def iprs : List D → List O → Option ID
  | [], [] => some []
  | k :: ks, .d x :: os => match prI k, iprs ks os with
    | some q, some r => some ((q, x) :: r)
    | _, _ => none
  | _, _ => none
def O.idd : O → Option ID
  | .dct ks os => iprs ks os
  | _ => none
def idO (kv : ID) : O := .dct (kv.map fun p => D.int p.1) (kv.map fun p => .d p.2)
theorem iprs_of : ∀ kv : ID, iprs (kv.map fun p => D.int p.1) (kv.map fun p => O.d p.2) = some kv
  | [] => rfl
  | p :: kv => by
    rw [List.map_cons, List.map_cons]
    unfold iprs
    rw [show prI (.int p.1) = some p.1 from rfl, iprs_of kv]
@[simp] theorem idd_idO (kv : ID) : (idO kv).idd = some kv := iprs_of kv
def IDR (g : Wd) (F : Hp) (kvs : List (Key × V)) (kv : ID) : Prop := Paired (fun (p : Key × V) (q : Int × D) => p.1 = Sum.inl q.1 ∧ Rep g F p.2 q.2) kvs kv
theorem keyD_int {p : Key} {k : Int} (h : keyD p = .int k) : p = Sum.inl k := by
  cases p with
  | inl a => cases h; rfl
  | inr a => cases h
theorem inl_inj {a b : Int} (h : (Sum.inl a : Key) = Sum.inl b) : a = b := by cases h; rfl
theorem idr_of {g : Wd} {F : Hp} : ∀ {kv : ID} {kvs : List (Key × V)}, kvs.map (fun p => keyD p.1) = kv.map (fun p => D.int p.1) → Reps g F (kvs.map (·.2)) (kv.map (·.2)) → IDR g F kvs kv
  | [], [], _, _ => .nil
  | [], _ :: _, h, _ => by simp at h
  | _ :: _, [], h, _ => by simp at h
  | q :: kv, p :: kvs, h, r => by
    rw [List.map_cons, List.map_cons] at h r
    have h := List.cons.inj h
    cases r with
    | cons a b => exact .cons ⟨keyD_int h.1, a⟩ (idr_of h.2 b)
theorem IDR.keys {g : Wd} {F : Hp} {kvs : List (Key × V)} {kv : ID} (h : IDR g F kvs kv) : kvs.map (fun p => keyD p.1) = kv.map (fun p => D.int p.1) ∧ kvs.map (·.1) = kv.map (fun p => (Sum.inl p.1 : Key)) ∧ kvs.length = kv.length := by
  unfold IDR at h
  induction h with
  | nil => exact ⟨rfl, rfl, rfl⟩
  | cons a t ih => exact ⟨by rw [List.map_cons, List.map_cons, ih.1, a.1]; rfl, by rw [List.map_cons, List.map_cons, ih.2.1, a.1], by rw [List.length_cons, List.length_cons, ih.2.2]⟩
theorem IDR.vals {g : Wd} {F H : Hp} {kvs : List (Key × V)} {kv : ID} (h : IDR g F kvs kv) : RepOs g F H (kvs.map (·.2)) (kv.map fun p => .d p.2) [] := by
  unfold IDR at h
  induction h with
  | nil => exact .nil
  | cons a t ih => exact .cons (f := []) (fp := []) (.d a.2) ih
theorem IDR.mono {g : Wd} {F F' : Hp} {kvs : List (Key × V)} {kv : ID} (h : IDR g F kvs kv) (e : Ext F F') : IDR g F' kvs kv := by
  unfold IDR at h
  induction h with
  | nil => exact .nil
  | cons a t ih => exact .cons ⟨a.1, a.2.mono e⟩ ih
theorem RepO.idd {g : Wd} {F H : Hp} {v : V} {kv : ID} {fp : List Addr} (h : RepO g F H v (idO kv) fp) : ∃ a kvs, v = .ref a ∧ fp = [a] ∧ H a = some (.dK kvs) ∧ IDR g F kvs kv := by
  unfold idO at h
  have em : (kv.map fun p => O.d p.2) = (kv.map (·.2)).map O.d := by rw [List.map_map]; rfl
  rw [em] at h
  cases h with
  | @dk a kvs ks os fp h hk r =>
    obtain ⟨r', e'⟩ := r.toReps
    subst e'
    exact ⟨a, kvs, rfl, rfl, h, idr_of hk r'⟩
  | @dt a kvs ks os fp h hk r =>
    cases kv with
    | nil => cases hk
    | cons p kv => cases (List.cons.inj hk).1
theorem IDR.rep {g : Wd} {F H : Hp} {a : Addr} {kvs : List (Key × V)} {kv : ID} (h : IDR g F kvs kv) (e : H a = some (.dK kvs)) : RepO g F H (.ref a) (idO kv) [a] := .dk e (by rw [h.keys.1]) h.vals
theorem IDR.get {g : Wd} {F : Hp} {kvs : List (Key × V)} {kv : ID} (h : IDR g F kvs kv) {k : Int} {x : D} (e : tget kv k = some x) : ∃ v, valV kvs (Sum.inl k) = some v ∧ Rep g F v x := by
  unfold IDR at h
  induction h with
  | nil => cases e
  | @cons p q kvs kv a t ih =>
    by_cases c : q.1 = k
    · have : tget (q :: kv) k = some q.2 := by simp [tget, List.find?_cons, c]
      rw [this] at e; cases e
      exact ⟨p.2, valV_pos (by rw [a.1, c]), a.2⟩
    · have : tget (q :: kv) k = tget kv k := by simp [tget, List.find?_cons, c]
      rw [this] at e
      obtain ⟨v, h1, h2⟩ := ih e
      exact ⟨v, by rw [valV_neg (fun z => c (inl_inj (by rw [← a.1, z]))), h1], h2⟩
theorem IDR.none {g : Wd} {F : Hp} {kvs : List (Key × V)} {kv : ID} (h : IDR g F kvs kv) {k : Int} (e : tget kv k = none) : valV kvs (Sum.inl k) = none := by
  unfold IDR at h
  induction h with
  | nil => rfl
  | @cons p q kvs kv a t ih =>
    by_cases c : q.1 = k
    · have : tget (q :: kv) k = some q.2 := by simp [tget, List.find?_cons, c]
      rw [this] at e; cases e
    · have : tget (q :: kv) k = tget kv k := by simp [tget, List.find?_cons, c]
      rw [this] at e
      rw [valV_neg (fun z => c (inl_inj (by rw [← a.1, z])))]; exact ih e
theorem IDR.any {g : Wd} {F : Hp} {kvs : List (Key × V)} {kv : ID} (h : IDR g F kvs kv) (k : Int) : (kvs.any fun p => decide (p.1 = Sum.inl k)) = kv.any fun p => decide (p.1 = k) := by
  unfold IDR at h
  induction h with
  | nil => rfl
  | @cons p q kvs kv a t ih =>
    rw [List.any_cons, List.any_cons, ih]
    congr 1
    refine decide_eq_decide.mpr ⟨fun z => inl_inj (by rw [← a.1, z]), fun z => by rw [a.1, z]⟩
theorem IDR.mapPut {g : Wd} {F : Hp} {kvs : List (Key × V)} {kv : ID} (h : IDR g F kvs kv) (k : Int) {y : V} {x : D} (r : Rep g F y x) : IDR g F (kvs.map fun kv => if kv.1 = Sum.inl k then (kv.1, y) else kv) (kv.map fun p => if p.1 = k then (p.1, x) else p) := by
  unfold IDR at h ⊢
  induction h with
  | nil => exact .nil
  | @cons p q kvs kv a t ih =>
    rw [List.map_cons, List.map_cons]
    refine .cons ?_ ih
    by_cases c : q.1 = k
    · rw [if_pos c, if_pos (by rw [a.1, c])]; exact ⟨a.1, r⟩
    · rw [if_neg c, if_neg fun z => c (inl_inj (by rw [← a.1, z]))]; exact a
theorem IDR.snoc {g : Wd} {F : Hp} {kvs : List (Key × V)} {kv : ID} (h : IDR g F kvs kv) (k : Int) {y : V} {x : D} (r : Rep g F y x) : IDR g F (kvs ++ [(Sum.inl k, y)]) (kv ++ [(k, x)]) := by
  unfold IDR at h ⊢
  induction h with
  | nil => exact .cons ⟨rfl, r⟩ .nil
  | cons a t ih => exact .cons a ih
theorem IDR.put {g : Wd} {F : Hp} {kvs : List (Key × V)} {kv : ID} (h : IDR g F kvs kv) (k : Int) {y : V} {x : D} (r : Rep g F y x) : IDR g F (putK kvs (Sum.inl k) y) (tput kv k x) := by
  unfold putK tput
  rw [h.any k]
  split
  · exact h.mapPut k r
  · exact h.snoc k r
def mDNewI : M := mOps [] fun _ => some (.own (idO []))
section
variable {X : Cx} {W : WX} {pos : Pos} {a b c tg : Expr} {es : List Expr} {ma mb mc : M} {ms : List M} {p : Pos}
theorem s_dnewK : SE X W (.Dict [] [] pos) mDNewI := PE.wk pe_dnewK fun σ H Q h => by
  intro p hp
  obtain ⟨F, S, rs, fr, rr, sub, hS, rp, nd, e, k⟩ := tA_nil (tM_ops h)
  cases e
  cases rp
  have fp := fnone sub hp
  refine k (.ref p) F (upd H p (.dK [])) [p] ⟨.refl F, ext_upd hp, sub.trans (ext_upd hp), fun a o e => .inl e, fun a h => ?_⟩ ⟨IDR.rep (kvs := []) (kv := []) .nil upd_same, fun a h => ?_⟩ (by simp)
  · rw [List.mem_singleton] at h; subst h; exact .inr hp
  · rw [List.mem_singleton] at h; subst h; exact ⟨fp, fun z => (hS a z).1 hp⟩
end
section
variable {X : Cx} {W : WX} {pos : Pos}
end
end
end Mw
set_option Elab.async false
set_option linter.all false
set_option maxRecDepth 100000
set_option autoImplicit false
namespace Mw
open PySem PySem.Spec PyProof.Rows L2
noncomputable section
section
variable {prog : Program} {w : World} {A : Around} {E : Value → Shared → Prop} {s : Shared}
end
section
variable {X : Cx} {W : WX} {x : Str} {p pos : Pos}
end
end
end Mw
set_option Elab.async false
set_option linter.all false
set_option maxRecDepth 100000
set_option autoImplicit false
namespace PySem
open Sem (wp)
open AutoSeq1 (wpAny_loadPart')
section
variable {prog : Program} {w : World} {A : Around} {E : Value → Shared → Prop} {s : Shared}
end
end PySem
namespace Mw
open PySem PySem.Spec PyProof.Rows L2
noncomputable section
section
variable {X : Cx} {W : WX} {pos tpos p : Pos} {a : Expr} {ma : M} {elts : List Expr} {kk : Nat}
end
end
end Mw
set_option Elab.async false
set_option linter.all false
set_option maxRecDepth 100000
set_option autoImplicit false
namespace Mw
open PySem PySem.Spec PyProof.Rows L2
noncomputable section
def lFrz (p : R) : Option R := p.st.map R.d
theorem l_frz {g : Wd} : LOk1 g lFrz (fun x H Q => Q x H) := by
  intro F H S x p fr Q rx l
  obtain ⟨rr, e⟩ := l.has
  have e0 := e
  unfold lFrz at e
  cases q : p.st with
  | none => rw [q] at e; cases e
  | some d =>
    rw [q] at e; cases e
    obtain ⟨rr, e', k⟩ := l.go
    rw [e0] at e'; cases e'
    exact k x (frz F H fr) H [] (lstep_frz l.sub) ⟨rx.st q (frz_ext l.sub) fun a ha => frz_mem ha, rfl⟩ List.nodup_nil
section
variable {X : Cx} {W : WX} {a : Expr} {ma : M}
theorem s_frz (ha : SE X W a ma) : SE X W a (m1 lFrz ma) := PE.wk ha fun σ H Q h => tM_m1 l_frz h
end
end
end Mw
set_option Elab.async false
set_option linter.all false
set_option maxRecDepth 100000
set_option autoImplicit false
namespace Mw
open PySem PySem.Spec PyProof.Rows L2
noncomputable section
def endsI : Option Nat → Ends → Ends
  | none, D => D
  | some i, D => { nx := fun σ' H' => D.nx (σ'.set i none) H', rt := D.rt, bk := fun σ' H' => D.bk (σ'.set i none) H', ct := fun σ' H' => D.ct (σ'.set i none) H' }
def setI (io : Option Nat) (σ : L2.St) (a : Addr) : L2.St := match io with
  | none => σ
  | some i => σ.set i (some (.ref a))
abbrev ClT := Value × Option Nat × (Addr → Obj → TS)
section
variable {X : Cx} {body : List Stmt} {hd₀ : ExceptHandler} {hds : List ExceptHandler} {l : List ClT} {pos : Pos} {tb : WX → TS} {Wout : WX}
end
structure Exm (K : PySem.W.Frag) (mg : Str → Option Value) (r c : Str) (b : Bool) : Prop where
  ex : ∃ R C, mg r = some (.ref R) ∧ mg c = some (.ref C) ∧ PySem.W.exmOne K (.ref R) (.ref C) = some b
def clrX : Slo → Slo
  | .xc _ => .un
  | s => s
def clr (ρ : Ro) : Ro := ρ.map clrX
def unI (io : Option Nat) (ρ : Ro) : Ro := match io with
  | none => clr ρ
  | some i => (clr ρ).set i .un
def borI (io : Option Nat) (ρ : Ro) : Bool := match io with
  | none => false
  | some i => isBor ρ i
abbrev Hdl := Option Nat × (Exc → MS)
theorem Stt.clr {K : PySem.W.Frag} {mg : Str → Option Value} {x y : Option (Addr × Obj)} {F H : Hp} {σ : L2.St} {ρ : Ro} {fp : Nat → List Addr} (st : Stt ⟨K, mg, x⟩ F H σ ρ fp) : Stt ⟨K, mg, y⟩ F H σ (Mw.clr ρ) fp := by
  have get : ∀ {i : Nat} {s : Slo}, (Mw.clr ρ)[i]? = some s → s ≠ .un → ρ[i]? = some s ∧ ∀ e, s ≠ .xc e := by
    intro i s h hs
    unfold Mw.clr at h
    rw [List.getElem?_map] at h
    cases e : ρ[i]? with
    | none => rw [e] at h; cases h
    | some z =>
      rw [e] at h
      cases z with
      | un => cases h; exact absurd rfl hs
      | xc u => cases h; exact absurd rfl hs
      | shr d => cases h; exact ⟨rfl, fun e q => nomatch q⟩
      | mu b o => cases h; exact ⟨rfl, fun e q => nomatch q⟩
  refine ⟨st.sub, by rw [st.len]; unfold Mw.clr; simp, fun i h => st.un i fun b o e => ?_, fun i d h => ?_, fun i b o h => ?_, st.nd, st.dis, st.fre, fun i e h => ?_⟩
  · refine h b o ?_
    unfold Mw.clr
    rw [List.getElem?_map, e]; rfl
  · exact (st.shr i d (get h (by simp)).1).imp fun v h => ⟨h.1, h.2.xa⟩
  · exact (st.mu i b o (get h (by simp)).1).imp fun v h => ⟨h.1, h.2.xa⟩
  · exact absurd rfl ((get h (by simp)).2 e)
theorem clr_bor {ρ : Ro} {k : Nat} {o : O} (h : ρ[k]? = some (.mu true o)) : (clr ρ)[k]? = some (.mu true o) := by
  unfold clr
  rw [List.getElem?_map, h]; rfl
theorem Kbs.clr {ρ ρ1 : Ro} {σ σ1 : L2.St} (k : Kbs ρ σ ρ1 σ1) : Kbs ρ σ (Mw.clr ρ1) σ1 := fun j o e => by
  obtain ⟨⟨o', h1⟩, h2⟩ := k j o e
  exact ⟨⟨o', clr_bor h1⟩, h2⟩
section
variable {X : Cx} {Wout : WX} {hd₀ : ExceptHandler} {hds : List ExceptHandler} {body : List Stmt} {pos : Pos} {b : MS} {cs : List (Str × Option Nat)} {vs : List Nat} {hn : List Str} {ms : List Hdl}
end
section
variable {X : Cx} {W : WX} {a : Addr} {oe : Obj} {pn : List (Addr × Obj)} {i : Nat} {n c f : Str} {p pos : Pos}
end
end
end Mw
set_option Elab.async false
set_option linter.all false
set_option maxRecDepth 100000
set_option autoImplicit false
set_option maxHeartbeats 2000000
namespace Mw
open PySem PySem.Spec PyProof.Rows L2
noncomputable section
inductive MPart (ps : List Str) : Expr → Prop
  | txt {x : Str} {j : Nat} {pos : Pos} (h : x.length ≤ 100) : MPart ps (.Constant (.str x) j pos)
  | nm {x : Str} {p pos : Pos} (h : x ∈ ps) : MPart ps (.FormattedValue (.Name x p) (-1) none pos)
inductive MAsg : List (Str × Str) → List Stmt → Prop
  | nil : MAsg [] []
  | cons {f x : Str} {p1 p2 p3 p4 : Pos} {l : List (Str × Str)} {r : List Stmt} (t : MAsg l r) (hs : ∀ env, swapsWith (.Name x p3) (some (.Attribute (.Name "self" p1) f p2)) p4.line env = pure false := by intro _; rfl) : MAsg ((f, x) :: l) (.Assign [.Attribute (.Name "self" p1) f p2] (.Name x p3) p4 :: r)
def MsgV (v : Value) : Prop := (∃ y t, v = .str y t ∧ y.length ≤ 1000) ∨ ∃ i t, v = .int i t ∧ i.natAbs.log2 < 1920
section
variable {prog : Program} {w : World} {A : Around} {E : Value → Shared → Prop} {env : Env} {m : Str → Option Value}
theorem ldM {M : Model} {s : Shared} {x : Str} {pos : Pos} {v : Value} {Q : Value → Shared → Prop} (hk : env.scope.kind = .function) (hl : env.kindOf x = some .local) (hn : s.heap.Ns env.locals m) (hv : m x = some v) (h : Q v s) (hd : (x == ("__debug__" : Str)) = false) :
    wpAny M A (eval (.Name x pos) env) Q E s := wpAny_Name (wpAny_loadName_local hk hl hn hv h) hd
theorem joins_msg {ps : List Str} (hk : env.scope.kind = .function) (hl : ∀ x ∈ ps, env.kindOf x = some .local ∧ (x == ("__debug__" : Str)) = false) (hm : ∀ x ∈ ps, ∃ v, m x = some v ∧ MsgV v) : ∀ {es : List Expr}, (∀ e ∈ es, MPart ps e) → ∀ (acc : Str) (s : Shared) (R : Str → Shared → Prop) (b : Nat),
    acc.length ≤ b → b + 2000 * es.length ≤ sizeLine → s.heap.Ns env.locals m → (∀ out t, out.length ≤ sizeLine → R out { s with toks := t }) → Joins (model prog w) A E (evalEach es env) acc R s
  | [], _, acc, s, R, b, ha, hb, hn, k => by
    have e0 : evalEach [] env = [] := by first | rfl | simp [evalEach]
    rw [e0]
    exact k acc s.toks (by omega)
  | e :: es, he, acc, s, R, b, ha, hb, hn, k => by
    have e0 : evalEach (e :: es) env = eval e env :: evalEach es env := by first | rfl | simp [evalEach]
    rw [e0]
    have hb' : b + 2000 + 2000 * es.length ≤ sizeLine := by rw [List.length_cons] at hb; omega
    have rest : ∀ (y : Str) (t : Nat), y.length ≤ 2000 → (acc ++ y).length ≤ sizeLine ∧ Joins (model prog w) A E (evalEach es env) (acc ++ y) R { s with toks := t } := fun y t hy => by
      have hl2 : (acc ++ y).length ≤ b + 2000 := by rw [Str.length_append]; omega
      exact ⟨by omega, joins_msg hk hl hm (fun e h => he e (List.mem_cons_of_mem _ h)) (acc ++ y) { s with toks := t } R (b + 2000) hl2 hb' hn fun out t' ho => k out t' ho⟩
    show wpAny _ _ _ _ _ _
    cases he e (List.mem_cons_self ..) with
    | txt h =>
      refine Calls.Constant_str ?_
      obtain ⟨h1, h2⟩ := rest _ (s.toks + 1) (Nat.le_trans h (by decide))
      exact ⟨_, _, rfl, h1, h2⟩
    | @nm x p pos h =>
      obtain ⟨v, ev, hv⟩ := hm x h
      refine wpAny_FormattedValue_plain (ldM hk (hl x h).1 hn ev ?_ (hl x h).2)
      rcases hv with ⟨y, t, rfl, hy⟩ | ⟨i, t, rfl, hi⟩
      · obtain ⟨h1, h2⟩ := rest y s.toks (by omega)
        obtain ⟨h3, h4⟩ := rest y (s.toks + 1) (by omega)
        exact wpAny_formatField_str ⟨y, t, rfl, h1, h2⟩ ⟨y, s.toks, rfl, h3, h4⟩ (Nat.le_trans hy (by rw [sizeLine_eq]; decide))
      · have hlen : (Str.ofString (toString i)).length ≤ 2000 := by
          have e := int_text_length_le (k := 1920) (by decide) hi
          rw [PySem.ofString_length]; omega
        obtain ⟨h1, h2⟩ := rest (toString i) (s.toks + 1 + 1) hlen
        exact wpAny_formatField_int hi ⟨toString i, _, rfl, h1, h2⟩
theorem call_bwV {nm q : Str} {C N : Addr} {bs bm : List Value} {hdct : Bool} {sn : List Str} {sub : List Value} {ab : Bool} {col : Option Bool} {dd : Option Addr} {k0 k1 k2 k3 k5 : Option Value} {h : Heap} {g : Array GenState} {d : Drawn} {t : Nat} {os : OsState} {u e t0 : Addr} {rest : List Value} {Q : Value → Shared → Prop}
    (hC : h.get? C = some (excClassObj nm q C N bs bm hdct sn sub ab col dd k0 k1 k2 k3 k5 "ValueError.__new__")) (he : h.get? e = some (HandSPX.excO C t0)) (hu : h.get? u = some (W.kxs_mw "ValueError.__init__" e)) (hrest : rest.length ≤ sizeLine)
    (hq : ∀ h' t1, (∀ b o, b ≠ e → h.get? b = some o → h'.get? b = some o) → h'.get? e = some (HandSPX.excO C t1) → Q .none ⟨h', g, d, t, os⟩) :
    wpAny (model prog w) A (call (.ref u) rest) Q E ⟨h, g, d, t, os⟩ := by
  refine wpAny_call (codeAny_of_tree ?_)
  show wpAny _ A.in1 (callAny (.ref u) ⟨rest, []⟩) _ _ _
  simp only [callAny]
  refine wpAny_bind (wpAny_load hu ?_)
  simp only [W.kxs_mw, show (Value.type "method-wrapper" == Value.type "method" || Value.type "method-wrapper" == Value.type "builtin_function_or_method" || Value.type "method-wrapper" == Value.type "method-wrapper") = true by decide, if_true]
  refine W.KFB.if_so (by decide) ?_
  refine wpAny_bind (W.check_bound_init F.excBase_ValueError.toExcCallFacts hC he rfl ?_)
  refine wpAny_bind (wpAny_pure (wpAny_pure ?_))
  refine ⟨plainId_quiet F.excBase_ValueError.init.plain _, codeAny_builtin F.excBase_ValueError.initEntry ?_⟩
  exact W.exc_init_tree (cls := .ref C) (t0 := t0) (dv := none) (c2 := .none) (c3 := .none) (b4 := .bool false) he hrest fun h' k e1 _ => hq h' _ k e1
theorem run_asg {K : PySem.W.Frag} {C e : Addr} (T : OexC K C) (hk : env.scope.kind = .function) (hself : env.kindOf "self" = some .local) (hms : m "self" = some (.ref e)) : ∀ {l : List (Str × Str)} {ss : List Stmt}, MAsg l ss → (∀ p ∈ l, PySem.W.findIn K (.ref C) p.1 = some none) → (∀ p ∈ l, env.kindOf p.2 = some .local ∧ (p.2 == ("__debug__" : Str)) = false ∧ ∃ v, m p.2 = some v) →
    ∀ (s : Shared) (t1 : Addr) (dx : Option Addr) (mA : Str → Option Value) (nl : List Str), K.In s.heap → s.heap.Ns env.locals m → s.heap.get? e = some ({ cls := .ref C, dict := dx, data := .fields #[.ref t1, .none, .none, .none, .bool false, .none] } : Obj) →
    (∀ d, dx = some d → s.heap.Ns1 d mA ∧ d ≠ e ∧ d ≠ env.locals ∧ Within mA nl ∧ K.lookup d = none) → (dx = none → mA = fun _ => none) → nl.length + l.length ≤ 900 → e ≠ env.locals → K.lookup e = none →
    ∀ (Q : Flow → Shared → Prop), (∀ h' t' d' mA', K.In h' → (∀ b o, b ≠ e → some b ≠ dx → s.heap.get? b = some o → h'.get? b = some o) → h'.get? e = some ({ cls := .ref C, dict := d', data := .fields #[.ref t1, .none, .none, .none, .bool false, .none] } : Obj) →
      (l ≠ [] ∨ dx ≠ none → ∃ d, d' = some d ∧ h'.Ns1 d mA' ∧ d ≠ e ∧ (dx = some d ∨ s.heap.get? d = none)) → (mA' = l.foldl (fun mm p => fun y => if y = p.1 then m p.2 else mm y) mA) → Q .next ⟨h', s.gens, s.drawn, t', s.os⟩) →
    wpAny (model prog w) A (execs ss env) Q E s := by
  intro l ss hm
  induction hm with
  | nil =>
    intro _ _ s t1 dx mA nl X hn he hd h0 hz hne hKe Q k
    refine wpAny_execs_nil ?_
    refine k s.heap s.toks dx mA X (fun b o _ _ h => h) he (fun h => ?_) rfl
    rcases h with h | h
    · exact absurd rfl h
    · cases dx with
      | none => exact absurd rfl h
      | some d => exact ⟨d, rfl, (hd d rfl).1, (hd d rfl).2.1, .inl rfl⟩
  | @cons f x p1 p2 p3 p4 l r tl hsw ih =>
    intro hno hloc s t1 dx mA nl X hn he hd h0 hz hne hKe Q k
    obtain ⟨hx1, hx2, v, hv⟩ := hloc (f, x) (List.mem_cons_self ..)
    have hv : m x = some v := hv
    refine wpAny_execs_cons (plainObj_wpAny_Assign_Attribute (ldM hk hx1 hn hv (ldM hk hself hn hms ?_ (by decide)) hx2) (hsw env))
    obtain ⟨nm, q, N, bs, bm, sn, sub, ab, col, dd, k0, k1, k2, k3, k5, hC, hbm⟩ := T.cls
    have hcl : PySem.W.clsIn K C = some { name := nm, bases := bs, mro := .ref C :: bm, ns := N, qualname := q, hasDict := true, slotNames := sn, subclasses := sub, abstract := ab, collection := col, hasDel := false } := by unfold PySem.W.clsIn; rw [hC] <;> rfl
    have hnof := hno (f, x) (List.mem_cons_self ..)
    obtain ⟨hp, g, d, t, os⟩ := s
    have KX : ∀ {h' : Heap}, (∀ b o, b ≠ e → some b ≠ dx → hp.get? b = some o → h'.get? b = some o) → K.In h' := fun {h'} kk b o hb => kk b o (fun z => by rw [z, hKe] at hb; cases hb) (fun z => by
      have := (hd b z.symm).2.2.2.2
      rw [this] at hb; cases hb) (X b o hb)
    cases dx with
    | none =>
      refine PySem.W.set_plain X (ox := { cls := .ref C, dict := none, data := .fields #[.ref t1, .none, .none, .none, .bool false, .none] }) (od := none) ⟨he, rfl, rfl, trivial⟩ T.sa ?_
      refine PySem.HandSPX.exc_osa X he hcl (show PySem.HandSPX.refsVE (.ref C :: bm) = true from hbm) rfl hnof (fun h' tk' dx kk dn dne hx hn' => ?_)
      have X' : K.In h' := KX fun b o hb _ hh => kk b o hb hh
      have eL : env.locals ≠ dx := fun z => by
        obtain ⟨o, es, ep, e1, _⟩ := hn
        have q := Heap.lt_size e1
        rw [z] at q
        exact absurd q (Nat.not_lt.mpr dn)
      have nKd : K.lookup dx = none := by
        cases q : K.lookup dx with
        | none => rfl
        | some o => exact absurd (Heap.lt_size (X _ _ q)) (Nat.not_lt.mpr dn)
      refine ih (fun p hp => hno p (List.mem_cons_of_mem _ hp)) (fun p hp => hloc p (List.mem_cons_of_mem _ hp)) ⟨h', g, d, tk', os⟩ t1 (some dx) (fun y => if y = f then some v else none) [f] X' (hn.at fun o z => kk _ o hne.symm z) hx
        (fun d' z => by cases z; exact ⟨hn', dne, eL.symm, fun y hy => by
          by_cases q : y = f
          · rw [q]; exact List.mem_cons_self ..
          · exact absurd (if_neg q) hy, nKd⟩) (fun z => by cases z) (by simp at hz ⊢; omega) hne hKe Q (fun h2 t2 d2 mA2 X2 k2 he2 hd2 hm2 => ?_)
      refine k h2 t2 d2 mA2 X2 (fun b o hb _ hh => k2 b o hb (fun z => ?_) (kk b o hb hh)) he2 (fun _ => ?_) ?_
      · have z := Option.some.inj z
        subst z
        exact absurd (Heap.lt_size hh) (Nat.not_lt.mpr dn)
      · obtain ⟨d3, e3, n3, ne3, w3⟩ := hd2 (.inr (by simp))
        refine ⟨d3, e3, n3, ne3, .inr ?_⟩
        show hp.get? d3 = none
        cases q : hp.get? d3 with
        | none => rfl
        | some o =>
          rcases w3 with w3 | w3
          · have w3 := Option.some.inj w3
            subst w3
            exact absurd (Heap.lt_size q) (Nat.not_lt.mpr dn)
          · have w3 : h'.get? d3 = none := w3
            rw [kk d3 o ne3 q] at w3; cases w3
      · rw [hm2, h0 rfl]
        show _ = List.foldl _ _ _
        rw [List.foldl_cons]
        show List.foldl _ (fun y => if y = f then some v else none) l = List.foldl _ (fun y => if y = f then m x else none) l
        rw [hv]
    | some dx0 =>
      obtain ⟨n1, n2, n3, n4, n5⟩ := hd dx0 rfl
      obtain ⟨oD, _, _, hoD, _, _⟩ := n1.count n4
      refine PySem.W.set_plain X (ox := { cls := .ref C, dict := some dx0, data := .fields #[.ref t1, .none, .none, .none, .bool false, .none] }) (od := some oD) ⟨he, rfl, rfl, hoD⟩ T.sa ?_
      refine PySem.OEX.osa_old X he n1 n4 (by simp at hz; omega) hcl (show PySem.HandSPX.refsVE (.ref C :: bm) = true from hbm) rfl hnof (fun h' tk' kk hn' => ?_)
      have X' : K.In h' := KX fun b o _ hb hh => kk b o (fun z => hb (by rw [z])) hh
      refine ih (fun p hp => hno p (List.mem_cons_of_mem _ hp)) (fun p hp => hloc p (List.mem_cons_of_mem _ hp)) ⟨h', g, d, tk', os⟩ t1 (some dx0) (fun y => if y = f then some v else mA y) (f :: nl) X' (hn.at fun o z => kk _ o n3.symm z) (kk e _ n2.symm he)
        (fun d' z => by cases z; exact ⟨hn', n2, n3, Within.cons f v n4, n5⟩) (fun z => by cases z) (by simp at hz ⊢; omega) hne hKe Q (fun h2 t2 d2 mA2 X2 k2 he2 hd2 hm2 => ?_)
      refine k h2 t2 d2 mA2 X2 (fun b o hb hb2 hh => k2 b o hb hb2 (kk b o (fun z => hb2 (by rw [z])) hh)) he2 (fun _ => ?_) ?_
      · obtain ⟨d3, e3, n3, ne3, w3⟩ := hd2 (.inr (by simp))
        refine ⟨d3, e3, n3, ne3, ?_⟩
        rcases w3 with w3 | w3
        · exact .inl w3
        · by_cases z : dx0 = d3
          · exact .inl (by rw [z])
          refine .inr ?_
          show hp.get? d3 = none
          cases q : hp.get? d3 with
          | none => rfl
          | some o =>
            have w3 : h'.get? d3 = none := w3
            rw [kk d3 o (fun y => z y.symm) q] at w3; cases w3
      · rw [hm2, List.foldl_cons]
        show List.foldl _ (fun y => if y = f then some v else mA y) l = List.foldl _ (fun y => if y = f then m x else mA y) l
        rw [hv]
end
structure XInit (P : Program) (K : PySem.W.Frag) (C : Addr) (st : Stmt) : Prop where
  ox : OexC K C
  ex : ∃ (fI cda cc : Addr) (qual : Str) (oc kV doc pm ct ccl cl : Value) (od an cdd cld : Option Addr) (osl ccs csl : Array (Option Value)) (vs : Array Value) (file : Str) (tf : Tok),
    PySem.W.findIn K (.ref C) "__init__" = some (some (.ref fI)) ∧ PySem.W.typeIn K (.ref fI) = some (.type "function") ∧
    K.lookup fI = some ⟨oc, od, .func (W.ksFn "__init__" qual (defArgs st) (defBody st) (defScope st) .none kV doc pm an (.ref cda) ct cc), osl⟩ ∧ PySem.W.codeIn K (.ref cda) qual = true ∧
    K.lookup cda = some ⟨ccl, cdd, .fields vs, ccs⟩ ∧ vs[2]? = some (.str file tf) ∧ ((P.main.file : Str) == file) = true ∧ K.lookup cc = some ⟨cl, cld, .cell (some (.ref C)), csl⟩
  su : W.ks_superIn K C C "__init__" = some (some (.builtin "ValueError.__init__"))
  ve : PySem.W.subIn K (.ref C) (.type "ValueError") = some true
  me : PySem.W.mroIn K C (.ref C) = some true
  op : PySem.W.nsIn K cStatics "thirdparty.any" = some none
structure XShape (P : Program) (st : Stmt) (ps : List Str) (fs : List (Str × Str)) : Prop where
  body : ∃ (p0 p1 p2 p3 p4 p5 : Pos) (v1 v2 : Expr) (parts : List Expr) (as : List Stmt), defBody st = .Expr (.Call (.Attribute (.Call (.Name "super" p0) [] [] p1) "__init__" p2) [.JoinedStr (v1 :: v2 :: parts) p3] [] p4) p5 :: as ∧
    (∀ e ∈ v1 :: v2 :: parts, MPart ps e) ∧ parts.length ≤ 6 ∧ MAsg fs as ∧
    (∀ env, swapsWith (.Call (.Attribute (.Call (.Name "super" p0) [] [] p1) "__init__" p2) [.JoinedStr (v1 :: v2 :: parts) p3] [] p4) none p5.line env = pure false) ∧
    (∀ env, ∃ pl : Sem Bool, eval (.Call (.Attribute (.Call (.Name "super" p0) [] [] p1) "__init__" p2) [.JoinedStr (v1 :: v2 :: parts) p3] [] p4) env = (do
      let ov ← attributeBase (.Call (.Name "super" p0) [] [] p1) "__init__" env (eval (.Call (.Name "super" p0) [] [] p1) env)
      standAt p2.atName
      let (f, first) ← holding [ov] (getMethod ov "__init__" pl)
      callWith p4 f first (backTo p4 (starEach [.JoinedStr (v1 :: v2 :: parts) p3] env)) []))
  kind : (defScope st).kind = .function
  co : (defScope st).isCoroutine = false
  gen : (defScope st).isGenerator = false
  cell : ∀ x ∈ (defScope st).names, x.2 ≠ .cell
  sup : (defScope st).names.lookup ("super" : Str) = some .globalImplicit
  cls : (defScope st).names.lookup ("__class__" : Str) = some .free
  slf : (defScope st).names.lookup ("self" : Str) = some .local
  par : ∀ x ∈ ps, (defScope st).names.lookup x = some .local ∧ (x == ("__debug__" : Str)) = false
  nd : (("self" : Str) :: ps).Nodup
  hd : ((defArgs st).posonlyargs ++ (defArgs st).args).head?.map (·.arg) = some "self"
  fld : ∀ p ∈ fs, p.2 ∈ ps
  fne : fs ≠ []
  flen : fs.length ≤ 100
  bind : ∀ (qual : Str) (kV doc pm ct : Value) (an : Option Addr) (cda cc : Addr) (us : List Value), us.length = ps.length + 1 → bindArgs (W.ksFn "__init__" qual (defArgs st) (defBody st) (defScope st) .none kV doc pm an (.ref cda) ct cc) ⟨us, []⟩ = pure ((("self" : Str) :: ps).zip us)
  top : (P.main.scope.names.lookup ("super" : Str)).isSome = false
theorem lookup_zipR : ∀ {ks : List Str} {us : List Value} {m : Str → Option Value}, ks.Nodup → ks.length = us.length → ∀ x, ((ks.zip us).reverse.lookup x) = ((ks.zip us).lookup x)
  | [], _, _, _, _, x => by simp
  | k :: ks, [], _, _, h, x => by simp at h
  | k :: ks, u :: us, m, nd, h, x => by
    have nd' := List.nodup_cons.mp nd
    have ih := lookup_zipR (m := m) nd'.2 (us := us) (by simpa using h) x
    rw [List.zip_cons_cons, List.reverse_cons, List.lookup_append, ih, List.lookup_cons]
    by_cases hx : x = k
    · subst hx
      have : (ks.zip us).lookup x = none := by
        rw [List.lookup_eq_none_iff]
        intro p hp
        have := (List.of_mem_zip (a := p.1) (b := p.2) hp).1
        have hne : x ≠ p.1 := fun e => nd'.1 (e ▸ this)
        simpa using hne
      rw [this]
      simp [List.lookup]
    · have e : (x == k) = false := by simpa using hx
      rw [e]
      simp [List.lookup, e]
theorem lookup_mem {ks : List Str} {us : List Value} {x : Str} (h : ks.length = us.length) (hx : x ∈ ks) : ∃ v, (ks.zip us).lookup x = some v ∧ v ∈ us := by
  induction ks generalizing us with
  | nil => cases hx
  | cons k ks ih =>
    cases us with
    | nil => simp at h
    | cons u us =>
      rw [List.zip_cons_cons, List.lookup_cons]
      by_cases e : x = k
      · subst e; simp
      · have e' : (x == k) = false := by simpa using e
        rw [e']
        obtain ⟨v, h1, h2⟩ := ih (us := us) (by simpa using h) ((List.mem_cons.mp hx).resolve_left e)
        exact ⟨v, h1, List.mem_cons_of_mem _ h2⟩
section
variable {P : Program} {w : World} {A : Around} {E : Value → Shared → Prop}
theorem init_run {K : PySem.W.Frag} {mg : Str → Option Value} {C e t0 fI : Addr} {st : Stmt} {ps : List Str} {fs : List (Str × Str)} {us : List Value} {R : Result → Shared → Prop} {hp : Heap} {g : Array GenState} {d : Drawn} {t : Nat} {os : OsState}
    (XI : XInit P K C st) (XS : XShape P st ps fs) (hfI : PySem.W.findIn K (.ref C) "__init__" = some (some (.ref fI))) (hnf : ∀ p ∈ fs, PySem.W.findIn K (.ref C) p.1 = some none) (X : K.In hp) (hglob : hp.Ns mainGlobals mg) (hms : mg "super" = none) (hblt : ∃ mb, hp.Ns builtinsNs mb ∧ ∀ x : Str, x ≠ "__name__" → mb x = bootBuiltins x)
    (hnl : hp.NoLimit) (hroom : A.depth < recursionLimit) (he : hp.get? e = some (HandSPX.excO C t0)) (hKe : K.lookup e = none) (hlen : us.length = ps.length) (hus : ∀ u ∈ us, MsgV u)
    (hq : ∀ h' t' d' t1 mA, (∀ b o, b ≠ e → hp.get? b = some o → h'.get? b = some o) → h'.get? e = some ({ cls := .ref C, dict := some d', data := .fields #[.ref t1, .none, .none, .none, .bool false, .none] } : Obj) → h'.Ns1 d' mA → hp.get? d' = none → d' ≠ e →
      (mA = fs.foldl (fun mm p => fun y => if y = p.1 then (ps.zip us).lookup p.2 else mm y) fun _ => none) → R (.ok (.ret .none)) ⟨h', g, d, t', os⟩) :
    codeAny (model P w) A (.call (.ref fI) ⟨.ref e :: us, []⟩) R ⟨hp, g, d, t, os⟩ := by
  obtain ⟨fI', cda, cc, qual, oc, kV, doc, pm, ct, ccl, cl, od, an, cdd, cld, osl, ccs, csl, vs, file, tf, x1, x2, x3, x4, x5, x6, x7, x8⟩ := XI.ex
  rw [hfI] at x1
  obtain rfl : fI = fI' := by injection x1 with x1; injection x1 with x1; injection x1
  obtain ⟨p0, p1, p2, p3, p4, p5, v1, v2, parts, as, hbody, hparts, hpl, hasg, hsw, hev⟩ := XS.body
  have hl1 : (Value.ref e :: us).length = ps.length + 1 := by rw [List.length_cons, hlen]
  refine ks_codeAny_call_defAt (fd := W.ksFn "__init__" qual (defArgs st) (defBody st) (defScope st) .none kV doc pm an (.ref cda) ct cc) (body := defBody st) (binds := (("self" : Str) :: ps).zip (.ref e :: us)) hroom (X _ _ x3) rfl hnl (PySem.W.codeRec_of X x4) rfl
    (.of_eq (XS.bind qual kV doc pm ct an cda cc _ hl1)) XS.cell (fun y hy => ?_) (fun h0 hns hk0 => ?_) XS.co XS.gen XS.kind
  · have := (List.of_mem_zip (a := y.1) (b := y.2) hy).1
    rcases List.mem_cons.mp this with z | z
    · rw [z]; exact XS.slf
    · exact (XS.par _ z).1
  have X0 : K.In h0 := fun b o z => hk0 b o (X b o z)
  obtain ⟨nm, q, N, bs, bm, sn, sub, ab, col, dd, k0, k1, k2, k3, k5, hC, hbm⟩ := XI.ox.cls
  have hcl : PySem.W.clsIn K C = some { name := nm, bases := bs, mro := .ref C :: bm, ns := N, qualname := q, hasDict := true, slotNames := sn, subclasses := sub, abstract := ab, collection := col, hasDel := false } := by unfold PySem.W.clsIn; rw [hC] <;> rfl
  have he0 := hk0 _ _ he
  have heC : e ≠ C := fun z => by rw [z] at hKe; rw [hC] at hKe; cases hKe
  have IA : PySem.W.InstAt h0 e (HandSPX.excO C t0) C none := ⟨he0, rfl, rfl, trivial⟩
  have hI : PySem.W.Looks (model P w) h0 (isInstance (.ref e) (.type "ValueError")) true := IA.type.andThen (PySem.W.looks_subIn X0 XI.ve)
  have neL : e ≠ hp.objs.size := Nat.ne_of_lt (Heap.lt_size he)
  have mself : ((("self" : Str) :: ps).zip (Value.ref e :: us)).reverse.lookup ("self" : Str) = some (Value.ref e) := by
    rw [lookup_zipR (m := fun _ => none) XS.nd (by rw [List.length_cons, List.length_cons, hlen]), List.zip_cons_cons, List.lookup_cons, beq_self_eq_true]
  have mpar : ∀ x ∈ ps, ((("self" : Str) :: ps).zip (Value.ref e :: us)).reverse.lookup x = (ps.zip us).lookup x := fun x hx => by
    rw [lookup_zipR (m := fun _ => none) XS.nd (by rw [List.length_cons, List.length_cons, hlen]), List.zip_cons_cons, List.lookup_cons]
    have : (x == ("self" : Str)) = false := by
      simp only [beq_eq_false_iff_ne, ne_eq]
      intro z
      exact (List.nodup_cons.mp XS.nd).1 (z ▸ hx)
    rw [this]
  obtain ⟨ar, har1, har2⟩ : ∃ ar, ((defArgs st).posonlyargs ++ (defArgs st).args).head? = some ar ∧ ar.arg = "self" := by
    have := XS.hd
    cases z : ((defArgs st).posonlyargs ++ (defArgs st).args).head? with
    | none => rw [z] at this; cases this
    | some ar => rw [z] at this; exact ⟨ar, rfl, by injection this⟩
  obtain ⟨env, henv⟩ : ∃ z, z = callEnv (W.ksFn "__init__" qual (defArgs st) (defBody st) (defScope st) .none kV doc pm an (.ref cda) ct cc) hp.objs.size fI := ⟨_, rfl⟩
  have eSc : env.scope = defScope st := henv ▸ rfl
  have eLo : env.locals = hp.objs.size := henv ▸ rfl
  have eCe : env.cells = [(("__class__" : Str), cc)] := henv ▸ rfl
  have eFu : env.func = some fI := henv ▸ rfl
  have eCo : env.code = .ref cda := henv ▸ rfl
  have eGl : env.globals = mainGlobals := henv ▸ rfl
  have eBl : env.builtins = builtinsNs := henv ▸ rfl
  have kd : ∀ {x : Str} {k : NameKind}, (defScope st).names.lookup x = some k → env.kindOf x = some k := fun {x k} h => by
    show env.scope.names.lookup x = _
    rw [eSc]; exact h
  have eK : env.scope.kind = .function := by rw [eSc]; exact XS.kind
  show PySem.wpAt _ (A.deeper (callEnv (W.ksFn "__init__" qual (defArgs st) (defBody st) (defScope st) .none kV doc pm an (.ref cda) ct cc) hp.objs.size fI)) (.func _ (callEnv (W.ksFn "__init__" qual (defArgs st) (defBody st) (defScope st) .none kV doc pm an (.ref cda) ct cc) hp.objs.size fI)) (execs _ (callEnv (W.ksFn "__init__" qual (defArgs st) (defBody st) (defScope st) .none kV doc pm an (.ref cda) ct cc) hp.objs.size fI)) _ _ _
  rw [← henv, hbody]
  obtain ⟨pl, hev⟩ := hev env
  have clsOf : ∀ {h : Heap}, K.In h → ∃ oD, h.get? C = some oD ∧ oD.data = .cls { name := nm, bases := bs, mro := .ref C :: bm, ns := N, qualname := q, hasDict := true, slotNames := sn, subclasses := sub, abstract := ab, collection := col, hasDel := false } := fun {h} X => ⟨_, X _ _ hC, rfl⟩
  refine ks_wpAt_execs_cons (ks_wpAt_Expr_any (ks_wpAt_MethodCall (ks_wpAt_super_base (kd XS.sup) (kd XS.cls) (by decide) eFu (hk0 _ _ (X _ _ x3)) rfl har1 eCo (hk0 _ _ (X _ _ x5)) rfl x6 x7 XS.top ?_) hev) (by unfold interactive; first | (rw [eK]; rfl) | (simp [eK])) (hsw env))
  obtain ⟨mb, hb1, hb2⟩ := hblt
  refine W.ks_loadName_global eK (kd XS.sup) (Calls.loadGlobal_builtin (env := env) (by rw [eGl]; exact hglob.keeps hk0) hms (by rw [eBl]; exact hb1.keeps hk0) ((hb2 _ (by decide)).trans (by first | boot_by_name | rfl | kernel_rfl)) ⟨rfl, ?_⟩)
  refine wpAny_loadName_free eK (kd XS.cls) (by rw [eCe]; rfl) ⟨_, hk0 _ _ (X _ _ x8), rfl⟩ ?_
  rw [har2]
  have hnsE : ∀ {h' : Heap}, (∀ b o, h0.get? b = some o → h'.get? b = some o) → h'.Ns env.locals (fun x => ((("self" : Str) :: ps).zip (Value.ref e :: us)).reverse.lookup x) := fun {h'} kk => by rw [eLo]; exact hns.at fun o z => kk _ o z
  refine wpAny_loadName_local eK (kd XS.slf) (hnsE fun _ _ z => z) mself ?_
  obtain ⟨oD, hD1, hD2⟩ := clsOf X0
  refine ks_wpAny_isType_cls hD1 hD2 ⟨rfl, ?_⟩
  refine ks_wpAny_call_super hD1 hD2 he0 rfl (fun c z => nomatch z) (PySem.W.looks_mroIn X0 XI.me) (fun h1 e1 kk1 => ?_)
  have X1 : K.In h1 := fun b o z => kk1 b o (X0 b o z)
  have hsu := XI.su
  unfold W.ks_superIn at hsu
  rw [hcl] at hsu
  have hI1 : PySem.W.Looks (model P w) h1 (isInstance (.ref e) (.type "ValueError")) true := hI.keeps kk1
  refine W.kxs_getMethod W.kxs_ValueError e1 (PySem.W.looks_opaque X1 XI.op) (l₀ := .ref C :: bm) (fun A Q E s k q => wpAny_bind ((PySem.W.looks_clsIn X1 hcl) A _ E s k (wpAny_pure q))) rfl X1 hsu hI1 heC (by decide) ?_
  have kk2 : ∀ b o, h1.get? b = some o → (h1.push (W.kxs_mw "ValueError.__init__" e)).get? b = some o := fun b o z => Heap.get?_push_of_some _ z
  have hu2 : (h1.push (W.kxs_mw "ValueError.__init__" e)).get? h1.objs.size = some (W.kxs_mw "ValueError.__init__" e) := Heap.get?_push_at rfl rfl
  have k02 : ∀ b o, h0.get? b = some o → (h1.push (W.kxs_mw "ValueError.__init__" e)).get? b = some o := fun b o z => kk2 b o (kk1 b o z)
  show wpAny _ _ (callWith p4 (.ref h1.objs.size) [] (backTo p4 (starEach [.JoinedStr (v1 :: v2 :: parts) p3] env)) []) _ _ _
  have hse : starEach [Expr.JoinedStr (v1 :: v2 :: parts) p3] env = [(false, eval (.JoinedStr (v1 :: v2 :: parts) p3) env)] := rfl
  rw [hse]
  have fin : ∀ (out : Str) (tk tt : Nat), wpAny (model P w) (A.deeper env) (call (.ref h1.objs.size) ([] ++ [.str out tk]))
      (fun _ s' => PySem.wpAt (model P w) (A.deeper env) (.func (Stmt.Expr (.Call (.Attribute (.Call (.Name "super" p0) [] [] p1) "__init__" p2) [.JoinedStr (v1 :: v2 :: parts) p3] [] p4) p5 :: as) env) (execs as env) (fun f s' => R (.ok (.ret (match f with | .ret v => v | _ => .none))) s')
        (fun e s' => wpAny (model P w) (A.deeper env) (leaving env e) (fun _ s'' => R (.error e) s'') (fun e' s'' => R (.error e') s'') s') s') (fun e s' => wpAny (model P w) (A.deeper env) (leaving env e) (fun _ s'' => R (.error e) s'') (fun e' s'' => R (.error e') s'') s')
      ⟨h1.push (W.kxs_mw "ValueError.__init__" e), g, d, tt, os⟩ := fun out tk tt => by
    refine call_bwV (k02 _ _ (X0 _ _ hC)) (k02 _ _ he0) hu2 (by show 1 ≤ sizeLine; rw [sizeLine_eq]; decide) fun h3 t1 kk3 he3 => wpAt_of_wpAny ?_
    have k03 : ∀ b o, b ≠ e → h0.get? b = some o → h3.get? b = some o := fun b o hb z => kk3 b o hb (k02 b o z)
    have X3 : K.In h3 := fun b o z => k03 b o (fun y => by rw [y, hKe] at z; cases z) (X0 b o z)
    have n3 : h3.Ns env.locals (fun x => ((("self" : Str) :: ps).zip (Value.ref e :: us)).reverse.lookup x) := by rw [eLo]; exact hns.at fun o z => k03 _ o neL.symm z
    refine run_asg XI.ox eK (kd XS.slf) mself hasg hnf (fun p hp => ?_) ⟨h3, g, d, tt, os⟩ t1 none (fun _ => none) [] X3 n3 he3 (fun d' z => nomatch z) (fun _ => rfl) (by have := XS.flen; simp; omega) (by rw [eLo]; exact neL) hKe _ (fun h' t' d' mA' X' k' he' hd' hm' => ?_)
    · have hpp := XS.fld p hp
      obtain ⟨v, hv, _⟩ := lookup_mem (us := us) hlen.symm hpp
      exact ⟨kd (XS.par _ hpp).1, (XS.par _ hpp).2, v, (mpar _ hpp).trans hv⟩
    · obtain ⟨d1, rfl, n1, ne1, w1⟩ := hd' (.inl XS.fne)
      have k4 : ∀ b o, b ≠ e → hp.get? b = some o → h'.get? b = some o := fun b o hb z => k' b o hb (fun y => nomatch y) (k03 b o hb (hk0 b o z))
      refine hq h' t' d1 t1 mA' k4 he' n1 ?_ ne1 ?_
      · rcases w1 with w1 | w1
        · cases w1
        · cases z : hp.get? d1 with
          | none => rfl
          | some o =>
            have w1 : h3.get? d1 = none := w1
            rw [k03 d1 o ne1 (hk0 d1 o z)] at w1; cases w1
      · rw [hm']
        have gen : ∀ (l : List (Str × Str)) (mm : Str → Option Value), (∀ p ∈ l, p.2 ∈ ps) → l.foldl (fun mm p => fun y => if y = p.1 then ((("self" : Str) :: ps).zip (Value.ref e :: us)).reverse.lookup p.2 else mm y) mm = l.foldl (fun mm p => fun y => if y = p.1 then (ps.zip us).lookup p.2 else mm y) mm := by
          intro l
          induction l with
          | nil => intro mm _; rfl
          | cons p l ih =>
            intro mm hl
            rw [List.foldl_cons, List.foldl_cons, mpar _ (hl p (List.mem_cons_self ..))]
            exact ih _ fun p hp => hl p (List.mem_cons_of_mem _ hp)
        exact gen fs _ XS.fld
  refine W.kxs_callWith (i := "ValueError.__init__") (x := e) (by rfl) (Calls.evalArgs_plain (Calls.spliced_cons (wpAny_JoinedStr (pos := p3) ?_)))
  refine joins_msg (ps := ps) eK (fun x hx => ⟨kd (XS.par x hx).1, (XS.par x hx).2⟩) (fun x hx => ?_) hparts Str.empty _ _ 0 (Nat.le_refl _) (by rw [sizeLine_eq]; simp; omega) (hnsE k02) (fun out tt ho => ⟨ho, ?_⟩)
  · obtain ⟨v, hv, hm⟩ := lookup_mem (us := us) hlen.symm hx
    exact ⟨v, (mpar _ hx).trans hv, hus v hm⟩
  · exact Calls.spliced_nil ⟨hu2, fin out _ _⟩
end
end
end Mw
set_option Elab.async false
set_option linter.all false
set_option maxRecDepth 100000
set_option autoImplicit false
namespace Mw
open PySem PySem.Spec PyProof.Rows L2
noncomputable section
def MsgW (v : V) : Prop := (∃ y, v = .str y ∧ y.length ≤ 1000) ∨ ∃ i, v = .int i ∧ i.natAbs.log2 < 1920
def tMkX (C : Addr) (ps : List Str) (ta : TA) : L2.St → Hp → XK → Prop := fun σ H Q => ta σ H fun vs H1 => vs.length = ps.length ∧ (∀ v ∈ vs, MsgW v) ∧ ∀ d, H1 d = none → Q (.ref C) (some d) (upd H1 d (.xd (ps.zip vs).reverse))
structure ClsX (P : Program) (K : PySem.W.Frag) (mg : Str → Option Value) (x : Str) (ps : List Str) : Prop where
  ex : ∃ C st, mg x = some (.ref C) ∧ XInit P K C st ∧ XShape P st ps (ps.zip ps) ∧ (∀ p ∈ ps, PySem.W.findIn K (.ref C) p = some none) ∧ mg "super" = none
theorem lookup_revG {α : Type} : ∀ {ks : List Str} {us : List α}, ks.Nodup → ∀ x, ((ks.zip us).reverse.lookup x) = ((ks.zip us).lookup x)
  | [], _, _, x => by simp
  | k :: ks, [], _, x => by simp
  | k :: ks, u :: us, nd, x => by
    have nd' := List.nodup_cons.mp nd
    have ih := lookup_revG nd'.2 (us := us) x
    rw [List.zip_cons_cons, List.reverse_cons, List.lookup_append, ih, List.lookup_cons]
    by_cases hx : x = k
    · subst hx
      have : (ks.zip us).lookup x = none := by
        rw [List.lookup_eq_none_iff]
        intro p hp
        have := (List.of_mem_zip (a := p.1) (b := p.2) hp).1
        have hne : x ≠ p.1 := fun e => nd'.1 (e ▸ this)
        simpa using hne
      rw [this]
      simp [List.lookup]
    · have e : (x == k) = false := by simpa using hx
      rw [e]
      simp [List.lookup, e]
theorem relO_zip : ∀ {ks : List Str} {vs : List V} {us : List Value}, Vals vs us → ∀ x, RelO ((ks.zip vs).lookup x) ((ks.zip us).lookup x)
  | [], _, _, _, x => by simp; exact True.intro
  | k :: ks, _, _, .nil, x => by simp; exact True.intro
  | k :: ks, _, _, .cons r t, x => by
    rw [List.zip_cons_cons, List.zip_cons_cons, List.lookup_cons, List.lookup_cons]
    cases x == k with
    | true => exact r
    | false => exact relO_zip t x
theorem foldA {G : Str → Option Value} : ∀ (l : List (Str × Str)) (mm : Str → Option Value) (y : Str), (∀ p ∈ l, p.1 = p.2) → (l.foldl (fun mm p => fun y => if y = p.1 then G p.2 else mm y) mm) y = if y ∈ l.map (·.1) then G y else mm y
  | [], mm, y, _ => by simp
  | p :: l, mm, y, h => by
    rw [List.foldl_cons, foldA l _ y fun p hp => h p (List.mem_cons_of_mem _ hp)]
    have e := h p (List.mem_cons_self ..)
    by_cases h1 : y ∈ l.map (·.1)
    · rw [if_pos h1, if_pos (by rw [List.map_cons]; exact List.mem_cons_of_mem _ h1)]
    · rw [if_neg h1]
      by_cases h2 : y = p.1
      · rw [if_pos h2, if_pos (by rw [List.map_cons, h2]; exact List.mem_cons_self ..), ← e, h2]
      · rw [if_neg h2, if_neg (by rw [List.map_cons]; intro z; exact (List.mem_cons.mp z).elim h2 h1)]
theorem zip_self_fst : ∀ (ps : List Str), (ps.zip ps).map (·.1) = ps
  | [] => rfl
  | p :: ps => by rw [List.zip_cons_cons, List.map_cons, zip_self_fst ps]
theorem zip_self_eq : ∀ {ps : List Str} {q : Str × Str}, q ∈ ps.zip ps → q.1 = q.2
  | p :: ps, q, h => by
    rw [List.zip_cons_cons] at h
    rcases List.mem_cons.mp h with z | z
    · rw [z]
    · exact zip_self_eq z
theorem mA_rel {ps : List Str} {vs : List V} {us : List Value} (nd : ps.Nodup) (hl : us.length = ps.length) (r : Vals vs us) (f : Str) :
    RelO ((ps.zip vs).reverse.lookup f) (((ps.zip ps).foldl (fun mm p => fun y => if y = p.1 then (ps.zip us).lookup p.2 else mm y) fun _ => none) f) := by
  rw [lookup_revG nd, foldA (G := fun x => (ps.zip us).lookup x) _ _ _ fun p hp => zip_self_eq hp, zip_self_fst]
  split
  · exact relO_zip r f
  · next h =>
    have e : (ps.zip us).lookup f = none := by
      rw [List.lookup_eq_none_iff]
      intro p hp
      have := (List.of_mem_zip (a := p.1) (b := p.2) hp).1
      have hne : f ≠ p.1 := fun e => h (e ▸ this)
      simpa using hne
    have q := relO_zip (ks := ps) r f
    rw [e] at q
    exact q
theorem objok_ex {P : Program} {w : World} {H : Hp} {h : Heap} {a : Addr} {o : HO} (x : ObjOk P w H h a o) : ∃ u, h.get? a = some u := by
  cases o with
  | lst xs => obtain ⟨_, _, _, _, e⟩ := x; exact ⟨_, e⟩
  | tup xs => obtain ⟨_, _, _, p⟩ := x; obtain ⟨_, e, _⟩ := p; exact ⟨_, e⟩
  | dK kvs => obtain ⟨_, _, _, _, o, _, _, e, _⟩ := x; exact ⟨_, e⟩
  | dT kvs => obtain ⟨_, _, _, _, o, _, _, e, _⟩ := x; exact ⟨_, e⟩
  | set S n => obtain ⟨o, _, _, _, e, _⟩ := x; exact ⟨_, e⟩
  | ins C dx fs => obtain ⟨_, _, _, e, _⟩ := x; exact ⟨_, e⟩
  | own y => obtain ⟨_, e⟩ := x; exact ⟨_, e⟩
  | xd fs => obtain ⟨_, ⟨_, _, _, e, _⟩, _⟩ := x; exact ⟨_, e⟩
  | rng lo hi => obtain ⟨_, _, _, e⟩ := x; exact ⟨_, e⟩
  | frz ob u => obtain ⟨e, _⟩ := x; exact ⟨_, e⟩
  | tbl ps => exact ⟨_, show h.get? a = some _ from x⟩
  | met f y => exact ⟨_, show h.get? a = some _ from x⟩
  | ext φ => obtain ⟨_, ⟨_, e⟩, _⟩ := x; exact ⟨_, e⟩
section
variable {X : Cx} {e : Expr} {es : List Expr} {ta : TA} {x : Str} {ps : List Str} {p pos : Pos}
theorem pmk_x {C : Addr} {st : Stmt} (hm : X.mg x = some (.ref C)) (XI : XInit X.prog X.K C st) (XS : XShape X.prog st ps (ps.zip ps)) (hnf : ∀ p ∈ ps, PySem.W.findIn X.K (.ref C) p = some none) (hsup : X.mg "super" = none) {k : Nat} (hr : Room (k + 1) X.A) (hg : Gl X x) (ha : PA X (e :: es) ta)
    (hdb : (x == ("__debug__" : Str)) = false := by decide) (he : starEach (e :: es) X.env = (false, eval e X.env) :: starEach es X.env := by rfl) (hpl : (backTo pos (starEach es X.env)).any (·.1) = false := by rfl) :
    L2N.PMk X (.Call (.Name x p) (e :: es) [] pos) (tMkX C ps ta) := by
  intro pins s σ H Q I h
  obtain ⟨nm, q, N, bs, bm, sn, sub, ab, col, dd, k0, k1, k2, k3, k5, hC, hbm⟩ := XI.ox.cls
  refine wpAny_Call_Name_kw (ld_glob I hg hm ?_ hdb)
  refine PySem.W.callWith_K (h₀ := X.base) I.ok.mod.kin XI.ox.kC (thn (ha.run pos pins s σ H _ I h) fun us s1 ⟨vs, H1, I1, r1, hz, hw, q1⟩ => ⟨I1.kIn, ?_⟩) he hpl
  show wpAny _ _ (call (.ref C) us) _ _ _
  obtain ⟨hp, g, dr, tk, os⟩ := s1
  have hl : us.length = ps.length := (Paired.length r1).symm.trans hz
  have hus : us.length ≤ sizeLine := by
    have := XS.flen
    rw [List.length_zip, Nat.min_self] at this
    rw [hl, sizeLine_eq]; omega
  obtain ⟨fI, cda, cc, qual, oc, kV, doc, pm, ct, ccl, cl, od, an, cdd, cld, osl, ccs, csl, vv, file, tf, x1, x2, x3, x4, x5, x6, x7, x8⟩ := XI.ex
  have base : ∀ b o, X.base.get? b = some o → hp.get? b = some o := I1.bk
  have kk : ∀ b o, hp.get? b = some o → ((hp.push (PySem.W.kdv_tup us)).push (PySem.HandSPX.excO C hp.objs.size)).get? b = some o := fun b o e => Heap.get?_push_of_some _ (Heap.get?_push_of_some _ e)
  have hget : ((hp.push (PySem.W.kdv_tup us)).push (PySem.HandSPX.excO C hp.objs.size)).get? (hp.objs.size + 1) = some (PySem.HandSPX.excO C hp.objs.size) := by heap_get
  have en : hp.get? (hp.objs.size + 1) = none := by
    cases z : hp.get? (hp.objs.size + 1) with
    | none => rfl
    | some o => exact absurd (Heap.lt_size z) (Nat.not_lt.mpr (Nat.le_succ _))
  have hKe : X.K.lookup (hp.objs.size + 1) = none := by
    cases z : X.K.lookup (hp.objs.size + 1) with
    | none => rfl
    | some o => have := I1.kIn _ _ z; rw [en] at this; cases this
  have msg : ∀ u ∈ us, MsgV u := fun u hu => by
    have key : ∀ {vs : List V} {us : List Value}, Vals vs us → (∀ v ∈ vs, MsgW v) → ∀ u ∈ us, MsgV u := by
      intro vs us r
      induction r with
      | nil => intro _ u h; cases h
      | @cons v u vs us rv t ih =>
        intro hw u' hu'
        rcases List.mem_cons.mp hu' with z | z
        · rw [z]
          rcases hw v (List.mem_cons_self ..) with ⟨y, rfl, hy⟩ | ⟨i, rfl, hi⟩
          · obtain ⟨t, rfl⟩ := rv; exact .inl ⟨y, t, rfl, hy⟩
          · obtain ⟨t, rfl⟩ := rv; exact .inr ⟨i, t, rfl, hi⟩
        · exact ih (fun v hv => hw v (List.mem_cons_of_mem _ hv)) u' z
    exact key r1 hw u hu
  obtain ⟨mb, hb1, hb2⟩ := I1.ok.mod.blt
  refine wpAny_call (PySem.HandSPX.call_own F.excBase_ValueError (fun Y => PySem.HandSPX.refsVE_contains Y bm hbm) (I1.kIn _ _ hC) (PySem.W.looks_findIn I1.kIn x1) (fun self => PySem.W.bind_fn I1.kIn self x2) hus
    (init_run XI XS x1 (fun p hp => hnf _ (List.of_mem_zip (a := p.1) (b := p.2) hp).1) (fun b o z => kk b o (I1.kIn b o z)) (I1.ok.mod.glob.keeps fun b o z => kk b o (base b o z)) hsup ⟨mb, hb1.keeps fun b o z => kk b o (base b o z), hb2⟩
      (I1.ok.mod.nolimit.keeps fun b o z => kk b o (base b o z)) (by have := (hr.make C us []).dp; omega) hget hKe hl msg fun h' t' d' t1 mA kq he' hn' hd' hde hmA => ?_))
  have k2 : ∀ b o, hp.get? b = some o → h'.get? b = some o := fun b o z => kq b o (fun y => by rw [y, en] at z; cases z) (kk b o z)
  have d0 : hp.get? d' = none := by
    cases z : hp.get? d' with
    | none => rfl
    | some o => rw [kk d' o z] at hd'; cases hd'
  have hd1 : H1 d' = none := by
    cases z : H1 d' with
    | none => rfl
    | some o =>
      obtain ⟨u, hu⟩ := objok_ex (I1.hok d' o z)
      rw [d0] at hu; cases hu
  obtain ⟨G, g1, g2⟩ := restrict h' fun b => decide (b ≠ hp.objs.size + 1)
  have gk : ∀ b, b ≠ hp.objs.size + 1 → G.get? b = h'.get? b := fun b hb => g1 b (decide_eq_true hb)
  have ge : G.get? (hp.objs.size + 1) = none := g2 _ (by simp)
  have kG : ∀ b o, hp.get? b = some o → G.get? b = some o := fun b o z => (gk b fun y => by rw [y, en] at z; cases z).trans (k2 b o z)
  have new : ObjOk X.prog X.w (upd H1 d' (.xd (ps.zip vs).reverse)) G d' (.xd (ps.zip vs).reverse) := ⟨mA, hn'.at fun o y => (gk d' hde).trans y, fun f => by rw [hmA]; exact mA_rel (List.nodup_cons.mp XS.nd).2 hl r1 f⟩
  have J : Inv X pins σ (upd H1 d' (.xd (ps.zip vs).reverse)) { (⟨hp, g, dr, tk, os⟩ : Shared) with heap := G, toks := t' } := I1.laidN kG d0 hd1 new
  have he1 : H1 (hp.objs.size + 1) = none := I1.hok.fresh (Nat.le_succ _)
  refine ⟨rfl, hp.objs.size + 1, _, _, { (⟨hp, g, dr, tk, os⟩ : Shared) with heap := G, toks := t' }, upd H1 d' (.xd (ps.zip vs).reverse), .ref C, some d', rfl, J, fun b o z => ?_, ge, he', ⟨rfl, rfl, fun vs z => by cases z; rfl⟩, rfl, rfl, ?_, rfl, I1.bare, raises_own XI.ox.exC XI.ox.tyC, q1 d' hd1⟩
  · by_cases hb : b = hp.objs.size + 1
    · rw [hb, ge] at z; cases z
    · exact (gk b hb).symm.trans z
  · rw [upd_ne (Ne.symm hde)]; exact he1
def fmtD : D → Bool
  | .int i => hide (decide (i.natAbs.log2 < 1920))
  | .str s => hide (decide (s.length ≤ 1000))
  | _ => false
theorem fmtI {i : Int} (h0 : -1000000000000 ≤ i) (h : i ≤ 1000000000000) : fmtD (.int i) = true := dec_hide (by
  have h2 : i.natAbs < 2 ^ 1920 := Nat.lt_of_le_of_lt (show i.natAbs ≤ 1000000000000 by omega) (by decide)
  by_cases z : i.natAbs = 0
  · rw [z]; decide
  · exact (Nat.log2_lt z).mpr h2)
theorem fmtS {s : List Nat} (h : s.length ≤ 1000) : fmtD (.str s) = true := dec_hide h
def fmtRs : List R → Option (List D)
  | [] => some []
  | .d x :: rs => if fmtD x = true then (fmtRs rs).map (x :: ·) else none
  | _ :: _ => none
def mRaiseA (c : Str) (ps : List Str) (ms : List M) : MS := fun ρ => (mArgs ms ρ).stm fun rs ρ' => match fmtRs rs with
  | some ds => if ds.length = ps.length then .ex ⟨c, ps.reverse, ds.reverse⟩ ρ' else .no
  | none => .no
theorem RepRs.fmt {g : Wd} {F H : Hp} {S : Addr → Prop} {vs : List V} {rs : List R} {fr : List Addr} (h : RepRs g F H S vs rs fr) : ∀ {ds : List D}, fmtRs rs = some ds → fr = [] ∧ Reps g F vs ds ∧ ∀ v ∈ vs, MsgW v := by
  induction h with
  | nil => intro ds e; cases e; exact ⟨rfl, .nil, fun v h => nomatch h⟩
  | @cons v vs r rs f fr h t ih =>
    intro ds e
    cases r with
    | d x =>
      unfold fmtRs at e
      split at e
      · next hx =>
        cases q : fmtRs rs with
        | none => rw [q] at e; cases e
        | some es =>
          rw [q] at e; cases e
          obtain ⟨h1, h2, h3⟩ := ih q
          obtain ⟨h4, h5⟩ := h
          refine ⟨by rw [h5, h1]; rfl, .cons h4 h2, fun u hu => ?_⟩
          rcases List.mem_cons.mp hu with z | z
          · rw [z]
            cases h4 with
            | int i => exact .inr ⟨i, rfl, hide_dec hx⟩
            | str hs => exact .inl ⟨_, rfl, hide_dec hx⟩
            | _ => cases hx
          · exact h3 u z
      · cases e
    | own o => cases e
    | pk o => cases e
theorem Reps.reverse {g : Wd} {F : Hp} : ∀ {vs : List V} {ds : List D}, Reps g F vs ds → Reps g F vs.reverse ds.reverse
  | _, _, .nil => .nil
  | _, _, .cons h t => by rw [List.reverse_cons, List.reverse_cons]; exact (Reps.reverse t).app (.cons h .nil)
section
variable {X : Cx} {W : WX} {e : Expr} {es : List Expr} {ms : List M} {x : Str} {ps : List Str} {p pos pc : Pos}
theorem ss_raiseA {k : Nat} (ce : ClsX X.prog X.K X.mg x ps) (hc : X.calm = true) (tk : L2N.Takes X W) (hr : Room (k + 1) X.A) (hg : Gl X x) (ha : SA X W (e :: es) ms)
    (hdb : (x == ("__debug__" : Str)) = false := by decide) (he : starEach (e :: es) X.env = (false, eval e X.env) :: starEach es X.env := by rfl) (hpl : (backTo pc (starEach es X.env)).any (·.1) = false := by rfl) :
    SS X W (.Raise (some (.Call (.Name x p) (e :: es) [] pc)) none pos) (mRaiseA x ps ms) := by
  obtain ⟨C, st, hC, XI, XS, hnf, hsup⟩ := ce.ex
  refine PS.wk (L2N.ps_raise hc tk (pmk_x hC XI XS hnf hsup hr hg ha hdb he hpl)) fun D σ H h => ?_
  refine tS_of h fun rs ρ1 vs F1 H1 fp1 fr1 st1 r1 n1 ob => ?_
  cases q : fmtRs rs with
  | none => rw [q] at ob; exact absurd rfl ob.no
  | some ds =>
    rw [q] at ob
    dsimp only at ob
    by_cases hl : ds.length = ps.length
    · rw [if_pos hl] at ob
      obtain ⟨rfl, hre, hms⟩ := r1.fmt q
      rw [plus_nil] at ob
      have hvl : vs.length = ps.length := hre.length.trans hl
      refine ⟨hvl, hms, fun d hd => ?_⟩
      have fd := fnone st1.sub hd
      refine ob.ex _ ρ1 rfl (.ref C) (some d) σ (upd F1 d (.xd (ps.zip vs).reverse)) (upd H1 d (.xd (ps.zip vs).reverse)) fp1 ⟨ext_upd fd, fun a o _ z => ext_upd hd a o z, fun a o z => ?_, fun a z => .inl z⟩
        (st1.grown (ext_upd fd) (ext_upd hd) (ext_upd2 st1.sub st1.sub) fun a ha => ?_) ⟨C, rfl, hC, .inr ⟨d, _, rfl, upd_same, ?_, ?_⟩⟩ (.refl _ _)
      · by_cases y : a = d
        · subst y; exact .inr (.inr (.inl hd))
        · rw [upd_ne y] at z; exact .inl z
      · have hne : a ≠ d := fun y => (st1.there ha).1 (by rw [y]; exact hd)
        rw [upd_ne hne]; exact (st1.there ha).2
      · rw [List.map_reverse]
        have e1 : (ps.zip vs).map (·.1) = ps := List.map_fst_zip (by rw [hvl]; exact Nat.le_refl _)
        exact congrArg List.reverse e1
      · rw [List.map_reverse]
        have e2 : (ps.zip vs).map (·.2) = vs := List.map_snd_zip (by rw [hvl]; exact Nat.le_refl _)
        rw [e2]
        exact (hre.mono (ext_upd fd)).reverse
    · rw [if_neg hl] at ob; exact absurd rfl ob.no
end
section
variable {X : Cx} {W : WX} {x : Str} {p pos pc : Pos}
end
end
def clsBody (s : Stmt) : List Stmt := match s with
  | .ClassDef _ _ _ b _ _ _ _ _ _ _ => b
  | _ => []
inductive MParts (ps : List Str) : List Expr → Prop
  | nil : MParts ps []
  | cons {e : Expr} {es : List Expr} (h : MPart ps e) (t : MParts ps es) : MParts ps (e :: es)
theorem MParts.all {ps : List Str} {es : List Expr} (h : MParts ps es) : ∀ e ∈ es, MPart ps e := by
  induction h with
  | nil => intro e h; cases h
  | cons h t ih =>
    intro e he
    rcases List.mem_cons.mp he with z | z
    · rw [z]; exact h
    · exact ih e z
theorem refs1 (a : Addr) : PySem.HandSPX.refsVE [.ref a, .type "ValueError", .type "Exception", .type "BaseException", .type "object"] = true := by
  show PySem.HandSPX.refsVE PySem.HandSPX.veTail = true
  decide +kernel
theorem Exm.of {K : PySem.W.Frag} {mg : Str → Option Value} {r c : Str} {b : Bool} {R C : Addr} (hr : mg r = some (.ref R)) (hc : mg c = some (.ref C)) (h1 : PySem.W.subIn K (.ref C) (.type "BaseException") = some true) (h2 : PySem.W.hasDictIn K C = true) (h3 : PySem.W.typeIn K (.ref C) = some (.type "type"))
    (h4 : PySem.W.subIn K (.ref R) (.ref C) = some b) : Exm K mg r c b := by
  have e1 : (PySem.W.subIn K (.ref C) (.type "BaseException") == some true) = true := by rw [h1] <;> rfl
  have e2 : ((PySem.W.clsIn K C).isSome && PySem.W.typeIn K (.ref C) == some (.type "type")) = true := by
    have hs : (PySem.W.clsIn K C).isSome = true := by
      unfold PySem.W.hasDictIn at h2
      cases z : PySem.W.clsIn K C with
      | none => rw [z] at h2; cases h2
      | some cd => rfl
    rw [hs, h3] <;> rfl
  refine ⟨⟨R, C, hr, hc, ?_⟩⟩
  show (if (PySem.W.subIn K (.ref C) (.type "BaseException") == some true) = true then (if ((PySem.W.clsIn K C).isSome && PySem.W.typeIn K (.ref C) == some (.type "type")) = true then PySem.W.subIn K (.ref R) (.ref C) else none) else none) = some b
  rw [if_pos e1, if_pos e2, h4]
end
end Mw
set_option Elab.async false
set_option linter.all false
set_option maxRecDepth 100000
set_option autoImplicit false
namespace Mw
open PySem PySem.Spec PyProof.Rows L2
noncomputable section
section
variable {X : Cx} {W : WX} {a b : Expr} {ma mb : M} {p p2 pos pos2 : Pos}
end
end
end Mw
set_option Elab.async false
set_option linter.all false
set_option maxRecDepth 100000
set_option autoImplicit false
namespace Mw
open PySem PySem.Spec PyProof.Rows L2
section
variable {X : Cx} {W : WX} {a b : Expr} {ma mb : M} {pos : Pos}
noncomputable section
end
end
end Mw
set_option Elab.async false
set_option linter.all false
set_option maxRecDepth 100000
set_option autoImplicit false
namespace Mw
open PySem PySem.Spec PyProof.Rows L2
noncomputable section
section
variable {X : Cx} {W : WX} {pos tpos p : Pos} {a b : Expr} {ma mb : M} {elts : List Expr} {kk : Nat}
end
end
end Mw
set_option Elab.async false
set_option linter.all false
set_option maxRecDepth 100000
set_option autoImplicit false
namespace Mw
open PySem PySem.Spec PyProof.Rows L2 PySem.W PySem.Calls
section
variable {prog : Program} {w : World} {A : Around} {E : Value → Shared → Prop} {s : Shared} {β : Type} {R : Value → β → Prop} {enc : β → PyData}
end
noncomputable section
open Classical in
open Classical in
open Classical in
section
variable {X : Cx} {W : WX} {a : Expr} {ma : M} {p pos : Pos}
end
end
end Mw
set_option Elab.async false
set_option linter.all false
set_option maxRecDepth 100000
set_option autoImplicit false
namespace Mw
open PySem PySem.Spec PyProof.Rows L2
section
variable {prog : Program} {w : World} {A : Around} {E : Value → Shared → Prop} {s : Shared}
end
section
variable {X : Cx} {W : WX} {a : Expr} {ma : M}
end
end Mw
set_option Elab.async false
set_option linter.all false
set_option maxRecDepth 100000
set_option autoImplicit false
namespace Mw
open PySem PySem.Spec PyProof.Rows L2
noncomputable section
section
variable {X : Cx} {W : WX} {pos pos1 p1 p2 p3 ap : Pos} {a : Expr} {ma : M}
end
end
end Mw
set_option Elab.async false
set_option linter.all false
set_option maxRecDepth 100000
set_option autoImplicit false
namespace Mw
open PySem PySem.Spec PyProof.Rows L2
section
variable {X : Cx} {W : WX} {c a b : Expr} {mc : MB} {ma mb : M} {pos p : Pos}
end
end Mw
set_option Elab.async false
set_option linter.all false
set_option maxRecDepth 100000
set_option autoImplicit false
namespace Mw
open PySem PySem.Spec PyProof.Rows L2
noncomputable section
theorem RepOs.app {g : Wd} {F H : Hp} : ∀ {vs ws : List V} {os us : List O} {fp fq : List Addr}, RepOs g F H vs os fp → RepOs g F H ws us fq → RepOs g F H (vs ++ ws) (os ++ us) (fp ++ fq)
  | _, _, _, _, _, _, .nil, r => r
  | _, _, _, _, _, _, .cons h t, r => by rw [List.append_assoc]; exact .cons h (RepOs.app t r)
end
end Mw
set_option Elab.async false
set_option linter.all false
set_option maxRecDepth 100000
set_option autoImplicit false
namespace Mw
open PySem PySem.Spec PyProof.Rows L2
noncomputable section
section
variable {X : Cx} {W : WX} {pos : Pos} {a b : Expr} {ma mb : M}
end
end
end Mw
set_option Elab.async false
set_option linter.all false
set_option maxRecDepth 100000
set_option autoImplicit false
namespace Mw
open PySem PySem.Spec PyProof.Rows L2
noncomputable section
section
variable {X : Cx} {W : WX} {pos : Pos} {a b c tg : Expr} {es : List Expr} {ma mb mc : M} {ms : List M} {st : Stmt} {sts : List Stmt} {m n : MS} {tc : MB} {t : Tg} {ts : List Tg} {mi : MI} {p ip kp : Pos}
end
end
end Mw
set_option Elab.async false
set_option linter.all false
set_option maxRecDepth 100000
set_option autoImplicit false
namespace Mw
open PySem PySem.Spec PyProof.Rows L2
noncomputable section
section
variable {X : Cx} {W : WX} {pos : Pos} {a b : Expr} {ma mb : M}
end
end
end Mw
set_option Elab.async false
set_option linter.all false
set_option maxRecDepth 100000
set_option autoImplicit false
namespace Mw
open PySem PySem.Spec PyProof.Rows L2
noncomputable section
section
variable {X : Cx} {W : WX} {pos : Pos} {a b c : Expr} {ma mb mc : M}
end
section
variable {X : Cx} {W : WX} {sts : List Stmt} {m : MS}
end
section
variable {X : Cx} {W : WX} {pos : Pos} {a b : Expr} {ma mb : M} {p ip : Pos}
end
end
end Mw
set_option Elab.async false
set_option linter.all false
set_option maxRecDepth 100000
set_option autoImplicit false
namespace Mw
open PySem PySem.Spec PyProof.Rows L2
section
variable {X : Cx} {W : WX} {a b : Expr} {ma mb : M} {pos : Pos}
noncomputable section
end
end
end Mw
set_option Elab.async false
set_option linter.all false
set_option maxRecDepth 100000
set_option autoImplicit false
namespace Mw
open PySem PySem.Spec PyProof.Rows L2
noncomputable section
section
variable {X : Cx} {W : WX} {a b : Expr} {ma mb : M} {pos : Pos}
end
end
end Mw
set_option Elab.async false
set_option linter.all false
set_option maxRecDepth 100000
set_option autoImplicit false
namespace Mw
open PySem PySem.Spec PyProof.Rows L2
noncomputable section
abbrev ND := List ((Int × Int) × ID)
def ndO (kv : ND) : O := .dct (.non :: kv.map fun p => k2 p.1) (kv.map fun p => idO p.2)
theorem idO_inj {a b : ID} (h : idO a = idO b) : a = b := by
  have := congrArg O.idd h
  rw [idd_idO, idd_idO] at this
  exact Option.some.inj this
theorem k2_inj {a b : Int × Int} (h : k2 a = k2 b) : a = b := by
  have := congrArg prK h
  rw [prK_k2, prK_k2] at this
  exact Option.some.inj this
theorem ndO_inj : ∀ {a b : ND}, ndO a = ndO b → a = b := by
  have key : ∀ {a b : ND}, (a.map fun p => k2 p.1) = (b.map fun p => k2 p.1) → (a.map fun p => idO p.2) = (b.map fun p => idO p.2) → a = b := by
    intro a
    induction a with
    | nil => intro b h _; cases b with
      | nil => rfl
      | cons => simp at h
    | cons p a ih => intro b h1 h2; cases b with
      | nil => simp at h1
      | cons q b =>
        rw [List.map_cons, List.map_cons] at h1 h2
        have e1 := k2_inj (List.cons.inj h1).1
        have e2 := idO_inj (List.cons.inj h2).1
        rw [ih (List.cons.inj h1).2 (List.cons.inj h2).2, Prod.ext e1 e2]
  intro a b h
  injection h with h1 h2
  exact key (List.cons.inj h1).2 h2
def O.nd (o : O) : Option ND := open Classical in if h : ∃ kv, o = ndO kv then some (Classical.choose h) else none
@[simp] theorem nd_ndO (kv : ND) : (ndO kv).nd = some kv := by
  unfold O.nd
  rw [dif_pos ⟨kv, rfl⟩]
  exact congrArg some (ndO_inj (Classical.choose_spec (⟨kv, rfl⟩ : ∃ z, ndO kv = ndO z))).symm
structure NDR (g : Wd) (F H : Hp) (kvs : List (List Key × V)) (kv : ND) (fe : List Addr) : Prop where
  ks : kvs.map (·.1) = kv.map (fun p => pairK p.1)
  vs : RepOs g F H (kvs.map (·.2)) (kv.map fun p => idO p.2) fe
theorem NDR.len {g : Wd} {F H : Hp} {kvs : List (List Key × V)} {kv : ND} {fe : List Addr} (h : NDR g F H kvs kv fe) : kvs.length = kv.length := by
  have := congrArg List.length h.ks
  simpa using this
theorem nd_keys : ∀ {kv : ND} {kvs : List (List Key × V)}, kvs.map (fun p => D.tup (p.1.map keyD)) = kv.map (fun p => k2 p.1) → kvs.map (·.1) = kv.map (fun p => pairK p.1)
  | [], [], _ => rfl
  | [], _ :: _, h => by simp at h
  | _ :: _, [], h => by simp at h
  | q :: kv, p :: kvs, h => by
    rw [List.map_cons, List.map_cons] at h ⊢
    have h := List.cons.inj h
    rw [keyD_pair h.1, nd_keys h.2]
theorem nd_keysR : ∀ {kv : ND} {kvs : List (List Key × V)}, kvs.map (·.1) = kv.map (fun p => pairK p.1) → kvs.map (fun p => D.tup (p.1.map keyD)) = kv.map (fun p => k2 p.1)
  | [], [], _ => rfl
  | [], _ :: _, h => by simp at h
  | _ :: _, [], h => by simp at h
  | q :: kv, p :: kvs, h => by
    rw [List.map_cons, List.map_cons] at h ⊢
    have h := List.cons.inj h
    rw [h.1, nd_keysR h.2]; rfl
theorem RepO.nd {g : Wd} {F H : Hp} {v : V} {kv : ND} {fp : List Addr} (h : RepO g F H v (ndO kv) fp) : ∃ a kvs fe, v = .ref a ∧ fp = a :: fe ∧ H a = some (.dT kvs) ∧ NDR g F H kvs kv fe := by
  unfold ndO at h
  cases h with
  | @dk a kvs ks os fp h hk r =>
    cases kvs with
    | nil => cases hk
    | cons p kvs =>
      have this : keyD p.1 = .non := (List.cons.inj hk).1
      cases e : p.1 <;> rw [e] at this <;> cases this
  | @dt a kvs ks os fp h hk r => exact ⟨a, kvs, fp, rfl, rfl, h, nd_keys (List.cons.inj hk).2, r⟩
theorem NDR.rep {g : Wd} {F H : Hp} {a : Addr} {kvs : List (List Key × V)} {kv : ND} {fe : List Addr} (h : NDR g F H kvs kv fe) (e : H a = some (.dT kvs)) : RepO g F H (.ref a) (ndO kv) (a :: fe) := .dt e (by rw [nd_keysR h.ks]) h.vs
theorem NDR.mono {g : Wd} {F F' H H' : Hp} {kvs : List (List Key × V)} {kv : ND} {fe : List Addr} (h : NDR g F H kvs kv fe) (e : Ext F F') (k : ∀ a ∈ fe, ∀ u, H a = some u → H' a = some u) : NDR g F' H' kvs kv fe := ⟨h.ks, h.vs.mono e k⟩
theorem NDR.get {g : Wd} {F H : Hp} : ∀ {kv : ND} {kvs : List (List Key × V)} {fe : List Addr}, NDR g F H kvs kv fe → ∀ {k : Int × Int} {x : ID}, tget kv k = some x → ∃ v f, valV kvs (pairK k) = some v ∧ RepO g F H v (idO x) f
  | [], kvs, fe, h, k, x, e => by cases e
  | q :: kv, [], fe, h, k, x, e => by have := h.ks; simp at this
  | q :: kv, p :: kvs, fe, h, k, x, e => by
    have hk := h.ks
    rw [List.map_cons, List.map_cons] at hk
    have hk := List.cons.inj hk
    have hv := h.vs
    rw [List.map_cons, List.map_cons] at hv
    cases hv with
    | cons a t =>
      by_cases c : q.1 = k
      · have : tget (q :: kv) k = some q.2 := by simp [tget, List.find?_cons, c]
        rw [this] at e; cases e
        exact ⟨p.2, _, valV_pos (by rw [hk.1, c]), a⟩
      · have : tget (q :: kv) k = tget kv k := by simp [tget, List.find?_cons, c]
        rw [this] at e
        obtain ⟨v, f, h1, h2⟩ := NDR.get ⟨hk.2, t⟩ e
        exact ⟨v, f, by rw [valV_neg (fun z => c (pairK_inj (by rw [← hk.1, z]))), h1], h2⟩
theorem NDR.none {g : Wd} {F H : Hp} : ∀ {kv : ND} {kvs : List (List Key × V)} {fe : List Addr}, NDR g F H kvs kv fe → ∀ {k : Int × Int}, tget kv k = none → valV kvs (pairK k) = none ∧ (kvs.any fun p => decide (p.1 = pairK k)) = false
  | [], [], fe, h, k, e => ⟨rfl, rfl⟩
  | [], p :: kvs, fe, h, k, e => by have := h.ks; simp at this
  | q :: kv, [], fe, h, k, e => by have := h.ks; simp at this
  | q :: kv, p :: kvs, fe, h, k, e => by
    have hk := h.ks
    rw [List.map_cons, List.map_cons] at hk
    have hk := List.cons.inj hk
    have hv := h.vs
    rw [List.map_cons, List.map_cons] at hv
    cases hv with
    | cons a t =>
      by_cases c : q.1 = k
      · have : tget (q :: kv) k = some q.2 := by simp [tget, List.find?_cons, c]
        rw [this] at e; cases e
      · have : tget (q :: kv) k = tget kv k := by simp [tget, List.find?_cons, c]
        rw [this] at e
        have ne : p.1 ≠ pairK k := fun z => c (pairK_inj (by rw [← hk.1, z]))
        obtain ⟨h1, h2⟩ := NDR.none ⟨hk.2, t⟩ e
        exact ⟨by rw [valV_neg ne, h1], by rw [List.any_cons, decide_eq_false ne, h2]; rfl⟩
theorem NDR.snoc {g : Wd} {F H : Hp} {kvs : List (List Key × V)} {kv : ND} {fe f : List Addr} {y : V} {x : ID} (h : NDR g F H kvs kv fe) (k : Int × Int) (r : RepO g F H y (idO x) f) : NDR g F H (kvs ++ [(pairK k, y)]) (kv ++ [(k, x)]) (fe ++ f) := by
  refine ⟨by rw [List.map_append, List.map_append, h.ks]; rfl, ?_⟩
  rw [List.map_append, List.map_append]
  exact RepOs.snoc h.vs r
theorem Stt.chgO {g : Wd} {F H H' : Hp} {σ : L2.St} {ρ : Ro} {fp : Nat → List Addr} (st : Stt g F H σ ρ fp) {i : Nat} {b : Bool} {o o' : O} (e : ρ[i]? = some (.mu b o)) {v : V} (ev : σ[i]? = some (some v)) {f fo : List Addr} (ho : ∀ a ∈ fo, F a = none ∧ ¬ Own fp a)
    (keep : ∀ a u, a ∉ fp i → H a = some u → H' a = some u) (r : RepO g F H' v o' f) (nd : f.Nodup) (fr : ∀ a ∈ f, a ∈ fp i ∨ a ∈ fo) :
    ∃ fp', Stt g F H' σ (ρ.set i (.mu b o')) fp' ∧ Step F H (Plus (Own fp) fo) F H' (Own fp') := by
  have hi : i < ρ.length := (List.getElem?_eq_some_iff.mp e).1
  have nf : ∀ a ∈ f, F a = none := fun a ha => by
    rcases fr a ha with z | z
    · exact st.fre i a z
    · exact (ho a z).1
  have nj : ∀ j, j ≠ i → ∀ a ∈ f, a ∉ fp j := fun j hj a ha hb => by
    rcases fr a ha with z | z
    · exact hj (st.dis j i a hb z)
    · exact (ho a z).2 ⟨j, hb⟩
  have sub' : Ext F H' := fun a u h => keep a u (fun z => by rw [st.fre i a z] at h; cases h) (st.sub a u h)
  refine ⟨fun k => if k = i then f else fp k, ⟨sub', by simp [st.len], fun j hj => ?_, fun j d hd => ?_, fun j b' o1 ho => ?_, fun j => ?_, fun j k a ha hb => ?_, fun j a ha => ?_, fun j x hx => ?_⟩, ⟨.refl F, fun a u hs h => keep a u (fun z => hs (.inl ⟨i, z⟩)) h, fun a o h => .inl h, fun a ⟨j, ha⟩ => ?_⟩⟩
  · try dsimp only
    split
    · next z => subst z; exact absurd (by rw [List.getElem?_set]; simp [hi]) (hj b o')
    · next z => exact st.un j fun b o q => hj b o (by rw [List.getElem?_set, if_neg fun y => z y.symm]; exact q)
  · rcases set_get hd with ⟨rfl, z, _⟩ | ⟨ne, hd⟩
    · cases z
    · exact st.shr j d hd
  · rcases set_get ho with ⟨rfl, z, _⟩ | ⟨ne, ho⟩
    · cases z
      (try dsimp only); rw [if_pos rfl]; exact ⟨v, ev, r⟩
    · (try dsimp only); rw [if_neg fun z => ne z.symm]
      obtain ⟨w, ew, rw'⟩ := st.mu j b' o1 ho
      exact ⟨w, ew, rw'.mono (.refl F) fun a ha u h => keep a u (fun z => ne (st.dis i j a z ha)) h⟩
  · (try dsimp only); split
    · exact nd
    · exact st.nd j
  · try dsimp only at ha hb
    split at ha <;> split at hb
    · next e1 e2 => exact e1.trans e2.symm
    · next e1 e2 => exact absurd hb (nj k e2 a ha)
    · next e1 e2 => exact absurd ha (nj j e1 a hb)
    · exact st.dis j k a ha hb
  · try dsimp only at ha
    split at ha
    · exact nf a ha
    · exact st.fre j a ha
  · rcases set_get hx with ⟨rfl, z, _⟩ | ⟨ne, hx⟩
    · cases z
    · exact st.xc j x hx
  · try dsimp only at ha
    split at ha
    · rcases fr a ha with z | z
      · exact .inl (.inl ⟨i, z⟩)
      · exact .inl (.inr z)
    · exact .inl (.inl ⟨j, ha⟩)
end
end Mw
set_option Elab.async false
set_option linter.all false
set_option maxRecDepth 100000
set_option autoImplicit false
namespace Mw
open PySem PySem.Spec PyProof.Rows L2
noncomputable section
section
variable {X : Cx} {W : WX} {pos : Pos} {a b c tg : Expr} {es : List Expr} {ma mb mc : M} {ms : List M} {p ip kp : Pos}
end
end
end Mw
set_option Elab.async false
set_option linter.all false
set_option maxRecDepth 100000
set_option autoImplicit false
namespace Mw
open PySem PySem.Spec PyProof.Rows L2
noncomputable section
structure FnQ (P : Program) (w : World) (K : PySem.W.Frag) (mg : Str → Option Value) (base : Heap) (CX : CXT) (k : Nat) (f : Addr) (fd : FuncData) (ps : List Str) (sp : Sp) : Prop where
  len : ∀ vs H Q E, sp vs H Q E → vs.length = ps.length
  run : ∀ (A : Around) (outer : List Env) (s : Shared) (H : Hp) (args : Args) (us : List Value) (vs : List V) (Q : VK) (E : XK) (p : Addr × Obj), L2H.RoomH k A → L2H.Hot1 A p → L2H.PinOk outer H s p → Env0 P w K mg base A outer s H → BindsTo s fd args (ps.zip us) → Vals vs us → sp vs H Q E →
    codeAny (model P w) A (.call (.ref f) args) (CR CX outer P w H s Q E) s
structure KpQ (P : Program) (w : World) (K : PySem.W.Frag) (mg : Str → Option Value) (base : Heap) (k : Nat) (x : Str) (n : Nat) (f : Fn) : Prop where
  ex : ∃ fa fd ps, FnQ P w K mg base (L2N.CX P w) k fa fd ps (spF (.m K mg) n f) ∧ Binds K fd ps [] ∧ mg x = some (.ref fa) ∧ PySem.W.keepIn K (.ref fa) = true
theorem FnQ.mono {P : Program} {w : World} {K : PySem.W.Frag} {mg : Str → Option Value} {base : Heap} {CX : CXT} {j k : Nat} {f : Addr} {fd : FuncData} {ps : List Str} {sp : Sp} (h : FnQ P w K mg base CX j f fd ps sp) (l : j ≤ k) : FnQ P w K mg base CX k f fd ps sp :=
  ⟨h.len, fun A outer s H args us vs Q E p hr => h.run A outer s H args us vs Q E p (hr.mono l)⟩
theorem KpQ.mono {P : Program} {w : World} {K : PySem.W.Frag} {mg : Str → Option Value} {base : Heap} {j k : Nat} {x : Str} {n : Nat} {f : Fn} (h : KpQ P w K mg base j x n f) (l : j ≤ k) : KpQ P w K mg base k x n f := by
  obtain ⟨fa, fd, ps, h1, h2⟩ := h.ex
  exact ⟨fa, fd, ps, h1.mono l, h2⟩
section
variable {X : Cx} {W : WX} {pos : Pos} {a b c : Expr} {es : List Expr} {ma mb mc : M} {as : List Ar} {x : Str} {q : Pos} {E : L2.St → XK} {t : TA} {CX : CXT} {k : Nat} {f : Addr} {fd : FuncData} {ps : List Str} {sp : Sp} {e : Expr}
end
end
end Mw
set_option Elab.async false
set_option linter.all false
set_option maxRecDepth 100000
set_option autoImplicit false
namespace Mw
open PySem PySem.Spec PyProof.Rows L2
noncomputable section
structure ClO (K : PySem.W.Frag) (mg : Str → Option Value) (c : Str) (ns : List Str) : Prop where
  ex : ∃ C, mg c = some (.ref C) ∧ Cls K C ∧ ∀ f ∈ ns, NoAttr K C f
theorem lookup_at {f : Str} {v : V} : ∀ {fs : List (Str × V)} {j : Nat}, (fs.map (·.1)).Nodup → (fs.map (·.1))[j]? = some f → (fs.map (·.2))[j]? = some v → fs.lookup f = some v
  | [], j, _, h, _ => by simp at h
  | (g, x) :: fs, 0, _, h, h2 => by
    simp at h h2
    subst h h2
    have hb : (g == g) = true := beq_iff_eq.mpr rfl
    simp only [List.lookup, hb]
  | (g, x) :: fs, j + 1, nd, h, h2 => by
    have nd := List.nodup_cons.mp nd
    have h : (fs.map (·.1))[j]? = some f := by simpa using h
    have h2 : (fs.map (·.2))[j]? = some v := by simpa using h2
    have hb : (f == g) = false := beq_eq_false_iff_ne.mpr fun e => nd.1 (by subst e; exact List.mem_of_getElem? h)
    simp only [List.lookup, hb]
    exact lookup_at nd.2 h h2
theorem lookup_out {f : Str} : ∀ {fs : List (Str × V)}, f ∉ fs.map (·.1) → fs.lookup f = none
  | [], _ => rfl
  | (g, x) :: fs, h => by
    have hb : (f == g) = false := beq_eq_false_iff_ne.mpr fun e => h (by subst e; simp)
    simp only [List.lookup, hb]
    exact lookup_out fun z => h (by simp only [List.map_cons, List.mem_cons]; exact .inr z)
theorem putF_at {f : Str} {v : V} : ∀ {fs : List (Str × V)} {j : Nat}, (fs.map (·.1)).Nodup → (fs.map (·.1))[j]? = some f → (putF f v fs).map (·.1) = fs.map (·.1) ∧ (putF f v fs).map (·.2) = (fs.map (·.2)).set j v
  | [], j, _, h => by simp at h
  | (g, x) :: fs, 0, _, h => by
    have h : g = f := by simpa using h
    subst h
    rw [show putF g v ((g, x) :: fs) = (g, v) :: fs from if_pos rfl]
    exact ⟨rfl, rfl⟩
  | (g, x) :: fs, j + 1, nd, h => by
    have nd := List.nodup_cons.mp nd
    have h : (fs.map (·.1))[j]? = some f := by simpa using h
    have hne : ¬ g = f := fun e => nd.1 (by subst e; exact List.mem_of_getElem? h)
    obtain ⟨h1, h2⟩ := putF_at (v := v) nd.2 h
    rw [show putF f v ((g, x) :: fs) = (g, x) :: putF f v fs from if_neg hne]
    exact ⟨by rw [List.map_cons, h1]; rfl, by rw [List.map_cons, h2]; rfl⟩
theorem putF_new {f : Str} {v : V} : ∀ {fs : List (Str × V)}, f ∉ fs.map (·.1) → putF f v fs = fs ++ [(f, v)]
  | [], _ => rfl
  | (g, x) :: fs, h => by
    have hne : ¬ g = f := fun e => h (by subst e; simp)
    rw [show putF f v ((g, x) :: fs) = (g, x) :: putF f v fs from if_neg hne, putF_new fun z => h (by simp only [List.map_cons, List.mem_cons]; exact .inr z)]
    rfl
def lFld (c : Str) (ns : List Str) (j : Nat) : R → Option R
  | .pk (.obj c' ns' os) => if c' = c ∧ ns' = ns then (os[j]?).map O.r else none
  | .d (.obj c' ns' ds) => if c' = c ∧ ns' = ns then (ds[j]?).map R.d else none
  | _ => none
section
variable {X : Cx} {W : WX} {pos : Pos} {a b e value : Expr} {es : List Expr} {ma mb mc : M} {ms : List M} {c f : Str} {ns all : List Str}
theorem l_fld (T : ClO X.K X.mg c all) (hf : f ∈ all) (hn : ns.Nodup) {j : Nat} (hj : ns[j]? = some f) : LOk1 (gOf X) (lFld c ns j) (fun x H Q => ∃ a C dx fs v, x = .ref a ∧ H a = some (.ins C dx fs) ∧ Cls X.K C ∧ NoAttr X.K C f ∧ fs.lookup f = some v ∧ Q v H) := by
  obtain ⟨C, hC, cl, na⟩ := T.ex
  intro F H S x p fr Q r l
  obtain ⟨rr, e⟩ := l.has
  unfold lFld at e
  split at e
  · next c' ns' os =>
    split at e
    · next hc =>
      obtain ⟨rfl, rfl⟩ := hc
      obtain ⟨fr0, fp, r⟩ := r
      cases r with
      | @obj a C' dx fs _ _ _ fp' hc h hd hn' r =>
        have hc : X.mg c' = some (.ref C') := hc
        rw [hC] at hc; cases hc
        cases eo : os[j]? with
        | none => rw [eo] at e; cases e
        | some o =>
          obtain ⟨v, f', hv, ro⟩ := r.get eo
          refine ⟨a, C, dx, fs, v, rfl, h, cl, na f hf, lookup_at (by rw [hn']; exact hn) (by rw [hn']; exact hj) hv, l.pk (o := o) ?_ ro⟩
          show (if _ then _ else _) = _
          rw [if_pos ⟨rfl, rfl⟩, eo]; rfl
    · cases e
  · next c' ns' ds =>
    split at e
    · next hc =>
      obtain ⟨rfl, rfl⟩ := hc
      obtain ⟨r, fr0⟩ := r
      cases r with
      | @obj a C' dx fs _ _ _ hc h hd hn' r =>
        have hc : X.mg c' = some (.ref C') := hc
        rw [hC] at hc; cases hc
        cases eo : ds[j]? with
        | none => rw [eo] at e; cases e
        | some d =>
          obtain ⟨v, hv, ro⟩ := r.get eo
          refine ⟨a, C, dx, fs, v, rfl, l.sub _ _ h, cl, na f hf, lookup_at (by rw [hn']; exact hn) (by rw [hn']; exact hj) hv, l.val (d := d) ?_ ro⟩
          show (if _ then _ else _) = _
          rw [if_pos ⟨rfl, rfl⟩, eo]; rfl
    · cases e
  · cases e
theorem s_fld (T : ClO X.K X.mg c all) (ha : SE X W e ma) (hf : f ∈ all := by decide +kernel) (hn : ns.Nodup := by decide +kernel) {j : Nat} (hj : ns[j]? = some f := by rfl) (hb : attributeBase e f X.env (eval e X.env) = eval e X.env := by rfl) :
    SE X W (.Attribute e f pos) (m1 (lFld c ns j) ma) :=
  PE.wk (pe_fld ha hb) fun σ H Q h => tM_m1 (l_fld T hf hn hj) h
def R.ob : R → Option O
  | .d x => some (.d x)
  | .own o => some o
  | .pk _ => none
theorem RepR.ob {g : Wd} {F H : Hp} {S : Addr → Prop} {v : V} {r : R} {fr : List Addr} (h : RepR g F H S v r fr) {o : O} (e : r.ob = some o) : RepO g F H v o fr := by
  cases r with
  | d x => cases e; obtain ⟨h, rfl⟩ := h; exact .d h
  | own o' => cases e; exact h.1
  | pk o' => cases e
theorem RepOs.setO {g : Wd} {F H : Hp} {v : V} {o : O} {f : List Addr} (r : RepO g F H v o f) (hf : f.Nodup) : ∀ {vs : List V} {os : List O} {fp : List Addr} (j : Nat), RepOs g F H vs os fp → j < os.length → fp.Nodup → (∀ a ∈ f, a ∉ fp) → ∃ fp', RepOs g F H (vs.set j v) (os.set j o) fp' ∧ fp'.Nodup ∧ ∀ a ∈ fp', a ∈ fp ∨ a ∈ f
  | _, _, _, j, .nil, hj, _, _ => by simp at hj
  | _, _, _, 0, .cons (f := f0) (fp := fp) h t, _, nd, hd => by
    have nd2 := List.nodup_append.mp nd
    refine ⟨f ++ fp, .cons r t, List.nodup_append.mpr ⟨hf, nd2.2.1, fun a ha b hb e => hd a ha (by rw [e]; exact List.mem_append_right _ hb)⟩, fun a ha => ?_⟩
    rcases List.mem_append.mp ha with z | z
    · exact .inr z
    · exact .inl (List.mem_append_right _ z)
  | _, _, _, j + 1, .cons (f := f0) (fp := fp) h t, hj, nd, hd => by
    have nd2 := List.nodup_append.mp nd
    obtain ⟨fp', r', n', s'⟩ := RepOs.setO r hf j t (by simpa using hj) nd2.2.1 fun a ha z => hd a ha (List.mem_append_right _ z)
    refine ⟨f0 ++ fp', .cons h r', List.nodup_append.mpr ⟨nd2.1, n', fun a ha b hb e => ?_⟩, fun a ha => ?_⟩
    · rcases s' b hb with z | z
      · exact nd2.2.2 a ha b z e
      · exact hd b z (by rw [← e]; exact List.mem_append_left _ ha)
    · rcases List.mem_append.mp ha with z | z
      · exact .inl (List.mem_append_left _ z)
      · exact (s' a z).imp (List.mem_append_right _) id
def setAt (ρ : Ro) (i : Nat) (c : Str) (ns : List Str) (j : Nat) (f : Str) (o : O) : Option Ro := match ρ[i]? with
  | some (.mu b (.obj c' ns' os)) => if c' = c ∧ ns' = ns ∧ os.length = ns.length ∧ ns.length < 500 then
      (if j < ns.length then some (ρ.set i (.mu b (.obj c ns (os.set j o)))) else some (ρ.set i (.mu b (.obj c (ns ++ [f]) (os ++ [o]))))) else none
  | _ => none
def isMuA (ρ : Ro) (i : Nat) : Bool := match ρ[i]? with
  | some (.mu _ _) => true
  | _ => false
def mFput (i : Nat) (c : Str) (ns : List Str) (j : Nat) (f : Str) (m : M) : MS := fun ρ => if isMuA ρ i = true then (m ρ).stm fun r ρ' => match r.ob with
  | some o => match setAt ρ' i c ns j f o with
    | some ρ2 => .nx ρ2
    | none => .no
  | none => .no
  else .no
theorem ss_fput {i : Nat} {x : Str} {p pos' : Pos} {j : Nat} (T : ClO X.K X.mg c all) (hN : X.N[i]? = some x) (hv : Vis X.env.scope x) (ha : SE X W value ma) (hj : if j < ns.length then ns[j]? = some f else f ∉ ns) (hf : f ∈ all := by decide +kernel) (hn : ns.Nodup := by decide +kernel)
    (hd : (x == ("__debug__" : Str)) = false := by decide) (hcd : (x == ("__classdict__" : Str)) = false := by decide)
    (hs : swapsWith value (some (.Attribute (.Name x p) f pos')) pos.line X.env = pure false := by rfl) :
    SS X W (.Assign [.Attribute (.Name x p) f pos'] value pos) (mFput i c ns j f ma) :=
  PS.wk (ps_fld (pe_var hN hv hd hcd) ha hs) fun D σ H h => by
    obtain ⟨C, hC, cl, na⟩ := T.ex
    obtain ⟨F, ρ, fp, st, ob⟩ := h
    have ob : ObS (gOf X) W ρ σ F H (Own fp) (if isMuA ρ i = true then _ else _) D := ob
    by_cases hl : isMuA ρ i = true
    · rw [if_pos hl] at ob
      obtain ⟨b, o, e⟩ : ∃ b o, ρ[i]? = some (.mu b o) := by
        unfold isMuA at hl
        split at hl
        · next b os e => exact ⟨b, os, e⟩
        · cases hl
      obtain ⟨v, ev, _⟩ := st.mu i b _ e
      refine tS_of (m := ma) (RR := RepR (gOf X)) (k := fun r ρ' => match r.ob with
        | some o => match setAt ρ' i c ns j f o with
          | some ρ2 => .nx ρ2
          | none => .no
        | none => .no) (D := D) ⟨F, ρ, fp, st, ob⟩ fun r ρ1 y F1 H1 fp1 fr1 st1 r1 n1 ob1 => ?_
      cases eb : r.ob with
      | none => rw [eb] at ob1; exact absurd rfl ob1.no
      | some o1 =>
        rw [eb] at ob1
        dsimp only at ob1
        have ro := r1.ob eb
        have hout := r1.out
        unfold setAt at ob1
        split at ob1
        · next ρ2 e2 =>
          split at e2
          · next b2 c' ns' os e3 =>
            split at e2
            · next hc =>
              obtain ⟨rfl, rfl, hlen, hl500⟩ := hc
              obtain ⟨v2, ev2, r2⟩ := st1.mu i b2 _ e3
              rw [ev] at ev2; cases ev2
              obtain ⟨f1, hf1⟩ : ∃ f, f = fp1 i := ⟨_, rfl⟩
              have nd1 := st1.nd i
              rw [← hf1] at r2 nd1
              cases r2 with
              | @obj a C' dx fs _ _ _ fe hc h hd hn' rs =>
                have hc : X.mg c' = some (.ref C') := hc
                rw [hC] at hc; cases hc
                have nda := List.nodup_cons.mp nd1
                have ndd := List.nodup_cons.mp nda.2
                have hne : dx ≠ a := fun z => nda.1 (by rw [← z]; simp)
                have hfl : fs.length < 1000 := by have := congrArg List.length hn'; rw [List.length_map] at this; omega
                have ofp : ∀ z ∈ fr1, z ∉ a :: dx :: fe := fun z hz q => (hout z hz).2.1 ⟨i, by rw [← hf1]; exact q⟩
                have noa : ∀ z ∈ fe, z ≠ a := fun z hz q => nda.1 (by rw [← q]; exact List.mem_cons_of_mem _ hz)
                have noa2 : ∀ z ∈ fr1, z ≠ a := fun z hz q => ofp z hz (by rw [q]; simp)
                have up : ∀ (L : List Addr), (∀ z ∈ L, z ≠ a) → ∀ z ∈ L, ∀ u, H1 z = some u → upd H1 a (.ins C dx (putF f y fs)) z = some u := fun L hL z hz u hu => by rw [upd_ne (hL z hz)]; exact hu
                have rs2 : RepOs (gOf X) F1 (upd H1 a (.ins C dx (putF f y fs))) (fs.map (·.2)) os fe := rs.mono (.refl F1) (up fe noa)
                have ro2 : RepO (gOf X) F1 (upd H1 a (.ins C dx (putF f y fs))) y o1 fr1 := ro.mono (.refl F1) (up fr1 noa2)
                refine ⟨.ref a, ev, a, C, dx, fs, rfl, h, cl, na f hf, hfl, ?_⟩
                have fin : ∀ (ns2 : List Str) (os2 : List O) (fe2 : List Addr), ρ2 = ρ1.set i (.mu b2 (.obj c' ns2 os2)) → (putF f y fs).map (·.1) = ns2 → RepOs (gOf X) F1 (upd H1 a (.ins C dx (putF f y fs))) ((putF f y fs).map (·.2)) os2 fe2 → fe2.Nodup → (∀ z ∈ fe2, z ∈ fe ∨ z ∈ fr1) → D.nx σ (upd H1 a (.ins C dx (putF f y fs))) := by
                  intro ns2 os2 fe2 e4 h1 h2 h3 h4
                  have hin : ∀ z ∈ fe2, z ≠ a ∧ z ≠ dx := fun z hz => by
                    rcases h4 z hz with q | q
                    · exact ⟨noa z q, fun y => ndd.1 (y ▸ q)⟩
                    · exact ⟨noa2 z q, fun y => ofp z q (by rw [y]; simp)⟩
                  obtain ⟨fp3, st3, sp3⟩ := st1.chgO (H' := upd H1 a (.ins C dx (putF f y fs))) e3 ev (o' := .obj c' ns2 os2) (f := a :: dx :: fe2) (fo := fr1) (fun z hz => ⟨(hout z hz).1, (hout z hz).2.1⟩) (fun z u hz hu => by
                    rw [upd_ne fun q => hz (by rw [← hf1, q]; simp)]; exact hu)
                    (.obj hC upd_same (by rw [upd_ne hne]; exact hd) h1 h2) (List.nodup_cons.mpr ⟨fun q => by
                      rcases List.mem_cons.mp q with q | q
                      · exact hne q.symm
                      · exact (hin a q).1 rfl, List.nodup_cons.mpr ⟨fun q => (hin dx q).2 rfl, h3⟩⟩) fun z hz => by
                      rw [← hf1]
                      rcases List.mem_cons.mp hz with q | q
                      · exact .inl (by rw [q]; simp)
                      · rcases List.mem_cons.mp q with q | q
                        · exact .inl (by rw [q]; simp)
                        · exact (h4 z q).imp (fun q => List.mem_cons_of_mem _ (List.mem_cons_of_mem _ q)) id
                  subst e4
                  exact ob1.nx _ rfl σ _ _ fp3 sp3 st3 (.chg e3)
                have ndn : (fs.map (·.1)).Nodup := by rw [hn']; exact hn
                split at e2
                · next hjl =>
                  cases e2
                  rw [if_pos hjl] at hj
                  obtain ⟨p1, p2⟩ := putF_at (v := y) ndn (by rw [hn']; exact hj)
                  obtain ⟨fe2, r3, n3, s3⟩ := RepOs.setO ro2 n1 j rs2 (by omega) ndd.2 fun z hz q => ofp z hz (List.mem_cons_of_mem _ (List.mem_cons_of_mem _ q))
                  exact fin _ _ fe2 rfl (p1.trans hn') (by rw [p2]; exact r3) n3 s3
                · next hjl =>
                  cases e2
                  rw [if_neg hjl] at hj
                  have p1 := putF_new (v := y) (fs := fs) (f := f) (by rw [hn']; exact hj)
                  refine fin _ _ (fe ++ fr1) rfl (by rw [p1, List.map_append, hn']; rfl) ?_ (List.nodup_append.mpr ⟨ndd.2, n1, fun z hz w hw q => ofp w hw (by rw [← q]; exact List.mem_cons_of_mem _ (List.mem_cons_of_mem _ hz))⟩) fun z hz => List.mem_append.mp hz
                  have := RepOs.snoc rs2 ro2
                  rw [show (putF f y fs).map (·.2) = fs.map (·.2) ++ [y] by rw [p1, List.map_append]; rfl]
                  exact this
            · cases e2
          · cases e2
        · exact absurd rfl ob1.no
    · rw [if_neg hl] at ob; exact absurd rfl ob.no
end
end
end Mw
set_option Elab.async false
set_option linter.all false
set_option maxRecDepth 100000
set_option autoImplicit false
namespace Mw
open PySem PySem.Spec PyProof.Rows L2
noncomputable section
def fapAt (ρ : Ro) (i : Nat) (c : Str) (ns : List Str) (j : Nat) (x : D) : Option Ro := match ρ[i]? with
  | some (.mu b (.obj c' ns' os)) => if c' = c ∧ ns' = ns then (match os[j]? with
    | some (.lst inn) => if lenOk (inn.length + 1) = true then some (ρ.set i (.mu b (.obj c ns (os.set j (.lst (inn ++ [.d x])))))) else none
    | _ => none) else none
  | _ => none
def isFl (ρ : Ro) (i : Nat) (c : Str) (ns : List Str) (j : Nat) : Bool := match ρ[i]? with
  | some (.mu _ (.obj c' ns' os)) => if c' = c ∧ ns' = ns then (match os[j]? with
    | some (.lst _) => true
    | _ => false) else false
  | _ => false
def mFapp (i : Nat) (c : Str) (ns : List Str) (j : Nat) (m : M) : M := fun ρ => if isFl ρ i c ns j = true then (m ρ).bind fun r ρ' q => if q = true then (match r.st with
  | some x => match fapAt ρ' i c ns j x with
    | some ρ2 => .ok (.d .non) ρ2 false
    | none => .no
  | none => .no) else .no
  else .no
theorem isFl_of {ρ : Ro} {i : Nat} {c : Str} {ns : List Str} {j : Nat} (h : isFl ρ i c ns j = true) : ∃ b os inn, ρ[i]? = some (.mu b (.obj c ns os)) ∧ os[j]? = some (.lst inn) := by
  unfold isFl at h
  split at h
  · next b c' ns' os e =>
    split at h
    · next hc =>
      obtain ⟨rfl, rfl⟩ := hc
      split at h
      · next inn e2 => exact ⟨_, os, inn, e, e2⟩
      · cases h
    · cases h
  · cases h
section
variable {X : Cx} {W : WX} {pos : Pos} {a b e value : Expr} {es : List Expr} {ma mb mc : M} {ms : List M} {c f : Str} {ns all : List Str} {p ip apos : Pos}
theorem s_fapp {i : Nat} {x : Str} {j : Nat} (T : ClO X.K X.mg c all) (hN : X.N[i]? = some x) (hv : Vis X.env.scope x) (ha : SE X W a ma) (hf : f ∈ all := by decide +kernel) (hn : ns.Nodup := by decide +kernel) (hj : ns[j]? = some f := by rfl)
    (hd : (x == ("__debug__" : Str)) = false := by decide) (hcd : (x == ("__classdict__" : Str)) = false := by decide)
    (hb : attributeBase (.Name x p) f X.env (eval (.Name x p) X.env) = eval (.Name x p) X.env := by rfl)
    (hbase : attributeBase (.Attribute (.Name x p) f ip) "append" X.env (eval (.Attribute (.Name x p) f ip) X.env) = eval (.Attribute (.Name x p) f ip) X.env := by rfl)
    (hfew : ((backTo pos (starEach (a :: []) X.env)).all (fun x => !x.1) && (backToKw pos (keywordEach [] X.env)).all (fun x => x.1.isSome)
      && decide ((a :: ([] : List Expr)).length + ([] : List Keyword).length + (if ([] : List Keyword).isEmpty then 0 else 1) < 30)) = true := by rfl)
    (hline : (apos.endLine == pos.line) = true := by rfl) (hs : starEach (a :: []) X.env = (false, eval a X.env) :: starEach [] X.env := by rfl) :
    SE X W (.Call (.Attribute (.Attribute (.Name x p) f ip) "append" apos) [a] [] pos) (mFapp i c ns j ma) :=
  PE.wk (pe_bm PySem.F.plainAttrs_list PySem.F.slot_list_append PySem.F.type_list_append mt_append (pe_fld (pe_var hN hv hd hcd) hb) (pa_cons ha pa_nil hs) hbase hfew hline hs rfl) fun σ H Q h => by
    obtain ⟨C, hC, cl, na⟩ := T.ex
    obtain ⟨F, ρ, fp, st, ob⟩ := h
    have ob : Ob (gOf X) W σ F H (Own fp) (Zq H ρ) (RepR (gOf X)) (if isFl ρ i c ns j = true then _ else _) Q := ob
    by_cases hl : isFl ρ i c ns j = true
    · rw [if_pos hl] at ob
      obtain ⟨b, os, inn, e, ei⟩ := isFl_of hl
      obtain ⟨v, ev, r⟩ := st.mu i b _ e
      obtain ⟨f0, hf0⟩ : ∃ f, f = fp i := ⟨_, rfl⟩
      rw [← hf0] at r
      cases r with
      | @obj a0 C' dx fs _ _ _ fe hc h hd' hn' rs =>
      have hc : X.mg c = some (.ref C') := hc
      rw [hC] at hc; cases hc
      obtain ⟨w, fw, hw, rw'⟩ := rs.get ei
      cases rw' with
      | @lst l ws _ fl hlw hll rl =>
      refine ⟨.ref a0, ev, a0, C, dx, fs, .ref l, rfl, h, cl, na f hf, lookup_at (by rw [hn']; exact hn) (by rw [hn']; exact hj) hw, .inl ⟨rfl, ws, .inl (.inl hlw)⟩, ?_⟩
      show tM (gOf X) W ma σ H fun y H2 => rAppend (.ref l) [y] H2 Q
      refine tR.bind (m := ma) (k := fun r ρ' q => if q = true then (match r.st with
        | some x => match fapAt ρ' i c ns j x with
          | some ρ2 => .ok (.d .non) ρ2 false
          | none => .no
        | none => .no) else .no) (RR := RepR (gOf X)) (Q := Q) ⟨F, ρ, fp, st, ob⟩ fun F0 ρ0 fp0 st0 r0 ρ1 q1 e1 y F1 H1 fp1 fr1 s1 st1 r1 n1 z1 ob1 => ?_
      by_cases hq : q1 = true
      · rw [if_pos hq] at ob1
        obtain ⟨eh, er⟩ := z1.2 hq
        cases ex : r0.st with
        | none => rw [ex] at ob1; exact absurd rfl ob1.1
        | some x =>
          rw [ex] at ob1
          dsimp only at ob1
          unfold fapAt at ob1
          split at ob1
          · next ρ2 e2 =>
            split at e2
            · next b2 c2 ns2 os2 e3 =>
              split at e2
              · next hcc =>
                obtain ⟨rfl, rfl⟩ := hcc
                split at e2
                · next inn2 ei2 =>
                  split at e2
                  · next hlen =>
                    have hlen := lenOk_le hlen
                    cases e2
                    obtain ⟨v2, ev2, r2⟩ := st1.mu i b2 _ e3
                    rw [ev] at ev2; cases ev2
                    obtain ⟨f1, hf1⟩ : ∃ f, f = fp1 i := ⟨_, rfl⟩
                    have nd1 := st1.nd i
                    rw [← hf1] at r2 nd1
                    cases r2 with
                    | @obj _ C2 dx2 fs2 _ _ _ fe2 hc2 h2 hd2 hn2 rs2 =>
                    have := eh _ _ h
                    rw [h2] at this; cases this
                    obtain ⟨w2, fw2, hw2, rw2⟩ := rs2.get ei2
                    rw [hw] at hw2; cases hw2
                    cases rw2 with
                    | @lst _ ws2 _ fl2 hlw2 hll2 rl2 =>
                    have := eh _ _ hlw
                    rw [hlw2] at this; cases this
                    have hlt : ws.length + 1 ≤ sizeLine := by rw [rl2.length, sizeLine_eq]; omega
                    have st2 := st1.frzd fun a ha => (r1.out a ha).2.1
                    have ry : Rep (gOf X) (frz F1 H1 fr1) y x := r1.st ex (frz_ext st1.sub) fun a ha => frz_mem ha
                    have nda := List.nodup_cons.mp nd1
                    have ndd := List.nodup_cons.mp nda.2
                    obtain ⟨r3, hlm⟩ := RepOs.push hlw2 hlt ry j (rs2.mono (frz_ext st1.sub) fun a ha u hu => hu) hw ei2 ndd.2
                    have n1 : a0 ≠ l := fun z => nda.1 (by rw [z]; exact List.mem_cons_of_mem _ hlm)
                    have n2 : dx ≠ l := fun z => ndd.1 (by rw [z]; exact hlm)
                    obtain ⟨fp3, st3, sp3⟩ := st2.chg (H' := upd H1 l (.lst (ws ++ [y]))) e3 ev (o' := .obj c2 ns2 (os2.set j (.lst (inn2 ++ [.d x])))) (f := a0 :: dx :: fe2) (fun a u ha hu => by
                      rw [upd_ne fun z => ha (by rw [← hf1, z]; exact List.mem_cons_of_mem _ (List.mem_cons_of_mem _ hlm))]; exact hu)
                      (.obj hc2 (by rw [upd_ne n1]; exact h2) (by rw [upd_ne n2]; exact hd2) hn2 r3) nd1 fun a ha => .inl (by rw [← hf1]; exact ha)
                    refine ⟨l, ws, y, rfl, rfl, hlw2, by omega, ob1.2.1 (.d .non) _ false rfl .non _ _ fp3 [] ?_ st3 ⟨.non, rfl⟩ List.nodup_nil ⟨z1.1.trans (.chg e3), fun z => nomatch z⟩⟩
                    rw [plus_nil]
                    exact (Step.frz st1.sub).trans sp3
                  · cases e2
                · cases e2
              · cases e2
            · cases e2
          · exact absurd rfl ob1.1
      · rw [if_neg hq] at ob1; exact absurd rfl ob1.1
    · rw [if_neg hl] at ob; exact absurd rfl ob.1
end
end
end Mw
set_option Elab.async false
set_option linter.all false
set_option maxRecDepth 100000
set_option autoImplicit false
namespace Mw
open PySem PySem.Spec PyProof.Rows L2
noncomputable section
section
variable {X : Cx} {CX : CXT} {k : Nat} {f C : Addr} {fd : FuncData} {ps : List Str} {sp : Sp} {dvs : List V} {ds : List Value} {E : L2.St → XK} {x m : Str} {p pos apos : Pos} {e o : Expr} {es : List Expr} {ta : TE} {t : TA}
def tMethSD (C : Addr) (m : Str) (sp : Sp) (E : L2.St → XK) (ta : TE) (t : TA) : TE := fun σ H Q => ta σ H fun x H1 => ∃ a dx fs, x = .ref a ∧ H1 a = some (.ins C dx fs) ∧ fs.lookup m = none ∧
  t σ H1 fun vs H2 => sp (x :: (vs ++ [])) H2 Q (E σ)
theorem pe_methSD {pl : Sem Bool} (he : PE X o ta) (c : Cls X.K C) (hm : Meth X.K C m f) (F : FnOk X.prog X.w X.K X.mg X.base CX k f fd ps sp) (hr : Room k X.A) (hb : Binds X.K fd ps []) (hx : ∀ σ, PassesAt CX X σ (E σ)) (ha : PA X (e :: es) t)
    (hst : starEach (e :: es) X.env = (false, eval e X.env) :: starEach es X.env := by rfl) (hpl : (backTo pos (starEach es X.env)).any (·.1) = false := by rfl)
    (ht : eval (.Call (.Attribute o m apos) (e :: es) [] pos) X.env = (do
      let ov ← eval o X.env
      standAt apos.atName
      let (f, first) ← holding [ov] (getMethod ov m pl)
      callWith pos f first (backTo pos (starEach (e :: es) X.env)) (backToKw pos (keywordEach [] X.env))) := by rfl) :
    PE X (.Call (.Attribute o m apos) (e :: es) [] pos) (tMethSD C m sp E ta t) := by
  refine ⟨fun pins s σ H Q I h => ?_⟩
  refine PySem.W.methodCall_KW (pl := pl) (thn (he.run pins s σ H _ I h) fun u s1 ⟨x, H1, I1, rx, a, dx, fs, ex, ea, l, q⟩ => ?_) ht
  subst ex
  obtain rfl : u = Value.ref a := rx
  refine getmeth_ok I1 ea c hm l ?_
  refine PySem.W.callWith_K (first := [.ref a]) (h₀ := X.base) I.ok.mod.kin hm.kp (thn (ha.run pos pins s1 σ H1 _ I1 q) fun us s2 ⟨vs, H2, I2, r, q2⟩ => ⟨I2.kIn, ?_⟩) hst hpl
  exact run_fnSD (us := .ref a :: us) (vs := .ref a :: vs) (dvs := []) (ds := []) F hr hb .nil (hx σ) I2 (.cons rfl r) q2
def tMakeSD (C : Addr) (sp : Sp) (E : L2.St → XK) (t : TA) : TE := fun σ H Q => t σ H fun vs H1 => ∀ x dx, H1 x = none → H1 dx = none → dx ≠ x →
  sp (.ref x :: (vs ++ [])) (upd (upd H1 dx (.own x)) x (.ins C dx [])) (fun v H2 => v = .non ∧ Q (.ref x) H2) (E σ)
theorem run_makeSD {pins : List (Addr × Obj)} {σ : L2.St} {H : Hp} {s : Shared} {Q : VK} {us : List Value} {vs : List V} (M : Mk X.K C f) (F : FnOk X.prog X.w X.K X.mg X.base CX k f fd ps sp) (hr : Room (k + 1) X.A) (hb : Binds X.K fd ps ds) (hd : Vals dvs ds)
    (hx : PassesAt CX X σ (E σ)) (I : Inv X pins σ H s) (r : Vals vs us)
    (h : ∀ x dx, H x = none → H dx = none → dx ≠ x → sp (.ref x :: (vs ++ dvs)) (upd (upd H dx (.own x)) x (.ins C dx [])) (fun v H2 => v = .non ∧ Q (.ref x) H2) (E σ)) :
    wpAny (model X.prog X.w) X.A (call (.ref C) us) (EP X pins σ Q) X.xe s := by
  have hq := h (s.heap.objs.size + 1) s.heap.objs.size (I.hok.fresh (Nat.le_succ _)) (I.hok.fresh (Nat.le_refl _)) (Nat.ne_of_lt (Nat.lt_succ_self _))
  have I2 := Inv.made (C := C) I
  have r2 : Vals (V.ref (s.heap.objs.size + 1) :: (vs ++ dvs)) (Value.ref (s.heap.objs.size + 1) :: (us ++ ds)) := .cons rfl (r.append hd)
  have hl : (Value.ref (s.heap.objs.size + 1) :: us ++ ds).length = ps.length := by
    have e := r2.length
    rw [F.len _ _ _ _ hq] at e
    exact e.symm
  refine wpAny_call (make_map (f := f) I.kIn M.makes M.init (beq_iff_eq.mp M.fn) (codeAny_mono (F.run _ X.stack _ _ ⟨Value.ref (s.heap.objs.size + 1) :: us, []⟩ (Value.ref (s.heap.objs.size + 1) :: (us ++ ds)) _ _ (E σ) (hr.make C us [])
    (I2.env0.make C us []) (hb _ (Value.ref (s.heap.objs.size + 1) :: us) I2.kIn hl) r2 hq) fun r s' hq' => ?_))
  cases r with
  | error e => exact hx pins _ _ e s' I2 hq'
  | ok fl =>
    cases fl with
    | ret u =>
      obtain ⟨v, H', I3, rv, ev, q3⟩ := I2.after hq'
      subst ev
      exact ⟨rv, ⟨V.ref (s.heap.objs.size + 1), H', I3, rfl, q3⟩⟩
    | next => exact False.elim hq'
    | brk => exact False.elim hq'
    | cont => exact False.elim hq'
theorem pe_makeSD0 (M : Mk X.K C f) (F : FnOk X.prog X.w X.K X.mg X.base CX k f fd ps sp) (hr : Room (k + 1) X.A) (hg : Gl X x) (hm : X.mg x = some (.ref C)) (hb : Binds X.K fd ps []) (hx : ∀ σ, PassesAt CX X σ (E σ))
    (hdb : (x == ("__debug__" : Str)) = false := by decide) : PE X (.Call (.Name x p) [] [] pos) (tMakeSD C sp E tNil) := by
  refine ⟨fun pins s σ H Q I h => ?_⟩
  refine wpAny_Call_Name_kw (ld_glob I hg hm ?_ hdb)
  exact PySem.W.callWith_K0 I.kIn M.kp (run_makeSD (us := []) (dvs := []) (ds := []) M F hr hb .nil (hx σ) I .nil h)
end
structure KpM (P : Program) (w : World) (K : PySem.W.Frag) (mg : Str → Option Value) (base : Heap) (k : Nat) (c nm : Str) (n : Nat) (f : Fn) : Prop where
  ex : ∃ C fa fd ps, mg c = some (.ref C) ∧ Cls K C ∧ Meth K C nm fa ∧ FnOk P w K mg base (L2N.CX P w) k fa fd ps (spF (.m K mg) n f) ∧ Binds K fd ps []
structure KpI (P : Program) (w : World) (K : PySem.W.Frag) (mg : Str → Option Value) (base : Heap) (k : Nat) (c : Str) (n : Nat) (f : Fn) : Prop where
  ex : ∃ C fa fd ps, mg c = some (.ref C) ∧ Mk K C fa ∧ FnOk P w K mg base (L2N.CX P w) k fa fd ps (spF (.m K mg) n f) ∧ Binds K fd ps []
theorem KpM.mono {P : Program} {w : World} {K : PySem.W.Frag} {mg : Str → Option Value} {base : Heap} {j k : Nat} {c x : Str} {n : Nat} {f : Fn} (h : KpM P w K mg base j c x n f) (l : j ≤ k) : KpM P w K mg base k c x n f := by
  obtain ⟨C, fa, fd, ps, h1, h2, h3, h4, h5⟩ := h.ex
  exact ⟨C, fa, fd, ps, h1, h2, h3, h4.mono l, h5⟩
theorem KpI.mono {P : Program} {w : World} {K : PySem.W.Frag} {mg : Str → Option Value} {base : Heap} {j k : Nat} {c : Str} {n : Nat} {f : Fn} (h : KpI P w K mg base j c n f) (l : j ≤ k) : KpI P w K mg base k c n f := by
  obtain ⟨C, fa, fd, ps, h1, h2, h3, h4⟩ := h.ex
  exact ⟨C, fa, fd, ps, h1, h2, h3.mono l, h4⟩
def isC (ρ : Ro) (i : Nat) (c : Str) (ns : List Str) : Bool := match ρ[i]? with
  | some (.mu _ (.obj c' ns' _)) => decide (c' = c ∧ ns' = ns)
  | _ => false
def mMeth (i : Nat) (c : Str) (ns : List Str) (f : Fn) (as : List Ar) : M := fun ρ => if isC ρ i c ns = true then mCall f (.b i :: as) ρ else .no
theorem tM_meth {g : Wd} {W : WX} {n i : Nat} {c nm : Str} {ns : List Str} {C : Addr} {f : Fn} {as : List Ar} {σ : L2.St} {H : Hp} {Q : VK} (hC : g.mg c = some (.ref C)) (hnm : nm ∉ ns) (hn : as.length + 1 = n) (h : tM g W (mMeth i c ns f as) σ H Q) :
    tMethSD C nm (spF (.m g.K g.mg) n f) (WE W) (tVar i) (tB g W as) σ H Q := by
  obtain ⟨F, ρ, fp, st, ob⟩ := h
  have ob : Ob g W σ F H (Own fp) (Zq H ρ) (RepR g) (if isC ρ i c ns = true then _ else _) Q := ob
  by_cases hl : isC ρ i c ns = true
  · rw [if_pos hl] at ob
    obtain ⟨b, os, e⟩ : ∃ b os, ρ[i]? = some (.mu b (.obj c ns os)) := by
      unfold isC at hl
      split at hl
      · next b c' ns' os e =>
        obtain ⟨rfl, rfl⟩ := of_decide_eq_true hl
        exact ⟨b, os, e⟩
      · cases hl
    obtain ⟨v, ev, r⟩ := st.mu i b _ e
    have q := tB_b (tM_call (n := n) (args := .b i :: as) (by simpa using hn) (show tM g W (mCall f (.b i :: as)) σ H Q from ⟨F, ρ, fp, st, ob⟩))
    obtain ⟨v2, ev2, q⟩ := q
    rw [ev] at ev2; cases ev2
    obtain ⟨f0, hf0⟩ : ∃ f, f = fp i := ⟨_, rfl⟩
    rw [← hf0] at r
    cases r with
    | @obj a C' dx fs _ _ _ fe hc h hd hn' rs =>
    rw [hC] at hc; cases hc
    refine ⟨.ref a, ev, a, dx, fs, rfl, h, lookup_out (by rw [hn']; exact hnm), q.imp fun vs H2 z => ?_⟩
    rw [List.append_nil]; exact z
  · rw [if_neg hl] at ob; exact absurd rfl ob.1
def RpD : List R → Option (List D)
  | [] => some []
  | .d x :: rs => (RpD rs).map (x :: ·)
  | _ => none
theorem RpD_reps {g : Wd} {F H : Hp} {S : Addr → Prop} {vs : List V} {rs : List R} {fr : List Addr} (h : RepRs g F H S vs rs fr) {xs : List D} (e : RpD rs = some xs) : Reps g F vs xs ∧ fr = [] := by
  induction h generalizing xs with
  | nil => cases e; exact ⟨.nil, rfl⟩
  | @cons v vs r rs f fr h t ih =>
    cases r with
    | d x =>
      unfold RpD at e
      cases e2 : RpD rs with
      | none => rw [e2] at e; cases e
      | some ys =>
        rw [e2] at e; cases e
        obtain ⟨h1, rfl⟩ := ih e2
        obtain ⟨h2, rfl⟩ := h
        exact ⟨.cons h2 h1, rfl⟩
    | own o => cases e
    | pk o => cases e
def mMake (c : Str) (f : Fn) (ms : List M) : M := fun ρ => (mArgs ms ρ).bind fun rs ρ1 q => match RpD rs with
  | some xs => (match f (.mu true (.obj c [] []) :: xs.map Slo.shr) with
    | .ok (.d .non) (.mu true o :: _) => .ok (.own o) ρ1 false
    | _ => .no)
  | none => .no
theorem tM_make {g : Wd} {W : WX} {n : Nat} {c : Str} {C : Addr} {f : Fn} {ms : List M} {σ : L2.St} {H : Hp} {Q : VK} (hC : g.mg c = some (.ref C)) (hn : ms.length + 1 = n) (h : tM g W (mMake c f ms) σ H Q) :
    tMakeSD C (spF (.m g.K g.mg) n f) (WE W) (tA g W ms) σ H Q := by
  refine tR.bind h fun F ρ fp st rs ρ1 q1 e1 vs F1 H1 fp1 fr1 s1 st1 r1 n1 z1 ob => ?_
  intro x dx hx hdx hne
  cases ex : RpD rs with
  | none => rw [ex] at ob; exact absurd rfl ob.1
  | some xs =>
    rw [ex] at ob
    dsimp only at ob
    have hlen : rs.length = ms.length := mArgs_len e1
    obtain ⟨rx, rfl⟩ := RpD_reps r1 ex
    rw [plus_nil] at ob
    rw [List.append_nil]
    have vl : vs.length = ms.length := r1.len.trans hlen
    have nF : ∀ {a : Addr}, H1 a = none → F1 a = none := fun {a} q => by
      cases z : F1 a with
      | none => rfl
      | some u => rw [st1.sub a u z] at q; cases q
    obtain ⟨H2, hH2⟩ : ∃ H2, H2 = upd (upd H1 dx (.own x)) x (.ins C dx []) := ⟨_, rfl⟩
    have u1 : H2 x = some (.ins C dx []) := by rw [hH2, upd_same]
    have u2 : H2 dx = some (.own x) := by rw [hH2, upd_ne hne, upd_same]
    have u3 : ∀ a, a ≠ x → a ≠ dx → H2 a = H1 a := fun a h1 h2 => by rw [hH2, upd_ne h1, upd_ne h2]
    have u4 : Ext H1 H2 := fun a o q => by
      rw [u3 a (fun z => by rw [z, hx] at q; cases q) (fun z => by rw [z, hdx] at q; cases q)]; exact q
    rw [← hH2]
    refine ⟨by simp [vl, hn], F1, .mu true (.obj c [] []) :: xs.map Slo.shr, fun k => if k = 0 then [x, dx] else [], ?_, fun e => ob.1 (by rw [e]), fun r as' e v F' H' fp' fr s' st' r' n' hp kb => ?_, fun x' as' e => ?_⟩
    · refine ⟨st1.sub.trans u4, by simp [rx.length], fun k hk => ?_, fun k d h => ?_, fun k b o h => ?_, fun k => ?_, fun j k a ha hb => ?_, fun k a ha => ?_, fun k y h => ?_⟩
      · by_cases z : k = 0
        · subst z; exact absurd rfl (hk true _)
        · exact if_neg z
      · cases k with
        | zero => simp at h
        | succ k =>
          simp only [List.getElem?_cons_succ, List.getElem?_map] at h
          cases e2 : xs[k]? with
          | none => rw [e2] at h; cases h
          | some y =>
            rw [e2] at h; cases h
            obtain ⟨v, e3, r⟩ := rx.get e2
            exact ⟨v, by simp [e3], r.xa⟩
      · cases k with
        | zero =>
          simp at h
          obtain ⟨rfl, rfl⟩ := h
          exact ⟨.ref x, rfl, .obj (fs := []) hC u1 u2 rfl .nil⟩
        | succ k =>
          simp only [List.getElem?_cons_succ, List.getElem?_map] at h
          cases e2 : xs[k]? with
          | none => rw [e2] at h; cases h
          | some y => rw [e2] at h; cases h
      · try dsimp only
        split
        · exact List.nodup_cons.mpr ⟨by simpa using fun z => hne z.symm, by simp⟩
        · exact List.nodup_nil
      · try dsimp only at ha hb
        split at ha
        · split at hb
          · next h1 h2 => rw [h1, h2]
          · cases hb
        · cases ha
      · try dsimp only at ha
        split at ha
        · rcases List.mem_cons.mp ha with z | z
          · rw [z]; exact nF hx
          · rw [List.mem_singleton.mp z]; exact nF hdx
        · cases ha
      · cases k with
        | zero => simp at h
        | succ k =>
          simp only [List.getElem?_cons_succ, List.getElem?_map] at h
          cases e2 : xs[k]? with
          | none => rw [e2] at h; cases h
          | some y => rw [e2] at h; cases h
    · rw [e] at ob
      split at ob
      · next hh o as'' q =>
        cases q
        obtain ⟨r', rfl⟩ := r'
        cases r'
        refine ⟨rfl, ?_⟩
        obtain ⟨v2, ev2, ro⟩ := st'.mu 0 true o rfl
        have ev2 : some (V.ref x) = some v2 := by simpa using ev2
        cases ev2
        have own0 : ∀ a, Own (fun k : Nat => if k = 0 then [x, dx] else []) a → H1 a = none := fun a ⟨k, ha⟩ => by
          dsimp only at ha
          split at ha
          · rcases List.mem_cons.mp ha with z | z
            · rw [z]; exact hx
            · rw [List.mem_singleton.mp z]; exact hdx
          · cases ha
        have back : ∀ a, H2 a = none → H1 a = none := fun a q => by
          cases z : H1 a with
          | none => rfl
          | some u => rw [u4 a u z] at q; cases q
        have backF : ∀ a, Fr H2 a → Fr H1 a := fun a q => by
          by_cases h1 : a = x
          · rw [h1]; exact .inl hx
          · by_cases h2 : a = dx
            · rw [h2]; exact .inl hdx
            · unfold Fr at q ⊢
              rw [u3 a h1 h2] at q; exact q
        have eh : Ext H1 H' := fun a o q => s'.keep a o (fun z => by rw [own0 a z] at q; cases q) (u4 a o q)
        have newF : ∀ a o, F' a = some o → F1 a = some o ∨ Fr H1 a := fun a o q => by
          rcases s'.new a o q with z | z | z
          · exact .inl z
          · exact .inr (.inl (own0 a z))
          · exact .inr (backF a z)
        have st2 : Stt g F' H' σ ρ1 fp1 := st1.grown s'.ext eh st'.sub fun a ha => by
          cases q : F' a with
          | none => rfl
          | some u =>
            rcases newF a u q with z | z
            · rw [(st1.there ha).2] at z; cases z
            · exact absurd z (st1.thereN ha)
        have fr0 : ∀ a ∈ fp' 0, H1 a = none := fun a ha => by
          rcases s'.fre a (.inl ⟨0, ha⟩) with z | z
          · exact own0 a z
          · exact back a z
        refine ob.2.1 (.own o) ρ1 false rfl (.ref x) F' H' fp1 (fp' 0) ?_ st2 ⟨ro.xa, fun a ha => ⟨st'.fre 0 a ha, fun z => (st1.there z).1 (fr0 a ha)⟩⟩ (st'.nd 0) ⟨z1.1, fun z => nomatch z⟩
        refine ⟨s'.ext, fun a o _ q => eh a o q, fun a o q => (newF a o q).imp id .inr, fun a ha => ?_⟩
        rcases ha with ha | ha
        · exact .inl ha
        · exact .inr (fr0 a ha)
      · exact absurd rfl ob.1
    · rw [e] at ob; exact absurd rfl ob.1
section
variable {X : Cx} {W : WX} {pos apos : Pos} {a b c : Expr} {es : List Expr} {ma mb mc : M} {as : List Ar} {ms : List M} {x cn nm : Str} {ns : List Str} {p : Pos} {k n i : Nat} {f : Fn}
theorem s_meth {pl : Sem Bool} (G : KpM X.prog X.w X.K X.mg X.base k cn nm n f) (hr : Room k X.A) (tk : L2N.Takes X W) (hN : X.N[i]? = some x) (hv : Vis X.env.scope x) (ha : SB X W (a :: es) as) (hnm : nm ∉ ns := by decide +kernel) (hn : as.length + 1 = n := by rfl)
    (hd : (x == ("__debug__" : Str)) = false := by decide) (hcd : (x == ("__classdict__" : Str)) = false := by decide)
    (hst : starEach (a :: es) X.env = (false, eval a X.env) :: starEach es X.env := by rfl) (hpl : (backTo pos (starEach es X.env)).any (·.1) = false := by rfl)
    (ht : eval (.Call (.Attribute (.Name x p) nm apos) (a :: es) [] pos) X.env = (do
      let ov ← eval (.Name x p) X.env
      standAt apos.atName
      let (f, first) ← holding [ov] (getMethod ov nm pl)
      callWith pos f first (backTo pos (starEach (a :: es) X.env)) (backToKw pos (keywordEach [] X.env))) := by rfl) :
    SE X W (.Call (.Attribute (.Name x p) nm apos) (a :: es) [] pos) (mMeth i cn ns f as) := by
  obtain ⟨C, fa, fd, ps, h1, h2, h3, h4, h5⟩ := G.ex
  exact PE.wk (pe_methSD (E := WE W) (pe_var hN hv hd hcd) h2 h3 h4 hr h5 (fun σ => L2N.passAt tk σ) ha hst hpl ht) fun σ H Q h => tM_meth h1 hnm hn h
theorem s_make0 (G : KpI X.prog X.w X.K X.mg X.base k x n f) (hr : Room (k + 1) X.A) (hg : Gl X x) (tk : L2N.Takes X W) (hn : 1 = n := by rfl)
    (hdb : (x == ("__debug__" : Str)) = false := by decide) :
    SE X W (.Call (.Name x p) [] [] pos) (mMake x f []) := by
  obtain ⟨C, fa, fd, ps, h1, h2, h3, h4⟩ := G.ex
  exact PE.wk (pe_makeSD0 (E := WE W) h2 h3 hr hg h1 h4 (fun σ => L2N.passAt tk σ) hdb) fun σ H Q h => tA_nil (tM_make (ms := []) h1 hn h)
end
end
end Mw
set_option Elab.async false
set_option linter.all false
set_option maxRecDepth 100000
set_option autoImplicit false
namespace Mw
open PySem PySem.Spec PyProof.Rows L2
noncomputable section
def w3 (K : PySem.W.Frag) (D : Ends) (c1 c2 c3 : Value) (io : Option Nat) (ts : Addr → Obj → TS) : WX := fun cls d σ H => PySem.W.exmAny K cls [c1, c2, c3] = some true ∧ ∀ a oe, H a = none → L2N.Zn cls d oe → ts a oe (endsI io D) (setI io σ a) H
section
variable {X : Cx} {body : List Stmt} {pos : Pos} {tb : WX → TS} {Wout : WX}
end
section
variable {X : Cx} {Wout : WX} {body : List Stmt} {pos : Pos} {b : MS} {cs : List (Str × Option Nat)} {vs : List Nat}
end
end
end Mw
set_option maxHeartbeats 2000000
set_option Elab.async false
set_option linter.all false
set_option maxRecDepth 100000
set_option autoImplicit false
namespace Mw
open PySem PySem.Spec PyProof.Rows L2 L2H HotX
noncomputable section
section
variable {prog : Program} {w : World} {A : Around} {E : Value → Shared → Prop} {s : Shared}
end
end
end Mw
set_option maxHeartbeats 2000000
set_option Elab.async false
set_option linter.all false
set_option maxRecDepth 100000
set_option autoImplicit false
namespace Mw
open PySem PySem.Spec PyProof.Rows L2 L2H HotX
noncomputable section
theorem PIH.wk {X : Cx} {tg e : Expr} {t t' : TI} (h : PIH X tg e t) (i : ∀ σ H Q, t' σ H Q → t σ H Q) : PIH X tg e t' := ⟨fun pins s σ H Q I q => h.run pins s σ H Q I (i σ H Q q)⟩
section
variable {prog : Program} {w : World} {A : Around} {E : Value → Shared → Prop} {s : Shared}
end
section
variable {X : Cx} {W : WX} {pos : Pos} {es : List Expr} {ts : List Tg}
end
end
end Mw
set_option maxHeartbeats 2000000
set_option Elab.async false
set_option linter.all false
set_option maxRecDepth 100000
set_option autoImplicit false
namespace Mw
open PySem PySem.Spec PyProof.Rows L2 L2H HotX
noncomputable section
section
variable {X : Cx}
end
section
variable {X : Cx} {W : WX} {pos : Pos} {a b c tg : Expr} {es : List Expr} {ma mb mc : M} {ms : List M} {st : Stmt} {sts : List Stmt} {m n : MS} {tc : MB} {t : Tg} {ts : List Tg} {mi : MI}
variable {p : Pos}
end
section
variable {X : Cx} {pins : List (Addr × Obj)} {σ : L2.St} {H : Hp} {s : Shared}
end
section
variable {X : Cx}
end
section
variable {X : Cx} {W : WX} {elt tg iter : Expr} {ifs : List Expr} {scope : Scope} {own : List (Str × Nat)} {pos : Pos} {mi : MI} {t : Tg} {mc : MB} {me : M}
end
section
variable {X : Cx} {W : WX} {a : Expr} {ma : M} {p pos : Pos}
end
end
end Mw
set_option maxHeartbeats 2000000
set_option Elab.async false
set_option linter.all false
set_option maxRecDepth 100000
set_option autoImplicit false
namespace Mw
open PySem PySem.Spec PyProof.Rows L2
noncomputable section
def tx (s : List Nat) : Str := ⟨s.toArray⟩
def xt (s : Str) : List Nat := s.cps.toList
theorem tx_xt (s : Str) : tx (xt s) = s := by
  obtain ⟨a⟩ := s
  show (⟨a.toList.toArray⟩ : Str) = _
  rw [Array.toArray_toList]
theorem xt_tx (s : List Nat) : xt (tx s) = s := rfl
theorem xt_len (s : Str) : (xt s).length = s.length := by
  show s.cps.toList.length = s.cps.size
  rw [Array.length_toList]
theorem tx_len (s : List Nat) : (tx s).length = s.length := by rw [← xt_len, xt_tx]
theorem rep_tx {g : Wd} {F : Hp} {s : Str} (h : s.length ≤ sizeLine) : Rep g F (.str s) (.str (xt s)) := by
  have := Rep.str (g := g) (F := F) (s := xt s) (by rw [xt_len]; exact h)
  rw [show (⟨(xt s).toArray⟩ : Str) = s from tx_xt s] at this
  exact this
section
variable {X : Cx} {W : WX} {pos p : Pos} {a b : Expr} {ma mb : M} {es : List Expr}
def iCs (i : Int) : List Nat := xt (toString i : String)
def lStrI (p : R) : Option R := match p.pl with
  | some (.int i) => if i.natAbs.log2 < 1920 then some (.d (.str (iCs i))) else none
  | _ => none
theorem s_strI (hg : Gl X "str") (hm : X.mg "str" = none) (ha : SE X W a ma) (he : starEach [a] X.env = (false, eval a X.env) :: starEach [] X.env := by rfl) : SE X W (.Call (.Name "str" p) [a] [] pos) (m1 lStrI ma) :=
  s_ty1 call_str_int (by
    intro F H S x p fr Q rx l
    obtain ⟨rr, e⟩ := l.has
    have e0 := e
    unfold lStrI at e
    split at e
    · next i h1 =>
      split at e
      · next h2 => cases e; rw [rx.int h1]; exact ⟨i, rfl, h2, l.val e0 (rep_tx (int_text_fits h2))⟩
      · cases e
    · cases e) hg hm (by decide +kernel) ha he
def lIntS (p : R) : Option R := match p.pl with
  | some (.str s) => match PySem.intText? (tx s) with
    | some n => if s.length ≤ 640 then some (.d (.int n)) else none
    | none => none
  | _ => none
theorem s_intS (hg : Gl X "int") (hm : X.mg "int" = none) (ha : SE X W a ma) (he : starEach [a] X.env = (false, eval a X.env) :: starEach [] X.env := by rfl) : SE X W (.Call (.Name "int" p) [a] [] pos) (m1 lIntS ma) :=
  s_ty1 call_int_str (by
    intro F H S x p fr Q rx l
    obtain ⟨rr, e⟩ := l.has
    have e0 := e
    unfold lIntS at e
    split at e
    · next s h1 =>
      split at e
      · next n h2 =>
        split at e
        · next h3 => cases e; obtain ⟨rfl, h4⟩ := rx.str h1; exact ⟨_, n, rfl, h2, by show (tx s).length ≤ 640; rw [tx_len]; exact h3, l.val e0 (.int _)⟩
        · cases e
      · cases e
    · cases e) hg hm (by decide +kernel) ha he
def dStrs : List D → Option (List (List Nat))
  | [] => some []
  | .str s :: r => (dStrs r).map (s :: ·)
  | _ => none
theorem dStrs_eq : ∀ {ds : List D} {ss : List (List Nat)}, dStrs ds = some ss → ds = ss.map D.str
  | [], ss, h => by cases h; rfl
  | d :: r, ss, h => by
    cases d with
    | str s =>
      unfold dStrs at h
      cases e : dStrs r with
      | none => rw [e] at h; cases h
      | some t => rw [e] at h; cases h; rw [dStrs_eq e]; rfl
    | _ => cases h
theorem reps_strs {g : Wd} {F : Hp} : ∀ {vs : List V} {ss : List (List Nat)}, Reps g F vs (ss.map D.str) → vs = (ss.map tx).map V.str
  | [], [], _ => rfl
  | _ :: _, [], h => by cases h
  | [], _ :: _, h => by cases h
  | v :: vs, s :: ss, h => by
    cases h with
    | cons h t =>
      cases h
      rw [reps_strs t]; rfl
theorem strs_reps {g : Wd} {F : Hp} : ∀ {ss : List Str}, (∀ s ∈ ss, s.length ≤ sizeLine) → Reps g F (ss.map V.str) ((ss.map xt).map D.str)
  | [], _ => .nil
  | s :: ss, h => .cons (rep_tx (h s (by simp))) (strs_reps fun x hx => h x (by simp [hx]))
def joinL (a : List Nat) (ss : List (List Nat)) : List Nat := xt (Txt.join (tx a) (ss.map tx))
def joinOk (a : List Nat) (ss : List (List Nat)) : Bool := decide ((ss.map (·.length)).sum + ss.length * a.length ≤ 16777216) && decide ((Txt.join (tx a) (ss.map tx)).length ≤ sizeLine)
def lJoin (p q : R) : Option R := match p.pl, q.pl with
  | some (.str a), some (.lst ds) => match dStrs ds with
    | some ss => if joinOk a ss = true then some (.d (.str (joinL a ss))) else none
    | none => none
  | some (.str a), some (.tup ds) => match dStrs ds with
    | some ss => if joinOk a ss = true then some (.d (.str (joinL a ss))) else none
    | none => none
  | _, _ => none
theorem lens_tx (ss : List (List Nat)) : (ss.map tx).map (·.length) = ss.map (·.length) := by
  rw [List.map_map]
  exact List.map_congr_left fun s _ => by show (tx s).length = _; rw [← xt_len, xt_tx]
theorem l_join : LOk2 (gOf X) lJoin (fun x y H Q => (∃ a, x = .str a) ∧ ∃ a p, ∃ ys : List Str, x = .str a ∧ [y] = [.ref p] ∧ (SqL X.K H p (ys.map V.str) ∨ SqT X.K H p (ys.map V.str)) ∧ (ys.map (·.length)).sum + ys.length * a.length ≤ 16777216 ∧ Q (.str (Txt.join a ys)) H) := by
  intro F H S x y p q f1 f2 Q rx ry l
  obtain ⟨rr, e⟩ := l.has
  have e0 := e
  unfold lJoin at e
  split at e
  · next a ds h1 h2 =>
    split at e
    · next ss h3 =>
      split at e
      · next hj =>
        cases e
        obtain ⟨j1, j2⟩ := Bool.and_eq_true_iff.mp hj
        have j1 := of_decide_eq_true j1
        have j2 := of_decide_eq_true j2
        obtain ⟨rfl, n1⟩ := rx.str h1
        obtain ⟨p1, vs, rfl, k, n, r⟩ := ry.lst l.sub h2
        rw [dStrs_eq h3] at r
        have := reps_strs r
        subst this
        refine ⟨⟨_, rfl⟩, tx a, p1, ss.map tx, rfl, rfl, .inl k, ?_, l.val e0 (rep_tx j2)⟩
        rw [lens_tx, List.length_map, show (tx a).length = a.length by rw [← xt_len, xt_tx]]; exact j1
      · cases e
    · cases e
  · next a ds h1 h2 =>
    split at e
    · next ss h3 =>
      split at e
      · next hj =>
        cases e
        obtain ⟨j1, j2⟩ := Bool.and_eq_true_iff.mp hj
        have j1 := of_decide_eq_true j1
        have j2 := of_decide_eq_true j2
        obtain ⟨rfl, n1⟩ := rx.str h1
        obtain ⟨p1, vs, rfl, k, n, r⟩ := ry.tup h2
        rw [dStrs_eq h3] at r
        have := reps_strs r
        subst this
        refine ⟨⟨_, rfl⟩, tx a, p1, ss.map tx, rfl, rfl, .inr (l.sub.sqT k), ?_, l.val e0 (rep_tx j2)⟩
        rw [lens_tx, List.length_map, show (tx a).length = a.length by rw [← xt_len, xt_tx]]; exact j1
      · cases e
    · cases e
  · cases e
def lTx (p : R) : Option R := match p.pl with
  | some (.str a) => some (.d (.str a))
  | _ => none
theorem tM_tx {g : Wd} {σ : L2.St} {H : Hp} {Q : VK} (t : tM g W (m1 lTx ma) σ H Q) : tM g W ma σ H fun x H1 => (∃ a, x = .str a) ∧ Q x H1 := by
  refine tM_m1 (g := g) (f := lTx) (r := fun x H Q => (∃ a, x = .str a) ∧ Q x H) (fun F H S x p fr Q rx l => ?_) t
  obtain ⟨rr, e⟩ := l.has
  have e0 := e
  unfold lTx at e
  split at e
  · next s h1 => cases e; obtain ⟨rfl, h4⟩ := rx.str h1; exact ⟨⟨_, rfl⟩, l.val e0 (.str h4)⟩
  · cases e
theorem s_join {apos : Pos} (ha : SE X W a ma) (hb : SE X W b mb) (hs : starEach [b] X.env = [(false, eval b X.env)] := by rfl) (hbase : attributeBase a "join" X.env (eval a X.env) = eval a X.env := by rfl) (hline : (apos.endLine == pos.line) = true := by rfl) :
    SE X W (.Call (.Attribute a "join" apos) [b] [] pos) (m2 lJoin (m1 lTx ma) mb) :=
  PE.wk (pe_join ha hb hs hbase hline) fun σ H Q h => by
    have h := tM_m2 l_join h
    have h : tM (gOf X) W (m1 lTx ma) σ H (fun x H1 => tM (gOf X) W mb σ H1 fun y H2 => _) := h
    exact (tM_tx h).imp fun x H1 ⟨hx, q⟩ => ⟨hx, q.imp fun y H2 q2 => q2.2⟩
def splitL (a b : List Nat) : List (List Nat) := (Txt.split (tx a) (tx b)).map xt
def splitOk (a b : List Nat) : Bool := decide (b.length ≠ 0) && decide (a.length + 2 ≤ sizeLine) && (Txt.split (tx a) (tx b)).all (fun z => decide (z.length ≤ sizeLine)) && decide ((Txt.split (tx a) (tx b)).length ≤ sizeLine)
def lSplit (p q : R) : Option R := match p.pl, q.pl with
  | some (.str a), some (.str b) => if splitOk a b = true then some (.own (.lst (((splitL a b).map D.str).map O.d))) else none
  | _, _ => none
theorem l_split : LOk2 (gOf X) lSplit (fun x y H Q => ∃ a b, x = .str a ∧ [y] = [.str b] ∧ (b.length == 0) = false ∧ a.length + 2 ≤ sizeLine ∧ rNewStrs (Txt.split a b) H Q) := by
  intro F H S x y p q f1 f2 Q rx ry l
  obtain ⟨rr, e⟩ := l.has
  have e0 := e
  unfold lSplit at e
  split at e
  · next a b h1 h2 =>
    split at e
    · next hj =>
      cases e
      obtain ⟨j, j4⟩ := Bool.and_eq_true_iff.mp hj
      obtain ⟨j, j3⟩ := Bool.and_eq_true_iff.mp j
      obtain ⟨j1, j2⟩ := Bool.and_eq_true_iff.mp j
      have j1 := of_decide_eq_true j1
      have j2 := of_decide_eq_true j2
      have j4 := of_decide_eq_true j4
      have j3 := List.all_eq_true.mp j3
      obtain ⟨rfl, n1⟩ := rx.str h1
      obtain ⟨rfl, n2⟩ := ry.str h2
      refine ⟨tx a, tx b, rfl, rfl, ?_, ?_, fun p hp => ?_⟩
      · rw [show (tx b).length = b.length by rw [← xt_len, xt_tx]]; simpa using j1
      · rw [show (tx a).length = a.length by rw [← xt_len, xt_tx]]; exact j2
      · exact l.lst e0 (strs_reps fun s hs => of_decide_eq_true (j3 s hs)) (by rw [List.length_map]; exact j4) hp
    · cases e
  · cases e
theorem s_split {apos : Pos} (ha : SE X W a ma) (hb : SE X W b mb) (hs : starEach [b] X.env = [(false, eval b X.env)] := by rfl) (hbase : attributeBase a "split" X.env (eval a X.env) = eval a X.env := by rfl) (hline : (apos.endLine == pos.line) = true := by rfl) :
    SE X W (.Call (.Attribute a "split" apos) [b] [] pos) (m2 lSplit (m1 lTx ma) mb) :=
  PE.wk (pe_split ha hb hs hbase hline) fun σ H Q h => by
    have h := tM_m2 l_split h
    have h : tM (gOf X) W (m1 lTx ma) σ H (fun x H1 => tM (gOf X) W mb σ H1 fun y H2 => _) := h
    exact (tM_tx h).imp fun x H1 ⟨hx, q⟩ => ⟨hx, q⟩
def lFmt (p : R) : Option R := match p.pl with
  | some (.str s) => some (.d (.str s))
  | some (.int i) => if i.natAbs.log2 < 1920 then some (.d (.str (iCs i))) else none
  | _ => none
theorem s_fmt (ha : SE X W a ma) : SE X W (.FormattedValue a (-1) none pos) (m1 lFmt ma) :=
  PE.wk (pe_fmt ha) fun σ H Q h => tM_m1 (f := lFmt) (r := fun x H1 Q => (∃ y : Str, x = .str y ∧ y.length ≤ sizeLine ∧ Q (.str y) H1) ∨ ∃ i : Int, x = .int i ∧ i.natAbs.log2 < 1920 ∧ Q (.str (toString i)) H1) (fun F H S x p fr Q rx l => by
    obtain ⟨rr, e⟩ := l.has
    have e0 := e
    unfold lFmt at e
    split at e
    · next s h1 => cases e; obtain ⟨rfl, h4⟩ := rx.str h1; exact .inl ⟨_, rfl, by show (tx s).length ≤ sizeLine; rw [tx_len]; exact h4, l.val e0 (.str h4)⟩
    · next i h1 =>
      split at e
      · next h2 => cases e; rw [rx.int h1]; exact .inr ⟨i, rfl, h2, l.val e0 (rep_tx (int_text_fits h2))⟩
      · cases e
    · cases e) h
def lCat (p q : R) : Option R := match p.pl, q.pl with
  | some (.str a), some (.str b) => if a.length + b.length ≤ sizeLine then some (.d (.str (a ++ b))) else none
  | _, _ => none
theorem tx_app (a b : List Nat) : tx a ++ tx b = tx (a ++ b) := by
  show (⟨a.toArray ++ b.toArray⟩ : Str) = ⟨(a ++ b).toArray⟩
  simp
theorem l_cat : LOk2 (gOf X) lCat (fun x y H Q => ∃ a b : Str, x = .str a ∧ y = .str b ∧ (a ++ b).length ≤ sizeLine ∧ Q (.str (a ++ b)) H) := by
  intro F H S x y p q f1 f2 Q rx ry l
  obtain ⟨rr, e⟩ := l.has
  have e0 := e
  unfold lCat at e
  split at e
  · next a b h1 h2 =>
    split at e
    · next hj =>
      cases e
      obtain ⟨rfl, n1⟩ := rx.str h1
      obtain ⟨rfl, n2⟩ := ry.str h2
      have hl : (tx a ++ tx b).length ≤ sizeLine := by
        rw [tx_app, ← xt_len, xt_tx, List.length_append]; exact hj
      refine ⟨tx a, tx b, rfl, rfl, hl, ?_⟩
      rw [tx_app] at hl ⊢
      exact l.val e0 (by have := rep_tx (g := gOf X) (F := F) hl; rw [xt_tx] at this; exact this)
    · cases e
  · cases e
def SJ (X : Cx) (W : WX) (es : List Expr) (f : M → M) : Prop := ∃ ts, PJ X es ts ∧ ∀ (P : M) (TP : L2.St → Hp → (Str → Hp → Prop) → Prop),
  (∀ σ H Q, tM (gOf X) W P σ H Q → TP σ H fun out H1 => Q (.str out) H1) → (∀ σ H R R', TP σ H R → (∀ o H1, R o H1 → R' o H1) → TP σ H R') →
  ∀ σ H Q, tM (gOf X) W (f P) σ H Q → TP σ H fun acc H1 => tJs ts acc σ H1 fun out H2 => Q (.str out) H2
theorem sj_nil : SJ X W [] fun P => P := ⟨[], .nil, fun P TP h _ σ H Q t => h σ H Q t⟩
theorem sj_cons {e : Expr} {me : M} {f : M → M} (he : SE X W e me) (h : SJ X W es f) : SJ X W (e :: es) fun P => f (m2 lCat P me) := by
  obtain ⟨ts, h1, h2⟩ := h
  refine ⟨_ :: ts, .cons he h1, fun P TP hP hm σ H Q t => ?_⟩
  exact h2 (m2 lCat P me) (fun σ H R => TP σ H fun acc H1 => tM (gOf X) W me σ H1 fun x H2 => ∃ y : Str, x = .str y ∧ (acc ++ y).length ≤ sizeLine ∧ R (acc ++ y) H2)
    (fun σ H Q t => by
      have t := tM_m2 l_cat t
      have t : tM (gOf X) W P σ H (fun x H1 => tM (gOf X) W me σ H1 fun y H2 => ∃ a b : Str, x = .str a ∧ y = .str b ∧ (a ++ b).length ≤ sizeLine ∧ Q (.str (a ++ b)) H2) := t
      refine hm _ _ _ _ (hP σ H _ t) fun acc H1 q => q.imp fun x H2 ⟨a, b, ea, eb, hl, q⟩ => ?_
      cases ea
      exact ⟨b, eb, hl, q⟩)
    (fun σ H R R' t k => hm _ _ _ _ t fun acc H1 q => q.imp fun x H2 ⟨y, e, hl, q⟩ => ⟨y, e, hl, k _ _ q⟩) σ H Q t
theorem s_fs {v1 v2 : Expr} {rest : List Expr} {f : M → M} (h : SJ X W (v1 :: v2 :: rest) f) : SE X W (.JoinedStr (v1 :: v2 :: rest) pos) (f (mC (.str []))) := by
  obtain ⟨ts, h1, h2⟩ := h
  refine PE.wk (pe_joined h1) fun σ H Q t => ?_
  exact h2 (mC (.str [])) (fun σ H R => R Str.empty H) (fun σ H Q t => tM_C (v := .str Str.empty) t fun F => .str (s := []) (Nat.zero_le _)) (fun σ H R R' t k => k _ _ t) σ H Q t
end
end
end Mw
set_option maxHeartbeats 2000000
set_option Elab.async false
set_option linter.all false
set_option maxRecDepth 100000
set_option autoImplicit false
namespace Mw
open PySem PySem.Spec PyProof.Rows L2
noncomputable section
abbrev SD := List (List Nat × D)
def prS : D → Option (List Nat)
  | .str i => some i
  | _ => none
theorem prS_eq {d : D} {k : List Nat} (h : prS d = some k) : d = .str k := by
  unfold prS at h
  split at h
  · cases h; rfl
  · cases h
def sprs : List D → List O → Option SD
  | [], [] => some []
  | k :: ks, .d x :: os => match prS k, sprs ks os with
    | some q, some r => some ((q, x) :: r)
    | _, _ => none
  | _, _ => none
def O.sdd : O → Option SD
  | .dct ks os => sprs ks os
  | _ => none
def sdO (kv : SD) : O := .dct (kv.map fun p => D.str p.1) (kv.map fun p => .d p.2)
theorem sprs_eq : ∀ {ks : List D} {os : List O} {kv : SD}, sprs ks os = some kv → ks = kv.map (fun p => D.str p.1) ∧ os = kv.map fun p => .d p.2
  | [], [], _, h => by cases h; exact ⟨rfl, rfl⟩
  | [], _ :: _, _, h => by simp [sprs] at h
  | _ :: _, [], _, h => by simp [sprs] at h
  | k :: ks, .d x :: os, kv, h => by
    unfold sprs at h
    split at h
    · next q r e1 e2 =>
      cases h
      obtain ⟨h1, h2⟩ := sprs_eq e2
      rw [prS_eq e1, h1, h2]; exact ⟨rfl, rfl⟩
    · cases h
  | _ :: _, .lst _ :: _, _, h => by simp [sprs] at h
  | _ :: _, .dct _ _ :: _, _, h => by simp [sprs] at h
  | _ :: _, .obj _ _ _ :: _, _, h => by simp [sprs] at h
theorem sdd_eq {o : O} {kv : SD} (h : o.sdd = some kv) : o = sdO kv := by
  unfold O.sdd at h
  split at h
  · obtain ⟨h1, h2⟩ := sprs_eq h
    rw [h1, h2]; rfl
  · cases h
theorem sprs_of : ∀ kv : SD, sprs (kv.map fun p => D.str p.1) (kv.map fun p => O.d p.2) = some kv
  | [] => rfl
  | p :: kv => by
    rw [List.map_cons, List.map_cons]
    unfold sprs
    rw [show prS (.str p.1) = some p.1 from rfl, sprs_of kv]
@[simp] theorem sdd_sdO (kv : SD) : (sdO kv).sdd = some kv := sprs_of kv
def SDR (g : Wd) (F : Hp) (kvs : List (Key × V)) (kv : SD) : Prop := Paired (fun (p : Key × V) (q : List Nat × D) => p.1 = Sum.inr (tx q.1) ∧ Rep g F p.2 q.2) kvs kv
theorem keyD_str {p : Key} {k : List Nat} (h : keyD p = .str k) : p = Sum.inr (tx k) := by
  cases p with
  | inl a => cases h
  | inr a => cases h; show Sum.inr a = Sum.inr (tx (xt a)); rw [tx_xt]
theorem inrx_inj {a b : List Nat} (h : (Sum.inr (tx a) : Key) = Sum.inr (tx b)) : a = b := congrArg xt (Sum.inr.inj h)
theorem sdr_of {g : Wd} {F : Hp} : ∀ {kv : SD} {kvs : List (Key × V)}, kvs.map (fun p => keyD p.1) = kv.map (fun p => D.str p.1) → Reps g F (kvs.map (·.2)) (kv.map (·.2)) → SDR g F kvs kv
  | [], [], _, _ => .nil
  | [], _ :: _, h, _ => by simp at h
  | _ :: _, [], h, _ => by simp at h
  | q :: kv, p :: kvs, h, r => by
    rw [List.map_cons, List.map_cons] at h r
    have h := List.cons.inj h
    cases r with
    | cons a b => exact .cons ⟨keyD_str h.1, a⟩ (sdr_of h.2 b)
theorem SDR.keys {g : Wd} {F : Hp} {kvs : List (Key × V)} {kv : SD} (h : SDR g F kvs kv) : kvs.map (fun p => keyD p.1) = kv.map (fun p => D.str p.1) ∧ kvs.map (·.1) = kv.map (fun p => (Sum.inr (tx p.1) : Key)) ∧ kvs.length = kv.length := by
  unfold SDR at h
  induction h with
  | nil => exact ⟨rfl, rfl, rfl⟩
  | cons a t ih => exact ⟨by rw [List.map_cons, List.map_cons, ih.1, a.1]; rfl, by rw [List.map_cons, List.map_cons, ih.2.1, a.1], by rw [List.length_cons, List.length_cons, ih.2.2]⟩
theorem SDR.vals {g : Wd} {F H : Hp} {kvs : List (Key × V)} {kv : SD} (h : SDR g F kvs kv) : RepOs g F H (kvs.map (·.2)) (kv.map fun p => .d p.2) [] := by
  unfold SDR at h
  induction h with
  | nil => exact .nil
  | cons a t ih => exact .cons (f := []) (fp := []) (.d a.2) ih
theorem SDR.mono {g : Wd} {F F' : Hp} {kvs : List (Key × V)} {kv : SD} (h : SDR g F kvs kv) (e : Ext F F') : SDR g F' kvs kv := by
  unfold SDR at h
  induction h with
  | nil => exact .nil
  | cons a t ih => exact .cons ⟨a.1, a.2.mono e⟩ ih
theorem RepO.sdd {g : Wd} {F H : Hp} {v : V} {kv : SD} {fp : List Addr} (h : RepO g F H v (sdO kv) fp) : ∃ a kvs, v = .ref a ∧ fp = [a] ∧ H a = some (.dK kvs) ∧ SDR g F kvs kv := by
  unfold sdO at h
  have em : (kv.map fun p => O.d p.2) = (kv.map (·.2)).map O.d := by rw [List.map_map]; rfl
  rw [em] at h
  cases h with
  | @dk a kvs ks os fp h hk r =>
    obtain ⟨r', e'⟩ := r.toReps
    subst e'
    exact ⟨a, kvs, rfl, rfl, h, sdr_of hk r'⟩
  | @dt a kvs ks os fp h hk r =>
    cases kv with
    | nil => cases hk
    | cons p kv => cases (List.cons.inj hk).1
theorem SDR.rep {g : Wd} {F H : Hp} {a : Addr} {kvs : List (Key × V)} {kv : SD} (h : SDR g F kvs kv) (e : H a = some (.dK kvs)) : RepO g F H (.ref a) (sdO kv) [a] := .dk e (by rw [h.keys.1]) h.vals
theorem SDR.get {g : Wd} {F : Hp} {kvs : List (Key × V)} {kv : SD} (h : SDR g F kvs kv) {k : List Nat} {x : D} (e : tget kv k = some x) : ∃ v, valV kvs (Sum.inr (tx k)) = some v ∧ Rep g F v x := by
  unfold SDR at h
  induction h with
  | nil => cases e
  | @cons p q kvs kv a t ih =>
    by_cases c : q.1 = k
    · have : tget (q :: kv) k = some q.2 := by simp [tget, List.find?_cons, c]
      rw [this] at e; cases e
      exact ⟨p.2, valV_pos (by rw [a.1, c]), a.2⟩
    · have : tget (q :: kv) k = tget kv k := by simp [tget, List.find?_cons, c]
      rw [this] at e
      obtain ⟨v, h1, h2⟩ := ih e
      exact ⟨v, by rw [valV_neg (fun z => c (inrx_inj (by rw [← a.1, z]))), h1], h2⟩
theorem SDR.none {g : Wd} {F : Hp} {kvs : List (Key × V)} {kv : SD} (h : SDR g F kvs kv) {k : List Nat} (e : tget kv k = none) : valV kvs (Sum.inr (tx k)) = none := by
  unfold SDR at h
  induction h with
  | nil => rfl
  | @cons p q kvs kv a t ih =>
    by_cases c : q.1 = k
    · have : tget (q :: kv) k = some q.2 := by simp [tget, List.find?_cons, c]
      rw [this] at e; cases e
    · have : tget (q :: kv) k = tget kv k := by simp [tget, List.find?_cons, c]
      rw [this] at e
      rw [valV_neg (fun z => c (inrx_inj (by rw [← a.1, z])))]; exact ih e
theorem SDR.any {g : Wd} {F : Hp} {kvs : List (Key × V)} {kv : SD} (h : SDR g F kvs kv) (k : List Nat) : (kvs.any fun p => decide (p.1 = Sum.inr (tx k))) = kv.any fun p => decide (p.1 = k) := by
  unfold SDR at h
  induction h with
  | nil => rfl
  | @cons p q kvs kv a t ih =>
    rw [List.any_cons, List.any_cons, ih]
    congr 1
    refine decide_eq_decide.mpr ⟨fun z => inrx_inj (by rw [← a.1, z]), fun z => by rw [a.1, z]⟩
theorem SDR.mapPut {g : Wd} {F : Hp} {kvs : List (Key × V)} {kv : SD} (h : SDR g F kvs kv) (k : List Nat) {y : V} {x : D} (r : Rep g F y x) : SDR g F (kvs.map fun kv => if kv.1 = Sum.inr (tx k) then (kv.1, y) else kv) (kv.map fun p => if p.1 = k then (p.1, x) else p) := by
  unfold SDR at h ⊢
  induction h with
  | nil => exact .nil
  | @cons p q kvs kv a t ih =>
    rw [List.map_cons, List.map_cons]
    refine .cons ?_ ih
    by_cases c : q.1 = k
    · rw [if_pos c, if_pos (by rw [a.1, c])]; exact ⟨a.1, r⟩
    · rw [if_neg c, if_neg fun z => c (inrx_inj (by rw [← a.1, z]))]; exact a
theorem SDR.snoc {g : Wd} {F : Hp} {kvs : List (Key × V)} {kv : SD} (h : SDR g F kvs kv) (k : List Nat) {y : V} {x : D} (r : Rep g F y x) : SDR g F (kvs ++ [(Sum.inr (tx k), y)]) (kv ++ [(k, x)]) := by
  unfold SDR at h ⊢
  induction h with
  | nil => exact .cons ⟨rfl, r⟩ .nil
  | cons a t ih => exact .cons a ih
theorem SDR.put {g : Wd} {F : Hp} {kvs : List (Key × V)} {kv : SD} (h : SDR g F kvs kv) (k : List Nat) {y : V} {x : D} (r : Rep g F y x) : SDR g F (putK kvs (Sum.inr (tx k)) y) (tput kv k x) := by
  unfold putK tput
  rw [h.any k]
  split
  · exact h.mapPut k r
  · exact h.snoc k r
section
variable {X : Cx} {W : WX} {pos : Pos} {a b c tg : Expr} {es : List Expr} {ma mb mc : M} {ms : List M} {p : Pos}
def lDGetS (p q : R) : Option R := match p, q with
  | .pk o, .d kd => match o.sdd, prS kd with
    | some kv, some k => (tget kv k).map R.d
    | _, _ => none
  | _, _ => none
theorem l_dgetS {K : Wd} : LOk2 K lDGetS (fun x y H Q => ∃ a v, x = .ref a ∧ DGet H a y (some v) ∧ Q v H) := by
  intro F H S x y p q f1 f2 Q rx ry l
  obtain ⟨rr, e⟩ := l.has
  have e0 := e
  unfold lDGetS at e
  split at e
  · next o kd =>
    split at e
    · next kv k e1 e2 =>
      cases e3 : tget kv k with
      | none => rw [e3] at e; cases e
      | some d =>
        rw [e3] at e; cases e
        obtain ⟨rfl, fp, rx⟩ := rx
        rw [sdd_eq e1] at rx
        obtain ⟨a, kvs, rfl, _, ha, pr⟩ := rx.sdd
        obtain ⟨ry, _⟩ := ry
        rw [prS_eq e2] at ry
        cases ry
        obtain ⟨v, hv, rv⟩ := pr.get e3
        exact ⟨a, v, rfl, hv ▸ DGet.k (k := Sum.inr (tx k)) ha, l.val e0 rv⟩
    · cases e
  · cases e
theorem s_dgetS (hu : X.A.units + 65 < cLine) (ha : SE X W a ma) (hb : SE X W b mb) (hs : NoSl b := by exact fun _ _ => rfl) : SE X W (.Subscript a b pos) (m2 lDGetS ma mb) := PE.wk (pe_dget (by omega) ha hb hs) fun σ H Q h => tM_m2 l_dgetS h
def dputAtS (ρ : Ro) (i : Nat) (k : List Nat) (x : D) : Option Ro := match ρ[i]? with
  | some (.mu b o) => match o.sdd with
    | some kv => if lenOk (kv.length + 1) = true then some (ρ.set i (.mu b (sdO (tput kv k x)))) else none
    | none => none
  | _ => none
def mDPutS (i : Nat) (mk me : M) : MS := fun ρ => if isMu ρ i = true then (mArgs [me, mk] ρ).stm fun rs ρ' => match rs with
  | [r, .d kd] => match r.st, prS kd with
    | some x, some k => match dputAtS ρ' i k x with
      | some ρ2 => .nx ρ2
      | none => .no
    | _, _ => .no
  | _ => .no
  else .no
theorem ss_dputS {i : Nat} {x : Str} {spos : Pos} (hu : X.A.units + 65 < cLine) (hN : X.N[i]? = some x) (hv : Vis X.env.scope x) (ha : SE X W a ma) (hb : SE X W b mb) (hd : (x == ("__debug__" : Str)) = false := by decide) (hcd : (x == ("__classdict__" : Str)) = false := by decide)
    (hs : swapsWith a (some (.Subscript (.Name x p) b spos)) pos.line X.env = pure false := by rfl) :
    SS X W (.Assign [.Subscript (.Name x p) b spos] a pos) (mDPutS i mb ma) :=
  PS.wk (ps_dput (by omega) (pe_var hN hv hd hcd) hb ha hs) fun D σ H h => by
    obtain ⟨F, ρ, fp, st, ob⟩ := h
    have ob : ObS (gOf X) W ρ σ F H (Own fp) (if isMu ρ i = true then _ else _) D := ob
    by_cases hl : isMu ρ i = true
    · rw [if_pos hl] at ob
      obtain ⟨b, o, e⟩ : ∃ b o, ρ[i]? = some (.mu b o) := by
        unfold isMu at hl
        split at hl
        · next b os e => exact ⟨b, os, e⟩
        · cases hl
      obtain ⟨v, ev, _⟩ := st.mu i b _ e
      have h2 : tA (gOf X) W [ma, mb] σ H fun vs H2 => ∃ y z, vs = [y, z] ∧ ∃ a H4, v = .ref a ∧ DPut H2 a z y H4 ∧ D.nx σ H4 := by
        refine tS_of (m := mArgs [ma, mb]) (k := fun rs ρ' => match rs with
          | [r, .d kd] => match r.st, prS kd with
            | some x, some k => match dputAtS ρ' i k x with
              | some ρ2 => .nx ρ2
              | none => .no
            | _, _ => .no
          | _ => .no) (D := D) ⟨F, ρ, fp, st, ob⟩ fun rs ρ1 vs F1 H1 fp1 fr1 st1 r1 n1 ob1 => ?_
        split at ob1
        · next r kd =>
          obtain ⟨y, w, fa, fb, rfl, rfl, ra, rb⟩ := r1.two
          obtain ⟨rb, rfl⟩ := rb
          rw [List.append_nil] at ob1 n1
          refine ⟨y, w, rfl, ?_⟩
          split at ob1
          · next x k ex ek =>
            rw [prS_eq ek] at rb
            cases rb
            unfold dputAtS at ob1
            split at ob1
            · next ρ2 e2 =>
              split at e2
              · next b2 o2 e3 =>
                split at e2
                · next kv ekv =>
                  split at e2
                  · next hlen =>
                    have hlen := lenOk_le hlen
                    cases e2
                    obtain ⟨v2, ev2, r2⟩ := st1.mu i b2 _ e3
                    rw [ev] at ev2; cases ev2
                    obtain ⟨f1, hf1⟩ : ∃ f, f = fp1 i := ⟨_, rfl⟩
                    have nd1 := st1.nd i
                    rw [← hf1] at r2 nd1
                    rw [sdd_eq ekv] at r2
                    obtain ⟨l, kvs, rfl, rfl, hl1, pr⟩ := r2.sdd
                    have st2 := st1.frzd fun a ha => (ra.out a ha).2.1
                    have ry : Rep (gOf X) (frz F1 H1 fa) y x := ra.st ex (frz_ext st1.sub) fun a ha => frz_mem ha
                    have kl := pr.keys.2.2
                    have hlt : kvs.length < sizeLine := by rw [kl, sizeLine_eq]; omega
                    obtain ⟨fp3, st3, sp3⟩ := st2.chg (H' := upd H1 l (.dK (putK kvs (Sum.inr (tx k)) y))) e3 ev (o' := sdO (tput kv k x)) (f := [l]) (fun a u ha hu => by
                      rw [upd_ne fun z => ha (by rw [← hf1, z]; simp)]; exact hu)
                      (((pr.mono (frz_ext st1.sub)).put k ry).rep upd_same) nd1 fun a ha => .inl (by rw [← hf1]; exact ha)
                    exact ⟨l, _, rfl, DPut.k (k := Sum.inr (tx k)) hl1 hlt, ob1.nx _ rfl σ _ _ fp3 ((Step.frz st1.sub).trans sp3) st3 (.chg e3)⟩
                  · cases e2
                · cases e2
              · cases e2
            · exact absurd rfl ob1.no
          · exact absurd rfl ob1.no
        · exact absurd rfl ob1.no
      refine (tA_cons h2).imp fun y H1 q => ⟨v, ev, (tA_cons q).imp fun z H2 q => ?_⟩
      obtain ⟨y', z', e2, a, H4, h1, h2, h3⟩ := tA_nil q
      cases e2
      exact ⟨a, H4, h1, h2, h3⟩
    · rw [if_neg hl] at ob; exact absurd rfl ob.no
end
end
end Mw
set_option maxHeartbeats 2000000
set_option Elab.async false
set_option linter.all false
set_option maxRecDepth 100000
set_option autoImplicit false
namespace Mw
open PySem PySem.Spec PyProof.Rows L2
noncomputable section
section
variable {X : Cx} {W : WX} {pos : Pos} {a b : Expr} {ma mb : M}
def lIndexX (p q : R) : Option R := match p.pl, q.pl with
  | some (.lst ds), some y => if y.shp = true ∧ (D.lst ds).shp = true then (ds.findIdx? fun z => D.eqv z y).map fun (j : Nat) => .d (.int j) else none
  | _, _ => none
theorem l_indexX : LOk2 (gOf X) lIndexX (fun x y H Q => rIndexD X.K x [y] H Q) := by
  intro F H S x y p q f1 f2 Q rx ry l
  obtain ⟨rr, e⟩ := l.has
  have e0 := e
  unfold lIndexX at e
  split at e
  · next ds y' h1 h2 =>
    split at e
    · next hc =>
      cases ej : ds.findIdx? (fun z => D.eqv z y') with
      | none => rw [ej] at e; cases e
      | some j =>
        rw [ej] at e; cases e
        obtain ⟨a1, vs, rfl, k1, n1, r1⟩ := rx.lst l.sub h1
        obtain ⟨d1, s1⟩ := shp_dp (ry.whole l.sub h2) hc.1
        obtain ⟨d2, s2⟩ := shp_dp (rx.whole l.sub h1) hc.2
        obtain ⟨hj, hp, hno⟩ := List.findIdx?_eq_some_iff_getElem.mp ej
        have d2 : Dp X.K H (.ref a1) (.list (pys ds)) := d2
        have s2 : SeqAt.shaped (.list (pys ds)) = true := s2
        rw [pys_map] at d2 s2
        refine ⟨a1, y, y'.py, ds.map D.py, j, (ds[j]).py, rfl, rfl, d2, d1, s2, s1, ?_, hp, fun m z' hm hz' => ?_, l.val e0 (.int _)⟩
        · rw [List.getElem?_map, List.getElem?_eq_getElem hj]; rfl
        · have hml : m < ds.length := by omega
          rw [List.getElem?_map, List.getElem?_eq_getElem hml] at hz'
          cases hz'
          have := hno m hm
          simpa [D.eqv] using this
    · cases e
  · cases e
def mIndexX (ma mb : M) : M := m2 lIndexX (mLs ma) mb
theorem s_indexX {apos : Pos} (hu : X.A.units + 65 < cLine) (ha : SE X W a ma) (hb : SE X W b mb) 
    (hbase : attributeBase a "index" X.env (eval a X.env) = eval a X.env := by rfl)
    (hfew : ((backTo pos (starEach (b :: []) X.env)).all (fun x => !x.1) && (backToKw pos (keywordEach [] X.env)).all (fun x => x.1.isSome)
      && decide ((b :: ([] : List Expr)).length + ([] : List Keyword).length + (if ([] : List Keyword).isEmpty then 0 else 1) < 30)) = true := by rfl)
    (hline : (apos.endLine == pos.line) = true := by rfl) (hs : starEach (b :: []) X.env = (false, eval b X.env) :: starEach [] X.env := by rfl) :
    SE X W (.Call (.Attribute a "index" apos) [b] [] pos) (mIndexX ma mb) :=
  PE.wk (pe_bm PySem.F.plainAttrs_list PySem.F.slot_list_index PySem.F.type_list_index (mt_indexD hu) ha (pa_cons hb pa_nil hs) hbase hfew hline hs rfl) fun σ H Q h =>
    (tM_ls (tA_cons (tM_ops h))).imp fun x H1 ⟨ty, q⟩ => ⟨ty, (tA_cons q).imp fun y H2 q => by
      obtain ⟨x', y', e, k⟩ := l_indexX.at (tA_nil q)
      cases e; exact k⟩
end
end
end Mw
set_option Elab.async false
set_option linter.all false
set_option maxRecDepth 100000
set_option autoImplicit false
namespace Mw
open PySem PySem.Spec PyProof.Rows L2
noncomputable section
def Slo.bor : Slo → Bool
  | .mu true _ => true
  | _ => false
@[simp] theorem bor_un : Slo.bor .un = false := rfl
@[simp] theorem bor_shr (d : D) : Slo.bor (.shr d) = false := rfl
@[simp] theorem bor_mu (b : Bool) (o : O) : Slo.bor (.mu b o) = b := by cases b <;> rfl
@[simp] theorem isBor_nil (n : Nat) : isBor [] n = false := rfl
@[simp] theorem isBor_0 (s : Slo) (ρ : Ro) : isBor (s :: ρ) 0 = s.bor := by
  cases s with
  | mu b o => cases b <;> rfl
  | _ => rfl
@[simp] theorem isBor_s (s : Slo) (ρ : Ro) (n : Nat) : isBor (s :: ρ) (n + 1) = isBor ρ n := rfl
@[simp] theorem isLst_0 (b : Bool) (os : List O) (ρ : Ro) : isLst (.mu b (.lst os) :: ρ) 0 = true := rfl
@[simp] theorem isLst_s (s : Slo) (ρ : Ro) (n : Nat) : isLst (s :: ρ) (n + 1) = isLst ρ n := rfl
@[simp] theorem live_mu (b : Bool) (o : O) (ρ : Ro) : live (.mu b o :: ρ) 0 = true := rfl
@[simp] theorem live_shr (d : D) (ρ : Ro) : live (.shr d :: ρ) 0 = true := rfl
@[simp] theorem live_s (s : Slo) (ρ : Ro) (n : Nat) : live (s :: ρ) (n + 1) = live ρ n := rfl
theorem pushAt_0 (b : Bool) (os : List O) (ρ : Ro) (x : D) : pushAt (.mu b (.lst os) :: ρ) 0 x = if lenOk (os.length + 1) = true then some (.mu b (.lst (os ++ [.d x])) :: ρ) else none := rfl
theorem pushAt_s (s : Slo) (ρ : Ro) (n : Nat) (x : D) : pushAt (s :: ρ) (n + 1) x = (pushAt ρ n x).map (s :: ·) := by
  unfold pushAt
  simp only [List.getElem?_cons_succ, List.set_cons_succ]
  cases ρ[n]? with
  | none => rfl
  | some t =>
    cases t with
    | mu b o =>
      cases o with
      | lst os => dsimp only; split <;> rfl
      | _ => rfl
    | _ => rfl
theorem putAt_0 (b : Bool) (os : List O) (ρ : Ro) (k : Int) (x : D) : putAt (.mu b (.lst os) :: ρ) 0 k x = (L2.ixN os.length k).map fun j => .mu b (.lst (os.set j (.d x))) :: ρ := by
  unfold putAt
  simp only [List.getElem?_cons_zero]
  cases L2.ixN os.length k <;> rfl
theorem putAt_s (s : Slo) (ρ : Ro) (n : Nat) (k : Int) (x : D) : putAt (s :: ρ) (n + 1) k x = (putAt ρ n k x).map (s :: ·) := by
  unfold putAt
  simp only [List.getElem?_cons_succ, List.set_cons_succ]
  cases ρ[n]? with
  | none => rfl
  | some t =>
    cases t with
    | mu b o =>
      cases o with
      | lst os => dsimp only; split <;> rfl
      | _ => rfl
    | _ => rfl
section
variable (s₀ : Slo) (ρ₀ : Ro) (a b c : M) (ms : List M)
@[simp] theorem ev_C (d : D) : mC d (s₀ :: ρ₀) = .ok (.d d) (s₀ :: ρ₀) true := rfl
theorem ev_nm (i : Nat) : nm i (s₀ :: ρ₀) = match (s₀ :: ρ₀)[i]? with
  | some (.shr d) => .ok (.d d) (s₀ :: ρ₀) true
  | some (.mu _ o) => .ok (.pk o) (s₀ :: ρ₀) true
  | _ => .no := rfl
theorem ev_fz (i : Nat) : fz i (s₀ :: ρ₀) = match (s₀ :: ρ₀)[i]? with
  | some (.shr d) => .ok (.d d) (s₀ :: ρ₀) true
  | some (.mu false o) => if o.fz = true then .ok (.d o.toD) ((s₀ :: ρ₀).set i (.shr o.toD)) false else .no
  | _ => .no := rfl
theorem ev_mv (i : Nat) : mv i (s₀ :: ρ₀) = match (s₀ :: ρ₀)[i]? with
  | some (.shr d) => .ok (.d d) (s₀ :: ρ₀) true
  | some (.mu false o) => .ok (.own o) ((s₀ :: ρ₀).set i .un) false
  | _ => .no := rfl
def pkq (r : R) (q : Bool) : Bool := r.isPk && !q
@[simp] theorem pkq_d (d : D) (q : Bool) : pkq (.d d) q = false := rfl
@[simp] theorem pkq_own (o : O) (q : Bool) : pkq (.own o) q = false := rfl
@[simp] theorem pkq_t (r : R) : pkq r true = false := by simp [pkq]
@[simp] theorem pkq_pk (o : O) (q : Bool) : pkq (.pk o) q = !q := by simp [pkq]
theorem ev_m2 (f : R → R → Option R) : m2 f a b (s₀ :: ρ₀) = (a (s₀ :: ρ₀)).bind fun x ρ1 q1 => (b ρ1).bind fun y ρ2 q2 => if pkq x q2 = true then .no else match f x y with
    | some r => .ok r ρ2 (q1 && q2)
    | none => .no := by
  unfold m2 mOps mArgs mArgs mArgs pkq
  cases a (s₀ :: ρ₀) with
  | no => rfl
  | ex x ρ1 => rfl
  | ok x ρ1 q1 =>
    simp only [Res.bind_ok]
    cases b ρ1 with
    | no => rfl
    | ex x ρ1 => rfl
    | ok y ρ2 q2 =>
      simp only [Res.bind_ok, Bool.not_true, Bool.and_false, Bool.false_eq_true, if_false, Bool.and_true]
      split
      · rfl
      · rfl
theorem ev_m1 (f : R → Option R) : m1 f a (s₀ :: ρ₀) = (a (s₀ :: ρ₀)).bind fun x ρ1 q1 => match f x with
    | some r => .ok r ρ1 q1
    | none => .no := by
  unfold m1 mOps mArgs mArgs
  cases a (s₀ :: ρ₀) with
  | no => rfl
  | ex x ρ1 => rfl
  | ok x ρ1 q1 => (simp only [Res.bind_ok, Bool.not_true, Bool.and_false, Bool.false_eq_true, if_false, Bool.and_true]) <;> rfl
theorem ev_mInt : mInt a (s₀ :: ρ₀) = (a (s₀ :: ρ₀)).bind fun r ρ' q => match r with
  | .d (.int i) => .ok (.d (.int i)) ρ' q
  | _ => .no := rfl
theorem ev_mTest : mTest a (s₀ :: ρ₀) = (a (s₀ :: ρ₀)).bind fun r ρ' q => match r with
  | .d (.bl b) => .ok b ρ' q
  | _ => .no := rfl
theorem ev_mAnd (a b : MB) : mAnd a b (s₀ :: ρ₀) = (a (s₀ :: ρ₀)).bind fun x ρ1 q1 => if x = true then (b ρ1).bind fun y ρ2 q2 => .ok y ρ2 (q1 && q2) else .ok false ρ1 q1 := rfl
theorem ev_mOr (a b : MB) : mOr a b (s₀ :: ρ₀) = (a (s₀ :: ρ₀)).bind fun x ρ1 q1 => if x = true then .ok true ρ1 q1 else (b ρ1).bind fun y ρ2 q2 => .ok y ρ2 (q1 && q2) := rfl
theorem ev_mNot (a : MB) : mNot a (s₀ :: ρ₀) = (a (s₀ :: ρ₀)).bind fun x ρ1 q1 => .ok (!x) ρ1 q1 := rfl
theorem ev_mAndV : mAndV a b (s₀ :: ρ₀) = (a (s₀ :: ρ₀)).bind fun x ρ1 q1 => match x with
  | .d (.bl true) => (b ρ1).bind fun y ρ2 q2 => .ok y ρ2 (q1 && q2)
  | .d (.bl false) => .ok (.d (.bl false)) ρ1 q1
  | _ => .no := rfl
theorem ev_mOrV : mOrV a b (s₀ :: ρ₀) = (a (s₀ :: ρ₀)).bind fun x ρ1 q1 => match x with
  | .d (.bl false) => (b ρ1).bind fun y ρ2 q2 => .ok y ρ2 (q1 && q2)
  | .d (.bl true) => .ok (.d (.bl true)) ρ1 q1
  | _ => .no := rfl
theorem ev_args0 : mArgs [] (s₀ :: ρ₀) = .ok [] (s₀ :: ρ₀) true := rfl
theorem ev_args : mArgs (a :: ms) (s₀ :: ρ₀) = (a (s₀ :: ρ₀)).bind fun r ρ1 q1 => (mArgs ms ρ1).bind fun rs ρ2 q2 => if pkq r q2 = true then .no else .ok (r :: rs) ρ2 (q1 && q2) := rfl
theorem ev_mLst : mLst ms (s₀ :: ρ₀) = (mArgs ms (s₀ :: ρ₀)).bind fun rs ρ' q => match sts rs with
  | some ds => if lenOk ds.length = true then .ok (.own (.lst (ds.map O.d))) ρ' q else .no
  | none => .no := by
  unfold mLst mOps
  cases mArgs ms (s₀ :: ρ₀) with
  | no => rfl
  | ex x ρ1 => rfl
  | ok x ρ1 q1 =>
    simp only [Res.bind_ok]
    cases sts x with
    | none => rfl
    | some ds => dsimp only; split <;> simp_all
theorem ev_mTup : mTup ms (s₀ :: ρ₀) = (mArgs ms (s₀ :: ρ₀)).bind fun rs ρ' q => match sts rs with
  | some ds => if lenOk ds.length = true then .ok (.d (.tup ds)) ρ' q else .no
  | none => .no := by
  unfold mTup mOps
  cases mArgs ms (s₀ :: ρ₀) with
  | no => rfl
  | ex x ρ1 => rfl
  | ok x ρ1 q1 =>
    simp only [Res.bind_ok]
    cases sts x with
    | none => rfl
    | some ds => dsimp only; split <;> simp_all
@[simp] theorem sts_nil : sts [] = some [] := rfl
theorem sts_cons (r : R) (rs : List R) : sts (r :: rs) = match r.st, sts rs with
    | some x, some xs => some (x :: xs)
    | _, _ => none := rfl
theorem ev_sl00 : mSl a none none (s₀ :: ρ₀) = (mArgs [a] (s₀ :: ρ₀)).bind fun rs ρ' q => match (match rs with | [p] => lSl p none none | _ => none) with
    | some r => .ok r ρ' q
    | none => .no := rfl
theorem ev_sl10 : mSl a (some b) none (s₀ :: ρ₀) = (mArgs [a, mInt b] (s₀ :: ρ₀)).bind fun rs ρ' q => match (match rs with | [p, .d (.int i)] => lSl p (some i) none | _ => none) with
    | some r => .ok r ρ' q
    | none => .no := rfl
theorem ev_sl01 : mSl a none (some b) (s₀ :: ρ₀) = (mArgs [a, mInt b] (s₀ :: ρ₀)).bind fun rs ρ' q => match (match rs with | [p, .d (.int i)] => lSl p none (some i) | _ => none) with
    | some r => .ok r ρ' q
    | none => .no := rfl
theorem ev_sl11 : mSl a (some b) (some c) (s₀ :: ρ₀) = (mArgs [a, mInt b, mInt c] (s₀ :: ρ₀)).bind fun rs ρ' q => match (match rs with | [p, .d (.int i), .d (.int j)] => lSl p (some i) (some j) | _ => none) with
    | some r => .ok r ρ' q
    | none => .no := rfl
theorem ev_set (i : Nat) : mSet i a (s₀ :: ρ₀) = (a (s₀ :: ρ₀)).stm fun r ρ' => if isBor ρ' i = true then .no else match r.slo with
  | some s => .nx (ρ'.set i s)
  | none => .no := rfl
theorem ev_aug (i : Nat) : mAug i a (s₀ :: ρ₀) = mSet i (m2 lAddP (nm i) a) (s₀ :: ρ₀) := rfl
theorem ev_asg (t : Tg) : mAsg t a (s₀ :: ρ₀) = (a (s₀ :: ρ₀)).stm fun r ρ' => match r with
  | .d x => (match asg t x ρ' with
    | some ρ2 => .nx ρ2
    | none => .no)
  | _ => .no := rfl
theorem ev_seq (m n : MS) : mSeq m n (s₀ :: ρ₀) = (m (s₀ :: ρ₀)).thn n := rfl
@[simp] theorem ev_nx : mNx (s₀ :: ρ₀) = .nx (s₀ :: ρ₀) := rfl
@[simp] theorem ev_bk : mBk (s₀ :: ρ₀) = .bk (s₀ :: ρ₀) := rfl
@[simp] theorem ev_ct : mCt (s₀ :: ρ₀) = .ct (s₀ :: ρ₀) := rfl
theorem ev_rt : mRt a (s₀ :: ρ₀) = (a (s₀ :: ρ₀)).stm fun r ρ' => .rt r ρ' := rfl
@[simp] theorem ev_rtN : mRtN (s₀ :: ρ₀) = .rt (.d .non) (s₀ :: ρ₀) := rfl
theorem ev_if (c : MB) (m n : MS) : mIf c m n (s₀ :: ρ₀) = (c (s₀ :: ρ₀)).stm fun b ρ' => if b = true then m ρ' else n ρ' := rfl
theorem ev_drop : mDrop a (s₀ :: ρ₀) = (a (s₀ :: ρ₀)).stm fun _ ρ' => .nx ρ' := rfl
theorem ev_for (it : MI) (t : Tg) (m : MS) : mFor it t m (s₀ :: ρ₀) = (it (s₀ :: ρ₀)).stm fun xs ρ' => forGo t m xs ρ' := rfl
theorem ev_it : mIt a (s₀ :: ρ₀) = (a (s₀ :: ρ₀)).bind fun r ρ' q => match r.its with
  | some ds => .ok ds ρ' q
  | none => .no := rfl
theorem ev_rg1 : mRg1 a (s₀ :: ρ₀) = (a (s₀ :: ρ₀)).bind fun r ρ' q => match r with
  | .d (.int j) => if rgOk j = true then .ok ((List.range j.toNat).map fun (k : Nat) => D.int k) ρ' q else .no
  | _ => .no := rfl
theorem ev_rg2 : mRg2 a b (s₀ :: ρ₀) = (mArgs [a, b] (s₀ :: ρ₀)).bind fun rs ρ' q => match rs with
  | [.d (.int i), .d (.int j)] => if (rgOk i && rgOk j) = true then .ok ((List.range (j - i).toNat).map fun (k : Nat) => D.int (i + k)) ρ' q else .no
  | _ => .no := rfl
theorem ev_app (i : Nat) : mApp i a (s₀ :: ρ₀) = if isLst (s₀ :: ρ₀) i = true then (a (s₀ :: ρ₀)).bind fun r ρ' _ => match r.st with
    | some x => (match pushAt ρ' i x with
      | some ρ2 => .ok (.d .non) ρ2 false
      | none => .no)
    | none => .no
  else .no := rfl
theorem ev_put (i : Nat) : mPut i b a (s₀ :: ρ₀) = if isLst (s₀ :: ρ₀) i = true then (mArgs [a, mInt b] (s₀ :: ρ₀)).stm fun rs ρ' => match rs with
    | [r, .d (.int k)] => (match r.st with
      | some x => (match putAt ρ' i k x with
        | some ρ2 => .nx ρ2
        | none => .no)
      | none => .no)
    | _ => .no
  else .no := rfl
theorem ev_argb0 : mArgB [] (s₀ :: ρ₀) = .ok [] (s₀ :: ρ₀) true := rfl
theorem ev_argbv (as : List Ar) : mArgB (.v a :: as) (s₀ :: ρ₀) = (a (s₀ :: ρ₀)).bind fun r ρ1 q1 => (mArgB as ρ1).bind fun rs ρ2 q2 => if r.isPk = true then .no else .ok (.r r :: rs) ρ2 (q1 && q2) := rfl
theorem ev_argbb (i : Nat) (as : List Ar) : mArgB (.b i :: as) (s₀ :: ρ₀) = if live (s₀ :: ρ₀) i = true then (mArgB as (s₀ :: ρ₀)).bind fun rs ρ2 q2 => .ok (.b i :: rs) ρ2 q2 else .no := rfl
theorem ev_call (f : Fn) (as : List Ar) : mCall f as (s₀ :: ρ₀) = (mArgB as (s₀ :: ρ₀)).bind fun rs ρ1 q => match lend rs ρ1 with
  | none => .no
  | some (as, ls, ρu) => (match f as with
    | .ok r as' => .ok r (back ls as' ρu) (q && ls.all Option.isNone)
    | .ex x as' => .ex x (back ls as' ρu)
    | .no => .no) := rfl
end
theorem sq (m n : MS) (ρ : Ro) : mSeq m n ρ = (m ρ).thn n := rfl
def fin (as : List Slo) : SRes → FRes
  | .nx ρ => .ok (.d .non) (keep as ρ)
  | .rt r ρ => if r.isPk = true then .no else .ok r (keep as ρ)
  | .ex x ρ => .ex x (keep as ρ)
  | _ => .no
theorem ev_fn (n : Nat) (b : MS) (as : List Slo) : mkFn n b as = fin as (b (as ++ List.replicate (n - as.length) .un)) := by
  unfold mkFn fin
  cases b (as ++ List.replicate (n - as.length) .un) <;> rfl
@[simp] theorem fin_nx (as : List Slo) (ρ : Ro) : fin as (.nx ρ) = .ok (.d .non) (keep as ρ) := rfl
@[simp] theorem fin_rtd (as : List Slo) (x : D) (ρ : Ro) : fin as (.rt (.d x) ρ) = .ok (.d x) (keep as ρ) := rfl
@[simp] theorem fin_rto (as : List Slo) (x : O) (ρ : Ro) : fin as (.rt (.own x) ρ) = .ok (.own x) (keep as ρ) := rfl
@[simp] theorem fin_ex (as : List Slo) (x : Exc) (ρ : Ro) : fin as (.ex x ρ) = .ex x (keep as ρ) := rfl
theorem atI_pos {α : Type} (xs : List α) (n : Nat) : L2.atI xs (n : Int) = xs[n]? := by
  unfold L2.atI L2.ixN
  rw [if_pos (by omega)]
  by_cases h : n < xs.length
  · rw [if_pos (by omega)]; simp
  · rw [if_neg (by omega)]; simp; omega
@[simp] theorem atI_0 {α : Type} (xs : List α) : L2.atI xs 0 = xs[0]? := atI_pos xs 0
@[simp] theorem atI_1 {α : Type} (xs : List α) : L2.atI xs 1 = xs[1]? := atI_pos xs 1
@[simp] theorem atI_2 {α : Type} (xs : List α) : L2.atI xs 2 = xs[2]? := atI_pos xs 2
@[simp] theorem atI_3 {α : Type} (xs : List α) : L2.atI xs 3 = xs[3]? := atI_pos xs 3
@[simp] theorem atI_4 {α : Type} (xs : List α) : L2.atI xs 4 = xs[4]? := atI_pos xs 4
@[simp] theorem atI_5 {α : Type} (xs : List α) : L2.atI xs 5 = xs[5]? := atI_pos xs 5
@[simp] theorem ixN_0 (n : Nat) : L2.ixN n 0 = if 0 < n then some 0 else none := by
  unfold L2.ixN
  rw [if_pos (by omega)]
  by_cases h : 0 < n
  · rw [if_pos (by omega), if_pos h]; rfl
  · rw [if_neg (by omega), if_neg h]
@[simp] theorem ixN_1 (n : Nat) : L2.ixN n 1 = if 1 < n then some 1 else none := by
  unfold L2.ixN
  rw [if_pos (by omega)]
  by_cases h : 1 < n
  · rw [if_pos (by omega), if_pos h]; rfl
  · rw [if_neg (by omega), if_neg h]
@[simp] theorem ixN_2 (n : Nat) : L2.ixN n 2 = if 2 < n then some 2 else none := by
  unfold L2.ixN
  rw [if_pos (by omega)]
  by_cases h : 2 < n
  · rw [if_pos (by omega), if_pos h]; rfl
  · rw [if_neg (by omega), if_neg h]
@[simp] theorem ixN_3 (n : Nat) : L2.ixN n 3 = if 3 < n then some 3 else none := by
  unfold L2.ixN
  rw [if_pos (by omega)]
  by_cases h : 3 < n
  · rw [if_pos (by omega), if_pos h]; rfl
  · rw [if_neg (by omega), if_neg h]
@[simp] theorem atI_neg1 {α : Type} (xs : List α) : L2.atI xs (-1) = xs.getLast? := by
  unfold L2.atI L2.ixN
  rw [if_neg (by omega), List.getLast?_eq_getElem?]
  by_cases h : 1 ≤ xs.length
  · rw [if_pos (by omega)]
    simp only [Option.bind_some]
    congr 1
    omega
  · rw [if_neg (by omega)]
    have : xs = [] := List.eq_nil_of_length_eq_zero (by omega)
    subst this; rfl
theorem ixN_pos (n : Nat) (i : Nat) (h : i < n) : L2.ixN n (i : Int) = some i := by
  unfold L2.ixN
  rw [if_pos (by omega), if_pos (by omega)]; simp
theorem lIx_d (ds : List D) (i : Int) : lIx (.d (.lst ds)) (.d (.int i)) = (L2.atI ds i).map R.d := rfl
theorem lIx_t (ds : List D) (i : Int) : lIx (.d (.tup ds)) (.d (.int i)) = (L2.atI ds i).map R.d := rfl
theorem lIx_s (s : List Nat) (i : Int) : lIx (.d (.str s)) (.d (.int i)) = (L2.atI s i).map fun c => .d (.str [c]) := rfl
theorem lIx_own (os : List O) (i : Int) : lIx (.own (.lst os)) (.d (.int i)) = (L2.atI os i).map O.r := rfl
theorem lIx_pk (os : List O) (i : Int) : lIx (.pk (.lst os)) (.d (.int i)) = (L2.atI os i).map O.r := rfl
@[simp] theorem lAdd_i (i j : Int) : lAdd (.d (.int i)) (.d (.int j)) = some (.d (.int (i + j))) := rfl
theorem lAdd_s (s t : List Nat) : lAdd (.d (.str s)) (.d (.str t)) = if lenOk (s.length + t.length) = true then some (.d (.str (s ++ t))) else none := rfl
theorem lAdd_t (s t : List D) : lAdd (.d (.tup s)) (.d (.tup t)) = if lenOk (s.length + t.length) = true then some (.d (.tup (s ++ t))) else none := rfl
@[simp] theorem lI_i (f : Int → Int → Option D) (i j : Int) : lI f (.d (.int i)) (.d (.int j)) = (f i j).map R.d := rfl
@[simp] theorem lInt1_i (i : Int) : lInt1 (.d (.int i)) = some (.d (.int i)) := rfl
@[simp] theorem lInt1_b (k : Bool) : lInt1 (.d (.bl k)) = some (.d (.int (if k then 1 else 0))) := rfl
theorem lMul_i (i j : Int) : lMul (.d (.int i)) (.d (.int j)) = if mulOk i j = true then some (.d (.int (i * j))) else none := rfl
theorem lMul_s (s : List Nat) (n : Int) : lMul (.d (.str s)) (.d (.int n)) = if repOk n s.length = true then some (.d (.str (List.replicate n.toNat s).flatten)) else none := rfl
@[simp] theorem lLen_s (s : List Nat) : lLen (.d (.str s)) = some (.d (.int s.length)) := rfl
@[simp] theorem lLen_l (s : List D) : lLen (.d (.lst s)) = some (.d (.int s.length)) := rfl
@[simp] theorem lLen_t (s : List D) : lLen (.d (.tup s)) = some (.d (.int s.length)) := rfl
@[simp] theorem lLen_o (s : List O) : lLen (.own (.lst s)) = some (.d (.int s.length)) := rfl
@[simp] theorem lLen_p (s : List O) : lLen (.pk (.lst s)) = some (.d (.int s.length)) := rfl
@[simp] theorem lEq_i (i j : Int) : lEq (.d (.int i)) (.d (.int j)) = some (.d (.bl (decide (i = j)))) := rfl
@[simp] theorem lEq_s (i j : List Nat) : lEq (.d (.str i)) (.d (.str j)) = some (.d (.bl (decide (i = j)))) := rfl
@[simp] theorem lEq_b (i j : Bool) : lEq (.d (.bl i)) (.d (.bl j)) = some (.d (.bl (decide (i = j)))) := rfl
@[simp] theorem lNe_i (i j : Int) : lNe (.d (.int i)) (.d (.int j)) = some (.d (.bl (!decide (i = j)))) := rfl
@[simp] theorem lNe_s (i j : List Nat) : lNe (.d (.str i)) (.d (.str j)) = some (.d (.bl (!decide (i = j)))) := rfl
@[simp] theorem lNe_b (i j : Bool) : lNe (.d (.bl i)) (.d (.bl j)) = some (.d (.bl (!decide (i = j)))) := rfl
@[simp] theorem lIn_s (n : Nat) (s : List Nat) : lIn (.d (.str [n])) (.d (.str s)) = some (.d (.bl (decide (n ∈ s)))) := rfl
@[simp] theorem lIsi_d (T : String) (x : D) : lIsi T (.d x) = x.kind.map fun k => .d (.bl (isK T k)) := rfl
@[simp] theorem lIsN_d (x : D) : lIsN (.d x) (.d .non) = some (.d (.bl x.isNon)) := rfl
@[simp] theorem lNotN_d (x : D) : lNotN (.d x) (.d .non) = some (.d (.bl (!x.isNon))) := rfl
@[simp] theorem lNeg_i (i : Int) : lNeg (.d (.int i)) = some (.d (.int (-i))) := rfl
@[simp] theorem lNot_b (b : Bool) : lNot (.d (.bl b)) = some (.d (.bl (!b))) := rfl
@[simp] theorem lAddP_i (i j : Int) : lAddP (.d (.int i)) (.d (.int j)) = some (.d (.int (i + j))) := rfl
@[simp] theorem its_s (s : List Nat) : (R.d (.str s)).its = some (s.map fun c => .str [c]) := rfl
@[simp] theorem lSl_s (s : List Nat) (lo hi : Option Int) : lSl (.d (.str s)) lo hi = some (.d (.str (cutA s lo hi))) := rfl
@[simp] theorem lSl_t (s : List D) (lo hi : Option Int) : lSl (.d (.tup s)) lo hi = some (.d (.tup (cutA s lo hi))) := rfl
@[simp] theorem lSl_l (s : List D) (lo hi : Option Int) : lSl (.d (.lst s)) lo hi = some (.own (.lst ((cutA s lo hi).map O.d))) := rfl
@[simp] theorem lSl_o (s : List D) (lo hi : Option Int) : lSl (.own (.lst (s.map O.d))) lo hi = some (.own (.lst ((cutA s lo hi).map O.d))) := by simp [lSl]
@[simp] theorem lSl_p (s : List D) (lo hi : Option Int) : lSl (.pk (.lst (s.map O.d))) lo hi = some (.own (.lst ((cutA s lo hi).map O.d))) := by simp [lSl]
@[simp] theorem fz_l (ds : List D) : (O.lst (ds.map O.d)).fz = true := fzs_d ds
@[simp] theorem toD_l (ds : List D) : (O.lst (ds.map O.d)).toD = .lst ds := by show D.lst (toDs (ds.map O.d)) = _; rw [toDs_d]
theorem forGo_inv {t : Tg} {b : MS} (P : Nat → Ro → Prop) : ∀ (xs : List D) (k : Nat) (ρ : Ro), P k ρ → (∀ i x ρ, xs[i]? = some x → P (k + i) ρ → ∃ ρ1, asg t x ρ = some ρ1 ∧ ∃ ρ2, (b ρ1 = .nx ρ2 ∨ b ρ1 = .ct ρ2) ∧ P (k + i + 1) ρ2) → ∃ ρ2, forGo t b xs ρ = .nx ρ2 ∧ P (k + xs.length) ρ2
  | [], k, ρ, h, _ => ⟨ρ, forGo_nil t b ρ, h⟩
  | x :: xs, k, ρ, h, hs => by
    obtain ⟨ρ1, h1, ρ2, h2, h3⟩ := hs 0 x ρ rfl h
    obtain ⟨ρ3, h4, h5⟩ := forGo_inv P xs (k + 1) ρ2 h3 fun i y ρ hy hp => by
      have := hs (i + 1) y ρ (by simpa using hy) (by rw [show k + (i + 1) = k + 1 + i by omega]; exact hp)
      rw [show k + (i + 1) + 1 = k + 1 + i + 1 by omega] at this
      exact this
    refine ⟨ρ3, ?_, by rw [List.length_cons, show k + (xs.length + 1) = k + 1 + xs.length by omega]; exact h5⟩
    rw [forGo_cons, h1]
    rcases h2 with h2 | h2
    · simp only [h2]; exact h4
    · simp only [h2]; exact h4
theorem forGo_run {t : Tg} {b : MS} (P : Nat → Ro → Prop) {xs : List D} {ρ : Ro} (h : P 0 ρ) (hs : ∀ i x ρ, xs[i]? = some x → P i ρ → ∃ ρ1, asg t x ρ = some ρ1 ∧ ∃ ρ2, (b ρ1 = .nx ρ2 ∨ b ρ1 = .ct ρ2) ∧ P (i + 1) ρ2) : ∃ ρ2, forGo t b xs ρ = .nx ρ2 ∧ P xs.length ρ2 := by
  have := forGo_inv P xs 0 ρ h fun i x ρ hx hp => by
    rw [Nat.zero_add] at hp ⊢
    exact hs i x ρ hx hp
  rwa [Nat.zero_add] at this
end
end Mw
set_option Elab.async false
set_option linter.all false
set_option maxRecDepth 100000
set_option autoImplicit false
namespace Mw
open PySem PySem.Spec PyProof.Rows L2
noncomputable section
section
variable (s₀ : Slo) (ρ₀ : Ro) (a b c : M) (ms : List M)
theorem ev_lc (it : MI) (t : Tg) (c : MB) (e : M) (vs : List Nat) : mLc it t c e vs (s₀ :: ρ₀) = (it (s₀ :: ρ₀)).bind fun xs ρ1 q1 => if (lenOk xs.length && noMu ρ1 vs) = true then (match lcGo t c e vs xs (wipeR ρ1 vs) true [] with
  | some (ys, ρ2, q) => .ok (.own (.lst (ys.map O.d))) (unwipe ρ1 ρ2 vs) (q1 && q)
  | none => .no) else .no := rfl
@[simp] theorem ev_yes : mYes (s₀ :: ρ₀) = .ok true (s₀ :: ρ₀) true := rfl
end
@[simp] theorem noMu_nil (ρ : Ro) : noMu ρ [] = true := rfl
@[simp] theorem wipeR_nil (ρ : Ro) : wipeR ρ [] = ρ := rfl
theorem wipeR_cons (ρ : Ro) (v : Nat) (vs : List Nat) : wipeR ρ (v :: vs) = (wipeR ρ vs).set v .un := rfl
@[simp] theorem unwipe_nil (ρ ρ' : Ro) : unwipe ρ ρ' [] = ρ' := rfl
theorem unwipe_cons (ρ ρ' : Ro) (v : Nat) (vs : List Nat) : unwipe ρ ρ' (v :: vs) = (unwipe ρ ρ' vs).set v (keepS ρ v) := rfl
theorem noMu_cons (ρ : Ro) (v : Nat) (vs : List Nat) : noMu ρ (v :: vs) = ((match ρ[v]? with | some (.mu _ _) => false | some (.xc _) => false | _ => true) && noMu ρ vs) := rfl
@[simp] theorem keepS_0 (s : Slo) (ρ : Ro) : keepS (s :: ρ) 0 = match s with | .shr d => .shr d | _ => .un := by cases s <;> rfl
@[simp] theorem keepS_s (s : Slo) (ρ : Ro) (n : Nat) : keepS (s :: ρ) (n + 1) = keepS ρ n := rfl
@[simp] theorem pl_d (x : D) : (R.d x).pl = some x := rfl
@[simp] theorem pl_own (ds : List D) : (R.own (.lst (ds.map O.d))).pl = some (.lst ds) := by simp [R.pl, O.plain]
@[simp] theorem pl_pk (ds : List D) : (R.pk (.lst (ds.map O.d))).pl = some (.lst ds) := by simp [R.pl, O.plain]
@[simp] theorem ol_own (ds : List D) : (R.own (.lst (ds.map O.d))).ol = some ds := by simp [R.ol]
@[simp] theorem ol_pk (ds : List D) : (R.pk (.lst (ds.map O.d))).ol = some ds := by simp [R.ol]
theorem eqv_ints : ∀ (s t : List Int), PyData.eqvAll (pys (s.map D.int)) (pys (t.map D.int)) = decide (s = t)
  | [], [] => rfl
  | [], _ :: _ => rfl
  | _ :: _, [] => rfl
  | a :: s, b :: t => by
    show (a == b && PyData.eqvAll (pys (s.map D.int)) (pys (t.map D.int))) = _
    rw [eqv_ints s t]
    by_cases h1 : a = b <;> by_cases h2 : s = t <;> simp [h1, h2]
theorem lay_ints : ∀ s : List Int, PyData.canLayAll0 (pys (s.map D.int)) = true
  | [] => rfl
  | a :: s => lay_ints s
theorem dep_ints : ∀ s : List Int, PyData.depthAll (pys (s.map D.int)) = 0
  | [] => rfl
  | a :: s => by show max 0 (PyData.depthAll (pys (s.map D.int))) = 0; rw [dep_ints s]; rfl
theorem nob_ints : ∀ s : List Int, nobs (s.map D.int) = true
  | [] => rfl
  | a :: s => nob_ints s
theorem shp_ints (s : List Int) : (D.lst (s.map D.int)).shp = true := by
  show (nobs (s.map D.int) && (PyData.canLayAll0 (pys (s.map D.int)) && decide (PyData.depthAll (pys (s.map D.int)) + 1 ≤ 64))) = true
  rw [nob_ints, lay_ints, dep_ints]; rfl
theorem shp_intt (s : List Int) : (D.tup (s.map D.int)).shp = true := by
  show (nobs (s.map D.int) && (PyData.canLayAll0 (pys (s.map D.int)) && decide (PyData.depthAll (pys (s.map D.int)) + 1 ≤ 64))) = true
  rw [nob_ints, lay_ints, dep_ints]; rfl
theorem lEq_pl {p q : R} {s t : List Int} (h : p.pl = some (.lst (s.map D.int))) (h2 : q.pl = some (.lst (t.map D.int))) : lEq p q = some (.d (.bl (decide (s = t)))) := by
  unfold lEq
  rw [h, h2]
  show (if (D.lst (s.map D.int)).shp = true ∧ (D.lst (t.map D.int)).shp = true then some (R.d (.bl (PyData.eqvAll (pys (s.map D.int)) (pys (t.map D.int))))) else none) = _
  rw [shp_ints, shp_ints, eqv_ints, if_pos ⟨rfl, rfl⟩]
theorem lNe_pl {p q : R} {s t : List Int} (h : p.pl = some (.lst (s.map D.int))) (h2 : q.pl = some (.lst (t.map D.int))) : lNe p q = some (.d (.bl (!decide (s = t)))) := by
  unfold lNe
  rw [h, h2]
  show (if (D.lst (s.map D.int)).shp = true ∧ (D.lst (t.map D.int)).shp = true then some (R.d (.bl (!PyData.eqvAll (pys (s.map D.int)) (pys (t.map D.int))))) else none) = _
  rw [shp_ints, shp_ints, eqv_ints, if_pos ⟨rfl, rfl⟩]
theorem lEq_tt (s t : List Int) : lEq (.d (.tup (s.map D.int))) (.d (.tup (t.map D.int))) = some (.d (.bl (decide (s = t)))) := by
  show (if (D.tup (s.map D.int)).shp = true ∧ (D.tup (t.map D.int)).shp = true then some (R.d (.bl (PyData.eqvAll (pys (s.map D.int)) (pys (t.map D.int))))) else none) = _
  rw [shp_intt, shp_intt, eqv_ints, if_pos ⟨rfl, rfl⟩]
theorem lNe_tt (s t : List Int) : lNe (.d (.tup (s.map D.int))) (.d (.tup (t.map D.int))) = some (.d (.bl (!decide (s = t)))) := by
  show (if (D.tup (s.map D.int)).shp = true ∧ (D.tup (t.map D.int)).shp = true then some (R.d (.bl (!PyData.eqvAll (pys (s.map D.int)) (pys (t.map D.int))))) else none) = _
  rw [shp_intt, shp_intt, eqv_ints, if_pos ⟨rfl, rfl⟩]
@[simp] theorem lEq_t2 (a b c d : Int) : lEq (.d (.tup [.int a, .int b])) (.d (.tup [.int c, .int d])) = some (.d (.bl (decide (a = c ∧ b = d)))) := by
  have := lEq_tt [a, b] [c, d]
  simpa using this
@[simp] theorem lNe_t2 (a b c d : Int) : lNe (.d (.tup [.int a, .int b])) (.d (.tup [.int c, .int d])) = some (.d (.bl (!decide (a = c ∧ b = d)))) := by
  have := lNe_tt [a, b] [c, d]
  simpa using this
@[simp] theorem lEq_dd (s t : List Int) : lEq (.d (.lst (s.map D.int))) (.d (.lst (t.map D.int))) = some (.d (.bl (decide (s = t)))) := lEq_pl (by simp only [pl_d, pl_own, pl_pk]) (by simp only [pl_d, pl_own, pl_pk])
@[simp] theorem lNe_dd (s t : List Int) : lNe (.d (.lst (s.map D.int))) (.d (.lst (t.map D.int))) = some (.d (.bl (!decide (s = t)))) := lNe_pl (by simp only [pl_d, pl_own, pl_pk]) (by simp only [pl_d, pl_own, pl_pk])
@[simp] theorem lEq_do (s t : List Int) : lEq (.d (.lst (s.map D.int))) (.own (.lst ((t.map D.int).map O.d))) = some (.d (.bl (decide (s = t)))) := lEq_pl (by simp only [pl_d, pl_own, pl_pk]) (by simp only [pl_d, pl_own, pl_pk])
@[simp] theorem lNe_do (s t : List Int) : lNe (.d (.lst (s.map D.int))) (.own (.lst ((t.map D.int).map O.d))) = some (.d (.bl (!decide (s = t)))) := lNe_pl (by simp only [pl_d, pl_own, pl_pk]) (by simp only [pl_d, pl_own, pl_pk])
@[simp] theorem lEq_dp (s t : List Int) : lEq (.d (.lst (s.map D.int))) (.pk (.lst ((t.map D.int).map O.d))) = some (.d (.bl (decide (s = t)))) := lEq_pl (by simp only [pl_d, pl_own, pl_pk]) (by simp only [pl_d, pl_own, pl_pk])
@[simp] theorem lNe_dp (s t : List Int) : lNe (.d (.lst (s.map D.int))) (.pk (.lst ((t.map D.int).map O.d))) = some (.d (.bl (!decide (s = t)))) := lNe_pl (by simp only [pl_d, pl_own, pl_pk]) (by simp only [pl_d, pl_own, pl_pk])
@[simp] theorem lEq_od (s t : List Int) : lEq (.own (.lst ((s.map D.int).map O.d))) (.d (.lst (t.map D.int))) = some (.d (.bl (decide (s = t)))) := lEq_pl (by simp only [pl_d, pl_own, pl_pk]) (by simp only [pl_d, pl_own, pl_pk])
@[simp] theorem lNe_od (s t : List Int) : lNe (.own (.lst ((s.map D.int).map O.d))) (.d (.lst (t.map D.int))) = some (.d (.bl (!decide (s = t)))) := lNe_pl (by simp only [pl_d, pl_own, pl_pk]) (by simp only [pl_d, pl_own, pl_pk])
@[simp] theorem lEq_oo (s t : List Int) : lEq (.own (.lst ((s.map D.int).map O.d))) (.own (.lst ((t.map D.int).map O.d))) = some (.d (.bl (decide (s = t)))) := lEq_pl (by simp only [pl_d, pl_own, pl_pk]) (by simp only [pl_d, pl_own, pl_pk])
@[simp] theorem lNe_oo (s t : List Int) : lNe (.own (.lst ((s.map D.int).map O.d))) (.own (.lst ((t.map D.int).map O.d))) = some (.d (.bl (!decide (s = t)))) := lNe_pl (by simp only [pl_d, pl_own, pl_pk]) (by simp only [pl_d, pl_own, pl_pk])
@[simp] theorem lEq_op (s t : List Int) : lEq (.own (.lst ((s.map D.int).map O.d))) (.pk (.lst ((t.map D.int).map O.d))) = some (.d (.bl (decide (s = t)))) := lEq_pl (by simp only [pl_d, pl_own, pl_pk]) (by simp only [pl_d, pl_own, pl_pk])
@[simp] theorem lNe_op (s t : List Int) : lNe (.own (.lst ((s.map D.int).map O.d))) (.pk (.lst ((t.map D.int).map O.d))) = some (.d (.bl (!decide (s = t)))) := lNe_pl (by simp only [pl_d, pl_own, pl_pk]) (by simp only [pl_d, pl_own, pl_pk])
@[simp] theorem lEq_pd (s t : List Int) : lEq (.pk (.lst ((s.map D.int).map O.d))) (.d (.lst (t.map D.int))) = some (.d (.bl (decide (s = t)))) := lEq_pl (by simp only [pl_d, pl_own, pl_pk]) (by simp only [pl_d, pl_own, pl_pk])
@[simp] theorem lNe_pd (s t : List Int) : lNe (.pk (.lst ((s.map D.int).map O.d))) (.d (.lst (t.map D.int))) = some (.d (.bl (!decide (s = t)))) := lNe_pl (by simp only [pl_d, pl_own, pl_pk]) (by simp only [pl_d, pl_own, pl_pk])
@[simp] theorem lEq_po (s t : List Int) : lEq (.pk (.lst ((s.map D.int).map O.d))) (.own (.lst ((t.map D.int).map O.d))) = some (.d (.bl (decide (s = t)))) := lEq_pl (by simp only [pl_d, pl_own, pl_pk]) (by simp only [pl_d, pl_own, pl_pk])
@[simp] theorem lNe_po (s t : List Int) : lNe (.pk (.lst ((s.map D.int).map O.d))) (.own (.lst ((t.map D.int).map O.d))) = some (.d (.bl (!decide (s = t)))) := lNe_pl (by simp only [pl_d, pl_own, pl_pk]) (by simp only [pl_d, pl_own, pl_pk])
@[simp] theorem lEq_pp (s t : List Int) : lEq (.pk (.lst ((s.map D.int).map O.d))) (.pk (.lst ((t.map D.int).map O.d))) = some (.d (.bl (decide (s = t)))) := lEq_pl (by simp only [pl_d, pl_own, pl_pk]) (by simp only [pl_d, pl_own, pl_pk])
@[simp] theorem lNe_pp (s t : List Int) : lNe (.pk (.lst ((s.map D.int).map O.d))) (.pk (.lst ((t.map D.int).map O.d))) = some (.d (.bl (!decide (s = t)))) := lNe_pl (by simp only [pl_d, pl_own, pl_pk]) (by simp only [pl_d, pl_own, pl_pk])
@[simp] theorem lList_d (s : List D) : lList (.d (.lst s)) = some (.own (.lst (s.map O.d))) := by unfold lList; simp only [pl_d, pl_own, pl_pk]
@[simp] theorem lTuple_d (s : List D) : lTuple (.d (.lst s)) = some (.d (.tup s)) := by unfold lTuple; simp only [pl_d, pl_own, pl_pk]
@[simp] theorem lRev_d (s : List D) : lRev (.d (.lst s)) = some (.own (.lst (s.reverse.map O.d))) := by unfold lRev; simp only [pl_d, pl_own, pl_pk]
@[simp] theorem lInts_d (f : List Int → Option R) (s : List Int) : lInts f (.d (.lst (s.map D.int))) = f s := by unfold lInts; simp only [pl_d, pl_own, pl_pk, dInts_map]
@[simp] theorem lBls_d (f : List Bool → Option R) (s : List Bool) : lBls f (.d (.lst (s.map D.bl))) = f s := by unfold lBls; simp only [pl_d, pl_own, pl_pk, dBls_map]
@[simp] theorem lList_o (s : List D) : lList (.own (.lst (s.map O.d))) = some (.own (.lst (s.map O.d))) := by unfold lList; simp only [pl_d, pl_own, pl_pk]
@[simp] theorem lTuple_o (s : List D) : lTuple (.own (.lst (s.map O.d))) = some (.d (.tup s)) := by unfold lTuple; simp only [pl_d, pl_own, pl_pk]
@[simp] theorem lRev_o (s : List D) : lRev (.own (.lst (s.map O.d))) = some (.own (.lst (s.reverse.map O.d))) := by unfold lRev; simp only [pl_d, pl_own, pl_pk]
@[simp] theorem lInts_o (f : List Int → Option R) (s : List Int) : lInts f (.own (.lst ((s.map D.int).map O.d))) = f s := by unfold lInts; simp only [pl_d, pl_own, pl_pk, dInts_map]
@[simp] theorem lBls_o (f : List Bool → Option R) (s : List Bool) : lBls f (.own (.lst ((s.map D.bl).map O.d))) = f s := by unfold lBls; simp only [pl_d, pl_own, pl_pk, dBls_map]
@[simp] theorem lList_p (s : List D) : lList (.pk (.lst (s.map O.d))) = some (.own (.lst (s.map O.d))) := by unfold lList; simp only [pl_d, pl_own, pl_pk]
@[simp] theorem lTuple_p (s : List D) : lTuple (.pk (.lst (s.map O.d))) = some (.d (.tup s)) := by unfold lTuple; simp only [pl_d, pl_own, pl_pk]
@[simp] theorem lRev_p (s : List D) : lRev (.pk (.lst (s.map O.d))) = some (.own (.lst (s.reverse.map O.d))) := by unfold lRev; simp only [pl_d, pl_own, pl_pk]
@[simp] theorem lInts_p (f : List Int → Option R) (s : List Int) : lInts f (.pk (.lst ((s.map D.int).map O.d))) = f s := by unfold lInts; simp only [pl_d, pl_own, pl_pk, dInts_map]
@[simp] theorem lBls_p (f : List Bool → Option R) (s : List Bool) : lBls f (.pk (.lst ((s.map D.bl).map O.d))) = f s := by unfold lBls; simp only [pl_d, pl_own, pl_pk, dBls_map]
@[simp] theorem lList_t (s : List D) : lList (.d (.tup s)) = some (.own (.lst (s.map O.d))) := rfl
@[simp] theorem lTuple_t (s : List D) : lTuple (.d (.tup s)) = some (.d (.tup s)) := rfl
@[simp] theorem lMul_l (s : List D) (n : Int) : lMul (.own (.lst (s.map O.d))) (.d (.int n)) = if repOk n s.length = true then some (.own (.lst ((List.replicate n.toNat s).flatten.map O.d))) else none := by unfold lMul; simp only [pl_d, pl_own, ol_own]
@[simp] theorem its_pk (ds : List D) : (R.pk (.lst (ds.map O.d))).its = none := rfl
def catO (s t : Option (List D)) : Option R := match s, t with
  | some s, some t => if lenOk (s.length + t.length) = true then some (.own (.lst ((s ++ t).map O.d))) else none
  | _, _ => none
@[simp] theorem catO_some (s t : List D) : catO (some s) (some t) = if lenOk (s.length + t.length) = true then some (.own (.lst ((s ++ t).map O.d))) else none := rfl
theorem lAdd_pls {p q : R} {a b : Option (List D)} (h : p.pl = a.map D.lst) (h2 : q.pl = b.map D.lst) : lAdd p q = catO a b := by
  unfold lAdd
  rw [h, h2]
  cases a <;> cases b <;> rfl
@[simp] theorem lAdd_dd (s : List D) (t : List D) : lAdd (.d (.lst s)) (.d (.lst t)) = catO (some s) (some t) := lAdd_pls rfl rfl
@[simp] theorem lAdd_do (s : List D) (t : List O) : lAdd (.d (.lst s)) (.own (.lst t)) = catO (some s) (undO t) := lAdd_pls rfl rfl
@[simp] theorem lAdd_dp (s : List D) (t : List O) : lAdd (.d (.lst s)) (.pk (.lst t)) = catO (some s) (undO t) := lAdd_pls rfl rfl
@[simp] theorem lAdd_od (s : List O) (t : List D) : lAdd (.own (.lst s)) (.d (.lst t)) = catO (undO s) (some t) := lAdd_pls rfl rfl
@[simp] theorem lAdd_oo (s : List O) (t : List O) : lAdd (.own (.lst s)) (.own (.lst t)) = catO (undO s) (undO t) := lAdd_pls rfl rfl
@[simp] theorem lAdd_op (s : List O) (t : List O) : lAdd (.own (.lst s)) (.pk (.lst t)) = catO (undO s) (undO t) := lAdd_pls rfl rfl
@[simp] theorem lAdd_pd (s : List O) (t : List D) : lAdd (.pk (.lst s)) (.d (.lst t)) = catO (undO s) (some t) := lAdd_pls rfl rfl
@[simp] theorem lAdd_po (s : List O) (t : List O) : lAdd (.pk (.lst s)) (.own (.lst t)) = catO (undO s) (undO t) := lAdd_pls rfl rfl
@[simp] theorem lAdd_pp (s : List O) (t : List O) : lAdd (.pk (.lst s)) (.pk (.lst t)) = catO (undO s) (undO t) := lAdd_pls rfl rfl
@[simp] theorem lSl_o2 (s : List O) (lo hi : Option Int) : lSl (.own (.lst s)) lo hi = (undO s).map fun ds => .own (.lst ((cutA ds lo hi).map O.d)) := by
  unfold lSl
  rw [show (R.own (.lst s)).pl = (undO s).map D.lst from rfl]
  cases undO s <;> rfl
@[simp] theorem lSl_p2 (s : List O) (lo hi : Option Int) : lSl (.pk (.lst s)) lo hi = (undO s).map fun ds => .own (.lst ((cutA ds lo hi).map O.d)) := by
  unfold lSl
  rw [show (R.pk (.lst s)).pl = (undO s).map D.lst from rfl]
  cases undO s <;> rfl
theorem fzs_app : ∀ (a b : List O), fzs (a ++ b) = (fzs a && fzs b)
  | [], b => by simp [fzs]
  | x :: a, b => by simp only [List.cons_append, fzs, fzs_app a b, Bool.and_assoc]
theorem toDs_app : ∀ (a b : List O), toDs (a ++ b) = toDs a ++ toDs b
  | [], b => by simp [toDs]
  | x :: a, b => by simp only [List.cons_append, toDs, toDs_app a b]
@[simp] theorem st_own2 (s : List O) : (R.own (.lst s)).st = if fzs s = true then some (.lst (toDs s)) else none := rfl
@[simp] theorem fzs_nil2 : fzs [] = true := rfl
@[simp] theorem toDs_nil2 : toDs [] = [] := rfl
@[simp] theorem fzs_cons2 (x : D) (r : List O) : fzs (.d x :: r) = fzs r := by simp [fzs, O.fz]
@[simp] theorem toDs_cons2 (x : D) (r : List O) : toDs (.d x :: r) = x :: toDs r := by simp [toDs, O.toD]
@[simp] theorem fzs_app2 (a : List D) (b : List O) : fzs (a.map O.d ++ b) = fzs b := by rw [fzs_app, fzs_d]; rfl
@[simp] theorem toDs_app2 (a : List D) (b : List O) : toDs (a.map O.d ++ b) = a ++ toDs b := by rw [toDs_app, toDs_d]
@[simp] theorem fzs_d2 (a : List D) : fzs (a.map O.d) = true := fzs_d a
@[simp] theorem toDs_d2 (a : List D) : toDs (a.map O.d) = a := toDs_d a
@[simp] theorem fz_l2 (s : List O) : (O.lst s).fz = fzs s := rfl
@[simp] theorem toD_l2 (s : List O) : (O.lst s).toD = .lst (toDs s) := rfl
@[simp] theorem atI_6 {α : Type} (xs : List α) : L2.atI xs 6 = xs[6]? := atI_pos xs 6
@[simp] theorem atI_7 {α : Type} (xs : List α) : L2.atI xs 7 = xs[7]? := atI_pos xs 7
@[simp] theorem atI_8 {α : Type} (xs : List α) : L2.atI xs 8 = xs[8]? := atI_pos xs 8
@[simp] theorem atI_9 {α : Type} (xs : List α) : L2.atI xs 9 = xs[9]? := atI_pos xs 9
@[simp] theorem atI_10 {α : Type} (xs : List α) : L2.atI xs 10 = xs[10]? := atI_pos xs 10
@[simp] theorem atI_11 {α : Type} (xs : List α) : L2.atI xs 11 = xs[11]? := atI_pos xs 11
@[simp] theorem atI_12 {α : Type} (xs : List α) : L2.atI xs 12 = xs[12]? := atI_pos xs 12
end
end Mw
set_option Elab.async false
set_option linter.all false
set_option maxRecDepth 100000
set_option autoImplicit false
namespace Mw
open PySem PySem.Spec PyProof.Rows L2
structure T (α : Type) where
  val : α
  ok : Prop
inductive Ct (σ l β : Type) where
  | nx (s : σ) | bk (s : l) | ct (s : l) | rt (r : β)
namespace T
variable {α β γ σ τ l m : Type}
def ret (a : α) : T α := ⟨a, True⟩
def req (p : Prop) (t : T α) : T α := ⟨t.val, p ∧ t.ok⟩
def bind (t : T α) (f : α → T β) : T β := ⟨(f t.val).val, t.ok ∧ (f t.val).ok⟩
@[simp] theorem ret_val (a : α) : (ret a).val = a := rfl
@[simp] theorem ret_ok (a : α) : (ret a).ok = True := rfl
@[simp] theorem req_val (p : Prop) (t : T α) : (req p t).val = t.val := rfl
@[simp] theorem req_ok (p : Prop) (t : T α) : (req p t).ok = (p ∧ t.ok) := rfl
@[simp] theorem bind_val (t : T α) (f : α → T β) : (bind t f).val = (f t.val).val := rfl
@[simp] theorem bind_ok (t : T α) (f : α → T β) : (bind t f).ok = (t.ok ∧ (f t.val).ok) := rfl
@[simp] theorem ite_val (c : Prop) [Decidable c] (a b : T α) : (if c then a else b).val = if c then a.val else b.val := by split <;> rfl
@[simp] theorem ite_ok (c : Prop) [Decidable c] (a b : T α) : (if c then a else b).ok = if c then a.ok else b.ok := by split <;> rfl
def forL (b : σ → α → T σ) : List α → σ → T σ
  | [], s => ret s
  | x :: xs, s => bind (b s x) fun s' => forL b xs s'
def forC (b : σ → α → T (Ct σ σ β)) : List α → σ → T (Ct σ l β)
  | [], s => ret (.nx s)
  | x :: xs, s => bind (b s x) fun c => match c with
    | .nx s' => forC b xs s'
    | .ct s' => forC b xs s'
    | .bk s' => ret (.nx s')
    | .rt r => ret (.rt r)
def whM (c : σ → T Bool) (b : σ → T σ) : Nat → σ → T σ
  | 0, s => ⟨s, False⟩
  | n + 1, s => bind (c s) fun x => if x = true then bind (b s) fun s' => whM c b n s' else ret s
noncomputable def fuel : Nat := hide 1000000000
theorem fuel_eq : fuel = 1000000000 := hide_eq _
noncomputable def whL (c : σ → T Bool) (b : σ → T σ) (s : σ) : T σ := whM c b fuel s
def ctl (t : T (Ct σ Empty β)) (k : σ → T β) : T β := bind t fun c => match c with
  | .nx s => k s
  | .rt r => ret r
  | .bk e => e.elim
  | .ct e => e.elim
def ctc (t : T (Ct σ l β)) (k : σ → T (Ct τ l β)) : T (Ct τ l β) := bind t fun c => match c with
  | .nx s => k s
  | .rt r => ret (.rt r)
  | .bk s => ret (.bk s)
  | .ct s => ret (.ct s)
def lcP (c : α → T Bool) (f : α → T β) : List α → T (List β)
  | [] => ret []
  | x :: xs => bind (c x) fun b => if b = true then bind (f x) fun y => bind (lcP c f xs) fun ys => ret (y :: ys) else lcP c f xs
end T
section
variable {α β γ σ τ l m : Type} {as : List Slo} {ρ ρ1 ρ2 ρ3 : Ro} {res : SRes}
def J (t : T α) (Φ : α → Prop) : Prop := t.ok → Φ t.val
def JS (res : SRes) (t : T α) (Ψ : α → SRes → Prop) : Prop := t.ok → Ψ t.val res
def PN (E : σ → Ro) : σ → SRes → Prop := fun s res => res = .nx (E s)
def isStop : SRes → Bool
  | .rt _ _ => true
  | .ex _ _ => true
  | _ => false
abbrev FR (as : List Slo) (R : β → FRes) : β → SRes → Prop := fun x res => fin as res = R x
def CR (E : σ → Ro) (L : l → Ro) (R : β → SRes → Prop) : Ct σ l β → SRes → Prop
  | .nx s, res => res = .nx (E s)
  | .bk s, res => res = .bk (L s)
  | .ct s, res => res = .ct (L s)
  | .rt r, res => isStop res = true ∧ R r res
abbrev TR (R : β → SRes → Prop) : β → SRes → Prop := R
theorem js_bind {t1 : T α} {t2 : α → T β} {Φ : α → Prop} {Ψ : β → SRes → Prop} (h1 : J t1 Φ) (h2 : ∀ x, Φ x → JS res (t2 x) Ψ) : JS res (t1.bind t2) Ψ := fun h => h2 _ (h1 h.1) h.2
theorem js_req {p : Prop} {t : T α} {Ψ : α → SRes → Prop} (h1 : p → JS res t Ψ) : JS res (t.req p) Ψ := fun h => h1 h.1 h.2
theorem js_seq {s1 s2 : MS} {t1 : T σ} {t2 : σ → T β} {E : σ → Ro} {Ψ : β → SRes → Prop} (h1 : JS (s1 ρ) t1 (PN E)) (h2 : ∀ x, JS (s2 (E x)) (t2 x) Ψ) : JS (mSeq s1 s2 ρ) (t1.bind t2) Ψ := fun h => by
  have e := h1 h.1
  have e : s1 ρ = .nx (E t1.val) := e
  rw [sq, e, SRes.thn_nx]
  exact h2 _ h.2
theorem stop_thn {r : SRes} (h : isStop r = true) (k : Ro → SRes) : r.thn k = r := by cases r <;> first | rfl | cases h
theorem js_ctl {s1 s2 : MS} {t1 : T (Ct σ Empty β)} {t2 : σ → T β} {E : σ → Ro} {L : Empty → Ro} {R : β → SRes → Prop} (h1 : JS (s1 ρ) t1 (CR E L R)) (h2 : ∀ x, JS (s2 (E x)) (t2 x) (TR R)) : JS (mSeq s1 s2 ρ) (t1.ctl t2) (TR R) := fun h => by
  have e := h1 h.1
  have h' := h.2
  show TR R (T.ctl t1 t2).val _
  unfold T.ctl T.bind
  dsimp only
  cases c : t1.val with
  | nx s => rw [c] at e h'; rw [sq, show s1 ρ = .nx (E s) from e, SRes.thn_nx]; exact h2 _ h'
  | rt r => rw [c] at e; rw [sq, stop_thn e.1]; exact e.2
  | bk s => exact s.elim
  | ct s => exact s.elim
theorem js_ctc {s1 s2 : MS} {t1 : T (Ct σ l β)} {t2 : σ → T (Ct τ l β)} {E : σ → Ro} {E2 : τ → Ro} {L : l → Ro} {R : β → SRes → Prop} (h1 : JS (s1 ρ) t1 (CR E L R)) (h2 : ∀ x, JS (s2 (E x)) (t2 x) (CR E2 L R)) : JS (mSeq s1 s2 ρ) (t1.ctc t2) (CR E2 L R) := fun h => by
  have e := h1 h.1
  have h' := h.2
  show CR E2 L R (T.ctc t1 t2).val _
  unfold T.ctc T.bind
  dsimp only
  cases c : t1.val with
  | nx s => rw [c] at e h'; rw [sq, show s1 ρ = .nx (E s) from e, SRes.thn_nx]; exact h2 _ h'
  | rt r => rw [c] at e; rw [sq, stop_thn e.1]; exact e
  | bk s => rw [c] at e; rw [sq, show s1 ρ = .bk (L s) from e]; exact rfl
  | ct s => rw [c] at e; rw [sq, show s1 ρ = .ct (L s) from e]; exact rfl
theorem js_if {c : MB} {a b : MS} {x q : Bool} {ta tb : T β} {Ψ : β → SRes → Prop} (hc : c ρ = .ok x ρ1 q) (h1 : JS (a ρ1) ta Ψ) (h2 : JS (b ρ1) tb Ψ) : JS (mIf c a b ρ) (if x = true then ta else tb) Ψ := fun h => by
  unfold mIf
  rw [hc, Res.stm_ok]
  by_cases hx : x = true
  · rw [if_pos hx] at h; rw [if_pos hx, if_pos hx]; exact h1 h
  · rw [if_neg hx] at h; rw [if_neg hx, if_neg hx]; exact h2 h
def SR (R : β → SRes → Prop) : β → SRes → Prop := fun x res => isStop res = true ∧ R x res
theorem js_ifr {c : MB} {a s2 : MS} {x q : Bool} {ta tb : T β} {R : β → SRes → Prop} (hc : c ρ = .ok x ρ1 q) (h1 : JS (a ρ1) ta (SR R)) (h2 : JS (s2 ρ1) tb (TR R)) : JS (mSeq (mIf c a mNx) s2 ρ) (if x = true then ta else tb) (TR R) := fun h => by
  rw [sq]
  unfold mIf
  rw [hc, Res.stm_ok]
  by_cases hx : x = true
  · rw [if_pos hx] at h; rw [if_pos hx, if_pos hx]
    have e := h1 h
    rw [stop_thn e.1]; exact e.2
  · rw [if_neg hx] at h; rw [if_neg hx, if_neg hx]; exact h2 h
theorem js_ifrS {c : MB} {a s2 : MS} {x q : Bool} {ta tb : T β} {R : β → SRes → Prop} (hc : c ρ = .ok x ρ1 q) (h1 : JS (a ρ1) ta (SR R)) (h2 : JS (s2 ρ1) tb (SR R)) : JS (mSeq (mIf c a mNx) s2 ρ) (if x = true then ta else tb) (SR R) := fun h => by
  rw [sq]
  unfold mIf
  rw [hc, Res.stm_ok]
  by_cases hx : x = true
  · rw [if_pos hx] at h; rw [if_pos hx, if_pos hx]
    have e := h1 h
    rw [stop_thn e.1]; exact e
  · rw [if_neg hx] at h; rw [if_neg hx, if_neg hx]; exact h2 h
theorem js_last {s1 : MS} {t1 : T τ} {E1 : τ → Ro} {f : τ → σ} {E : σ → Ro} (h1 : JS (s1 ρ) t1 (PN E1)) (he : ∀ x, E1 x = E (f x)) : JS (s1 ρ) (t1.bind fun x => T.ret (f x)) (PN E) := fun h => (h1 h.1).trans (congrArg SRes.nx (he _))
theorem js_lastC {s1 : MS} {t1 : T τ} {E1 : τ → Ro} {f : τ → σ} {E : σ → Ro} {L : l → Ro} {R : β → SRes → Prop} (h1 : JS (s1 ρ) t1 (PN E1)) (he : ∀ x, E1 x = E (f x)) : JS (s1 ρ) (t1.bind fun x => T.ret (.nx (f x))) (CR E L R) := fun h => (show _ = _ from h1 h.1).trans (congrArg SRes.nx (he _))
theorem js_lastT {s1 : MS} {t1 : T τ} {E1 : τ → Ro} {f : τ → β} {R : β → SRes → Prop} (h1 : JS (s1 ρ) t1 (PN E1)) (he : ∀ x, R (f x) (.nx (E1 x))) : JS (s1 ρ) (t1.bind fun x => T.ret (f x)) (TR R) := fun h => by
  have e : s1 ρ = .nx (E1 t1.val) := h1 h.1
  show R _ (s1 ρ)
  rw [e]; exact he _
theorem js_ctlT {s1 : MS} {t1 : T (Ct σ Empty β)} {f : σ → β} {E : σ → Ro} {L : Empty → Ro} {R : β → SRes → Prop} (h1 : JS (s1 ρ) t1 (CR E L R)) (he : ∀ x, R (f x) (.nx (E x))) : JS (s1 ρ) (t1.ctl fun s => T.ret (f s)) (TR R) := fun h => by
  have e := h1 h.1
  show TR R (T.ctl t1 _).val _
  unfold T.ctl T.bind
  dsimp only
  cases c : t1.val with
  | nx s => rw [c] at e; show R _ (s1 ρ); rw [show s1 ρ = .nx (E s) from e]; exact he _
  | rt r => rw [c] at e; exact e.2
  | bk s => exact s.elim
  | ct s => exact s.elim
theorem js_ctcL {s1 : MS} {t1 : T (Ct τ l β)} {f : τ → σ} {E1 : τ → Ro} {E : σ → Ro} {L : l → Ro} {R : β → SRes → Prop} (h1 : JS (s1 ρ) t1 (CR E1 L R)) (he : ∀ x, E1 x = E (f x)) : JS (s1 ρ) (t1.ctc fun s => T.ret (.nx (f s))) (CR E L R) := fun h => by
  have e := h1 h.1
  show CR E L R (T.ctc t1 _).val _
  unfold T.ctc T.bind
  dsimp only
  cases c : t1.val with
  | nx s => rw [c] at e; exact (show s1 ρ = .nx (E1 s) from e).trans (congrArg SRes.nx (he _))
  | rt r => rw [c] at e; exact e
  | bk s => rw [c] at e; exact e
  | ct s => rw [c] at e; exact e
theorem js_klN {s1 : MS} {vs : List Nat} {t1 : T σ} {E E' : σ → Ro} (h1 : JS (s1 ρ) t1 (PN E)) (he : ∀ x, kl (E x) vs = E' x) : JS (mKl vs s1 ρ) t1 (PN E') := fun h => by
  have e : s1 ρ = .nx (E t1.val) := h1 h
  show mKl vs s1 ρ = _
  unfold mKl
  rw [e]; exact congrArg SRes.nx (he _)
theorem js_klC {s1 : MS} {vs : List Nat} {t1 : T (Ct σ l β)} {E E' : σ → Ro} {L L' : l → Ro} {R : β → SRes → Prop} (h1 : JS (s1 ρ) t1 (CR E L R)) (he : ∀ x, kl (E x) vs = E' x) (hl : ∀ x, kl (L x) vs = L' x) : JS (mKl vs s1 ρ) t1 (CR E' L' R) := fun h => by
  have e := h1 h
  show CR E' L' R t1.val _
  unfold mKl
  cases c : t1.val with
  | nx s => rw [c] at e; rw [show s1 ρ = .nx (E s) from e]; exact congrArg SRes.nx (he _)
  | bk s => rw [c] at e; rw [show s1 ρ = .bk (L s) from e]; exact congrArg SRes.bk (hl _)
  | ct s => rw [c] at e; rw [show s1 ρ = .ct (L s) from e]; exact congrArg SRes.ct (hl _)
  | rt r =>
    rw [c] at e
    have : mKl vs s1 ρ = s1 ρ := by
      unfold mKl
      cases z : s1 ρ <;> first | rfl | (rw [z] at e; cases e.1)
    show isStop (mKl vs s1 ρ) = true ∧ R r (mKl vs s1 ρ)
    rw [this]; exact e
theorem js_rt {m : M} {r : R} {q : Bool} {v : β} {R' : β → SRes → Prop} (h : m ρ = .ok r ρ1 q) (hr : R' v (.rt r ρ1)) : JS (mRt m ρ) (T.ret v) (TR R') := fun _ => by
  show R' _ (mRt m ρ)
  unfold mRt
  rw [h, Res.stm_ok]
  exact hr
theorem js_rtS {m : M} {r : R} {q : Bool} {v : β} {R' : β → SRes → Prop} (h : m ρ = .ok r ρ1 q) (hr : R' v (.rt r ρ1)) : JS (mRt m ρ) (T.ret v) (SR R') := fun _ => by
  show isStop (mRt m ρ) = true ∧ R' _ (mRt m ρ)
  unfold mRt
  rw [h, Res.stm_ok]
  exact ⟨rfl, hr⟩
theorem js_nx {v : σ} {E : σ → Ro} (h : ρ = E v) : JS (mNx ρ) (T.ret v) (PN E) := fun _ => congrArg SRes.nx h
theorem js_nxC {v : σ} {E : σ → Ro} {L : l → Ro} {R' : β → SRes → Prop} (h : ρ = E v) : JS (mNx ρ) (T.ret (.nx v)) (CR E L R') := fun _ => congrArg SRes.nx h
theorem js_st {s1 : MS} {v : σ} {E : σ → Ro} (h : s1 ρ = .nx ρ1) (he : ρ1 = E v) : JS (s1 ρ) (T.ret v) (PN E) := fun _ => h.trans (congrArg SRes.nx he)
theorem js_forL {it : MI} {tg : Tg} {b : MS} {e : α → D} {xs : List α} {q : Bool} {tb : σ → α → T σ} {s0 : σ} {E : σ → Ro} (A : σ → α → Ro) (hi : it ρ = .ok (List.map e xs) ρ1 q) (h0 : ρ1 = E s0) (ht : ∀ s x, asg tg (e x) (E s) = some (A s x))
    (hb : ∀ s x, JS (b (A s x)) (tb s x) (PN E)) : JS (mFor it tg b ρ) (T.forL tb xs s0) (PN E) := by
  have key : ∀ (xs : List α) (s : σ), (T.forL tb xs s).ok → forGo tg b (List.map e xs) (E s) = .nx (E (T.forL tb xs s).val) := by
    intro xs
    induction xs with
    | nil => intro s _; exact forGo_nil _ _ _
    | cons x xs ih =>
      intro s h
      rw [List.map_cons, forGo_cons, ht]
      have e1 : b (A s x) = .nx (E (tb s x).val) := hb s x h.1
      dsimp only
      rw [e1]
      exact ih _ h.2
  intro h
  show mFor it tg b ρ = _
  unfold mFor
  rw [hi, Res.stm_ok, h0]
  exact key xs s0 h
theorem js_forC {it : MI} {tg : Tg} {b : MS} {e : α → D} {xs : List α} {q : Bool} {tb : σ → α → T (Ct σ σ β)} {s0 : σ} {E : σ → Ro} {L : l → Ro} {R' : β → SRes → Prop} (A : σ → α → Ro) (hi : it ρ = .ok (List.map e xs) ρ1 q) (h0 : ρ1 = E s0) (ht : ∀ s x, asg tg (e x) (E s) = some (A s x))
    (hb : ∀ s x, JS (b (A s x)) (tb s x) (CR E E R')) : JS (mFor it tg b ρ) (T.forC tb xs s0) (CR E L R') := by
  have key : ∀ (xs : List α) (s : σ), (T.forC (l := l) tb xs s).ok → CR E L R' (T.forC (l := l) tb xs s).val (forGo tg b (List.map e xs) (E s)) := by
    intro xs
    induction xs with
    | nil => intro s _; exact forGo_nil _ _ _
    | cons x xs ih =>
      intro s h
      have h1 := hb s x h.1
      have h2 := h.2
      rw [List.map_cons, forGo_cons, ht]
      show CR E L R' (T.bind (tb s x) _).val _
      unfold T.bind
      dsimp only
      cases c : (tb s x).val with
      | nx s' => rw [c] at h1 h2; rw [show b (A s x) = .nx (E s') from h1]; exact ih _ h2
      | ct s' => rw [c] at h1 h2; rw [show b (A s x) = .ct (E s') from h1]; exact ih _ h2
      | bk s' => rw [c] at h1; rw [show b (A s x) = .bk (E s') from h1]; exact rfl
      | rt r =>
        rw [c] at h1
        have h1 : isStop (b (A s x)) = true ∧ R' r (b (A s x)) := h1
        cases z : b (A s x) <;> first | (rw [z] at h1; cases h1.1; done) | (rw [z] at h1; exact h1)
  intro h
  show CR E L R' _ (mFor it tg b ρ)
  unfold mFor
  rw [hi, Res.stm_ok, h0]
  exact key xs s0 h
theorem js_whL {c : MB} {b : MS} {tc : σ → T Bool} {tb : σ → T σ} {s0 : σ} {E : σ → Ro} (h0 : ρ = E s0) (hc : ∀ s, J (tc s) (fun x => ∃ q, c (E s) = .ok x (E s) q)) (hb : ∀ s, JS (b (E s)) (tb s) (PN E)) : JS (mWhile c b ρ) (T.whL tc tb s0) (PN E) := by
  have key : ∀ (n : Nat) (s : σ), (T.whM tc tb n s).ok → whGo c b n (E s) = .nx (E (T.whM tc tb n s).val) := by
    intro n
    induction n with
    | zero => intro s h; exact h.elim
    | succ n ih =>
      intro s h
      obtain ⟨q, e⟩ := hc s h.1
      have h2 := h.2
      dsimp only at h2
      unfold whGo
      rw [e, Res.stm_ok]
      show _ = SRes.nx (E (T.bind (tc s) _).val)
      unfold T.bind
      dsimp only
      by_cases hx : (tc s).val = true
      · rw [if_pos hx] at h2
        rw [if_pos hx, if_pos hx]
        have e1 : b (E s) = .nx (E (tb s).val) := hb s h2.1
        rw [e1]
        exact ih _ h2.2
      · rw [if_neg hx, if_neg hx]; rfl
  intro h
  subst h0
  exact mWhile_eq (key _ _ h) (fun z => nomatch z)
theorem v_fn {f : Fn} {n : Nat} {b : MS} {t : T β} {R' : β → FRes} (hf : f = mkFn n b) (hp : as ++ List.replicate (n - as.length) .un = ρ) (h : JS (b ρ) t (FR as R')) : J t fun v => f as = R' v := fun k => by
  rw [hf, ev_fn, hp]; exact h k
end
end Mw
set_option Elab.async false
set_option linter.all false
set_option maxRecDepth 100000
set_option autoImplicit false
namespace Mw
open PySem PySem.Spec PyProof.Rows L2
section
variable {α β γ σ : Type} {ρ ρ0 ρ1 ρ2 ρ3 : Ro} {a b c : M} {q q1 q2 : Bool} {x y r r' : R} {d : D} {i j k : Int} {e : α → D} {xs ys : List α}
theorem e_cast (h : a ρ = .ok r ρ1 q) (hr : r = r') : a ρ = .ok r' ρ1 q := by rw [h, hr]
theorem e_C : mC d ρ = .ok (.d d) ρ true := rfl
theorem e_nm_s {i : Nat} (h : ρ[i]? = some (.shr d)) : nm i ρ = .ok (.d d) ρ true := by unfold nm; rw [h]
theorem e_nm_m {i : Nat} {bb : Bool} {o : O} (h : ρ[i]? = some (.mu bb o)) : nm i ρ = .ok (.pk o) ρ true := by unfold nm; rw [h]
theorem e_fz_s {i : Nat} (h : ρ[i]? = some (.shr d)) : fz i ρ = .ok (.d d) ρ true := by unfold fz; rw [h]
theorem e_fz_m {i : Nat} {ds : List D} (h : ρ[i]? = some (.mu false (O.l ds))) : fz i ρ = .ok (.d (.lst ds)) (ρ.set i (.shr (.lst ds))) false := by
  unfold fz; rw [h]
  show (if (O.lst (ds.map O.d)).fz = true then Res.ok (R.d (O.lst (ds.map O.d)).toD) (ρ.set i (.shr (O.lst (ds.map O.d)).toD)) false else Res.no) = _
  rw [show (O.lst (ds.map O.d)).fz = true from fzs_d ds, if_pos rfl, show (O.lst (ds.map O.d)).toD = .lst ds from congrArg D.lst (toDs_d ds)]
theorem e_mv_s {i : Nat} (h : ρ[i]? = some (.shr d)) : mv i ρ = .ok (.d d) ρ true := by unfold mv; rw [h]
theorem e_mv_m {i : Nat} {o : O} (h : ρ[i]? = some (.mu false o)) : mv i ρ = .ok (.own o) (ρ.set i .un) false := by unfold mv; rw [h]
theorem e_args0 : mArgs [] ρ = .ok [] ρ true := rfl
theorem e_args {m : M} {ms : List M} {rs : List R} (h : m ρ = .ok r ρ1 q1) (t : mArgs ms ρ1 = .ok rs ρ2 q2) (hp : (r.isPk && !q2) = false) : mArgs (m :: ms) ρ = .ok (r :: rs) ρ2 (q1 && q2) := by
  show (m ρ).bind _ = _
  rw [h, Res.bind_ok, t, Res.bind_ok, hp]; rfl
theorem e_m1 {f : R → Option R} (ha : a ρ = .ok x ρ1 q) (hf : f x = some r) : m1 f a ρ = .ok r ρ1 q := by
  unfold m1 mOps
  rw [e_args ha e_args0 (by simp), Res.bind_ok]
  show (match f x with | some r => Res.ok r ρ1 (q && true) | none => Res.no) = _
  rw [hf, Bool.and_true]
theorem e_m2 {f : R → R → Option R} (ha : a ρ = .ok x ρ1 q1) (hb : b ρ1 = .ok y ρ2 q2) (hq : (x.isPk && !q2) = false) (hf : f x y = some r) : m2 f a b ρ = .ok r ρ2 (q1 && q2) := by
  unfold m2 mOps
  rw [e_args ha (e_args hb e_args0 (by simp)) (by simpa using hq), Res.bind_ok]
  show (match f x y with | some r => Res.ok r ρ2 (q1 && (q2 && true)) | none => Res.no) = _
  rw [hf, Bool.and_true]
theorem e_addI (ha : a ρ = .ok (.d (.int i)) ρ1 q1) (hb : b ρ1 = .ok (.d (.int j)) ρ2 q2) : m2 lAdd a b ρ = .ok (.d (.int (i + j))) ρ2 (q1 && q2) := e_m2 ha hb rfl rfl
theorem e_subI (ha : a ρ = .ok (.d (.int i)) ρ1 q1) (hb : b ρ1 = .ok (.d (.int j)) ρ2 q2) : m2 lSub a b ρ = .ok (.d (.int (i - j))) ρ2 (q1 && q2) := e_m2 ha hb rfl rfl
theorem e_mulI (ha : a ρ = .ok (.d (.int i)) ρ1 q1) (hb : b ρ1 = .ok (.d (.int j)) ρ2 q2) (h : (-1000000000 ≤ i ∧ i ≤ 1000000000) ∨ (-1000000000 ≤ j ∧ j ≤ 1000000000)) : m2 lMul a b ρ = .ok (.d (.int (i * j))) ρ2 (q1 && q2) := e_m2 ha hb rfl (by
  show (if mulOk i j = true then some (R.d (.int (i * j))) else none) = _
  rw [if_pos (h.elim (fun h => mulOk_l h.1 h.2) (fun h => mulOk_r h.1 h.2))])
theorem e_modI (ha : a ρ = .ok (.d (.int i)) ρ1 q1) (hb : b ρ1 = .ok (.d (.int j)) ρ2 q2) (h : 0 < j) : m2 lMod a b ρ = .ok (.d (.int (i % j))) ρ2 (q1 && q2) := e_m2 ha hb rfl (by
  show ((if modOk j = true then some (D.int (i % j)) else none).map R.d) = _
  rw [if_pos (modOk_of h)]; rfl)
theorem e_divI (ha : a ρ = .ok (.d (.int i)) ρ1 q1) (hb : b ρ1 = .ok (.d (.int j)) ρ2 q2) (h : 0 < j ∧ j < 1000000000) : m2 lDiv a b ρ = .ok (.d (.int (i / j))) ρ2 (q1 && q2) := e_m2 ha hb rfl (by
  show ((if divOk j = true then some (D.int (i / j)) else none).map R.d) = _
  rw [if_pos (divOk_of h.1 h.2)]; rfl)
theorem e_powI (ha : a ρ = .ok (.d (.int i)) ρ1 q1) (hb : b ρ1 = .ok (.d (.int j)) ρ2 q2) (h : (0 ≤ j ∧ j ≤ 1000) ∧ 0 ≤ i ∧ i < 1000000) : m2 lPow a b ρ = .ok (.d (.int (i ^ j.toNat))) ρ2 (q1 && q2) := e_m2 ha hb rfl (by
  show ((if powOk i j = true then some (D.int (i ^ j.toNat)) else none).map R.d) = _
  rw [if_pos (powOk_of h.1.1 h.1.2 h.2.1 h.2.2)]; rfl)
theorem e_lt (ha : a ρ = .ok (.d (.int i)) ρ1 q1) (hb : b ρ1 = .ok (.d (.int j)) ρ2 q2) : m2 lLt a b ρ = .ok (.d (.bl (decide (i < j)))) ρ2 (q1 && q2) := e_m2 ha hb rfl rfl
theorem e_le (ha : a ρ = .ok (.d (.int i)) ρ1 q1) (hb : b ρ1 = .ok (.d (.int j)) ρ2 q2) : m2 lLe a b ρ = .ok (.d (.bl (decide (i ≤ j)))) ρ2 (q1 && q2) := e_m2 ha hb rfl rfl
theorem e_gt (ha : a ρ = .ok (.d (.int i)) ρ1 q1) (hb : b ρ1 = .ok (.d (.int j)) ρ2 q2) : m2 lGt a b ρ = .ok (.d (.bl (decide (j < i)))) ρ2 (q1 && q2) := e_m2 ha hb rfl rfl
theorem e_ge (ha : a ρ = .ok (.d (.int i)) ρ1 q1) (hb : b ρ1 = .ok (.d (.int j)) ρ2 q2) : m2 lGe a b ρ = .ok (.d (.bl (decide (j ≤ i)))) ρ2 (q1 && q2) := e_m2 ha hb rfl rfl
theorem e_int1I (ha : a ρ = .ok (.d (.int i)) ρ1 q) : m1 lInt1 a ρ = .ok (.d (.int i)) ρ1 q := e_m1 ha rfl
def b2i (b : Bool) : Int := if b = true then 1 else 0
theorem e_int1B {z : Bool} (ha : a ρ = .ok (.d (.bl z)) ρ1 q) : m1 lInt1 a ρ = .ok (.d (.int (b2i z))) ρ1 q := e_m1 ha rfl
theorem e_eqI (ha : a ρ = .ok (.d (.int i)) ρ1 q1) (hb : b ρ1 = .ok (.d (.int j)) ρ2 q2) : m2 lEq a b ρ = .ok (.d (.bl (decide (i = j)))) ρ2 (q1 && q2) := e_m2 ha hb rfl rfl
theorem e_eqS {u v : List Nat} (ha : a ρ = .ok (.d (.str u)) ρ1 q1) (hb : b ρ1 = .ok (.d (.str v)) ρ2 q2) : m2 lEq a b ρ = .ok (.d (.bl (decide (u = v)))) ρ2 (q1 && q2) := e_m2 ha hb rfl rfl
theorem e_neS {u v : List Nat} (ha : a ρ = .ok (.d (.str u)) ρ1 q1) (hb : b ρ1 = .ok (.d (.str v)) ρ2 q2) : m2 lNe a b ρ = .ok (.d (.bl (!decide (u = v)))) ρ2 (q1 && q2) := e_m2 ha hb rfl rfl
theorem e_isN {u : D} (ha : a ρ = .ok x ρ1 q1) (hb : b ρ1 = .ok (.d .non) ρ2 q2) (hq : (x.isPk && !q2) = false) (hx : x.pl = some u) : m2 lIsN a b ρ = .ok (.d (.bl u.isNon)) ρ2 (q1 && q2) := e_m2 ha hb hq (by unfold lIsN; rw [hx]; rfl)
theorem e_test {v : Bool} (h : a ρ = .ok (.d (.bl v)) ρ1 q) : mTest a ρ = .ok v ρ1 q := by unfold mTest; rw [h]; rfl
theorem e_and {ta tb : MB} {u v : Bool} (ha : ta ρ = .ok u ρ1 q1) (hb : u = true → tb ρ1 = .ok v ρ1 true) : mAnd ta tb ρ = .ok (u && v) ρ1 q1 := by
  unfold mAnd; rw [ha, Res.bind_ok]
  cases u with
  | true => rw [if_pos rfl, hb rfl]; show Res.ok v ρ1 (q1 && true) = _; rw [Bool.and_true]; rfl
  | false => rfl
theorem e_or {ta tb : MB} {u v : Bool} (ha : ta ρ = .ok u ρ1 q1) (hb : u = false → tb ρ1 = .ok v ρ1 true) : mOr ta tb ρ = .ok (u || v) ρ1 q1 := by
  unfold mOr; rw [ha, Res.bind_ok]
  cases u with
  | false => rw [if_neg (by decide), hb rfl]; show Res.ok v ρ1 (q1 && true) = _; rw [Bool.and_true]; rfl
  | true => rfl
theorem e_not {ta : MB} {u : Bool} (ha : ta ρ = .ok u ρ1 q1) : mNot ta ρ = .ok (!u) ρ1 q1 := by unfold mNot; rw [ha]; rfl
theorem e_andV {u v : Bool} (ha : a ρ = .ok (.d (.bl u)) ρ1 q1) (hb : u = true → b ρ1 = .ok (.d (.bl v)) ρ1 true) : mAndV a b ρ = .ok (.d (.bl (u && v))) ρ1 q1 := by
  unfold mAndV; rw [ha, Res.bind_ok]
  cases u with
  | true => dsimp only; rw [hb rfl]; show Res.ok (R.d (.bl v)) ρ1 (q1 && true) = _; rw [Bool.and_true]; rfl
  | false => rfl
def ix [Inhabited α] (xs : List α) (i : Int) : α := xs.getD i.toNat default
theorem atI_ix [Inhabited α] (h : 0 ≤ i ∧ i < xs.length) : L2.atI xs i = some (ix xs i) := by
  unfold L2.atI L2.ixN ix
  rw [if_pos h.1, if_pos (by omega)]
  simp only [Option.bind_some]
  rw [List.getD_eq_getElem?_getD]
  have : i.toNat < xs.length := by omega
  rw [List.getElem?_eq_getElem this]; rfl
theorem e_ixL [Inhabited α] (ha : a ρ = .ok (.d (.lst (List.map e xs))) ρ1 q1) (hb : b ρ1 = .ok (.d (.int i)) ρ2 q2) (h : 0 ≤ i ∧ i < xs.length) : m2 lIx a b ρ = .ok (.d (e (ix xs i))) ρ2 (q1 && q2) := e_m2 ha hb rfl (by
  show (L2.atI (xs.map e) i).map R.d = _
  rw [atI_map, atI_ix h]; rfl)
theorem e_ixT [Inhabited α] (ha : a ρ = .ok (.d (.tup (List.map e xs))) ρ1 q1) (hb : b ρ1 = .ok (.d (.int i)) ρ2 q2) (h : 0 ≤ i ∧ i < xs.length) : m2 lIx a b ρ = .ok (.d (e (ix xs i))) ρ2 (q1 && q2) := e_m2 ha hb rfl (by
  show (L2.atI (xs.map e) i).map R.d = _
  rw [atI_map, atI_ix h]; rfl)
theorem e_ixO [Inhabited α] (ha : a ρ = .ok (.own (O.l (List.map e xs))) ρ1 q1) (hb : b ρ1 = .ok (.d (.int i)) ρ2 q2) (h : 0 ≤ i ∧ i < xs.length) : m2 lIx a b ρ = .ok (.d (e (ix xs i))) ρ2 (q1 && q2) := e_m2 ha hb rfl (by
  show (L2.atI ((xs.map e).map O.d) i).map O.r = _
  rw [atI_map, atI_map, atI_ix h]; rfl)
theorem e_ixP [Inhabited α] (ha : a ρ = .ok (.pk (O.l (List.map e xs))) ρ1 q1) (hb : b ρ1 = .ok (.d (.int i)) ρ2 q2) (hq : q2 = true) (h : 0 ≤ i ∧ i < xs.length) : m2 lIx a b ρ = .ok (.d (e (ix xs i))) ρ2 (q1 && q2) := e_m2 ha hb (by rw [hq]; rfl) (by
  show (L2.atI ((xs.map e).map O.d) i).map O.r = _
  rw [atI_map, atI_map, atI_ix h]; rfl)
theorem e_ixS {s : List Nat} (ha : a ρ = .ok (.d (.str s)) ρ1 q1) (hb : b ρ1 = .ok (.d (.int i)) ρ2 q2) (h : 0 ≤ i ∧ i < s.length) : m2 lIx a b ρ = .ok (.d (.str [ix s i])) ρ2 (q1 && q2) := e_m2 ha hb rfl (by
  show (L2.atI s i).map (fun c => R.d (.str [c])) = _
  rw [atI_ix h]; rfl)
theorem e_tF {ds : List D} (n : Nat) (ha : a ρ = .ok (.d (.tup ds)) ρ1 q) (hi : i = (n : Int)) (h : ds[n]? = some d) : m2 lIx a (mC (.int i)) ρ = .ok (.d d) ρ1 (q && true) := e_m2 ha e_C rfl (by
  subst hi; show (L2.atI ds (n : Int)).map R.d = _; rw [atI_pos, h]; rfl)
theorem e_pF {os : List O} (n : Nat) (ha : a ρ = .ok (.pk (.lst os)) ρ1 q) (hi : i = (n : Int)) (h : os[n]? = some (.d d)) : m2 lIx a (mC (.int i)) ρ = .ok (.d d) ρ1 (q && true) := e_m2 ha e_C rfl (by
  subst hi; show (L2.atI os (n : Int)).map O.r = _; rw [atI_pos, h]; rfl)
theorem e_lenL (ha : a ρ = .ok (.d (.lst (List.map e xs))) ρ1 q) : m1 lLen a ρ = .ok (.d (.int xs.length)) ρ1 q := e_m1 ha (by show some (R.d (.int (List.map e xs).length)) = _; rw [List.length_map])
theorem e_lenP (ha : a ρ = .ok (.pk (O.l (List.map e xs))) ρ1 q) : m1 lLen a ρ = .ok (.d (.int xs.length)) ρ1 q := e_m1 ha (by show some (R.d (.int ((List.map e xs).map O.d).length)) = _; rw [List.length_map, List.length_map])
theorem e_lenS {s : List Nat} (ha : a ρ = .ok (.d (.str s)) ρ1 q) : m1 lLen a ρ = .ok (.d (.int s.length)) ρ1 q := e_m1 ha rfl
theorem e_addS {s t : List Nat} (ha : a ρ = .ok (.d (.str s)) ρ1 q1) (hb : b ρ1 = .ok (.d (.str t)) ρ2 q2) (h : s.length + t.length ≤ 1000000) : m2 lAdd a b ρ = .ok (.d (.str (s ++ t))) ρ2 (q1 && q2) := e_m2 ha hb rfl (by
  show (if lenOk (s.length + t.length) = true then some (R.d (.str (s ++ t))) else none) = _
  rw [if_pos (lenOk_of h)])
theorem e_addL (ha : a ρ = .ok x ρ1 q1) (hb : b ρ1 = .ok y ρ2 q2) (hq : (x.isPk && !q2) = false) (hx : x.pl = some (.lst (List.map e xs))) (hy : y.pl = some (.lst (List.map e ys))) (h : xs.length + ys.length ≤ 1000000) : m2 lAdd a b ρ = .ok (.own (O.l (List.map e (xs ++ ys)))) ρ2 (q1 && q2) := e_m2 ha hb hq (by
  unfold lAdd; rw [hx, hy]
  show (if lenOk ((List.map e xs).length + (List.map e ys).length) = true then some (R.own (.lst ((List.map e xs ++ List.map e ys).map O.d))) else none) = _
  rw [List.length_map, List.length_map, if_pos (lenOk_of h), ← List.map_append])
theorem cutA_map {f : α → β} (xs : List α) (lo hi : Option Int) : cutA (xs.map f) lo hi = (cutA xs lo hi).map f := by
  unfold cutA; rw [List.length_map, List.map_take, List.map_drop]
theorem lSl_S {s : List Nat} {lo hi : Option Int} : lSl (.d (.str s)) lo hi = some (.d (.str (cutA s lo hi))) := rfl
theorem lSl_L {lo hi : Option Int} (h : x.pl = some (.lst (List.map e xs))) : lSl x lo hi = some (.own (O.l (List.map e (cutA xs lo hi)))) := by
  unfold lSl; rw [h]; show some (R.own (.lst ((cutA (List.map e xs) lo hi).map O.d))) = _; rw [cutA_map]
theorem e_mInt (ha : a ρ = .ok (.d (.int i)) ρ1 q) : mInt a ρ = .ok (.d (.int i)) ρ1 q := by unfold mInt; rw [ha]; rfl
theorem e_sl10 (ha : a ρ = .ok x ρ1 q1) (hb : b ρ1 = .ok (.d (.int i)) ρ2 q2) (hq : (x.isPk && !q2) = false) (h : lSl x (some i) none = some r) : mSl a (some b) none ρ = .ok r ρ2 (q1 && q2) := by
  show (mArgs [a, mInt b] ρ).bind (fun rs ρ' q => match (match rs with | [p, .d (.int i)] => lSl p (some i) none | _ => none) with | some r => Res.ok r ρ' q | none => Res.no) = _
  rw [e_args ha (e_args (e_mInt hb) e_args0 (by simp)) (by simpa using hq), Res.bind_ok]; show (match lSl x (some i) none with | some r => Res.ok r ρ2 (q1 && (q2 && true)) | none => Res.no) = _; rw [h, Bool.and_true]
theorem e_sl01 (ha : a ρ = .ok x ρ1 q1) (hb : b ρ1 = .ok (.d (.int i)) ρ2 q2) (hq : (x.isPk && !q2) = false) (h : lSl x none (some i) = some r) : mSl a none (some b) ρ = .ok r ρ2 (q1 && q2) := by
  show (mArgs [a, mInt b] ρ).bind (fun rs ρ' q => match (match rs with | [p, .d (.int i)] => lSl p none (some i) | _ => none) with | some r => Res.ok r ρ' q | none => Res.no) = _
  rw [e_args ha (e_args (e_mInt hb) e_args0 (by simp)) (by simpa using hq), Res.bind_ok]; show (match lSl x none (some i) with | some r => Res.ok r ρ2 (q1 && (q2 && true)) | none => Res.no) = _; rw [h, Bool.and_true]
theorem e_sl11 {q3 : Bool} (ha : a ρ = .ok x ρ1 q1) (hb : b ρ1 = .ok (.d (.int i)) ρ2 q2) (hc : c ρ2 = .ok (.d (.int j)) ρ3 q3) (hq : (x.isPk && !(q2 && q3)) = false) (h : lSl x (some i) (some j) = some r) : mSl a (some b) (some c) ρ = .ok r ρ3 (q1 && (q2 && q3)) := by
  show (mArgs [a, mInt b, mInt c] ρ).bind (fun rs ρ' q => match (match rs with | [p, .d (.int i), .d (.int j)] => lSl p (some i) (some j) | _ => none) with | some r => Res.ok r ρ' q | none => Res.no) = _
  rw [e_args ha (e_args (e_mInt hb) (e_args (e_mInt hc) e_args0 (by simp)) (by simp)) (by simpa using hq), Res.bind_ok]; show (match lSl x (some i) (some j) with | some r => Res.ok r ρ3 (q1 && (q2 && (q3 && true))) | none => Res.no) = _; rw [h, Bool.and_true]
theorem eqv_i (i j : Int) : D.eqv (.int i) (.int j) = decide (i = j) := by rw [eqv_int]; rfl
theorem eqv_s (s t : List Nat) : D.eqv (.str s) (.str t) = decide (s = t) := by
  show ((⟨s.toArray⟩ : Str) == (⟨t.toArray⟩ : Str)) = _
  by_cases h : s = t
  · subst h; simp
  · rw [decide_eq_false h]
    refine beq_eq_false_iff_ne.mpr fun z => h ?_
    have : s.toArray = t.toArray := by injection z
    simpa using this
theorem any_i (i : Int) (xs : List Int) : ((xs.map D.int).any fun z => D.eqv z (.int i)) = decide (i ∈ xs) := by
  induction xs with
  | nil => rfl
  | cons v xs ih =>
    rw [List.map_cons, List.any_cons, ih, eqv_i]
    by_cases h : v = i
    · subst h; simp
    · have h' : ¬ i = v := fun z => h z.symm
      simp [h, h']
theorem any_s (w : List Nat) (ws : List (List Nat)) : ((ws.map D.str).any fun z => D.eqv z (.str w)) = decide (w ∈ ws) := by
  induction ws with
  | nil => rfl
  | cons v ws ih =>
    rw [List.map_cons, List.any_cons, ih, eqv_s]
    by_cases h : v = w
    · subst h; simp
    · have h' : ¬ w = v := fun z => h z.symm
      simp [h, h']
theorem flats_i (xs : List Int) : flats (xs.map D.int) = true := by unfold flats; rw [List.all_map]; exact List.all_eq_true.mpr fun _ _ => rfl
theorem flats_s (xs : List (List Nat)) : flats (xs.map D.str) = true := by unfold flats; rw [List.all_map]; exact List.all_eq_true.mpr fun _ _ => rfl
theorem isInL_i {xs : List Int} (hy : y.pl = some (.lst (xs.map D.int))) : isIn (.d (.int i)) y = some (decide (i ∈ xs)) := by
  unfold isIn; rw [hy]
  show (if (D.int i).flat = true ∧ flats (xs.map D.int) = true then some ((xs.map D.int).any fun z => D.eqv z (.int i)) else _) = _
  rw [if_pos ⟨rfl, flats_i xs⟩, any_i]
theorem isInL_s {w : List Nat} {xs : List (List Nat)} (hy : y.pl = some (.lst (xs.map D.str))) : isIn (.d (.str w)) y = some (decide (w ∈ xs)) := by
  have key : (if (D.str w).flat = true ∧ flats (xs.map D.str) = true then some ((xs.map D.str).any fun z => D.eqv z (.str w)) else if (D.str w).shp = true ∧ (D.lst (xs.map D.str)).shp = true then some ((xs.map D.str).any fun z => D.eqv z (.str w)) else none) = some (decide (w ∈ xs)) := by
    rw [if_pos ⟨rfl, flats_s xs⟩, any_s]
  rw [← key]
  unfold isIn; rw [hy]
  match w with
  | [] => rfl
  | [c] => rfl
  | c :: d :: r => rfl
theorem isInT_s {w : List Nat} {xs : List (List Nat)} (hy : y.pl = some (.tup (xs.map D.str))) : isIn (.d (.str w)) y = some (decide (w ∈ xs)) := by
  have key : (if (D.str w).flat = true ∧ flats (xs.map D.str) = true then some ((xs.map D.str).any fun z => D.eqv z (.str w)) else none) = some (decide (w ∈ xs)) := by
    rw [if_pos ⟨rfl, flats_s xs⟩, any_s]
  rw [← key]
  unfold isIn; rw [hy]
  match w with
  | [] => rfl
  | [c] => rfl
  | c :: d :: r => rfl
theorem isIn_c {w s : List Nat} (h : w.length = 1) : isIn (.d (.str w)) (.d (.str s)) = some (decide (w.headD 0 ∈ s)) := by
  match w, h with
  | [c], _ => rfl
theorem e_in {v : Bool} (ha : a ρ = .ok x ρ1 q1) (hb : b ρ1 = .ok y ρ2 q2) (hq : (x.isPk && !q2) = false) (h : isIn x y = some v) : m2 lIn a b ρ = .ok (.d (.bl v)) ρ2 (q1 && q2) := e_m2 ha hb hq (by unfold lIn; rw [h]; rfl)
theorem e_notin {v : Bool} (ha : a ρ = .ok x ρ1 q1) (hb : b ρ1 = .ok y ρ2 q2) (hq : (x.isPk && !q2) = false) (h : isIn x y = some v) : m2 lNotIn a b ρ = .ok (.d (.bl (!v))) ρ2 (q1 && q2) := e_m2 ha hb hq (by unfold lNotIn; rw [h]; rfl)
theorem e_tupL (ha : a ρ = .ok x ρ1 q) (hx : x.pl = some (.lst (List.map e xs))) : m1 lTuple a ρ = .ok (.d (.tup (List.map e xs))) ρ1 q := e_m1 ha (by unfold lTuple; rw [hx])
def idxI (xs : List Int) (i : Int) : Int := (xs.idxOf i : Nat)
theorem findIdx_i (xs : List Int) (h : i ∈ xs) : (xs.map D.int).findIdx? (fun z => D.eqv z (.int i)) = some (xs.idxOf i) := by
  induction xs with
  | nil => cases h
  | cons v xs ih =>
    rw [List.map_cons, List.findIdx?_cons, eqv_i, List.idxOf_cons]
    by_cases hv : v = i
    · subst hv; simp
    · have : i ∈ xs := by
        rcases List.mem_cons.mp h with z | z
        · exact absurd z.symm hv
        · exact z
      rw [ih this]
      have hv' : (v == i) = false := by simpa using hv
      simp [hv, hv']
theorem e_index {ns : List Int} (ha : a ρ = .ok x ρ1 q1) (hb : b ρ1 = .ok (.d (.int i)) ρ2 q2) (hq : (x.isPk && !q2) = false) (hx : x.pl = some (.lst (ns.map D.int))) (h : i ∈ ns) : mIndex a b ρ = .ok (.d (.int (idxI ns i))) ρ2 (q1 && q2) := by
  refine e_m2 (x := x) (ρ1 := ρ1) ?_ hb hq ?_
  · unfold mLs; rw [ha, Res.bind_ok, hx]
  · unfold lIndex; rw [hx]
    show (if (D.int i).flat = true ∧ flats (ns.map D.int) = true then ((ns.map D.int).findIdx? fun z => D.eqv z (.int i)).map fun (j : Nat) => R.d (.int j) else none) = _
    rw [if_pos ⟨rfl, flats_i ns⟩, findIdx_i ns h]; rfl
theorem e_sts0 : sts [] = some [] := rfl
theorem e_sts {rs : List R} {ds : List D} (h : r.st = some d) (t : sts rs = some ds) : sts (r :: rs) = some (d :: ds) := by unfold sts; rw [h, t]
theorem e_lst {ms : List M} {rs : List R} {ds : List D} (h : mArgs ms ρ = .ok rs ρ1 q) (hs : sts rs = some ds) (hl : ds.length ≤ 1000000) : mLst ms ρ = .ok (.own (O.l ds)) ρ1 q := by
  unfold mLst mOps; rw [h, Res.bind_ok]; dsimp only; rw [hs]; dsimp only; rw [if_pos (lenOk_of hl)]
theorem e_tup {ms : List M} {rs : List R} {ds : List D} (h : mArgs ms ρ = .ok rs ρ1 q) (hs : sts rs = some ds) (hl : ds.length ≤ 1000000) : mTup ms ρ = .ok (.d (.tup ds)) ρ1 q := by
  unfold mTup mOps; rw [h, Res.bind_ok]; dsimp only; rw [hs]; dsimp only; rw [if_pos (lenOk_of hl)]
theorem e_argB0 : mArgB [] ρ = .ok [] ρ true := rfl
theorem e_argBv {m : M} {as : List Ar} {rs : List Av} (h : m ρ = .ok r ρ1 q1) (t : mArgB as ρ1 = .ok rs ρ2 q2) (hp : r.isPk = false) : mArgB (.v m :: as) ρ = .ok (.r r :: rs) ρ2 (q1 && q2) := by
  show (m ρ).bind _ = _
  rw [h, Res.bind_ok, t, Res.bind_ok, hp]; rfl
theorem e_argBb {i : Nat} {as : List Ar} {rs : List Av} (h : live ρ i = true) (t : mArgB as ρ = .ok rs ρ1 q1) : mArgB (.b i :: as) ρ = .ok (.b i :: rs) ρ1 q1 := by
  show (if live ρ i = true then _ else _) = _
  rw [if_pos h, t]; rfl
theorem e_lend0 : lend [] ρ = some ([], [], ρ) := rfl
theorem e_lendr {rs : List Av} {as : List Slo} {ls : List Loan} (h : r.st = some d) (t : lend rs ρ = some (as, ls, ρ1)) : lend (.r r :: rs) ρ = some (.shr d :: as, none :: ls, ρ1) := by
  show (match r.st, lend rs ρ with | some x, some (as, ls, ρ') => some (Slo.shr x :: as, (none : Loan) :: ls, ρ') | _, _ => none) = _
  rw [h, t]
theorem e_lendm {i : Nat} {bb : Bool} {o : O} {rs : List Av} {as : List Slo} {ls : List Loan} (h : ρ[i]? = some (.mu bb o)) (t : lend rs (ρ.set i .un) = some (as, ls, ρ1)) : lend (.b i :: rs) ρ = some (.mu true o :: as, some (i, bb) :: ls, ρ1) := by
  unfold lend; rw [h]; dsimp only; rw [t]
theorem e_call {f : Fn} {args : List Ar} {rs : List Av} {as as' : List Slo} {ls : List Loan} (h : mArgB args ρ = .ok rs ρ1 q) (hl : lend rs ρ1 = some (as, ls, ρ2)) (hf : f as = .ok r as') (hb : back ls as' ρ2 = ρ3) : mCall f args ρ = .ok r ρ3 (q && ls.all Option.isNone) := by
  unfold mCall; rw [h, Res.bind_ok, hl]; dsimp only; rw [hf]; dsimp only; rw [hb]
theorem e_callX {f : Fn} {args : List Ar} {rs : List Av} {as as' : List Slo} {ls : List Loan} {z : Exc} (h : mArgB args ρ = .ok rs ρ1 q) (hl : lend rs ρ1 = some (as, ls, ρ2)) (hf : f as = .ex z as') (hb : back ls as' ρ2 = ρ3) : mCall f args ρ = .ex z ρ3 := by
  unfold mCall; rw [h, Res.bind_ok, hl]; dsimp only; rw [hf]; dsimp only; rw [hb]
theorem st_set {i : Nat} {s : Slo} (h : a ρ = .ok r ρ1 q) (hb : isBor ρ1 i = false) (hs : r.slo = some s) : mSet i a ρ = .nx (ρ1.set i s) := by
  unfold mSet; rw [h, Res.stm_ok, hb, if_neg (by decide), hs]
theorem st_augI {i : Nat} {u : Int} (hu : ρ[i]? = some (.shr (.int u))) (h : a ρ = .ok (.d (.int j)) ρ1 q) (hb : isBor ρ1 i = false) : mAug i a ρ = .nx (ρ1.set i (.shr (.int (u + j)))) := st_set (e_m2 (e_nm_s hu) h rfl rfl) hb rfl
def eN : Unit → D := fun _ => .non
theorem js_fz {i : Nat} {m : MS} {ds : List D} {t : T β} {Ψ : β → SRes → Prop} (h : ρ[i]? = some (.mu false (O.l ds))) (hr : ρ.set i (.shr (.lst ds)) = ρ1) (k : JS (m ρ1) t Ψ) : JS (mFz i m ρ) t Ψ := fun ok => by
  unfold mFz; rw [e_fz_m h, Res.stm_ok, hr]; exact k ok
theorem st_kl {m : MS} {vs : List Nat} (h : m ρ = .nx ρ1) (hk : kl ρ1 vs = ρ2) : mKl vs m ρ = .nx ρ2 := by unfold mKl; rw [h]; dsimp only; rw [hk]
theorem st_drop (h : a ρ = .ok r ρ1 q) : mDrop a ρ = .nx ρ1 := by unfold mDrop; rw [h]; rfl
theorem e_app {i : Nat} {bb : Bool} {z : α} (hL : isLst ρ i = true) (h : a ρ = .ok r ρ1 q) (hr : r.st = some (e z)) (hs : ρ1[i]? = some (.mu bb (O.l (List.map e xs)))) (hl : xs.length < 1000000) : mApp i a ρ = .ok (.d .non) (ρ1.set i (.mu bb (O.l (List.map e (xs ++ [z]))))) false := by
  unfold mApp; rw [if_pos hL, h, Res.bind_ok, hr]; dsimp only
  unfold pushAt; rw [hs]; dsimp only
  rw [List.length_map, List.length_map, if_pos (lenOk_of (by omega))]
  show Res.ok (R.d .non) (ρ1.set i (.mu bb (.lst ((List.map e xs).map O.d ++ [.d (e z)])))) false = Res.ok (R.d .non) (ρ1.set i (.mu bb (.lst ((List.map e (xs ++ [z])).map O.d)))) false
  rw [List.map_append, List.map_append]; rfl
def sx (xs : List α) (i : Int) (z : α) : List α := xs.set i.toNat z
theorem st_putF {i : Nat} {bb : Bool} {os : List O} (n : Nat) (hL : isLst ρ i = true) (h : mArgs [a, mInt b] ρ = .ok [r, .d (.int k)] ρ1 q) (hk : k = (n : Int)) (hr : r.st = some d) (hs : ρ1[i]? = some (.mu bb (.lst os))) (hl : n < os.length) : mPut i b a ρ = .nx (ρ1.set i (.mu bb (.lst (os.set n (.d d))))) := by
  unfold mPut; rw [if_pos hL, h, Res.stm_ok]; dsimp only; rw [hr]; dsimp only
  unfold putAt; rw [hs]; dsimp only
  subst hk
  rw [ixN_pos _ _ hl]
def rng (n : Int) : List Int := (List.range n.toNat).map fun (k : Nat) => (k : Int)
def rng2 (i j : Int) : List Int := (List.range (j - i).toNat).map fun (k : Nat) => i + (k : Int)
theorem e_it {ds : List D} (h : a ρ = .ok r ρ1 q) (hi : r.its = some ds) : mIt a ρ = .ok ds ρ1 q := by unfold mIt; rw [h, Res.bind_ok, hi]
theorem e_rg1 (h : a ρ = .ok (.d (.int j)) ρ1 q) (hj : -1000000 ≤ j ∧ j ≤ 1000000) : mRg1 a ρ = .ok (List.map D.int (rng j)) ρ1 q := by
  unfold mRg1; rw [h, Res.bind_ok]; dsimp only; rw [if_pos (rgOk_of hj.1 hj.2)]
  unfold rng; rw [List.map_map]; rfl
theorem e_rg2 (ha : a ρ = .ok (.d (.int i)) ρ1 q1) (hb : b ρ1 = .ok (.d (.int j)) ρ2 q2) (hi : -1000000 ≤ i ∧ i ≤ 1000000) (hj : -1000000 ≤ j ∧ j ≤ 1000000) : mRg2 a b ρ = .ok (List.map D.int (rng2 i j)) ρ2 (q1 && q2) := by
  unfold mRg2; rw [e_args ha (e_args hb e_args0 (by simp)) rfl, Res.bind_ok]; dsimp only
  rw [rgOk_of hi.1 hi.2, rgOk_of hj.1 hj.2, Bool.and_self, if_pos rfl, Bool.and_true]
  unfold rng2; rw [List.map_map]; rfl
def enumL : Nat → List α → List (Int × α)
  | _, [] => []
  | k, d :: ds => ((k : Int), d) :: enumL (k + 1) ds
def eEn (e : α → D) : Int × α → D := fun p => .tup [.int p.1, e p.2]
theorem enumD_map : ∀ (k : Nat) (xs : List α), enumD k (List.map e xs) = List.map (eEn e) (enumL k xs)
  | _, [] => rfl
  | k, x :: xs => by show D.tup [.int k, e x] :: enumD (k + 1) (List.map e xs) = _; rw [enumD_map (k + 1) xs]; rfl
theorem e_en (h : a ρ = .ok (.d (.lst (List.map e xs))) ρ1 q) : mEn a ρ = .ok (List.map (eEn e) (enumL 0 xs)) ρ1 q := by
  unfold mEn; rw [h, Res.bind_ok]; dsimp only; rw [enumD_map]
theorem e_lc {it : MI} {t : Tg} {cm : MB} {em : M} {vs : List Nat} {ρw : Ro} {eb : β → D} {tc : α → T Bool} {te : α → T β} (A : α → Ro) (hi : it ρ = .ok (List.map e xs) ρ1 q) (hl : xs.length ≤ 1000000) (hm : noMu ρ1 vs = true) (hw : wipeR ρ1 vs = ρw) (ht : ∀ x, asg t (e x) ρw = some (A x))
    (hw2 : ∀ x, wipeR (A x) vs = ρw) (hu : unwipe ρ1 ρw vs = ρ1) (hc : ∀ x, J (tc x) fun v => cm (A x) = .ok v (A x) true) (he : ∀ x, J (te x) fun v => ∃ r, em (A x) = .ok r (A x) true ∧ r.st = some (eb v)) (hok : (T.lcP tc te xs).ok) :
    mLc it t cm em vs ρ = .ok (.own (O.l (List.map eb (T.lcP tc te xs).val))) ρ1 q := by
  have key : ∀ (xs : List α) (ys : List D), (T.lcP tc te xs).ok → lcGo t cm em vs (List.map e xs) ρw true ys = some (ys ++ List.map eb (T.lcP tc te xs).val, ρw, true) := by
    intro xs
    induction xs with
    | nil => intro ys _; rw [List.map_nil, lcGo_nil]; simp [T.lcP]
    | cons x xs ih =>
      intro ys h
      rw [List.map_cons, lcGo_cons, ht]
      dsimp only
      have h1 := hc x h.1
      have h2 := h.2
      rw [h1]
      dsimp only at h2 ⊢
      unfold T.lcP
      show (if (tc x).val = true then _ else _) = some (ys ++ List.map eb (T.bind (tc x) _).val, ρw, true)
      unfold T.bind
      dsimp only
      by_cases hx : (tc x).val = true
      · rw [if_pos hx] at h2
        rw [if_pos hx, if_pos hx]
        obtain ⟨r, e1, e2⟩ := he x h2.1
        rw [e1]
        dsimp only
        rw [e2]
        dsimp only
        rw [hw2, Bool.and_self, Bool.and_self, ih _ h2.2.1]
        simp
      · rw [if_neg hx] at h2
        rw [if_neg hx, if_neg hx, hw2, Bool.and_self, ih _ h2]
  unfold mLc
  rw [hi, Res.bind_ok]
  rw [List.length_map, lenOk_of hl, hm, Bool.and_self, if_pos rfl, hw, key xs [] hok]
  dsimp only
  rw [hu, List.nil_append, Bool.and_true]
theorem e_lcJ {it : MI} {t : Tg} {cm : MB} {em : M} {vs : List Nat} {ρw : Ro} {eb : β → D} {tc : α → T Bool} {te : α → T β} (A : α → Ro) (hi : it ρ = .ok (List.map e xs) ρ1 q) (hl : xs.length ≤ 1000000) (hm : noMu ρ1 vs = true) (hw : wipeR ρ1 vs = ρw) (ht : ∀ x, asg t (e x) ρw = some (A x))
    (hw2 : ∀ x, wipeR (A x) vs = ρw) (hu : unwipe ρ1 ρw vs = ρ1) (hc : ∀ x, J (tc x) fun v => cm (A x) = .ok v (A x) true) (he : ∀ x, J (te x) fun v => ∃ r, em (A x) = .ok r (A x) true ∧ r.st = some (eb v)) :
    J (T.lcP tc te xs) fun ys => mLc it t cm em vs ρ = .ok (.own (O.l (List.map eb ys))) ρ1 q := fun hok => e_lc A hi hl hm hw ht hw2 hu hc he hok
theorem j_yes {ρ : Ro} : J (T.ret true) fun v => mYes ρ = .ok v ρ true := fun _ => rfl
theorem jj_bind {t1 : T α} {t2 : α → T β} {Φ : α → Prop} {Ψ : β → Prop} (h1 : J t1 Φ) (h2 : ∀ x, Φ x → J (t2 x) Ψ) : J (t1.bind t2) Ψ := fun h => h2 _ (h1 h.1) h.2
theorem jj_req {p : Prop} {t : T α} {Ψ : α → Prop} (h1 : p → J t Ψ) : J (t.req p) Ψ := fun h => h1 h.1 h.2
theorem jj_ret {a : α} {Ψ : α → Prop} (h : Ψ a) : J (T.ret a) Ψ := fun _ => h
end
end Mw
set_option Elab.async false
set_option linter.all false
set_option maxRecDepth 100000
set_option autoImplicit false
namespace Mw
open PySem PySem.Spec PyProof.Rows L2
section
variable {ρ ρ1 ρ2 ρ3 : Ro} {a b : M} {q q1 q2 : Bool} {r x y : R} {d : D} {i j k : Int} {α β σ : Type} {e : α → D} {xs ys : List α}
end
end Mw
set_option Elab.async false
set_option linter.all false
set_option maxRecDepth 100000
set_option autoImplicit false
namespace Mw
open PySem PySem.Spec PyProof.Rows L2
section
variable {ρ ρ1 ρ2 ρ3 : Ro} {a b : M} {q q1 q2 : Bool} {r x y : R} {d : D} {i j k : Int} {α β σ : Type} {e : β → D} {kv : List ((Int × Int) × β)}
def dat [Inhabited β] {κ : Type} [DecidableEq κ] (kv : List (κ × β)) (k : κ) : β := (tget kv k).getD default
theorem tget_map {κ : Type} [DecidableEq κ] (e : β → D) (k : κ) : ∀ kv : List (κ × β), tget (kv.map fun p => (p.1, e p.2)) k = (tget kv k).map e
  | [] => rfl
  | p :: kv => by
    have ih := tget_map e k kv
    unfold tget at ih ⊢
    rw [List.map_cons, List.find?_cons, List.find?_cons]
    by_cases c : p.1 = k
    · simp [c]
    · simp [c]; simpa using ih
theorem tput_map {κ : Type} [DecidableEq κ] (e : β → D) (k : κ) (z : β) (kv : List (κ × β)) : tput (kv.map fun p => (p.1, e p.2)) k (e z) = (tput kv k z).map fun p => (p.1, e p.2) := by
  unfold tput
  rw [List.any_map]
  have : ((fun p : κ × D => decide (p.1 = k)) ∘ fun p : κ × β => (p.1, e p.2)) = fun p => decide (p.1 = k) := rfl
  rw [this]
  split
  · rw [List.map_map, List.map_map]
    refine List.map_congr_left fun p _ => ?_
    show (if p.1 = k then (p.1, e z) else (p.1, e p.2)) = (fun p : κ × β => (p.1, e p.2)) (if p.1 = k then (p.1, z) else p)
    split <;> rfl
  · rw [List.map_append]; rfl
end
end Mw
set_option Elab.async false
set_option linter.all false
set_option maxRecDepth 100000
set_option autoImplicit false
namespace Mw
open PySem PySem.Spec PyProof.Rows L2
section
variable {ρ ρ1 ρ2 ρ3 : Ro} {a b : M} {q q1 q2 : Bool} {r x y : R} {d : D} {i j k : Int} {α β σ : Type} {e : β → D} {kv : List (Int × β)} {kp : List ((Int × Int) × β)}
end
end Mw
set_option Elab.async false
set_option linter.all false
set_option maxRecDepth 100000
set_option autoImplicit false
namespace Mw
open PySem PySem.Spec PyProof.Rows L2
section
variable {α β γ κ μ σ τ l : Type} {as : List Slo} {ρ ρ1 ρ2 : Ro} {a b m : M} {c c2 : MB} {ms : List M} {ar : List Ar} {x : Exc} {q : Bool} {r : R} {rs : List R} {s1 : MS}
theorem e_argBX1 (h : m ρ = .ex x ρ1) : mArgB (.v m :: ar) ρ = .ex x ρ1 := by unfold mArgB; rw [h]; rfl
theorem e_callXa {f : Fn} (h : mArgB ar ρ = .ex x ρ1) : mCall f ar ρ = .ex x ρ1 := by unfold mCall; rw [h]; rfl
theorem e_andVX1 (h : a ρ = .ex x ρ1) : mAndV a b ρ = .ex x ρ1 := by unfold mAndV; rw [h]; rfl
theorem e_andVX2 {k : Bool} (hc : a ρ = .ok (.d (.bl k)) ρ1 q) (hk : k = true) (h : b ρ1 = .ex x ρ2) : mAndV a b ρ = .ex x ρ2 := by subst hk; unfold mAndV; rw [hc, Res.bind_ok]; show (b ρ1).bind _ = _; rw [h]; rfl
theorem sx_set {i : Nat} (h : a ρ = .ex x ρ1) : mSet i a ρ = .ex x ρ1 := by unfold mSet; rw [h]; rfl
theorem sx_drop (h : a ρ = .ex x ρ1) : mDrop a ρ = .ex x ρ1 := by unfold mDrop; rw [h]; rfl
theorem sx_rt (h : a ρ = .ex x ρ1) : mRt a ρ = .ex x ρ1 := by unfold mRt; rw [h]; rfl
theorem sx_kl {vs : List Nat} (h : s1 ρ = .ex x ρ1) : mKl vs s1 ρ = .ex x ρ1 := by unfold mKl; rw [h]
theorem js_x {v : β} {Q : β → SRes → Prop} (h : s1 ρ = .ex x ρ1) (hr : Q v (.ex x ρ1)) : JS (s1 ρ) (T.ret v) (TR Q) := fun _ => by rw [h]; exact hr
theorem js_xS {v : β} {Q : β → SRes → Prop} (h : s1 ρ = .ex x ρ1) (hr : Q v (.ex x ρ1)) : JS (s1 ρ) (T.ret v) (SR Q) := fun _ => by rw [h]; exact ⟨rfl, hr⟩
theorem js_xC {v : β} {E : σ → Ro} {L : l → Ro} {Q : β → SRes → Prop} (h : s1 ρ = .ex x ρ1) (hr : Q v (.ex x ρ1)) : JS (s1 ρ) (T.ret (.rt v)) (CR E L Q) := fun _ => by rw [h]; exact ⟨rfl, hr⟩
theorem js_stC {v : σ} {E : σ → Ro} {L : l → Ro} {Q : β → SRes → Prop} (h : s1 ρ = .nx ρ1) (he : ρ1 = E v) : JS (s1 ρ) (T.ret (.nx v)) (CR E L Q) := fun _ => h.trans (congrArg SRes.nx he)
def T.bx (t : T (Exc ⊕ α)) (k : Exc → T β) (f : α → T β) : T β := T.bind t fun r => match r with
  | .inl e => k e
  | .inr v => f v
theorem js_bx {res : SRes} {t1 : T (Exc ⊕ α)} {k : Exc → T β} {t2 : α → T β} {Φ : Exc ⊕ α → Prop} {Ψ : β → SRes → Prop} (h1 : J t1 Φ) (hx : ∀ e, Φ (.inl e) → JS res (k e) Ψ) (h2 : ∀ v, Φ (.inr v) → JS res (t2 v) Ψ) : JS res (T.bx t1 k t2) Ψ := fun h => by
  have h0 := h1 h.1
  have h' := h.2
  show Ψ (T.bx t1 k t2).val res
  unfold T.bx T.bind
  dsimp only
  cases c : t1.val with
  | inl e => rw [c] at h0 h'; exact hx e h0 h'
  | inr v => rw [c] at h0 h'; exact h2 v h0 h'
theorem js_bxg [Inhabited α] {res : SRes} {g : Prop} [Decidable g] {t1 : T (Exc ⊕ α)} {k : Exc → T β} {t2 : α → T β} {Φ : Exc ⊕ α → Prop} {Ψ : β → SRes → Prop} (h1 : J t1 Φ) (hx : ∀ e, g → Φ (.inl e) → JS res (k e) Ψ) (h2 : ∀ v, (g → Φ (.inr v)) → JS res (t2 v) Ψ) :
    JS res (T.bx (if g then t1 else T.ret (.inr default)) k t2) Ψ := fun h => by
  by_cases hg : g
  · rw [if_pos hg] at h ⊢
    have h0 := h1 h.1
    have h' := h.2
    show Ψ (T.bx t1 k t2).val res
    unfold T.bx T.bind
    dsimp only
    cases c : t1.val with
    | inl e => rw [c] at h0 h'; exact hx e hg h0 h'
    | inr v => rw [c] at h0 h'; exact h2 v (fun _ => h0) h'
  · rw [if_neg hg] at h ⊢
    exact h2 default (fun z => absurd z hg) h.2
theorem fmt_nil : fmtRs [] = some [] := rfl
theorem fmt_cons {d : D} {ds : List D} (h : fmtD d = true) (t : fmtRs rs = some ds) : fmtRs (.d d :: rs) = some (d :: ds) := by
  show (if fmtD d = true then (fmtRs rs).map (d :: ·) else none) = _
  rw [if_pos h, t]; rfl
theorem sx_raiseA {c : Str} {ps : List Str} {ds : List D} (h : mArgs ms ρ = .ok rs ρ1 q) (hf : fmtRs rs = some ds) (hl : ds.length = ps.length) : mRaiseA c ps ms ρ = .ex ⟨c, ps.reverse, ds.reverse⟩ ρ1 := by
  unfold mRaiseA
  rw [h, Res.stm_ok, hf]
  dsimp only
  rw [if_pos hl]
def isRt : SRes → Bool
  | .rt _ _ => true
  | _ => false
def HQ (Q : β → SRes → Prop) : β → SRes → Prop := fun r res => isRt res = true ∧ Q r res
def exK (io : Option Nat) (ρ : Ro) (x : Exc) : Ro := match io with
  | none => ρ
  | some i => ρ.set i (.xc x)
def T.hd (cs : List (Str × Option Nat)) (c : Str) (ts : List (T γ)) (p d : T γ) : T γ := match cs.lookup c with
  | some (some k) => (match ts[k]? with | some t => t | none => T.req False d)
  | some none => p
  | none => T.req False d
inductive HJ (x : Exc) (K : Ro) (E : σ → Ro) (L : l → Ro) (Q : β → SRes → Prop) : List Hdl → List (T (Ct σ l β)) → Prop
  | nil : HJ x K E L Q [] []
  | cons {io : Option Nat} {h : Exc → MS} {t : T (Ct σ l β)} {hs : List Hdl} {ts : List (T (Ct σ l β))} {E' : σ → Ro} {L' : l → Ro} {K1 : Ro} (hk : exK io K x = K1) (hb : borI io K = false) (he : ∀ s, unI io (E' s) = E s) (hl : ∀ s, unI io (L' s) = L s) (hj : JS (h x K1) t (CR E' L' (HQ Q))) (r : HJ x K E L Q hs ts) : HJ x K E L Q ((io, h) :: hs) (t :: ts)
theorem HJ.get {K : Ro} {E : σ → Ro} {L : l → Ro} {Q : β → SRes → Prop} {hs : List Hdl} {ts : List (T (Ct σ l β))} (h : HJ x K E L Q hs ts) : ∀ {k : Nat} {t : T (Ct σ l β)}, ts[k]? = some t →
    ∃ io hh, hs[k]? = some (io, hh) ∧ borI io K = false ∧ ∃ (E' : σ → Ro) (L' : l → Ro), (∀ s, unI io (E' s) = E s) ∧ (∀ s, unI io (L' s) = L s) ∧ JS (hh x (exK io K x)) t (CR E' L' (HQ Q)) := by
  induction h with
  | nil => intro k t e; simp at e
  | cons hk hb he hl hj r ih =>
    intro k t e
    cases k with
    | zero => simp at e; subst e; subst hk; exact ⟨_, _, rfl, hb, _, _, he, hl, hj⟩
    | succ k => simpa using ih (by simpa using e)
def T.try (tb : T (Ct σ l ((Exc × κ) ⊕ β))) (th : Exc → κ → T (Ct σ l β)) : T (Ct σ l β) := T.bind tb fun c => match c with
  | .nx s => T.ret (.nx s)
  | .bk s => T.ret (.bk s)
  | .ct s => T.ret (.ct s)
  | .rt (.inr v) => T.ret (.rt v)
  | .rt (.inl p) => th p.1 p.2
def oget [Inhabited α] (o : Option α) : α := o.getD default
theorem oget_eq [Inhabited α] {o : Option α} (h : o.isSome = true) : o = some (oget o) := by cases o <;> first | rfl | cases h
theorem e_castD {d d' : D} (he : d = d') (h : a ρ = .ok (.d d) ρ1 q) : a ρ = .ok (.d d') ρ1 q := he ▸ h
theorem e_frz {ds : List D} (h : a ρ = .ok (.own (O.l ds)) ρ1 q) : m1 lFrz a ρ = .ok (.d (.lst ds)) ρ1 q := e_m1 h (by
  unfold lFrz; rw [R.st_own]; rfl)
end
end Mw
set_option Elab.async false
set_option linter.all false
set_option maxRecDepth 100000
set_option autoImplicit false
namespace Mw
open PySem PySem.Spec PyProof.Rows L2
section
variable {a b : M} {ρ ρ1 ρ2 : Ro} {x y : R} {q q1 q2 : Bool}
variable {α β γ : Type} {e : α → D} {f : γ → D} {xs ys : List α} {zs : List γ}
def klG (vs : List Nat) : Nat → Ro → Ro
  | _, [] => []
  | i, s :: ρ => (if vs.elem i = true then klS s else s) :: klG vs (i + 1) ρ
theorem klG_nil : ∀ (i : Nat) (ρ : Ro), klG [] i ρ = ρ
  | _, [] => rfl
  | i, s :: ρ => by show s :: klG [] (i + 1) ρ = _; rw [klG_nil (i + 1) ρ]
theorem klS_klS (s : Slo) : klS (klS s) = klS s := by cases s <;> first | rfl | (rename_i b o; cases b <;> rfl)
theorem klG_get (vs : List Nat) : ∀ (ρ : Ro) (i j : Nat), (klG vs i ρ)[j]? = ρ[j]?.map fun s => if vs.elem (i + j) = true then klS s else s
  | [], i, j => by simp [klG]
  | s :: ρ, i, 0 => by simp [klG]
  | s :: ρ, i, j + 1 => by
    show (klG vs (i + 1) ρ)[j]? = _
    rw [klG_get vs ρ (i + 1) j, List.getElem?_cons_succ, show i + 1 + j = i + (j + 1) by omega]
theorem klG_eq : ∀ (vs : List Nat) (ρ : Ro), kl ρ vs = klG vs 0 ρ
  | [], ρ => (klG_nil 0 ρ).symm
  | v :: vs, ρ => by
    unfold kl
    rw [klG_eq vs]
    apply List.ext_getElem?
    intro j
    rw [klG_get, klG_get, Nat.zero_add]
    cases e : ρ[v]? with
    | none =>
      dsimp only
      by_cases c : j = v
      · subst c; rw [e]; rfl
      · congr 1
        funext s
        have : (v :: vs).elem j = vs.elem j := by simp [List.elem_cons, c]
        rw [this]
    | some s0 =>
      dsimp only
      have hv := (List.getElem?_eq_some_iff.mp e).1
      by_cases c : j = v
      · subst c
        rw [List.getElem?_set_self hv, e]
        have : (j :: vs).elem j = true := by simp
        rw [Option.map_some, Option.map_some, this, if_pos rfl]
        split
        · rw [klS_klS]
        · rfl
      · rw [List.getElem?_set_ne (fun z => c z.symm)]
        congr 1
        funext s
        have : (v :: vs).elem j = vs.elem j := by simp [List.elem_cons, c]
        rw [this]
theorem kl_eq {vs : List Nat} {ρ ρ' : Ro} (h : klG vs 0 ρ = ρ') : kl ρ vs = ρ' := (klG_eq vs ρ).trans h
instance : Inhabited D := ⟨.non⟩
end
end Mw
set_option Elab.async false
set_option linter.all false
set_option maxRecDepth 100000
set_option autoImplicit false
namespace Mw
open PySem PySem.Spec PyProof.Rows L2
section
variable {α β γ σ τ l m : Type} {as : List Slo} {ρ ρ1 ρ2 ρ3 : Ro} {res : SRes} {xs : List α} {a b : M} {e : α → D}
end
end Mw
set_option Elab.async false
set_option linter.all false
set_option maxRecDepth 100000
set_option autoImplicit false
namespace Mw
open PySem PySem.Spec PyProof.Rows L2
section
variable {α β γ σ τ l m : Type} {as : List Slo} {ρ ρ1 ρ2 ρ3 : Ro} {res : SRes} {xs : List α} {a b : M} {e : α → D}
theorem js_kn {v : σ} {vs : List Nat} {E : σ → Ro} (h : kl ρ vs = E v) : JS (mKl vs mNx ρ) (T.ret v) (PN E) := fun _ => congrArg SRes.nx h
theorem js_knC {v : σ} {vs : List Nat} {E : σ → Ro} {L : l → Ro} {R' : β → SRes → Prop} (h : kl ρ vs = E v) : JS (mKl vs mNx ρ) (T.ret (.nx v)) (CR E L R') := fun _ => congrArg SRes.nx h
instance : Inhabited (Exc ⊕ Bool) := ⟨.inr true⟩
end
end Mw
set_option Elab.async false
set_option linter.all false
set_option maxRecDepth 100000
set_option autoImplicit false
namespace Mw
open PySem PySem.Spec PyProof.Rows L2
section
variable {ρ ρ1 ρ2 : Ro} {a b : M} {kv : List ((Int × Int) × List (Int × Bool))} {i j : Int} {q q1 q2 : Bool} {r : R}
end
end Mw
set_option Elab.async false
set_option linter.all false
set_option maxRecDepth 100000
set_option autoImplicit false
namespace Mw
open PySem PySem.Spec PyProof.Rows L2
section
variable {ρ ρ1 ρ2 ρ3 : Ro} {q q1 q2 : Bool} {a b : M} {c f : Str} {ns : List Str} {os : List O} {i j : Nat} {r : R} {α σ : Type} {e : α → D} {xs : List α} {bb : Bool}
theorem e_fld (h : a ρ = .ok (.pk (.obj c ns os)) ρ1 q) (ho : (os[j]?).map O.r = some r) : m1 (lFld c ns j) a ρ = .ok r ρ1 q := e_m1 h (by
  show (if c = c ∧ ns = ns then (os[j]?).map O.r else none) = _
  rw [if_pos ⟨rfl, rfl⟩, ho])
theorem e_fldD {ds : List D} {d : D} (h : a ρ = .ok (.d (.obj c ns ds)) ρ1 q) (ho : ds[j]? = some d) : m1 (lFld c ns j) a ρ = .ok (.d d) ρ1 q := e_m1 h (by
  show (if c = c ∧ ns = ns then (ds[j]?).map R.d else none) = _
  rw [if_pos ⟨rfl, rfl⟩, ho]; rfl)
theorem st_fput {o : O} (hi : isMuA ρ i = true) (h : a ρ = .ok r ρ1 q) (ho : r.ob = some o) (hs : ρ1[i]? = some (.mu bb (.obj c ns os))) (hl : os.length = ns.length) (h5 : ns.length < 500) (hj : j < ns.length) : mFput i c ns j f a ρ = .nx (ρ1.set i (.mu bb (.obj c ns (os.set j o)))) := by
  unfold mFput; rw [if_pos hi, h, Res.stm_ok, ho]; dsimp only
  unfold setAt; rw [hs]; dsimp only; rw [if_pos ⟨rfl, rfl, hl, h5⟩, if_pos hj]
theorem st_fnew {o : O} (hi : isMuA ρ i = true) (h : a ρ = .ok r ρ1 q) (ho : r.ob = some o) (hs : ρ1[i]? = some (.mu bb (.obj c ns os))) (hl : os.length = ns.length) (h5 : ns.length < 500) (hj : ¬ j < ns.length) : mFput i c ns j f a ρ = .nx (ρ1.set i (.mu bb (.obj c (ns ++ [f]) (os ++ [o])))) := by
  unfold mFput; rw [if_pos hi, h, Res.stm_ok, ho]; dsimp only
  unfold setAt; rw [hs]; dsimp only; rw [if_pos ⟨rfl, rfl, hl, h5⟩, if_neg hj]
theorem e_fapp {z : α} (hb : ρ[i]? = some (.mu bb (.obj c ns os))) (hj : os[j]? = some (O.l (List.map e xs))) (h : a ρ = .ok r ρ true) (hr : r.st = some (e z)) (hl : xs.length < 1000000) : mFapp i c ns j a ρ = .ok (.d .non) (ρ.set i (.mu bb (.obj c ns (os.set j (O.l (List.map e (xs ++ [z]))))))) false := by
  have hF : isFl ρ i c ns j = true := by unfold isFl; rw [hb]; dsimp only; rw [if_pos ⟨rfl, rfl⟩, hj]
  unfold mFapp; rw [if_pos hF, h, Res.bind_ok, if_pos rfl, hr]; dsimp only
  unfold fapAt; rw [hb]; dsimp only; rw [if_pos ⟨rfl, rfl⟩, hj]; dsimp only
  rw [List.length_map, List.length_map, if_pos (lenOk_of (by omega))]
  show Res.ok (R.d .non) (ρ.set i (.mu bb (.obj c ns (os.set j (.lst ((List.map e xs).map O.d ++ [.d (e z)])))))) false = Res.ok (R.d .non) (ρ.set i (.mu bb (.obj c ns (os.set j (.lst ((List.map e (xs ++ [z])).map O.d)))))) false
  rw [List.map_append, List.map_append]; rfl
theorem e_meth {fn : Fn} {as : List Ar} (hb : ρ[i]? = some (.mu bb (.obj c ns os))) (h : mCall fn (.b i :: as) ρ = .ok r ρ1 q) : mMeth i c ns fn as ρ = .ok r ρ1 q := by
  have hC : isC ρ i c ns = true := by unfold isC; rw [hb]; exact decide_eq_true ⟨rfl, rfl⟩
  unfold mMeth; rw [if_pos hC, h]
theorem e_make {fn : Fn} {ms : List M} {rs : List R} {ds : List D} {o : O} {as' : List Slo} (h : mArgs ms ρ = .ok rs ρ1 q) (hd : RpD rs = some ds) (hf : fn (.mu true (.obj c [] []) :: ds.map Slo.shr) = .ok (.d .non) (.mu true o :: as')) : mMake c fn ms ρ = .ok (.own o) ρ1 false := by
  unfold mMake; rw [h, Res.bind_ok, hd]; dsimp only; rw [hf]
end
end Mw
set_option Elab.async false
set_option linter.all false
set_option maxRecDepth 100000
set_option autoImplicit false
namespace Mw
open PySem PySem.Spec PyProof.Rows L2
section
variable {ρ ρ1 ρ2 ρ3 : Ro} {a b : M} {q q1 q2 : Bool} {r x y : R} {d : D} {i j k : Int} {α β σ : Type} {e : β → D} {kv : List (List Nat × β)} {s t : List Nat} {ss : List (List Nat)}
theorem log2_ok {i : Int} (h : i.natAbs ≤ 1000000000000000000) : i.natAbs.log2 < 1920 := by
  by_cases c : i.natAbs = 0
  · rw [c]; decide
  · have : i.natAbs.log2 < 60 := (Nat.log2_lt c).mpr (Nat.lt_of_le_of_lt h (by decide))
    omega
theorem e_strI (ha : a ρ = .ok (.d (.int i)) ρ1 q) (h : i.natAbs ≤ 1000000000000000000) : m1 lStrI a ρ = .ok (.d (.str (iCs i))) ρ1 q := e_m1 ha (by
  show (if i.natAbs.log2 < 1920 then some (R.d (.str (iCs i))) else none) = _
  rw [if_pos (log2_ok h)])
noncomputable def txI (s : List Nat) : Int := (PySem.intText? (tx s)).getD 0
theorem e_intS (ha : a ρ = .ok (.d (.str s)) ρ1 q) (h : (PySem.intText? (tx s)).isSome = true ∧ s.length ≤ 640) : m1 lIntS a ρ = .ok (.d (.int (txI s))) ρ1 q := e_m1 ha (by
  show (match PySem.intText? (tx s) with
  | some n => if s.length ≤ 640 then some (R.d (.int n)) else none
  | none => none) = _
  unfold txI
  cases e : PySem.intText? (tx s) with
  | none => rw [e] at h; cases h.1
  | some n => dsimp only; rw [if_pos h.2]; rfl)
theorem dStrs_of : ∀ ss : List (List Nat), dStrs (ss.map D.str) = some ss
  | [] => rfl
  | s :: ss => by rw [List.map_cons]; unfold dStrs; rw [dStrs_of ss]; rfl
theorem e_tx (ha : a ρ = .ok (.d (.str s)) ρ1 q) : m1 lTx a ρ = .ok (.d (.str s)) ρ1 q := e_m1 ha rfl
theorem e_joinL (ha : a ρ = .ok (.d (.str s)) ρ1 q1) (hb : b ρ1 = .ok y ρ2 q2) (hy : y.pl = some (.lst (List.map D.str ss))) (h : joinOk s ss = true) : m2 lJoin (m1 lTx a) b ρ = .ok (.d (.str (joinL s ss))) ρ2 (q1 && q2) := e_m2 (e_tx ha) hb rfl (by
  unfold lJoin
  rw [hy]
  show (match dStrs (List.map D.str ss) with
    | some ss => if joinOk s ss = true then some (R.d (.str (joinL s ss))) else none
    | none => none) = _
  rw [dStrs_of]; dsimp only; rw [if_pos h])
theorem e_split (ha : a ρ = .ok (.d (.str s)) ρ1 q1) (hb : b ρ1 = .ok (.d (.str t)) ρ2 q2) (h : splitOk s t = true) : m2 lSplit (m1 lTx a) b ρ = .ok (.own (O.l (List.map D.str (splitL s t)))) ρ2 (q1 && q2) := e_m2 (e_tx ha) hb rfl (by
  show (if splitOk s t = true then some (R.own (.lst (((splitL s t).map D.str).map O.d))) else none) = _
  rw [if_pos h])
theorem e_fmtS (ha : a ρ = .ok (.d (.str s)) ρ1 q) : m1 lFmt a ρ = .ok (.d (.str s)) ρ1 q := e_m1 ha rfl
theorem e_fmtI (ha : a ρ = .ok (.d (.int i)) ρ1 q) (h : i.natAbs ≤ 1000000000000000000) : m1 lFmt a ρ = .ok (.d (.str (iCs i))) ρ1 q := e_m1 ha (by
  show (if i.natAbs.log2 < 1920 then some (R.d (.str (iCs i))) else none) = _
  rw [if_pos (log2_ok h)])
theorem e_cat (ha : a ρ = .ok (.d (.str s)) ρ1 q1) (hb : b ρ1 = .ok (.d (.str t)) ρ2 q2) (h : s.length + t.length ≤ 1000000) : m2 lCat a b ρ = .ok (.d (.str (s ++ t))) ρ2 (q1 && q2) := e_m2 ha hb rfl (by
  show (if s.length + t.length ≤ sizeLine then some (R.d (.str (s ++ t))) else none) = _
  rw [if_pos (by rw [sizeLine_eq]; omega)])
theorem e_fs0 : mC (.str []) ρ = .ok (.d (.str [])) ρ true := rfl
noncomputable def idxX (e : β → D) (xs : List β) (y : β) : Int := (((List.map e xs).findIdx? fun z => D.eqv z (e y)).getD 0 : Nat)
def IdxOk (e : β → D) (xs : List β) (y : β) : Prop := (e y).shp = true ∧ (D.lst (List.map e xs)).shp = true ∧ ((List.map e xs).findIdx? fun z => D.eqv z (e y)).isSome = true
theorem e_indexX {xs : List β} {z : β} (ha : a ρ = .ok x ρ1 q1) (hb : b ρ1 = .ok (.d (e z)) ρ2 q2) (hq : (x.isPk && !q2) = false) (hx : x.pl = some (.lst (List.map e xs))) (h : IdxOk e xs z) : mIndexX a b ρ = .ok (.d (.int (idxX e xs z))) ρ2 (q1 && q2) := by
  refine e_m2 (x := x) (ρ1 := ρ1) ?_ hb hq ?_
  · unfold mLs; rw [ha, Res.bind_ok, hx]
  · unfold lIndexX; rw [hx]
    show (if (e z).shp = true ∧ (D.lst (List.map e xs)).shp = true then ((List.map e xs).findIdx? fun w => D.eqv w (e z)).map fun (j : Nat) => R.d (.int j) else none) = _
    rw [if_pos ⟨h.1, h.2.1⟩]
    unfold idxX
    have h3 := h.2.2
    cases c : (List.map e xs).findIdx? fun w => D.eqv w (e z) with
    | none => rw [c] at h3; cases h3
    | some j => rfl
abbrev SDt (e : β → D) (kv : List (List Nat × β)) : O := sdO (kv.map fun p => (p.1, e p.2))
theorem tget_sd {kv : List (List Nat × β)} {k : List Nat} [Inhabited β] (h : (tget kv k).isSome = true) : tget (kv.map fun p => (p.1, e p.2)) k = some (e (dat kv k)) := by
  rw [tget_map]
  unfold dat
  cases q : tget kv k with
  | none => rw [q] at h; cases h
  | some x => rfl
theorem e_dnewS : mDNewI ρ = .ok (.own (SDt e [])) ρ true := rfl
theorem e_dgetS [Inhabited β] (ha : a ρ = .ok (.pk (SDt e kv)) ρ1 q1) (hb : b ρ1 = .ok (.d (.str s)) ρ2 q2) (hq : q2 = true) (h : (tget kv s).isSome = true) : m2 lDGetS a b ρ = .ok (.d (e (dat kv s))) ρ2 (q1 && q2) := e_m2 ha hb (by rw [hq]; rfl) (by
  unfold lDGetS
  dsimp only
  rw [sdd_sdO]
  show (match some (kv.map fun p => (p.1, e p.2)), prS (.str s) with
    | some kv, some k => (tget kv k).map R.d
    | _, _ => none) = _
  rw [show prS (.str s) = some s from rfl]
  dsimp only
  rw [tget_sd h]; rfl)
theorem st_dputS {i : Nat} {bb : Bool} {z : β} {u : List Nat} (hL : isMu ρ i = true) (h : mArgs [a, b] ρ = .ok [r, .d (.str u)] ρ1 q) (hr : r.st = some (e z)) (hs : ρ1[i]? = some (.mu bb (SDt e kv))) (hl : kv.length < 1000000) : mDPutS i b a ρ = .nx (ρ1.set i (.mu bb (SDt e (tput kv u z)))) := by
  unfold mDPutS; rw [if_pos hL, h, Res.stm_ok]; dsimp only; rw [hr]
  show (match some (e z), prS (.str u) with
    | some x, some k => match dputAtS ρ1 i k x with
      | some ρ2 => SRes.nx ρ2
      | none => .no
    | _, _ => .no) = _
  rw [show prS (.str u) = some u from rfl]; dsimp only
  unfold dputAtS; rw [hs]; dsimp only
  rw [sdd_sdO]; dsimp only
  rw [List.length_map, if_pos (lenOk_of (by omega)), tput_map]
def Fzr (os : List O) (ds : List D) : Prop := fzs os = true ∧ toDs os = ds
theorem fzr0 : Fzr [] [] := ⟨rfl, rfl⟩
theorem fzrd {x : D} {os : List O} {ds : List D} (h : Fzr os ds) : Fzr (.d x :: os) (x :: ds) := ⟨by show (O.fz (.d x) && fzs os) = true; rw [h.1]; rfl, by show (O.d x).toD :: toDs os = _; rw [h.2]; rfl⟩
theorem fzrl {es : List D} {os : List O} {ds : List D} (h : Fzr os ds) : Fzr (O.l es :: os) (.lst es :: ds) := ⟨by show (O.fz (O.lst (es.map O.d)) && fzs os) = true; rw [h.1, show (O.lst (es.map O.d)).fz = true from fzs_d es]; rfl, by show (O.lst (es.map O.d)).toD :: toDs os = _; rw [h.2, show (O.lst (es.map O.d)).toD = .lst es from congrArg D.lst (toDs_d es)]⟩
theorem e_fz_C {i : Nat} {c : Str} {ns : List Str} {os : List O} {ds : List D} (h : ρ[i]? = some (.mu false (.obj c ns os))) (z : Fzr os ds) : fz i ρ = .ok (.d (.obj c ns ds)) (ρ.set i (.shr (.obj c ns ds))) false := by
  unfold fz; rw [h]
  show (if (O.obj c ns os).fz = true then Res.ok (R.d (O.obj c ns os).toD) (ρ.set i (.shr (O.obj c ns os).toD)) false else Res.no) = _
  rw [show (O.obj c ns os).fz = true from z.1, if_pos rfl, show (O.obj c ns os).toD = .obj c ns ds from congrArg (D.obj c ns) z.2]
end
end Mw
set_option maxHeartbeats 2000000
set_option Elab.async false
set_option linter.all false
set_option maxRecDepth 100000
set_option autoImplicit false
namespace Mw
open PySem PySem.Spec PyProof.Rows L2 Mw
noncomputable section
def lb__law_same_1 (fr__law_same : Fn) : MS := (mIf (mNot (mTest (mCall fr__law_same [.v (m2 lIx (nm 0) (nm 2)), .v (m2 lIx (nm 1) (nm 2))]))) (mRt (mC (.bl false))) mNx)
def b__law_same (fr__law_same : Fn) : MS := (mSeq (mIf (mOr (mTest (m1 (lIsi "list") (nm 1))) (mTest (m1 (lIsi "tuple") (nm 1)))) (mSeq (mIf (mOr (mTest (m2 lNe (m1 (lIsi "list") (nm 1)) (m1 (lIsi "list") (nm 0)))) (mTest (m2 lNe (m1 (lIsi "tuple") (nm 1)) (m1 (lIsi "tuple") (nm 0))))) (mRt (mC (.bl false))) mNx)
    (mSeq (mIf (mTest (m2 lNe (m1 lLen (nm 0)) (m1 lLen (nm 1)))) (mRt (mC (.bl false))) mNx)
    (mSeq (mFor (mRg1 (m1 lLen (nm 1))) (.nm 2) (lb__law_same_1 fr__law_same))
    (mRt (mC (.bl true)))))) mNx)
    (mSeq (mIf (mTest (m2 lIsN (nm 1) (mC .non))) (mRt (m2 lIsN (nm 0) (mC .non))) mNx)
    (mSeq (mIf (mTest (m1 (lIsi "bool") (nm 1))) (mRt (mAndV (m1 (lIsi "bool") (nm 0)) (m2 lEq (nm 0) (nm 1)))) mNx)
    (mSeq (mIf (mTest (m1 (lIsi "str") (nm 1))) (mRt (mAndV (m1 (lIsi "str") (nm 0)) (m2 lEq (nm 0) (nm 1)))) mNx)
    (mRt (mAndV (m1 (lIsi "int") (nm 0)) (mAndV (m1 lNot (m1 (lIsi "bool") (nm 0))) (m2 lEq (nm 0) (nm 1)))))))))
def k__law_same : Nat → Fn
  | 0 => fun _ => .no
  | k + 1 => mkFn 3 (b__law_same (k__law_same k))
def f__law_same : Fn := hide (k__law_same 60)
theorem f__law_same_eq : f__law_same = k__law_same 60 := hide_eq _
def b__law_cell : MS := (mSeq (mIf (mTest (m2 lLt (nm 1) (m1 lLen (nm 0)))) (mRt (m2 lIx (nm 0) (nm 1))) mNx)
    (mRt (mC (.int 0))))
def f__law_cell : Fn := hide (mkFn 2 b__law_cell)
theorem f__law_cell_eq : f__law_cell = mkFn 2 b__law_cell := hide_eq _
def lb__law_digits_1 : MS := (mIf (mTest (m2 lGt (nm 5) (mC (.int 0)))) (mSeq (mKl [6] (mDrop (mApp 3 (m2 lMod (m1 lInt1 (nm 5)) (mC (.int 1000))))))
    (mSet 5 (m2 lDiv (nm 5) (mC (.int 1000))))) (mKl [6] mNx))
def lb__law_digits_2 : MS := (mSeq (mKl [6] (mSet 7 (m2 lMod (m1 lInt1 (m2 lAdd (m2 lAdd (m2 lMul (nm 7) (mC (.int 16807))) (m2 lMul (mC (.int 7)) (nm 6))) (mC (.int 1)))) (mC (.int 2147483647)))))
    (mDrop (mApp 3 (m2 lMod (m1 lInt1 (m2 lDiv (nm 7) (mC (.int 997)))) (mC (.int 1000))))))
def lb__law_digits_3 : MS := (mSeq (mSet 5 (mCall f__law_cell [.v (fz 0), .v (fz 4)]))
    (mSeq (mIf (mTest (m2 lLt (nm 5) (mC (.int 0)))) (mSet 5 (m2 lSub (mC (.int 1)) (m2 lMul (mC (.int 2)) (nm 5)))) mNx)
    (mIf (mTest (m2 lGe (nm 5) (m2 lPow (mC (.int 10)) (mC (.int 18))))) (mKl [4, 5] (mFor (mRg1 (mC (.int 60))) (.nm 6) lb__law_digits_1)) (mSeq (mKl [4, 5] (mSet 7 (m2 lMod (m1 lInt1 (m2 lAdd (m2 lAdd (m2 lMul (nm 5) (mC (.int 48271))) (m2 lMul (nm 4) (mC (.int 69621)))) (mC (.int 11)))) (mC (.int 2147483647)))))
    (mKl [7] (mFor (mRg1 (mC (.int 12))) (.nm 6) lb__law_digits_2))))))
def b__law_digits : MS := (mSeq (mSet 3 (mLst []))
    (mSeq (mKl [0, 1, 2] (mFor (mRg2 (nm 1) (nm 2)) (.nm 4) lb__law_digits_3))
    (mRt (mv 3))))
def f__law_digits : Fn := hide (mkFn 8 b__law_digits)
theorem f__law_digits_eq : f__law_digits = mkFn 8 b__law_digits := hide_eq _
def b__law_draw : MS := (mSeq (mSet 2 (m2 lIx (nm 0) (mC (.int 1))))
    (mSeq (mPut 0 (mC (.int 1)) (m2 lAdd (nm 2) (mC (.int 1))))
    (mSeq (mIf (mTest (m2 lLt (nm 2) (m1 lLen (m2 lIx (nm 0) (mC (.int 0)))))) (mRt (m2 lMod (m1 lInt1 (m2 lIx (m2 lIx (nm 0) (mC (.int 0))) (nm 2))) (nm 1))) mNx)
    (mRt (mC (.int 0))))))
def f__law_draw : Fn := hide (mkFn 3 b__law_draw)
theorem f__law_draw_eq : f__law_draw = mkFn 3 b__law_draw := hide_eq _
def lb__law_run_1 : MS := (mKl [4] (mSet 3 (m2 lAdd (nm 3) (m2 lIx (fz 2) (mCall f__law_draw [.b 0, .v (m1 lLen (nm 2))])))))
def b__law_run : MS := (mSeq (mSet 3 (mC (.str [])))
    (mSeq (mKl [1, 2] (mFor (mRg1 (nm 1)) (.nm 4) lb__law_run_1))
    (mRt (mv 3))))
def f__law_run : Fn := hide (mkFn 5 b__law_run)
theorem f__law_run_eq : f__law_run = mkFn 5 b__law_run := hide_eq _
def lb__law_name_1 : MS := (mIf (mTest (m2 lIn (nm 2) (nm 1))) (mKl [3] (mSet 2 (m2 lAdd (mSl (nm 2) none (some (mC (.int 11)))) (m2 lIx (mC (.str [97, 98, 99, 100, 101, 102, 103, 104, 105])) (nm 3))))) (mKl [3] mNx))
def b__law_name : MS := (mSeq (mSet 2 (m2 lIx (mLst [(mC (.str [119, 104, 101, 101, 108])), (mC (.str [102, 114, 97, 109, 101])), (mC (.str [98, 105, 99, 121, 99, 108, 101])), (mC (.str [100, 97, 121, 115])), (mC (.str [121, 105, 101, 108, 100, 115])), (mC (.str [97])), (mC (.str [98])), (mC (.str [115, 112, 111, 107, 101]))]) (mCall f__law_draw [.b 0, .v (mC (.int 8))])))
    (mSeq (mIf (mTest (m2 lEq (mCall f__law_draw [.b 0, .v (mC (.int 2))]) (mC (.int 0)))) (mSet 2 (mCall f__law_run [.b 0, .v (m2 lAdd (mC (.int 1)) (mCall f__law_draw [.b 0, .v (m2 lIx (mLst [(mC (.int 3)), (mC (.int 9))]) (mCall f__law_draw [.b 0, .v (mC (.int 2))]))])), .v (mC (.str [97, 98, 99, 100, 101, 102, 103, 104, 105, 106, 107, 108, 109, 110, 111, 112, 113, 114, 115, 116, 117, 118, 119, 120, 121, 122]))])) mNx)
    (mSeq (mFor (mRg1 (mC (.int 9))) (.nm 3) lb__law_name_1)
    (mRt (mv 2)))))
def f__law_name : Fn := hide (mkFn 4 b__law_name)
theorem f__law_name_eq : f__law_name = mkFn 4 b__law_name := hide_eq _
def lb__law_bill_1 : MS := (mKl [4] (mDrop (mApp 3 (mCall f__law_name [.b 0, .b 3]))))
def lb__law_bill_2 : MS := (mSeq (mSet 6 (mCall f__law_draw [.b 0, .v (m2 lAdd (m1 lLen (nm 5)) (mC (.int 1)))]))
    (mKl [4, 6] (mSet 5 (m2 lAdd (m2 lAdd (mSl (nm 5) none (some (nm 6))) (mLst [(fz 4)])) (mSl (nm 5) (some (nm 6)) none)))))
def lb__law_bill_3 : MS := (mIf (mTest (m2 lGt (m1 lLen (nm 8)) (mC (.int 0)))) (mSeq (mKl [10] (mSet 11 (m2 lAdd (mC (.int 1)) (mCall f__law_draw [.b 0, .v (mC (.int 3))]))))
    (mSeq (mIf (mTest (m2 lEq (mCall f__law_draw [.b 0, .v (mC (.int 9))]) (mC (.int 0)))) (mSet 11 (mC (.int 20))) mNx)
    (mKl [11] (mDrop (mApp 9 (mTup [(m2 lIx (fz 8) (mCall f__law_draw [.b 0, .v (m1 lLen (nm 8))])), (fz 11)])))))) (mKl [10] mNx))
def lb__law_bill_4 : MS := (mSeq (mSet 8 (mSl (nm 5) none (some (mIndex (nm 5) (nm 4)))))
    (mSeq (mSet 9 (mLst []))
    (mFz 8 (mSeq (mKl [8] (mFor (mRg1 (mCall f__law_draw [.b 0, .v (mC (.int 5))])) (.nm 10) lb__law_bill_3))
    (mSeq (mSet 12 (m2 lIx (mLst [(mCall f__law_draw [.b 0, .v (mC (.int 5))]), (mCall f__law_draw [.b 0, .v (mC (.int 11))])]) (m2 lDiv (mCall f__law_draw [.b 0, .v (mC (.int 5))]) (mC (.int 4)))))
    (mSeq (mSet 13 (m2 lIx (mLst [(m2 lAdd (mC (.int 1)) (mCall f__law_draw [.b 0, .v (mC (.int 6))])), (m2 lAdd (mC (.int 1)) (mCall f__law_draw [.b 0, .v (mC (.int 50))]))]) (m2 lDiv (mCall f__law_draw [.b 0, .v (mC (.int 5))]) (mC (.int 4)))))
    (mKl [4, 9, 12, 13] (mDrop (mApp 7 (mTup [(m2 lIx (nm 3) (nm 4)), (m1 lTuple (nm 9)), (fz 12), (fz 13), (m2 lAdd (mC (.int 1)) (mCall f__law_draw [.b 0, .v (fz 13)]))]))))))))))
def b__law_bill : MS := (mSeq (mKl [1] (mSet 2 (m2 lAdd (mC (.int 1)) (mCall f__law_draw [.b 0, .v (fz 1)]))))
    (mSeq (mSet 3 (mLst []))
    (mSeq (mFor (mRg1 (nm 2)) (.nm 4) lb__law_bill_1)
    (mSeq (mSet 5 (mLst []))
    (mSeq (mFor (mRg1 (nm 2)) (.nm 4) lb__law_bill_2)
    (mSeq (mSet 7 (mLst []))
    (mSeq (mKl [2, 3, 5] (mFor (mRg1 (nm 2)) (.nm 4) lb__law_bill_4))
    (mRt (m1 lTuple (nm 7))))))))))
def f__law_bill : Fn := hide (mkFn 14 b__law_bill)
theorem f__law_bill_eq : f__law_bill = mkFn 14 b__law_bill := hide_eq _
def b__write_part : MS := (mSeq (mKl [0] (mSet 2 (m2 lIx (m2 lIx (nm 0) (m2 lIx (nm 1) (mC (.int 0)))) (mC (.int 0)))))
    (mSeq (mIf (mTest (m2 lEq (m2 lIx (nm 1) (mC (.int 1))) (mC (.int 1)))) (mRt (mv 2)) mNx)
    (mRt (m2 lAdd (m2 lAdd (m1 lStrI (m2 lIx (nm 1) (mC (.int 1)))) (mC (.str [32]))) (nm 2)))))
def f__write_part : Fn := hide (mkFn 3 b__write_part)
theorem f__write_part_eq : f__write_part = mkFn 3 b__write_part := hide_eq _
def le_write_bill_1 : M := (mCall f__write_part [.v (fz 0), .v (fz 8)])
def lb_write_bill_2 : MS := (mSeq (mKl [3] (mSet 7 (m2 lJoin (m1 lTx (mC (.str [44, 32]))) (mLc (mIt (fz 3)) (.nm 8) mYes le_write_bill_1 [8]))))
    (mKl [2, 4, 5, 6, 7] (mDrop (mApp 1 (m2 lCat (m2 lCat (m2 lCat (m2 lCat (m2 lCat (m2 lCat (m2 lCat (m2 lCat (m2 lCat (m2 lCat (mC (.str [])) (m1 lFmt (nm 2))) (mC (.str [58, 32]))) (m1 lFmt (nm 7))) (mC (.str [59, 32]))) (m1 lFmt (nm 4))) (mC (.str [32, 100, 97, 121, 115, 59, 32]))) (m1 lFmt (nm 5))) (mC (.str [32, 121, 105, 101, 108, 100, 115, 32]))) (m1 lFmt (nm 6))) (mC (.str [10])))))))
def b_write_bill : MS := (mSeq (mSet 1 (mLst []))
    (mSeq (mKl [0] (mFor (mIt (fz 0)) (.tup [(.nm 2), (.nm 3), (.nm 4), (.nm 5), (.nm 6)]) lb_write_bill_2))
    (mRt (m2 lJoin (m1 lTx (mC (.str []))) (nm 1)))))
def f_write_bill : Fn := hide (mkFn 9 b_write_bill)
theorem f_write_bill_eq : f_write_bill = mkFn 9 b_write_bill := hide_eq _
def lb__law_text_1 : MS := (mKl [8] (mDrop (mApp 7 (m2 lAdd (m2 lIx (mLst [(m2 lAdd (m1 lStrI (m2 lIx (nm 8) (mC (.int 1)))) (mC (.str [32]))), (mC (.str []))]) (m1 lInt1 (m2 lEq (m2 lIx (nm 8) (mC (.int 1))) (mC (.int 1))))) (m2 lIx (m2 lIx (nm 0) (m2 lIx (nm 8) (mC (.int 0)))) (mC (.int 0)))))))
def lb__law_text_2 : MS := (mSeq (mSet 7 (mLst []))
    (mSeq (mKl [3] (mFor (mIt (fz 3)) (.nm 8) lb__law_text_1))
    (mKl [2, 4, 5, 6, 7] (mSet 1 (m2 lAdd (m2 lAdd (m2 lAdd (m2 lAdd (m2 lAdd (m2 lAdd (m2 lAdd (m2 lAdd (m2 lAdd (m2 lAdd (nm 1) (nm 2)) (mC (.str [58, 32]))) (m2 lJoin (m1 lTx (mC (.str [44, 32]))) (nm 7))) (mC (.str [59, 32]))) (m1 lStrI (nm 4))) (mC (.str [32, 100, 97, 121, 115, 59, 32]))) (m1 lStrI (nm 5))) (mC (.str [32, 121, 105, 101, 108, 100, 115, 32]))) (m1 lStrI (nm 6))) (mC (.str [10])))))))
def b__law_text : MS := (mSeq (mSet 1 (mC (.str [])))
    (mSeq (mKl [0] (mFor (mIt (fz 0)) (.tup [(.nm 2), (.nm 3), (.nm 4), (.nm 5), (.nm 6)]) lb__law_text_2))
    (mRt (mv 1))))
def f__law_text : Fn := hide (mkFn 9 b__law_text)
theorem f__law_text_eq : f__law_text = mkFn 9 b__law_text := hide_eq _
def lc__run_end_1 : MB := (mAnd (mTest (m2 lLt (nm 3) (m1 lLen (nm 0)))) (mTest (m2 lIn (m2 lIx (nm 0) (nm 3)) (nm 2))))
def lb__run_end_2 : MS := (mAug 3 (mC (.int 1)))
def b__run_end : MS := (mSeq (mKl [1] (mSet 3 (fz 1)))
    (mSeq (mKl [0, 2] (mWhile lc__run_end_1 lb__run_end_2))
    (mRt (mv 3))))
def f__run_end : Fn := hide (mkFn 4 b__run_end)
theorem f__run_end_eq : f__run_end = mkFn 4 b__run_end := hide_eq _
def b__token : MS := (mSeq (mSet 2 (m2 lIx (nm 0) (nm 1)))
    (mSeq (mIf (mTest (m2 lIn (nm 2) (mC (.str [97, 98, 99, 100, 101, 102, 103, 104, 105, 106, 107, 108, 109, 110, 111, 112, 113, 114, 115, 116, 117, 118, 119, 120, 121, 122])))) (mSeq (mKl [0, 1, 2] (mSet 3 (mSl (nm 0) (some (nm 1)) (some (mCall f__run_end [.v (fz 0), .v (fz 1), .v (mC (.str [97, 98, 99, 100, 101, 102, 103, 104, 105, 106, 107, 108, 109, 110, 111, 112, 113, 114, 115, 116, 117, 118, 119, 120, 121, 122]))])))))
    (mSeq (mIf (mTest (m2 lGt (m1 lLen (nm 3)) (mC (.int 12)))) (mRt (mTup [(mC (.str [98, 97, 100])), (fz 3)])) mNx)
    (mRt (mTup [(mC (.str [110, 97, 109, 101])), (fz 3)])))) mNx)
    (mSeq (mIf (mTest (m2 lIn (nm 2) (mC (.str [48, 49, 50, 51, 52, 53, 54, 55, 56, 57])))) (mSeq (mKl [0, 1, 2] (mSet 3 (mSl (nm 0) (some (nm 1)) (some (mCall f__run_end [.v (fz 0), .v (fz 1), .v (mC (.str [48, 49, 50, 51, 52, 53, 54, 55, 56, 57]))])))))
    (mSeq (mIf (mOr (mTest (m2 lGt (m1 lLen (nm 3)) (mC (.int 4)))) (mAnd (mTest (m2 lGt (m1 lLen (nm 3)) (mC (.int 1)))) (mTest (m2 lEq (m2 lIx (nm 3) (mC (.int 0))) (mC (.str [48])))))) (mRt (mTup [(mC (.str [98, 97, 100])), (fz 3)])) mNx)
    (mRt (mTup [(mC (.str [110, 117, 109, 98, 101, 114])), (fz 3)])))) mNx)
    (mSeq (mIf (mTest (m2 lIn (nm 2) (mC (.str [58, 44, 59])))) (mRt (mTup [(mC (.str [115, 105, 103, 110])), (fz 2)])) mNx)
    (mRt (mTup [(mC (.str [98, 97, 100])), (fz 2)]))))))
def f__token : Fn := hide (mkFn 4 b__token)
theorem f__token_eq : f__token = mkFn 4 b__token := hide_eq _
def lc_tokens_1 : MB := (mTest (m2 lLt (nm 2) (m1 lLen (nm 0))))
def lb_tokens_2 : MS := (mIf (mTest (m2 lEq (m2 lIx (nm 0) (nm 2)) (mC (.str [32])))) (mAug 2 (mC (.int 1))) (mSeq (mSet 3 (mCall f__token [.v (fz 0), .v (fz 2)]))
    (mSeq (mDrop (mApp 1 (fz 3)))
    (mKl [3] (mAug 2 (m1 lLen (m2 lIx (nm 3) (mC (.int 1)))))))))
def b_tokens : MS := (mSeq (mSet 1 (mLst []))
    (mSeq (mSet 2 (mC (.int 0)))
    (mSeq (mKl [0, 2] (mWhile lc_tokens_1 lb_tokens_2))
    (mRt (mv 1)))))
def f_tokens : Fn := hide (mkFn 4 b_tokens)
theorem f_tokens_eq : f_tokens = mkFn 4 b_tokens := hide_eq _
def b_Line___init__ : MS := (mSeq (mFput 0 ("Line" : Str) [] 0 ("state" : Str) (mC (.str [110, 97, 109, 101])))
    (mSeq (mFput 0 ("Line" : Str) [("state" : Str)] 1 ("name" : Str) (mC (.str [])))
    (mSeq (mFput 0 ("Line" : Str) [("state" : Str), ("name" : Str)] 2 ("parts" : Str) (mLst []))
    (mSeq (mFput 0 ("Line" : Str) [("state" : Str), ("name" : Str), ("parts" : Str)] 3 ("quantity" : Str) (mC (.int 1)))
    (mFput 0 ("Line" : Str) [("state" : Str), ("name" : Str), ("parts" : Str), ("quantity" : Str)] 4 ("numbers" : Str) (mLst []))))))
def f_Line___init__ : Fn := hide (mkFn 1 b_Line___init__)
theorem f_Line___init___eq : f_Line___init__ = mkFn 1 b_Line___init__ := hide_eq _
def b_Line__head : MS := (mSeq (mIf (mAnd (mTest (m2 lEq (m1 (lFld ("Line" : Str) [("state" : Str), ("name" : Str), ("parts" : Str), ("quantity" : Str), ("numbers" : Str)] 0) (nm 0)) (mC (.str [110, 97, 109, 101])))) (mTest (m2 lEq (nm 1) (mC (.str [110, 97, 109, 101]))))) (mSeq (mKl [1, 2] (mFput 0 ("Line" : Str) [("state" : Str), ("name" : Str), ("parts" : Str), ("quantity" : Str), ("numbers" : Str)] 1 ("name" : Str) (fz 2)))
    (mRt (mC (.str [99, 111, 108, 111, 110])))) mNx)
    (mSeq (mIf (mAnd (mTest (m2 lEq (m1 (lFld ("Line" : Str) [("state" : Str), ("name" : Str), ("parts" : Str), ("quantity" : Str), ("numbers" : Str)] 0) (nm 0)) (mC (.str [99, 111, 108, 111, 110])))) (mAnd (mTest (m2 lEq (nm 1) (mC (.str [115, 105, 103, 110])))) (mTest (m2 lEq (nm 2) (mC (.str [58])))))) (mRt (mC (.str [102, 105, 114, 115, 116]))) mNx)
    (mRt (mC .non))))
def f_Line__head : Fn := hide (mkFn 3 b_Line__head)
theorem f_Line__head_eq : f_Line__head = mkFn 3 b_Line__head := hide_eq _
def b_Line__part : MS := (mSeq (mIf (mAnd (mTest (m2 lEq (m1 (lFld ("Line" : Str) [("state" : Str), ("name" : Str), ("parts" : Str), ("quantity" : Str), ("numbers" : Str)] 0) (nm 0)) (mC (.str [102, 105, 114, 115, 116])))) (mAnd (mTest (m2 lEq (nm 1) (mC (.str [115, 105, 103, 110])))) (mTest (m2 lEq (nm 2) (mC (.str [59])))))) (mRt (mC (.str [108, 101, 97, 100]))) mNx)
    (mSeq (mIf (mAnd (mTest (m2 lEq (m1 (lFld ("Line" : Str) [("state" : Str), ("name" : Str), ("parts" : Str), ("quantity" : Str), ("numbers" : Str)] 0) (nm 0)) (mC (.str [98, 101, 104, 105, 110, 100])))) (mAnd (mTest (m2 lEq (nm 1) (mC (.str [115, 105, 103, 110])))) (mTest (m2 lEq (nm 2) (mC (.str [59])))))) (mRt (mC (.str [108, 101, 97, 100]))) mNx)
    (mSeq (mIf (mAnd (mTest (m2 lEq (m1 (lFld ("Line" : Str) [("state" : Str), ("name" : Str), ("parts" : Str), ("quantity" : Str), ("numbers" : Str)] 0) (nm 0)) (mC (.str [98, 101, 104, 105, 110, 100])))) (mAnd (mTest (m2 lEq (nm 1) (mC (.str [115, 105, 103, 110])))) (mAnd (mTest (m2 lEq (nm 2) (mC (.str [44])))) (mTest (m2 lLt (m1 lLen (m1 (lFld ("Line" : Str) [("state" : Str), ("name" : Str), ("parts" : Str), ("quantity" : Str), ("numbers" : Str)] 2) (nm 0))) (mC (.int 4))))))) (mRt (mC (.str [112, 97, 114, 116]))) mNx)
    (mSeq (mIf (mAnd (mTest (m2 lIn (m1 (lFld ("Line" : Str) [("state" : Str), ("name" : Str), ("parts" : Str), ("quantity" : Str), ("numbers" : Str)] 0) (nm 0)) (mTup [(mC (.str [102, 105, 114, 115, 116])), (mC (.str [112, 97, 114, 116]))]))) (mAnd (mTest (m2 lEq (nm 1) (mC (.str [110, 117, 109, 98, 101, 114])))) (mAnd (mTest (m2 lLe (mC (.int 1)) (m1 lIntS (nm 2)))) (mTest (m2 lLe (m1 lIntS (nm 2)) (mC (.int 20))))))) (mSeq (mKl [1, 2] (mFput 0 ("Line" : Str) [("state" : Str), ("name" : Str), ("parts" : Str), ("quantity" : Str), ("numbers" : Str)] 3 ("quantity" : Str) (m1 lIntS (nm 2))))
    (mRt (mC (.str [112, 97, 114, 116, 32, 110, 97, 109, 101])))) mNx)
    (mSeq (mIf (mAnd (mTest (m2 lIn (m1 (lFld ("Line" : Str) [("state" : Str), ("name" : Str), ("parts" : Str), ("quantity" : Str), ("numbers" : Str)] 0) (nm 0)) (mTup [(mC (.str [102, 105, 114, 115, 116])), (mC (.str [112, 97, 114, 116])), (mC (.str [112, 97, 114, 116, 32, 110, 97, 109, 101]))]))) (mTest (m2 lEq (nm 1) (mC (.str [110, 97, 109, 101]))))) (mSeq (mKl [1, 2] (mDrop (mFapp 0 ("Line" : Str) [("state" : Str), ("name" : Str), ("parts" : Str), ("quantity" : Str), ("numbers" : Str)] 2 (mTup [(fz 2), (m1 (lFld ("Line" : Str) [("state" : Str), ("name" : Str), ("parts" : Str), ("quantity" : Str), ("numbers" : Str)] 3) (nm 0))]))))
    (mSeq (mFput 0 ("Line" : Str) [("state" : Str), ("name" : Str), ("parts" : Str), ("quantity" : Str), ("numbers" : Str)] 3 ("quantity" : Str) (mC (.int 1)))
    (mRt (mC (.str [98, 101, 104, 105, 110, 100]))))) mNx)
    (mRt (mC .non)))))))
def f_Line__part : Fn := hide (mkFn 3 b_Line__part)
theorem f_Line__part_eq : f_Line__part = mkFn 3 b_Line__part := hide_eq _
def b_Line__number : MS := (mSeq (mIf (mOr (mTest (m2 lLt (m1 lIntS (nm 1)) (nm 2))) (mTest (m2 lGt (m1 lIntS (nm 1)) (nm 3)))) (mRt (mC .non)) mNx)
    (mSeq (mKl [1, 2, 3] (mDrop (mFapp 0 ("Line" : Str) [("state" : Str), ("name" : Str), ("parts" : Str), ("quantity" : Str), ("numbers" : Str)] 4 (m1 lIntS (nm 1)))))
    (mRt (mv 4))))
def f_Line__number : Fn := hide (mkFn 5 b_Line__number)
theorem f_Line__number_eq : f_Line__number = mkFn 5 b_Line__number := hide_eq _
def b_Line__tail : MS := (mSeq (mIf (mAnd (mTest (m2 lEq (m1 (lFld ("Line" : Str) [("state" : Str), ("name" : Str), ("parts" : Str), ("quantity" : Str), ("numbers" : Str)] 0) (nm 0)) (mC (.str [108, 101, 97, 100])))) (mTest (m2 lEq (nm 1) (mC (.str [110, 117, 109, 98, 101, 114]))))) (mRt (mMeth 0 ("Line" : Str) [("state" : Str), ("name" : Str), ("parts" : Str), ("quantity" : Str), ("numbers" : Str)] f_Line__number [.v (fz 2), .v (mC (.int 0)), .v (mC (.int 10)), .v (mC (.str [100, 97, 121, 115]))])) mNx)
    (mSeq (mIf (mAnd (mTest (m2 lEq (m1 (lFld ("Line" : Str) [("state" : Str), ("name" : Str), ("parts" : Str), ("quantity" : Str), ("numbers" : Str)] 0) (nm 0)) (mC (.str [100, 97, 121, 115])))) (mAnd (mTest (m2 lEq (nm 1) (mC (.str [110, 97, 109, 101])))) (mTest (m2 lEq (nm 2) (mC (.str [100, 97, 121, 115])))))) (mRt (mC (.str [115, 101, 109, 105, 99, 111, 108, 111, 110]))) mNx)
    (mSeq (mIf (mAnd (mTest (m2 lEq (m1 (lFld ("Line" : Str) [("state" : Str), ("name" : Str), ("parts" : Str), ("quantity" : Str), ("numbers" : Str)] 0) (nm 0)) (mC (.str [115, 101, 109, 105, 99, 111, 108, 111, 110])))) (mAnd (mTest (m2 lEq (nm 1) (mC (.str [115, 105, 103, 110])))) (mTest (m2 lEq (nm 2) (mC (.str [59])))))) (mRt (mC (.str [108, 111, 116]))) mNx)
    (mSeq (mIf (mAnd (mTest (m2 lEq (m1 (lFld ("Line" : Str) [("state" : Str), ("name" : Str), ("parts" : Str), ("quantity" : Str), ("numbers" : Str)] 0) (nm 0)) (mC (.str [108, 111, 116])))) (mTest (m2 lEq (nm 1) (mC (.str [110, 117, 109, 98, 101, 114]))))) (mRt (mMeth 0 ("Line" : Str) [("state" : Str), ("name" : Str), ("parts" : Str), ("quantity" : Str), ("numbers" : Str)] f_Line__number [.v (fz 2), .v (mC (.int 1)), .v (mC (.int 50)), .v (mC (.str [121, 105, 101, 108, 100, 115]))])) mNx)
    (mSeq (mIf (mAnd (mTest (m2 lEq (m1 (lFld ("Line" : Str) [("state" : Str), ("name" : Str), ("parts" : Str), ("quantity" : Str), ("numbers" : Str)] 0) (nm 0)) (mC (.str [121, 105, 101, 108, 100, 115])))) (mAnd (mTest (m2 lEq (nm 1) (mC (.str [110, 97, 109, 101])))) (mTest (m2 lEq (nm 2) (mC (.str [121, 105, 101, 108, 100, 115])))))) (mRt (mC (.str [103, 111, 111, 100]))) mNx)
    (mSeq (mIf (mAnd (mTest (m2 lEq (m1 (lFld ("Line" : Str) [("state" : Str), ("name" : Str), ("parts" : Str), ("quantity" : Str), ("numbers" : Str)] 0) (nm 0)) (mC (.str [103, 111, 111, 100])))) (mTest (m2 lEq (nm 1) (mC (.str [110, 117, 109, 98, 101, 114]))))) (mRt (mMeth 0 ("Line" : Str) [("state" : Str), ("name" : Str), ("parts" : Str), ("quantity" : Str), ("numbers" : Str)] f_Line__number [.v (fz 2), .v (mC (.int 1)), .v (m2 lIx (m1 (lFld ("Line" : Str) [("state" : Str), ("name" : Str), ("parts" : Str), ("quantity" : Str), ("numbers" : Str)] 4) (nm 0)) (mC (.int 1))), .v (mC (.str [119, 104, 111, 108, 101]))])) mNx)
    (mRt (mC .non))))))))
def f_Line__tail : Fn := hide (mkFn 3 b_Line__tail)
theorem f_Line__tail_eq : f_Line__tail = mkFn 3 b_Line__tail := hide_eq _
def b_Line_take : MS := (mSeq (mKl [2] (mSet 2 (mC .non)))
    (mSeq (mIf (mTest (m2 lIn (m1 (lFld ("Line" : Str) [("state" : Str), ("name" : Str), ("parts" : Str), ("quantity" : Str), ("numbers" : Str)] 0) (nm 0)) (mTup [(mC (.str [110, 97, 109, 101])), (mC (.str [99, 111, 108, 111, 110]))]))) (mKl [1] (mSet 2 (mMeth 0 ("Line" : Str) [("state" : Str), ("name" : Str), ("parts" : Str), ("quantity" : Str), ("numbers" : Str)] f_Line__head [.v (m2 lIx (nm 1) (mC (.int 0))), .v (m2 lIx (nm 1) (mC (.int 1)))]))) (mIf (mTest (m2 lIn (m1 (lFld ("Line" : Str) [("state" : Str), ("name" : Str), ("parts" : Str), ("quantity" : Str), ("numbers" : Str)] 0) (nm 0)) (mTup [(mC (.str [102, 105, 114, 115, 116])), (mC (.str [112, 97, 114, 116])), (mC (.str [112, 97, 114, 116, 32, 110, 97, 109, 101])), (mC (.str [98, 101, 104, 105, 110, 100]))]))) (mKl [1] (mSet 2 (mMeth 0 ("Line" : Str) [("state" : Str), ("name" : Str), ("parts" : Str), ("quantity" : Str), ("numbers" : Str)] f_Line__part [.v (m2 lIx (nm 1) (mC (.int 0))), .v (m2 lIx (nm 1) (mC (.int 1)))]))) (mKl [1] (mSet 2 (mMeth 0 ("Line" : Str) [("state" : Str), ("name" : Str), ("parts" : Str), ("quantity" : Str), ("numbers" : Str)] f_Line__tail [.v (m2 lIx (nm 1) (mC (.int 0))), .v (m2 lIx (nm 1) (mC (.int 1)))])))))
    (mSeq (mIf (mTest (m2 lIsN (nm 2) (mC .non))) (mRt (mC (.bl false))) mNx)
    (mSeq (mKl [2] (mFput 0 ("Line" : Str) [("state" : Str), ("name" : Str), ("parts" : Str), ("quantity" : Str), ("numbers" : Str)] 0 ("state" : Str) (fz 2)))
    (mRt (mC (.bl true)))))))
def f_Line_take : Fn := hide (mkFn 3 b_Line_take)
theorem f_Line_take_eq : f_Line_take = mkFn 3 b_Line_take := hide_eq _
def lb__read_line_1 : MS := (mIf (mNot (mTest (mMeth 2 ("Line" : Str) [("state" : Str), ("name" : Str), ("parts" : Str), ("quantity" : Str), ("numbers" : Str)] f_Line_take [.v (fz 4)]))) (mRaiseA "BillFault" [("line" : Str), ("place" : Str), ("word" : Str)] [(nm 0), (nm 3), (mC (.str [117, 110, 101, 120, 112, 101, 99, 116, 101, 100]))]) (mKl [3, 4] mNx))
def b__read_line : MS := (mSeq (mSet 2 (mMake ("Line" : Str) f_Line___init__ []))
    (mSeq (mFor (mEn (fz 1)) (.tup [(.nm 3), (.nm 4)]) lb__read_line_1)
    (mSeq (mIf (mTest (m2 lNe (m1 (lFld ("Line" : Str) [("state" : Str), ("name" : Str), ("parts" : Str), ("quantity" : Str), ("numbers" : Str)] 0) (nm 2)) (mC (.str [119, 104, 111, 108, 101])))) (mRaiseA "BillFault" [("line" : Str), ("place" : Str), ("word" : Str)] [(nm 0), (m1 lLen (nm 1)), (mC (.str [101, 110, 100]))]) mNx)
    (mRt (mv 2)))))
def f__read_line : Fn := hide (mkFn 5 b__read_line)
theorem f__read_line_eq : f__read_line = mkFn 5 b__read_line := hide_eq _
def lb__read_lines_1 : MS := (mSeq (mKl [4] (mSet 5 (mCall f_tokens [.v (fz 4)])))
    (mIf (mTest (m2 lGt (m1 lLen (nm 5)) (mC (.int 0)))) (mSeq (mSet 6 (mCall f__read_line [.v (fz 3), .v (fz 5)]))
    (mSeq (mIf (mTest (m2 lIn (m1 (lFld ("Line" : Str) [("state" : Str), ("name" : Str), ("parts" : Str), ("quantity" : Str), ("numbers" : Str)] 1) (nm 6)) (nm 2))) (mRaiseA "BillFault" [("line" : Str), ("place" : Str), ("word" : Str)] [(nm 3), (mC (.int 0)), (mC (.str [100, 111, 117, 98, 108, 101]))]) mNx)
    (mSeq (mIf (mTest (m2 lEq (m1 lLen (nm 1)) (mC (.int 8)))) (mRaiseA "BillFault" [("line" : Str), ("place" : Str), ("word" : Str)] [(nm 3), (mC (.int 0)), (mC (.str [109, 97, 110, 121]))]) mNx)
    (mSeq (mKl [3, 5] (mDrop (mApp 1 (mTup [(fz 3), (fz 5), (fz 6)]))))
    (mKl [6] (mDrop (mApp 2 (m1 (lFld ("Line" : Str) [("state" : Str), ("name" : Str), ("parts" : Str), ("quantity" : Str), ("numbers" : Str)] 1) (nm 6))))))))) (mKl [3, 5] mNx)))
def b__read_lines : MS := (mSeq (mSet 1 (mLst []))
    (mSeq (mSet 2 (mLst []))
    (mSeq (mKl [0, 2] (mFor (mEn (m1 lFrz (m2 lSplit (m1 lTx (nm 0)) (mC (.str [10]))))) (.tup [(.nm 3), (.nm 4)]) lb__read_lines_1))
    (mRt (mv 1)))))
def f__read_lines : Fn := hide (mkFn 7 b__read_lines)
theorem f__read_lines_eq : f__read_lines = mkFn 7 b__read_lines := hide_eq _
def le__check_names_1 : M := (m1 (lFld ("Line" : Str) [("state" : Str), ("name" : Str), ("parts" : Str), ("quantity" : Str), ("numbers" : Str)] 1) (nm 4))
def lb__check_names_2 : MS := (mIf (mAnd (mTest (m2 lEq (m2 lIx (m2 lIx (nm 3) (nm 6)) (mC (.int 0))) (mC (.str [110, 97, 109, 101])))) (mTest (m2 lNotIn (m2 lIx (m2 lIx (nm 3) (nm 6)) (mC (.int 1))) (nm 1)))) (mRaiseA "BillFault" [("line" : Str), ("place" : Str), ("word" : Str)] [(nm 2), (nm 6), (mC (.str [117, 110, 107, 110, 111, 119, 110]))]) (mKl [6] mNx))
def lb__check_names_3 : MS := (mSeq (mKl [4] (mSet 5 (mIndexX (nm 3) (mTup [(mC (.str [115, 105, 103, 110])), (mC (.str [59]))]))))
    (mKl [2, 3, 5] (mFor (mRg2 (mC (.int 2)) (nm 5)) (.nm 6) lb__check_names_2)))
def b__check_names : MS := (mSeq (mSet 1 (mLc (mIt (fz 0)) (.tup [(.nm 2), (.nm 3), (.nm 4)]) mYes le__check_names_1 [2, 3, 4]))
    (mKl [0, 1] (mFor (mIt (fz 0)) (.tup [(.nm 2), (.nm 3), (.nm 4)]) lb__check_names_3)))
def f__check_names : Fn := hide (mkFn 7 b__check_names)
theorem f__check_names_eq : f__check_names = mkFn 7 b__check_names := hide_eq _
def le__reaches_1 : M := (m2 lIx (nm 4) (mC (.int 0)))
def lc__reaches_2 : MB := (mTest (m2 lLt (nm 3) (m1 lLen (nm 2))))
def lb__reaches_3 : MS := (mIf (mTest (m2 lNotIn (m2 lIx (nm 4) (mC (.int 0))) (nm 2))) (mKl [4] (mDrop (mApp 2 (m2 lIx (nm 4) (mC (.int 0)))))) (mKl [4] mNx))
def lb__reaches_4 : MS := (mSeq (mFor (mIt (m2 lIx (m2 lIx (nm 0) (m2 lIx (nm 2) (nm 3))) (mC (.int 1)))) (.nm 4) lb__reaches_3)
    (mAug 3 (mC (.int 1))))
def b__reaches : MS := (mSeq (mSet 2 (mLc (mIt (m2 lIx (m2 lIx (nm 0) (nm 1)) (mC (.int 1)))) (.nm 4) mYes le__reaches_1 [4]))
    (mSeq (mSet 3 (mC (.int 0)))
    (mSeq (mKl [3] (mWhile lc__reaches_2 lb__reaches_4))
    (mRt (m2 lIn (nm 1) (nm 2))))))
def f__reaches : Fn := hide (mkFn 5 b__reaches)
theorem f__reaches_eq : f__reaches = mkFn 5 b__reaches := hide_eq _
def lb_read_bill_1 : MS := (mKl [3, 4] (mDPutS 2 (m1 (lFld ("Line" : Str) [("state" : Str), ("name" : Str), ("parts" : Str), ("quantity" : Str), ("numbers" : Str)] 1) (m2 lIx (nm 4) (mC (.int 2)))) (fz 3)))
def le_read_bill_2 : M := (mTup [(m2 lDGetS (nm 2) (nm 10)), (fz 11)])
def lb_read_bill_3 : MS := (mSeq (mKl [6, 7] (mSet 9 (m1 lTuple (mLc (mIt (m1 (lFld ("Line" : Str) [("state" : Str), ("name" : Str), ("parts" : Str), ("quantity" : Str), ("numbers" : Str)] 2) (nm 8))) (.tup [(.nm 10), (.nm 11)]) mYes le_read_bill_2 [10, 11]))))
    (mKl [8, 9] (mDrop (mApp 5 (mTup [(m1 (lFld ("Line" : Str) [("state" : Str), ("name" : Str), ("parts" : Str), ("quantity" : Str), ("numbers" : Str)] 1) (nm 8)), (fz 9), (m2 lIx (m1 (lFld ("Line" : Str) [("state" : Str), ("name" : Str), ("parts" : Str), ("quantity" : Str), ("numbers" : Str)] 4) (nm 8)) (mC (.int 0))), (m2 lIx (m1 (lFld ("Line" : Str) [("state" : Str), ("name" : Str), ("parts" : Str), ("quantity" : Str), ("numbers" : Str)] 4) (nm 8)) (mC (.int 1))), (m2 lIx (m1 (lFld ("Line" : Str) [("state" : Str), ("name" : Str), ("parts" : Str), ("quantity" : Str), ("numbers" : Str)] 4) (nm 8)) (mC (.int 2)))])))))
def lb_read_bill_4 : MS := (mIf (mTest (mCall f__reaches [.b 5, .v (fz 3)])) (mRaiseA "BillFault" [("line" : Str), ("place" : Str), ("word" : Str)] [(m2 lIx (nm 4) (mC (.int 0))), (mC (.int 0)), (mC (.str [108, 111, 111, 112]))]) (mKl [3, 4] mNx))
def b_read_bill : MS := (mSeq (mKl [0] (mSet 1 (mCall f__read_lines [.v (fz 0)])))
    (mSeq (mDrop (mCall f__check_names [.v (fz 1)]))
    (mSeq (mSet 2 mDNewI)
    (mSeq (mFor (mEn (fz 1)) (.tup [(.nm 3), (.nm 4)]) lb_read_bill_1)
    (mSeq (mSet 5 (mLst []))
    (mSeq (mKl [2] (mFor (mIt (fz 1)) (.tup [(.nm 6), (.nm 7), (.nm 8)]) lb_read_bill_3))
    (mSeq (mKl [1] (mFor (mEn (fz 1)) (.tup [(.nm 3), (.nm 4)]) lb_read_bill_4))
    (mRt (m1 lTuple (nm 5))))))))))
def f_read_bill : Fn := hide (mkFn 12 b_read_bill)
theorem f_read_bill_eq : f_read_bill = mkFn 12 b_read_bill := hide_eq _
end
end Mw
set_option Elab.async false
set_option linter.all false
set_option maxRecDepth 100000
set_option autoImplicit false
namespace Mw
open PySem PySem.Spec PyProof.Rows L2
local macro_rules | `(tactic| walk_at "ev") => `(tactic| ((try simp -implicitDefEqProofs [-List.map_map, ev_fn, atI_pos, ev_seq, ev_set, ev_aug, ev_nm, ev_fz, ev_mv, ev_m1, ev_m2, ev_mInt, ev_mTest, ev_mAnd, ev_mOr, ev_mNot, ev_mAndV, ev_mOrV, ev_args, ev_args0, ev_mLst, ev_mTup, sts_cons, ev_sl00, ev_sl01, ev_sl10, ev_sl11, ev_asg, ev_rt, ev_if, ev_drop, ev_for, ev_it, ev_rg1, ev_rg2, ev_app, ev_put, ev_argb0, ev_argbv, ev_argbb, ev_call, pushAt_0, pushAt_s, putAt_0, putAt_s, lend, back, keep, asg, asgs, lIx_d, lIx_t, lIx_s, lIx_own, lIx_pk, lMul_i, lAdd_s, lAdd_t, lMul_s, D.kind, isK, D.isNon, ev_lc, wipeR_cons, unwipe_cons, noMu_cons]); (repeat (simp -implicitDefEqProofs (disch := omega) only [lenOk_of, mulOk_l, mulOk_r, repOk_of, rgOk_of, powOk_of, divOk_of, modOk_of]; try simp -implicitDefEqProofs [-List.map_map, ev_fn, atI_pos, ev_seq, ev_set, ev_aug, ev_nm, ev_fz, ev_mv, ev_m1, ev_m2, ev_mInt, ev_mTest, ev_mAnd, ev_mOr, ev_mNot, ev_mAndV, ev_mOrV, ev_args, ev_args0, ev_mLst, ev_mTup, sts_cons, ev_sl00, ev_sl01, ev_sl10, ev_sl11, ev_asg, ev_rt, ev_if, ev_drop, ev_for, ev_it, ev_rg1, ev_rg2, ev_app, ev_put, ev_argb0, ev_argbv, ev_argbb, ev_call, pushAt_0, pushAt_s, putAt_0, putAt_s, lend, back, keep, asg, asgs, lIx_d, lIx_t, lIx_s, lIx_own, lIx_pk, lMul_i, lAdd_s, lAdd_t, lMul_s, D.kind, isK, D.isNon, ev_lc, wipeR_cons, unwipe_cons, noMu_cons]))))
local macro_rules | `(tactic| walk_at "evm") => `(tactic| ((try simp -implicitDefEqProofs [*, -List.map_map, -List.map_append, -List.map_take, -List.map_drop, ev_fn, atI_pos, ev_seq, ev_set, ev_aug, ev_nm, ev_fz, ev_mv, ev_m1, ev_m2, ev_mInt, ev_mTest, ev_mAnd, ev_mOr, ev_mNot, ev_mAndV, ev_mOrV, ev_args, ev_args0, ev_mLst, ev_mTup, sts_cons, ev_sl00, ev_sl01, ev_sl10, ev_sl11, ev_asg, ev_rt, ev_if, ev_drop, ev_for, ev_it, ev_rg1, ev_rg2, ev_app, ev_put, ev_argb0, ev_argbv, ev_argbb, ev_call, pushAt_0, pushAt_s, putAt_0, putAt_s, lend, back, keep, asg, asgs, lIx_d, lIx_t, lIx_s, lIx_own, lIx_pk, lMul_i, lAdd_s, lAdd_t, lMul_s, D.kind, isK, D.isNon, ev_lc, wipeR_cons, unwipe_cons, noMu_cons]); (repeat (simp -implicitDefEqProofs (disch := omega) only [lenOk_of, mulOk_l, mulOk_r, repOk_of, rgOk_of, powOk_of, divOk_of, modOk_of]; try simp -implicitDefEqProofs [*, -List.map_map, -List.map_append, -List.map_take, -List.map_drop, ev_fn, atI_pos, ev_seq, ev_set, ev_aug, ev_nm, ev_fz, ev_mv, ev_m1, ev_m2, ev_mInt, ev_mTest, ev_mAnd, ev_mOr, ev_mNot, ev_mAndV, ev_mOrV, ev_args, ev_args0, ev_mLst, ev_mTup, sts_cons, ev_sl00, ev_sl01, ev_sl10, ev_sl11, ev_asg, ev_rt, ev_if, ev_drop, ev_for, ev_it, ev_rg1, ev_rg2, ev_app, ev_put, ev_argb0, ev_argbv, ev_argbb, ev_call, pushAt_0, pushAt_s, putAt_0, putAt_s, lend, back, keep, asg, asgs, lIx_d, lIx_t, lIx_s, lIx_own, lIx_pk, lMul_i, lAdd_s, lAdd_t, lMul_s, D.kind, isK, D.isNon, ev_lc, wipeR_cons, unwipe_cons, noMu_cons]))))
local macro_rules | `(tactic| walk_at "evh") => `(tactic| ((try simp -implicitDefEqProofs [*, -List.map_map, ev_fn, atI_pos, ev_seq, ev_set, ev_aug, ev_nm, ev_fz, ev_mv, ev_m1, ev_m2, ev_mInt, ev_mTest, ev_mAnd, ev_mOr, ev_mNot, ev_mAndV, ev_mOrV, ev_args, ev_args0, ev_mLst, ev_mTup, sts_cons, ev_sl00, ev_sl01, ev_sl10, ev_sl11, ev_asg, ev_rt, ev_if, ev_drop, ev_for, ev_it, ev_rg1, ev_rg2, ev_app, ev_put, ev_argb0, ev_argbv, ev_argbb, ev_call, pushAt_0, pushAt_s, putAt_0, putAt_s, lend, back, keep, asg, asgs, lIx_d, lIx_t, lIx_s, lIx_own, lIx_pk, lMul_i, lAdd_s, lAdd_t, lMul_s, D.kind, isK, D.isNon, ev_lc, wipeR_cons, unwipe_cons, noMu_cons]); (repeat (simp -implicitDefEqProofs (disch := omega) only [lenOk_of, mulOk_l, mulOk_r, repOk_of, rgOk_of, powOk_of, divOk_of, modOk_of]; try simp -implicitDefEqProofs [*, -List.map_map, ev_fn, atI_pos, ev_seq, ev_set, ev_aug, ev_nm, ev_fz, ev_mv, ev_m1, ev_m2, ev_mInt, ev_mTest, ev_mAnd, ev_mOr, ev_mNot, ev_mAndV, ev_mOrV, ev_args, ev_args0, ev_mLst, ev_mTup, sts_cons, ev_sl00, ev_sl01, ev_sl10, ev_sl11, ev_asg, ev_rt, ev_if, ev_drop, ev_for, ev_it, ev_rg1, ev_rg2, ev_app, ev_put, ev_argb0, ev_argbv, ev_argbb, ev_call, pushAt_0, pushAt_s, putAt_0, putAt_s, lend, back, keep, asg, asgs, lIx_d, lIx_t, lIx_s, lIx_own, lIx_pk, lMul_i, lAdd_s, lAdd_t, lMul_s, D.kind, isK, D.isNon, ev_lc, wipeR_cons, unwipe_cons, noMu_cons]))))
abbrev Jk (s : Slo) : Prop := s.bor = false
structure Item where
  name : List Nat
  parts : List (Int × Int)
  lead : Int
  lot : Int
  good : Int
deriving Inhabited
structure Books where
  today : Int
  stock : List Int
  recs : List (Int × Int × Int)
  ords : List (Int × Int × Int × Int)
deriving Inhabited
def D.ok : Nat → D → Prop
  | 0, _ => False
  | n + 1, .tup xs => xs.length ≤ 100000 ∧ ∀ y ∈ xs, D.ok n y
  | n + 1, .lst xs => xs.length ≤ 100000 ∧ ∀ y ∈ xs, D.ok n y
  | _ + 1, .obj _ _ _ => False
  | _ + 1, _ => True
theorem same_loop (n : Nat) (x : D) (xs : List D) (hx : x = .tup xs ∨ x = .lst xs) (hl : xs.length ≤ 100000) (ih : ∀ y ∈ xs, k__law_same n [.shr y, .shr y] = .ok (.d (.bl true)) [.un, .un]) :
    ∃ s2, forGo (.nm 2) (lb__law_same_1 (k__law_same n)) ((List.range xs.length).map fun (k : Nat) => D.int k) [.shr x, .shr x, .un] = .nx [.shr x, .shr x, s2] := by
  obtain ⟨ρ2, e, s2, h1, h2⟩ := forGo_run (t := .nm 2) (b := lb__law_same_1 (k__law_same n)) (fun i ρ => ∃ s2, Jk s2 ∧ ρ = [.shr x, .shr x, s2]) (xs := (List.range xs.length).map fun (k : Nat) => D.int k) (ρ := [.shr x, .shr x, .un]) ⟨.un, rfl, rfl⟩ fun i y ρ hy hp => by
    obtain ⟨s2, h1, rfl⟩ := hp
    have hil : i < xs.length := by simpa using (List.getElem?_eq_some_iff.mp hy).1
    have ey : y = .int (i : Nat) := by
      rw [List.getElem?_map, List.getElem?_range hil] at hy
      simpa using hy.symm
    subst ey
    have hi := ih xs[i] (List.getElem_mem hil)
    refine ⟨[.shr x, .shr x, .shr (.int i)], by walk_at "evh", _, .inl ?_, .shr (.int i), rfl, rfl⟩
    unfold lb__law_same_1
    have hg : xs[i]? = some xs[i] := List.getElem?_eq_getElem hil
    rcases hx with rfl | rfl <;> walk_at "evh"
  exact ⟨s2, by rw [e, h2]⟩
theorem same_refl : ∀ (n : Nat) (x : D), D.ok n x → k__law_same n [.shr x, .shr x] = .ok (.d (.bl true)) [.un, .un]
  | 0, x, h => h.elim
  | n + 1, .tup xs, h => by
    obtain ⟨s2, e⟩ := same_loop n (.tup xs) xs (.inl rfl) h.1 fun y hy => same_refl n y (h.2 y hy)
    have hl : xs.length ≤ 100000 := h.1
    unfold k__law_same b__law_same
    walk_at "evh"
  | n + 1, .lst xs, h => by
    obtain ⟨s2, e⟩ := same_loop n (.lst xs) xs (.inr rfl) h.1 fun y hy => same_refl n y (h.2 y hy)
    have hl : xs.length ≤ 100000 := h.1
    unfold k__law_same b__law_same
    walk_at "evh"
  | n + 1, .int i, h => by
    unfold k__law_same b__law_same
    walk_at "evh"
  | n + 1, .bl i, h => by
    unfold k__law_same b__law_same
    walk_at "evh"
  | n + 1, .str i, h => by
    unfold k__law_same b__law_same
    walk_at "evh"
  | n + 1, .non, h => by
    unfold k__law_same b__law_same
    walk_at "evh"
  | n + 1, .obj _ _ _, h => h.elim
def Same (a d : D) : Prop := a = d ∧ D.ok 60 d
theorem same_ok {a d : D} (h : Same a d) : f__law_same [.shr a, .shr d] = .ok (.d (.bl true)) [.un, .un] := by
  obtain ⟨rfl, h⟩ := h
  rw [f__law_same_eq]; exact same_refl 60 _ h
end Mw
set_option maxHeartbeats 2000000
set_option Elab.async false
set_option linter.all false
set_option maxRecDepth 100000
set_option autoImplicit false
namespace Mw
open PySem PySem.Spec PyProof.Rows L2 Mw
abbrev e_Li : (List Int) → D := fun x => .lst (List.map D.int x)
abbrev e_T2ii : (Int × Int) → D := fun x => .tup [D.int x.1, D.int x.2]
abbrev e_VT2ii : (List (Int × Int)) → D := fun x => .tup (List.map e_T2ii x)
abbrev e_Item : Item → D := fun x => .tup [D.str x.name, e_VT2ii x.parts, D.int x.lead, D.int x.lot, D.int x.good]
abbrev e_VItem : (List Item) → D := fun x => .tup (List.map e_Item x)
abbrev e_T0 : Unit → D := fun x => .tup []
abbrev e_T3sii : ((List Nat) × Int × Int) → D := fun x => .tup [D.str x.1, D.int x.2.1, D.int x.2.2]
abbrev e_T2si : ((List Nat) × Int) → D := fun x => .tup [D.str x.1, D.int x.2]
abbrev e_Os : (Option (List Nat)) → D := fun x => match x with | none => .non | some y => D.str y
abbrev e_T3sss : ((List Nat) × (List Nat) × (List Nat)) → D := fun x => .tup [D.str x.1, D.str x.2.1, D.str x.2.2]
abbrev e_Vs : (List (List Nat)) → D := fun x => .tup (List.map D.str x)
abbrev e_T2ss : ((List Nat) × (List Nat)) → D := fun x => .tup [D.str x.1, D.str x.2]
abbrev e_T4ssss : ((List Nat) × (List Nat) × (List Nat) × (List Nat)) → D := fun x => .tup [D.str x.1, D.str x.2.1, D.str x.2.2.1, D.str x.2.2.2]
abbrev e_LT2ss : (List ((List Nat) × (List Nat))) → D := fun x => .lst (List.map e_T2ss x)
abbrev e_LT2si : (List ((List Nat) × Int)) → D := fun x => .lst (List.map e_T2si x)
abbrev e_Line5 : ((List Nat) × (List Nat) × (List ((List Nat) × Int)) × Int × (List Int)) → D := fun x => .obj ("Line" : Str) [("state" : Str), ("name" : Str), ("parts" : Str), ("quantity" : Str), ("numbers" : Str)] [D.str x.1, D.str x.2.1, e_LT2si x.2.2.1, D.int x.2.2.2.1, e_Li x.2.2.2.2]
abbrev e_T3iLT2ssLine5 : (Int × (List ((List Nat) × (List Nat))) × ((List Nat) × (List Nat) × (List ((List Nat) × Int)) × Int × (List Int))) → D := fun x => .tup [D.int x.1, e_LT2ss x.2.1, e_Line5 x.2.2]
abbrev e_LT3iLT2ssLine5 : (List (Int × (List ((List Nat) × (List Nat))) × ((List Nat) × (List Nat) × (List ((List Nat) × Int)) × Int × (List Int)))) → D := fun x => .lst (List.map e_T3iLT2ssLine5 x)
noncomputable def t__law_cell (script' : (List Int)) (k' : Int) : T Int :=
  if (decide (k' < (script'.length : Int))) = true then T.req (0 ≤ k' ∧ k' < script'.length) (T.ret (ix script' k')) else
    T.ret 0
abbrev q__law_cell (script' : (List Int)) (k' : Int) : Int → Prop := fun z => f__law_cell [.shr (e_Li script'), .shr (D.int k')] = ((fun (z : Int) => FRes.ok (.d (D.int z)) [.un, .un] : Int → FRes)) z
theorem v__law_cell (script' : (List Int)) (k' : Int) : J (t__law_cell script' k') (q__law_cell script' k') :=
  v_fn (as := [.shr (e_Li script'), .shr (D.int k')]) (R' := fun (z : Int) => FRes.ok (.d (D.int z)) [.un, .un]) f__law_cell_eq rfl (js_ifr (e_test (e_lt (e_nm_s rfl) (e_lenL (e := D.int) (xs := script') (e_nm_s rfl)))) (js_req fun hc1 => (js_rtS (e_ixL (e := D.int) (xs := script') (e_nm_s rfl) (e_nm_s rfl) hc1) rfl))
    (js_rt e_C rfl))
noncomputable def t__law_digits (script' : (List Int)) (first' : Int) (last' : Int) : T (List Int) :=
  T.bind (T.ret ([] : (List Int))) fun s1 =>
    T.bind (T.req (-1000000 ≤ first' ∧ first' ≤ 1000000) (T.req (-1000000 ≤ last' ∧ last' ≤ 1000000) (T.forL (fun (s4 : (List Int)) (x5 : Int) =>
    T.bind (T.bind (t__law_cell script' x5) fun p6 => T.ret p6) fun s7 =>
    T.bind (if (decide (s7 < 0)) = true then T.bind (T.ret (1 - (2 * s7))) fun s8 => T.ret s8 else T.ret s7) fun s9 =>
    T.bind (if (decide (((10 : Int) ^ (18 : Int).toNat) ≤ s9)) = true then T.bind (T.forL (fun (s10 : ((List Int) × Int)) (x11 : Int) =>
    T.bind (if (decide (0 < s10.2)) = true then T.bind (T.req (s10.1.length < 1000000) (T.ret (s10.1 ++ [(s10.2 % 1000)]))) fun s13 =>
    T.bind (T.ret (s10.2 / 1000)) fun s14 => T.ret (s13, s14) else T.ret (s10.1, s10.2)) fun s15 => T.ret (s15.1, s15.2)) (rng 60) (s4, s9)) fun s10 => T.ret s10.1 else T.bind (T.ret ((((s9 * 48271) + (x5 * 69621)) + 11) % 2147483647)) fun s16 =>
    T.bind (T.forL (fun (s17 : ((List Int) × Int)) (x18 : Int) =>
    T.bind (T.ret ((((s17.2 * 16807) + (7 * x18)) + 1) % 2147483647)) fun s19 =>
    T.bind (T.req (s17.1.length < 1000000) (T.ret (s17.1 ++ [((s19 / 997) % 1000)]))) fun s21 => T.ret (s21, s19)) (rng 12) (s4, s16)) fun s17 => T.ret s17.1) fun s22 => T.ret s22) (rng2 first' last') s1))) fun s4 =>
    T.ret s4
abbrev q__law_digits (script' : (List Int)) (first' : Int) (last' : Int) : (List Int) → Prop := fun z => f__law_digits [.shr (e_Li script'), .shr (D.int first'), .shr (D.int last')] = ((fun (z : (List Int)) => FRes.ok (.own (O.l (List.map D.int z))) [.un, .un, .un] : (List Int) → FRes)) z
theorem v__law_digits (script' : (List Int)) (first' : Int) (last' : Int) : J (t__law_digits script' first' last') (q__law_digits script' first' last') :=
  v_fn (as := [.shr (e_Li script'), .shr (D.int first'), .shr (D.int last')]) (R' := fun (z : (List Int)) => FRes.ok (.own (O.l (List.map D.int z))) [.un, .un, .un]) f__law_digits_eq rfl (js_seq (E := fun (s1 : (List Int)) => [.shr (e_Li script'), .shr (D.int first'), .shr (D.int last'), .mu false (O.l (List.map D.int s1)), .un, .un, .un, .un]) (js_st (E := fun (s1 : (List Int)) => [.shr (e_Li script'), .shr (D.int first'), .shr (D.int last'), .mu false (O.l (List.map D.int s1)), .un, .un, .un, .un]) (st_set (e_cast (r' := .own (O.l (List.map D.int ([] : (List Int))))) (e_lst e_args0 e_sts0 (Nat.le_of_ble_eq_true rfl)) rfl) rfl rfl) rfl) fun s1 =>
    (js_seq (E := fun (s4 : (List Int)) => [.un, .un, .un, .mu false (O.l (List.map D.int s4)), .un, .un, .un, .un]) (js_klN (E := fun (s4 : (List Int)) => [.shr (e_Li script'), .shr (D.int first'), .shr (D.int last'), .mu false (O.l (List.map D.int s4)), .un, .un, .un, .un]) (js_req fun hc2 => (js_req fun hc3 => (js_forL (e := D.int) (xs := (rng2 first' last')) (E := fun (s4 : (List Int)) => [.shr (e_Li script'), .shr (D.int first'), .shr (D.int last'), .mu false (O.l (List.map D.int s4)), .un, .un, .un, .un]) (fun s4 x5 => [.shr (e_Li script'), .shr (D.int first'), .shr (D.int last'), .mu false (O.l (List.map D.int s4)), .shr (D.int x5), .un, .un, .un]) (e_rg2 (e_nm_s rfl) (e_nm_s rfl) hc2 hc3) rfl (fun _ _ => rfl) (fun s4 x5 =>
    (js_seq (E := fun (s7 : Int) => [.shr (e_Li script'), .shr (D.int first'), .shr (D.int last'), .mu false (O.l (List.map D.int s4)), .shr (D.int x5), .shr (D.int s7), .un, .un]) (js_bind (v__law_cell script' x5) fun p6 hp6 => (js_st (E := fun (s7 : Int) => [.shr (e_Li script'), .shr (D.int first'), .shr (D.int last'), .mu false (O.l (List.map D.int s4)), .shr (D.int x5), .shr (D.int s7), .un, .un]) (st_set (e_call (e_argBv (e_fz_s rfl) (e_argBv (e_fz_s rfl) e_argB0 rfl) rfl) (e_lendr rfl (e_lendr rfl e_lend0)) hp6 rfl) rfl rfl) rfl)) fun s7 =>
    (js_seq (E := fun (s9 : Int) => [.shr (e_Li script'), .shr (D.int first'), .shr (D.int last'), .mu false (O.l (List.map D.int s4)), .shr (D.int x5), .shr (D.int s9), .un, .un]) (js_if (e_test (e_lt (e_nm_s rfl) e_C)) (js_last (E1 := fun (s8 : Int) => [.shr (e_Li script'), .shr (D.int first'), .shr (D.int last'), .mu false (O.l (List.map D.int s4)), .shr (D.int x5), .shr (D.int s8), .un, .un]) (js_st (E := fun (s8 : Int) => [.shr (e_Li script'), .shr (D.int first'), .shr (D.int last'), .mu false (O.l (List.map D.int s4)), .shr (D.int x5), .shr (D.int s8), .un, .un]) (st_set (e_subI e_C (e_mulI e_C (e_nm_s rfl) (.inl (by decide)))) rfl rfl) rfl) fun _ => rfl) (js_nx rfl)) fun s9 =>
    (js_last (E1 := fun (s22 : (List Int)) => [.shr (e_Li script'), .shr (D.int first'), .shr (D.int last'), .mu false (O.l (List.map D.int s22)), .un, .un, .un, .un]) (js_if (e_test (e_ge (e_nm_s rfl) (e_powI e_C e_C (by decide)))) (js_last (E1 := fun (s10 : ((List Int) × Int)) => [.shr (e_Li script'), .shr (D.int first'), .shr (D.int last'), .mu false (O.l (List.map D.int s10.1)), .un, .un, .un, .un]) (js_klN (E := fun (s10 : ((List Int) × Int)) => [.shr (e_Li script'), .shr (D.int first'), .shr (D.int last'), .mu false (O.l (List.map D.int s10.1)), .shr (D.int x5), .shr (D.int s10.2), .un, .un]) (js_forL (e := D.int) (xs := (rng 60)) (E := fun (s10 : ((List Int) × Int)) => [.shr (e_Li script'), .shr (D.int first'), .shr (D.int last'), .mu false (O.l (List.map D.int s10.1)), .shr (D.int x5), .shr (D.int s10.2), .un, .un]) (fun s10 x11 => [.shr (e_Li script'), .shr (D.int first'), .shr (D.int last'), .mu false (O.l (List.map D.int s10.1)), .shr (D.int x5), .shr (D.int s10.2), .shr (D.int x11), .un]) (e_rg1 e_C (by decide)) rfl (fun _ _ => rfl) (fun s10 x11 =>
    (js_last (E1 := fun (s15 : ((List Int) × Int)) => [.shr (e_Li script'), .shr (D.int first'), .shr (D.int last'), .mu false (O.l (List.map D.int s15.1)), .shr (D.int x5), .shr (D.int s15.2), .un, .un]) (js_if (e_test (e_gt (e_nm_s rfl) e_C)) (js_seq (E := fun (s13 : (List Int)) => [.shr (e_Li script'), .shr (D.int first'), .shr (D.int last'), .mu false (O.l (List.map D.int s13)), .shr (D.int x5), .shr (D.int s10.2), .un, .un]) (js_req fun hc12 => (js_st (E := fun (s13 : (List Int)) => [.shr (e_Li script'), .shr (D.int first'), .shr (D.int last'), .mu false (O.l (List.map D.int s13)), .shr (D.int x5), .shr (D.int s10.2), .un, .un]) (st_kl (st_drop (e_app (e := D.int) (xs := s10.1) (z := (s10.2 % 1000)) rfl (e_modI (e_int1I (e_nm_s rfl)) e_C (by decide)) rfl rfl hc12)) (kl_eq rfl)) rfl)) fun s13 =>
    (js_last (E1 := fun (s14 : Int) => [.shr (e_Li script'), .shr (D.int first'), .shr (D.int last'), .mu false (O.l (List.map D.int s13)), .shr (D.int x5), .shr (D.int s14), .un, .un]) (js_st (E := fun (s14 : Int) => [.shr (e_Li script'), .shr (D.int first'), .shr (D.int last'), .mu false (O.l (List.map D.int s13)), .shr (D.int x5), .shr (D.int s14), .un, .un]) (st_set (e_divI (e_nm_s rfl) e_C (by decide)) rfl rfl) rfl) fun _ => rfl)) (js_kn (v := (s10.1, s10.2)) (kl_eq rfl))) fun _ => rfl))) (fun _ => kl_eq rfl)) fun _ => rfl) (js_seq (E := fun (s16 : Int) => [.shr (e_Li script'), .shr (D.int first'), .shr (D.int last'), .mu false (O.l (List.map D.int s4)), .un, .un, .un, .shr (D.int s16)]) (js_st (E := fun (s16 : Int) => [.shr (e_Li script'), .shr (D.int first'), .shr (D.int last'), .mu false (O.l (List.map D.int s4)), .un, .un, .un, .shr (D.int s16)]) (st_kl (st_set (e_modI (e_int1I (e_addI (e_addI (e_mulI (e_nm_s rfl) e_C (.inr (by decide))) (e_mulI (e_nm_s rfl) e_C (.inr (by decide)))) e_C)) e_C (by decide)) rfl rfl) (kl_eq rfl)) rfl) fun s16 =>
    (js_last (E1 := fun (s17 : ((List Int) × Int)) => [.shr (e_Li script'), .shr (D.int first'), .shr (D.int last'), .mu false (O.l (List.map D.int s17.1)), .un, .un, .un, .un]) (js_klN (E := fun (s17 : ((List Int) × Int)) => [.shr (e_Li script'), .shr (D.int first'), .shr (D.int last'), .mu false (O.l (List.map D.int s17.1)), .un, .un, .un, .shr (D.int s17.2)]) (js_forL (e := D.int) (xs := (rng 12)) (E := fun (s17 : ((List Int) × Int)) => [.shr (e_Li script'), .shr (D.int first'), .shr (D.int last'), .mu false (O.l (List.map D.int s17.1)), .un, .un, .un, .shr (D.int s17.2)]) (fun s17 x18 => [.shr (e_Li script'), .shr (D.int first'), .shr (D.int last'), .mu false (O.l (List.map D.int s17.1)), .un, .un, .shr (D.int x18), .shr (D.int s17.2)]) (e_rg1 e_C (by decide)) rfl (fun _ _ => rfl) (fun s17 x18 =>
    (js_seq (E := fun (s19 : Int) => [.shr (e_Li script'), .shr (D.int first'), .shr (D.int last'), .mu false (O.l (List.map D.int s17.1)), .un, .un, .un, .shr (D.int s19)]) (js_st (E := fun (s19 : Int) => [.shr (e_Li script'), .shr (D.int first'), .shr (D.int last'), .mu false (O.l (List.map D.int s17.1)), .un, .un, .un, .shr (D.int s19)]) (st_kl (st_set (e_modI (e_int1I (e_addI (e_addI (e_mulI (e_nm_s rfl) e_C (.inr (by decide))) (e_mulI e_C (e_nm_s rfl) (.inl (by decide)))) e_C)) e_C (by decide)) rfl rfl) (kl_eq rfl)) rfl) fun s19 =>
    (js_last (E1 := fun (s21 : (List Int)) => [.shr (e_Li script'), .shr (D.int first'), .shr (D.int last'), .mu false (O.l (List.map D.int s21)), .un, .un, .un, .shr (D.int s19)]) (js_req fun hc20 => (js_st (E := fun (s21 : (List Int)) => [.shr (e_Li script'), .shr (D.int first'), .shr (D.int last'), .mu false (O.l (List.map D.int s21)), .un, .un, .un, .shr (D.int s19)]) (st_drop (e_app (e := D.int) (xs := s17.1) (z := ((s19 / 997) % 1000)) rfl (e_modI (e_int1I (e_divI (e_nm_s rfl) e_C (by decide))) e_C (by decide)) rfl rfl hc20)) rfl)) fun _ => rfl)))) (fun _ => kl_eq rfl)) fun _ => rfl))) fun _ => rfl))))))) (fun _ => kl_eq rfl)) fun s4 =>
    (js_rt (e_mv_m rfl) rfl)))
noncomputable def t__law_draw (box' : ((List Int) × Int)) (many' : Int) : T (Int × ((List Int) × Int)) :=
  T.bind (T.ret box'.2) fun s1 =>
    T.bind (T.ret (box'.1, (s1 + 1))) fun s2 =>
    if (decide (s1 < (s2.1.length : Int))) = true then T.req (0 ≤ s1 ∧ s1 < s2.1.length) (T.req (0 < many') (T.ret (((ix s2.1 s1) % many'), s2))) else
    T.ret (0, s2)
abbrev q__law_draw (box' : ((List Int) × Int)) (many' : Int) : (Int × ((List Int) × Int)) → Prop := fun z => f__law_draw [.mu true (.lst [.d (e_Li box'.1), .d (D.int box'.2)]), .shr (D.int many')] = ((fun (z : (Int × ((List Int) × Int))) => FRes.ok (.d (D.int z.1)) [.mu true (.lst [.d (e_Li z.2.1), .d (D.int z.2.2)]), .un] : (Int × ((List Int) × Int)) → FRes)) z
theorem v__law_draw (box' : ((List Int) × Int)) (many' : Int) : J (t__law_draw box' many') (q__law_draw box' many') :=
  v_fn (as := [.mu true (.lst [.d (e_Li box'.1), .d (D.int box'.2)]), .shr (D.int many')]) (R' := fun (z : (Int × ((List Int) × Int))) => FRes.ok (.d (D.int z.1)) [.mu true (.lst [.d (e_Li z.2.1), .d (D.int z.2.2)]), .un]) f__law_draw_eq rfl (js_seq (E := fun (s1 : Int) => [.mu true (.lst [.d (e_Li box'.1), .d (D.int box'.2)]), .shr (D.int many'), .shr (D.int s1)]) (js_st (E := fun (s1 : Int) => [.mu true (.lst [.d (e_Li box'.1), .d (D.int box'.2)]), .shr (D.int many'), .shr (D.int s1)]) (st_set (e_pF 1 (e_nm_m rfl) rfl rfl) rfl rfl) rfl) fun s1 =>
    (js_seq (E := fun (s2 : ((List Int) × Int)) => [.mu true (.lst [.d (e_Li s2.1), .d (D.int s2.2)]), .shr (D.int many'), .shr (D.int s1)]) (js_st (E := fun (s2 : ((List Int) × Int)) => [.mu true (.lst [.d (e_Li s2.1), .d (D.int s2.2)]), .shr (D.int many'), .shr (D.int s1)]) (st_putF 1 rfl (e_args (e_addI (e_nm_s rfl) e_C) (e_args (e_mInt e_C) e_args0 rfl) rfl) rfl rfl rfl (Nat.le_of_ble_eq_true rfl)) rfl) fun s2 =>
    (js_ifr (e_test (e_lt (e_nm_s rfl) (e_lenL (e := D.int) (xs := s2.1) (e_pF 0 (e_nm_m rfl) rfl rfl)))) (js_req fun hc3 => (js_req fun hc4 => (js_rtS (e_modI (e_int1I (e_ixL (e := D.int) (xs := s2.1) (e_pF 0 (e_nm_m rfl) rfl rfl) (e_nm_s rfl) hc3)) (e_nm_s rfl) hc4) rfl)))
    (js_rt e_C rfl))))
noncomputable def t__law_run (box' : ((List Int) × Int)) (many' : Int) (chars' : (List Nat)) : T ((List Nat) × ((List Int) × Int)) :=
  T.bind (T.ret []) fun s1 =>
    T.bind (T.req (-1000000 ≤ many' ∧ many' ≤ 1000000) (T.forL (fun (s3 : (((List Int) × Int) × (List Nat))) (x4 : Int) =>
    T.bind (T.bind (t__law_draw s3.1 (chars'.length : Int)) fun p5 => T.req (0 ≤ p5.1 ∧ p5.1 < chars'.length) (T.req (s3.2.length + [ix chars' p5.1].length ≤ 1000000) (T.ret (p5.2, (s3.2 ++ [ix chars' p5.1]))))) fun s8 => T.ret (s8.1, s8.2)) (rng many') (box', s1))) fun s3 =>
    T.ret (s3.2, s3.1)
abbrev q__law_run (box' : ((List Int) × Int)) (many' : Int) (chars' : (List Nat)) : ((List Nat) × ((List Int) × Int)) → Prop := fun z => f__law_run [.mu true (.lst [.d (e_Li box'.1), .d (D.int box'.2)]), .shr (D.int many'), .shr (D.str chars')] = ((fun (z : ((List Nat) × ((List Int) × Int))) => FRes.ok (.d (D.str z.1)) [.mu true (.lst [.d (e_Li z.2.1), .d (D.int z.2.2)]), .un, .un] : ((List Nat) × ((List Int) × Int)) → FRes)) z
theorem v__law_run (box' : ((List Int) × Int)) (many' : Int) (chars' : (List Nat)) : J (t__law_run box' many' chars') (q__law_run box' many' chars') :=
  v_fn (as := [.mu true (.lst [.d (e_Li box'.1), .d (D.int box'.2)]), .shr (D.int many'), .shr (D.str chars')]) (R' := fun (z : ((List Nat) × ((List Int) × Int))) => FRes.ok (.d (D.str z.1)) [.mu true (.lst [.d (e_Li z.2.1), .d (D.int z.2.2)]), .un, .un]) f__law_run_eq rfl (js_seq (E := fun (s1 : (List Nat)) => [.mu true (.lst [.d (e_Li box'.1), .d (D.int box'.2)]), .shr (D.int many'), .shr (D.str chars'), .shr (D.str s1), .un]) (js_st (E := fun (s1 : (List Nat)) => [.mu true (.lst [.d (e_Li box'.1), .d (D.int box'.2)]), .shr (D.int many'), .shr (D.str chars'), .shr (D.str s1), .un]) (st_set e_C rfl rfl) rfl) fun s1 =>
    (js_seq (E := fun (s3 : (((List Int) × Int) × (List Nat))) => [.mu true (.lst [.d (e_Li s3.1.1), .d (D.int s3.1.2)]), .un, .un, .shr (D.str s3.2), .un]) (js_klN (E := fun (s3 : (((List Int) × Int) × (List Nat))) => [.mu true (.lst [.d (e_Li s3.1.1), .d (D.int s3.1.2)]), .shr (D.int many'), .shr (D.str chars'), .shr (D.str s3.2), .un]) (js_req fun hc2 => (js_forL (e := D.int) (xs := (rng many')) (E := fun (s3 : (((List Int) × Int) × (List Nat))) => [.mu true (.lst [.d (e_Li s3.1.1), .d (D.int s3.1.2)]), .shr (D.int many'), .shr (D.str chars'), .shr (D.str s3.2), .un]) (fun s3 x4 => [.mu true (.lst [.d (e_Li s3.1.1), .d (D.int s3.1.2)]), .shr (D.int many'), .shr (D.str chars'), .shr (D.str s3.2), .shr (D.int x4)]) (e_rg1 (e_nm_s rfl) hc2) rfl (fun _ _ => rfl) (fun s3 x4 =>
    (js_last (E1 := fun (s8 : (((List Int) × Int) × (List Nat))) => [.mu true (.lst [.d (e_Li s8.1.1), .d (D.int s8.1.2)]), .shr (D.int many'), .shr (D.str chars'), .shr (D.str s8.2), .un]) (js_bind (v__law_draw s3.1 (chars'.length : Int)) fun p5 hp5 => (js_req fun hc6 => (js_req fun hc7 => (js_st (E := fun (s8 : (((List Int) × Int) × (List Nat))) => [.mu true (.lst [.d (e_Li s8.1.1), .d (D.int s8.1.2)]), .shr (D.int many'), .shr (D.str chars'), .shr (D.str s8.2), .un]) (st_kl (st_set (e_addS (e_nm_s rfl) (e_ixS (e_fz_s rfl) (e_call (e_argBb (i := 0) rfl (e_argBv (e_lenS  (e_nm_s rfl)) e_argB0 rfl)) (e_lendm (i := 0) rfl (e_lendr rfl e_lend0)) hp5 rfl) hc6) hc7) rfl rfl) (kl_eq rfl)) rfl)))) fun _ => rfl)))) (fun _ => kl_eq rfl)) fun s3 =>
    (js_rt (e_mv_s rfl) rfl)))
noncomputable def t__law_name (box' : ((List Int) × Int)) (taken' : (List (List Nat))) : T ((List Nat) × ((List Int) × Int)) :=
  T.bind (T.bind (t__law_draw box' 8) fun p1 => T.req (0 ≤ p1.1 ∧ p1.1 < [[119, 104, 101, 101, 108], [102, 114, 97, 109, 101], [98, 105, 99, 121, 99, 108, 101], [100, 97, 121, 115], [121, 105, 101, 108, 100, 115], [97], [98], [115, 112, 111, 107, 101]].length) (T.ret (p1.2, (ix [[119, 104, 101, 101, 108], [102, 114, 97, 109, 101], [98, 105, 99, 121, 99, 108, 101], [100, 97, 121, 115], [121, 105, 101, 108, 100, 115], [97], [98], [115, 112, 111, 107, 101]] p1.1)))) fun s3 =>
    T.bind (T.bind (t__law_draw s3.1 2) fun p4 => if (decide (p4.1 = 0)) = true then T.bind (T.bind (t__law_draw p4.2 2) fun p5 => T.req (0 ≤ p5.1 ∧ p5.1 < ([3, 9] : List Int).length) (T.bind (t__law_draw p5.2 (ix ([3, 9] : List Int) p5.1)) fun p7 => T.bind (t__law_run p7.2 (1 + p7.1) [97, 98, 99, 100, 101, 102, 103, 104, 105, 106, 107, 108, 109, 110, 111, 112, 113, 114, 115, 116, 117, 118, 119, 120, 121, 122]) fun p8 => T.ret (p8.2, p8.1))) fun s9 => T.ret (s9.1, s9.2) else T.ret (p4.2, s3.2)) fun s10 =>
    T.bind (T.forL (fun (s11 : (List Nat)) (x12 : Int) =>
    T.bind (if (decide (s11 ∈ taken')) = true then T.bind (T.req (0 ≤ x12 ∧ x12 < [97, 98, 99, 100, 101, 102, 103, 104, 105].length) (T.req ((cutA s11 none (some 11)).length + [ix [97, 98, 99, 100, 101, 102, 103, 104, 105] x12].length ≤ 1000000) (T.ret ((cutA s11 none (some 11)) ++ [ix [97, 98, 99, 100, 101, 102, 103, 104, 105] x12])))) fun s15 => T.ret s15 else T.ret s11) fun s16 => T.ret s16) (rng 9) s10.2) fun s11 =>
    T.ret (s11, s10.1)
abbrev q__law_name (box' : ((List Int) × Int)) (taken' : (List (List Nat))) : ((List Nat) × ((List Int) × Int)) → Prop := fun z => f__law_name [.mu true (.lst [.d (e_Li box'.1), .d (D.int box'.2)]), .mu true (O.l (List.map D.str taken'))] = ((fun (z : ((List Nat) × ((List Int) × Int))) => FRes.ok (.d (D.str z.1)) [.mu true (.lst [.d (e_Li z.2.1), .d (D.int z.2.2)]), .mu true (O.l (List.map D.str taken'))] : ((List Nat) × ((List Int) × Int)) → FRes)) z
theorem v__law_name (box' : ((List Int) × Int)) (taken' : (List (List Nat))) : J (t__law_name box' taken') (q__law_name box' taken') :=
  v_fn (as := [.mu true (.lst [.d (e_Li box'.1), .d (D.int box'.2)]), .mu true (O.l (List.map D.str taken'))]) (R' := fun (z : ((List Nat) × ((List Int) × Int))) => FRes.ok (.d (D.str z.1)) [.mu true (.lst [.d (e_Li z.2.1), .d (D.int z.2.2)]), .mu true (O.l (List.map D.str taken'))]) f__law_name_eq rfl (js_seq (E := fun (s3 : (((List Int) × Int) × (List Nat))) => [.mu true (.lst [.d (e_Li s3.1.1), .d (D.int s3.1.2)]), .mu true (O.l (List.map D.str taken')), .shr (D.str s3.2), .un]) (js_bind (v__law_draw box' 8) fun p1 hp1 => (js_req fun hc2 => (js_st (E := fun (s3 : (((List Int) × Int) × (List Nat))) => [.mu true (.lst [.d (e_Li s3.1.1), .d (D.int s3.1.2)]), .mu true (O.l (List.map D.str taken')), .shr (D.str s3.2), .un]) (st_set (e_ixO (e := D.str) (xs := [[119, 104, 101, 101, 108], [102, 114, 97, 109, 101], [98, 105, 99, 121, 99, 108, 101], [100, 97, 121, 115], [121, 105, 101, 108, 100, 115], [97], [98], [115, 112, 111, 107, 101]]) (e_cast (r' := .own (O.l (List.map D.str [[119, 104, 101, 101, 108], [102, 114, 97, 109, 101], [98, 105, 99, 121, 99, 108, 101], [100, 97, 121, 115], [121, 105, 101, 108, 100, 115], [97], [98], [115, 112, 111, 107, 101]]))) (e_lst (e_args e_C (e_args e_C (e_args e_C (e_args e_C (e_args e_C (e_args e_C (e_args e_C (e_args e_C e_args0 rfl) rfl) rfl) rfl) rfl) rfl) rfl) rfl) (e_sts rfl (e_sts rfl (e_sts rfl (e_sts rfl (e_sts rfl (e_sts rfl (e_sts rfl (e_sts rfl e_sts0)))))))) (Nat.le_of_ble_eq_true rfl)) rfl) (e_call (e_argBb (i := 0) rfl (e_argBv e_C e_argB0 rfl)) (e_lendm (i := 0) rfl (e_lendr rfl e_lend0)) hp1 rfl) hc2) rfl rfl) rfl))) fun s3 =>
    (js_seq (E := fun (s10 : (((List Int) × Int) × (List Nat))) => [.mu true (.lst [.d (e_Li s10.1.1), .d (D.int s10.1.2)]), .mu true (O.l (List.map D.str taken')), .shr (D.str s10.2), .un]) (js_bind (v__law_draw s3.1 2) fun p4 hp4 => (js_if (e_test (e_eqI (e_call (e_argBb (i := 0) rfl (e_argBv e_C e_argB0 rfl)) (e_lendm (i := 0) rfl (e_lendr rfl e_lend0)) hp4 rfl) e_C)) (js_last (E1 := fun (s9 : (((List Int) × Int) × (List Nat))) => [.mu true (.lst [.d (e_Li s9.1.1), .d (D.int s9.1.2)]), .mu true (O.l (List.map D.str taken')), .shr (D.str s9.2), .un]) (js_bind (v__law_draw p4.2 2) fun p5 hp5 => (js_req fun hc6 => (js_bind (v__law_draw p5.2 (ix ([3, 9] : List Int) p5.1)) fun p7 hp7 => (js_bind (v__law_run p7.2 (1 + p7.1) [97, 98, 99, 100, 101, 102, 103, 104, 105, 106, 107, 108, 109, 110, 111, 112, 113, 114, 115, 116, 117, 118, 119, 120, 121, 122]) fun p8 hp8 => (js_st (E := fun (s9 : (((List Int) × Int) × (List Nat))) => [.mu true (.lst [.d (e_Li s9.1.1), .d (D.int s9.1.2)]), .mu true (O.l (List.map D.str taken')), .shr (D.str s9.2), .un]) (st_set (e_call (e_argBb (i := 0) rfl (e_argBv (e_addI e_C (e_call (e_argBb (i := 0) rfl (e_argBv (e_ixO (e := D.int) (xs := ([3, 9] : List Int)) (e_cast (r' := .own (O.l (List.map D.int ([3, 9] : List Int)))) (e_lst (e_args e_C (e_args e_C e_args0 rfl) rfl) (e_sts rfl (e_sts rfl e_sts0)) (Nat.le_of_ble_eq_true rfl)) rfl) (e_call (e_argBb (i := 0) rfl (e_argBv e_C e_argB0 rfl)) (e_lendm (i := 0) rfl (e_lendr rfl e_lend0)) hp5 rfl) hc6) e_argB0 rfl)) (e_lendm (i := 0) rfl (e_lendr rfl e_lend0)) hp7 rfl)) (e_argBv e_C e_argB0 rfl) rfl)) (e_lendm (i := 0) rfl (e_lendr rfl (e_lendr rfl e_lend0))) hp8 rfl) rfl rfl) rfl))))) fun _ => rfl) (js_nx rfl))) fun s10 =>
    (js_seq (E := fun (s11 : (List Nat)) => [.mu true (.lst [.d (e_Li s10.1.1), .d (D.int s10.1.2)]), .mu true (O.l (List.map D.str taken')), .shr (D.str s11), .un]) (js_forL (e := D.int) (xs := (rng 9)) (E := fun (s11 : (List Nat)) => [.mu true (.lst [.d (e_Li s10.1.1), .d (D.int s10.1.2)]), .mu true (O.l (List.map D.str taken')), .shr (D.str s11), .un]) (fun s11 x12 => [.mu true (.lst [.d (e_Li s10.1.1), .d (D.int s10.1.2)]), .mu true (O.l (List.map D.str taken')), .shr (D.str s11), .shr (D.int x12)]) (e_rg1 e_C (by decide)) rfl (fun _ _ => rfl) (fun s11 x12 =>
    (js_last (E1 := fun (s16 : (List Nat)) => [.mu true (.lst [.d (e_Li s10.1.1), .d (D.int s10.1.2)]), .mu true (O.l (List.map D.str taken')), .shr (D.str s16), .un]) (js_if (e_test (e_in (e_nm_s rfl) (e_nm_m rfl) rfl (isInL_s (R.pl_pk _)))) (js_last (E1 := fun (s15 : (List Nat)) => [.mu true (.lst [.d (e_Li s10.1.1), .d (D.int s10.1.2)]), .mu true (O.l (List.map D.str taken')), .shr (D.str s15), .un]) (js_req fun hc13 => (js_req fun hc14 => (js_st (E := fun (s15 : (List Nat)) => [.mu true (.lst [.d (e_Li s10.1.1), .d (D.int s10.1.2)]), .mu true (O.l (List.map D.str taken')), .shr (D.str s15), .un]) (st_kl (st_set (e_addS (e_sl01 (e_nm_s rfl) e_C rfl lSl_S) (e_ixS e_C (e_nm_s rfl) hc13) hc14) rfl rfl) (kl_eq rfl)) rfl))) fun _ => rfl) (js_kn (v := s11) (kl_eq rfl))) fun _ => rfl))) fun s11 =>
    (js_rt (e_mv_s rfl) rfl))))
noncomputable def t__law_bill (box' : ((List Int) × Int)) (most' : Int) : T ((List Item) × ((List Int) × Int)) :=
  T.bind (T.bind (t__law_draw box' most') fun p1 => T.ret (p1.2, (1 + p1.1))) fun s2 =>
    T.bind (T.ret ([] : (List (List Nat)))) fun s3 =>
    T.bind (T.req (-1000000 ≤ s2.2 ∧ s2.2 ≤ 1000000) (T.forL (fun (s5 : (((List Int) × Int) × (List (List Nat)))) (x6 : Int) =>
    T.bind (T.bind (t__law_name s5.1 s5.2) fun p7 => T.req (s5.2.length < 1000000) (T.ret (p7.2, (s5.2 ++ [p7.1])))) fun s9 => T.ret (s9.1, s9.2)) (rng s2.2) (s2.1, s3))) fun s5 =>
    T.bind (T.ret ([] : (List Int))) fun s10 =>
    T.bind (T.req (-1000000 ≤ s2.2 ∧ s2.2 ≤ 1000000) (T.forL (fun (s12 : (((List Int) × Int) × (List Int))) (x13 : Int) =>
    T.bind (T.bind (t__law_draw s12.1 ((s12.2.length : Int) + 1)) fun p14 => T.ret (p14.2, p14.1)) fun s15 =>
    T.bind (T.req ((cutA s12.2 none (some s15.2)).length + [x13].length ≤ 1000000) (T.req (((cutA s12.2 none (some s15.2)) ++ [x13]).length + (cutA s12.2 (some s15.2) none).length ≤ 1000000) (T.ret (((cutA s12.2 none (some s15.2)) ++ [x13]) ++ (cutA s12.2 (some s15.2) none))))) fun s18 => T.ret (s15.1, s18)) (rng s2.2) (s5.1, s10))) fun s12 =>
    T.bind (T.ret ([] : (List Item))) fun s19 =>
    T.bind (T.req (-1000000 ≤ s2.2 ∧ s2.2 ≤ 1000000) (T.forL (fun (s21 : (((List Int) × Int) × (List Item))) (x22 : Int) =>
    T.bind (T.req (x22 ∈ s12.2) (T.ret (cutA s12.2 none (some (idxI s12.2 x22))))) fun s24 =>
    T.bind (T.ret ([] : (List (Int × Int)))) fun s25 =>
    T.bind (T.bind (t__law_draw s21.1 5) fun p49 => T.req (-1000000 ≤ p49.1 ∧ p49.1 ≤ 1000000) (T.forL (fun (s51 : (((List Int) × Int) × (List (Int × Int)))) (x52 : Int) =>
    T.bind (if (decide (0 < (s24.length : Int))) = true then T.bind (T.bind (t__law_draw s51.1 3) fun p53 => T.ret (p53.2, (1 + p53.1))) fun s54 =>
    T.bind (T.bind (t__law_draw s54.1 9) fun p55 => if (decide (p55.1 = 0)) = true then T.bind (T.ret 20) fun s56 => T.ret (p55.2, s56) else T.ret (p55.2, s54.2)) fun s57 =>
    T.bind (T.bind (t__law_draw s57.1 (s24.length : Int)) fun p58 => T.req (0 ≤ p58.1 ∧ p58.1 < s24.length) (T.req (s51.2.length < 1000000) (T.ret (p58.2, (s51.2 ++ [((ix s24 p58.1), s57.2)]))))) fun s61 => T.ret (s61.1, s61.2) else T.ret (s51.1, s51.2)) fun s62 => T.ret (s62.1, s62.2)) (rng p49.1) (p49.2, s25))) fun s51 =>
    T.bind (T.bind (t__law_draw s51.1 5) fun p63 => T.bind (t__law_draw p63.2 11) fun p64 => T.bind (t__law_draw p64.2 5) fun p65 => T.req (0 ≤ (p65.1 / 4) ∧ (p65.1 / 4) < [p63.1, p64.1].length) (T.ret (p65.2, (ix [p63.1, p64.1] (p65.1 / 4))))) fun s67 =>
    T.bind (T.bind (t__law_draw s67.1 6) fun p68 => T.bind (t__law_draw p68.2 50) fun p69 => T.bind (t__law_draw p69.2 5) fun p70 => T.req (0 ≤ (p70.1 / 4) ∧ (p70.1 / 4) < [(1 + p68.1), (1 + p69.1)].length) (T.ret (p70.2, (ix [(1 + p68.1), (1 + p69.1)] (p70.1 / 4))))) fun s72 =>
    T.bind (T.req (0 ≤ x22 ∧ x22 < s5.2.length) (T.bind (t__law_draw s72.1 s72.2) fun p74 => T.req (s21.2.length < 1000000) (T.ret (p74.2, (s21.2 ++ [(Item.mk (ix s5.2 x22) s51.2 s67.2 s72.2 (1 + p74.1))]))))) fun s76 => T.ret (s76.1, s76.2)) (rng s2.2) (s12.1, s19))) fun s21 =>
    T.ret (s21.2, s21.1)
abbrev q__law_bill (box' : ((List Int) × Int)) (most' : Int) : ((List Item) × ((List Int) × Int)) → Prop := fun z => f__law_bill [.mu true (.lst [.d (e_Li box'.1), .d (D.int box'.2)]), .shr (D.int most')] = ((fun (z : ((List Item) × ((List Int) × Int))) => FRes.ok (.d (e_VItem z.1)) [.mu true (.lst [.d (e_Li z.2.1), .d (D.int z.2.2)]), .un] : ((List Item) × ((List Int) × Int)) → FRes)) z
theorem v__law_bill (box' : ((List Int) × Int)) (most' : Int) : J (t__law_bill box' most') (q__law_bill box' most') :=
  v_fn (as := [.mu true (.lst [.d (e_Li box'.1), .d (D.int box'.2)]), .shr (D.int most')]) (R' := fun (z : ((List Item) × ((List Int) × Int))) => FRes.ok (.d (e_VItem z.1)) [.mu true (.lst [.d (e_Li z.2.1), .d (D.int z.2.2)]), .un]) f__law_bill_eq rfl (js_seq (E := fun (s2 : (((List Int) × Int) × Int)) => [.mu true (.lst [.d (e_Li s2.1.1), .d (D.int s2.1.2)]), .un, .shr (D.int s2.2), .un, .un, .un, .un, .un, .un, .un, .un, .un, .un, .un]) (js_bind (v__law_draw box' most') fun p1 hp1 => (js_st (E := fun (s2 : (((List Int) × Int) × Int)) => [.mu true (.lst [.d (e_Li s2.1.1), .d (D.int s2.1.2)]), .un, .shr (D.int s2.2), .un, .un, .un, .un, .un, .un, .un, .un, .un, .un, .un]) (st_kl (st_set (e_addI e_C (e_call (e_argBb (i := 0) rfl (e_argBv (e_fz_s rfl) e_argB0 rfl)) (e_lendm (i := 0) rfl (e_lendr rfl e_lend0)) hp1 rfl)) rfl rfl) (kl_eq rfl)) rfl)) fun s2 =>
    (js_seq (E := fun (s3 : (List (List Nat))) => [.mu true (.lst [.d (e_Li s2.1.1), .d (D.int s2.1.2)]), .un, .shr (D.int s2.2), .mu false (O.l (List.map D.str s3)), .un, .un, .un, .un, .un, .un, .un, .un, .un, .un]) (js_st (E := fun (s3 : (List (List Nat))) => [.mu true (.lst [.d (e_Li s2.1.1), .d (D.int s2.1.2)]), .un, .shr (D.int s2.2), .mu false (O.l (List.map D.str s3)), .un, .un, .un, .un, .un, .un, .un, .un, .un, .un]) (st_set (e_cast (r' := .own (O.l (List.map D.str ([] : (List (List Nat)))))) (e_lst e_args0 e_sts0 (Nat.le_of_ble_eq_true rfl)) rfl) rfl rfl) rfl) fun s3 =>
    (js_seq (E := fun (s5 : (((List Int) × Int) × (List (List Nat)))) => [.mu true (.lst [.d (e_Li s5.1.1), .d (D.int s5.1.2)]), .un, .shr (D.int s2.2), .mu false (O.l (List.map D.str s5.2)), .un, .un, .un, .un, .un, .un, .un, .un, .un, .un]) (js_req fun hc4 => (js_forL (e := D.int) (xs := (rng s2.2)) (E := fun (s5 : (((List Int) × Int) × (List (List Nat)))) => [.mu true (.lst [.d (e_Li s5.1.1), .d (D.int s5.1.2)]), .un, .shr (D.int s2.2), .mu false (O.l (List.map D.str s5.2)), .un, .un, .un, .un, .un, .un, .un, .un, .un, .un]) (fun s5 x6 => [.mu true (.lst [.d (e_Li s5.1.1), .d (D.int s5.1.2)]), .un, .shr (D.int s2.2), .mu false (O.l (List.map D.str s5.2)), .shr (D.int x6), .un, .un, .un, .un, .un, .un, .un, .un, .un]) (e_rg1 (e_nm_s rfl) hc4) rfl (fun _ _ => rfl) (fun s5 x6 =>
    (js_last (E1 := fun (s9 : (((List Int) × Int) × (List (List Nat)))) => [.mu true (.lst [.d (e_Li s9.1.1), .d (D.int s9.1.2)]), .un, .shr (D.int s2.2), .mu false (O.l (List.map D.str s9.2)), .un, .un, .un, .un, .un, .un, .un, .un, .un, .un]) (js_bind (v__law_name s5.1 s5.2) fun p7 hp7 => (js_req fun hc8 => (js_st (E := fun (s9 : (((List Int) × Int) × (List (List Nat)))) => [.mu true (.lst [.d (e_Li s9.1.1), .d (D.int s9.1.2)]), .un, .shr (D.int s2.2), .mu false (O.l (List.map D.str s9.2)), .un, .un, .un, .un, .un, .un, .un, .un, .un, .un]) (st_kl (st_drop (e_app (e := D.str) (xs := s5.2) (z := p7.1) rfl (e_call (e_argBb (i := 0) rfl (e_argBb (i := 3) rfl e_argB0)) (e_lendm (i := 0) rfl (e_lendm (i := 3) rfl e_lend0)) hp7 rfl) rfl rfl hc8)) (kl_eq rfl)) rfl))) fun _ => rfl)))) fun s5 =>
    (js_seq (E := fun (s10 : (List Int)) => [.mu true (.lst [.d (e_Li s5.1.1), .d (D.int s5.1.2)]), .un, .shr (D.int s2.2), .mu false (O.l (List.map D.str s5.2)), .un, .mu false (O.l (List.map D.int s10)), .un, .un, .un, .un, .un, .un, .un, .un]) (js_st (E := fun (s10 : (List Int)) => [.mu true (.lst [.d (e_Li s5.1.1), .d (D.int s5.1.2)]), .un, .shr (D.int s2.2), .mu false (O.l (List.map D.str s5.2)), .un, .mu false (O.l (List.map D.int s10)), .un, .un, .un, .un, .un, .un, .un, .un]) (st_set (e_cast (r' := .own (O.l (List.map D.int ([] : (List Int))))) (e_lst e_args0 e_sts0 (Nat.le_of_ble_eq_true rfl)) rfl) rfl rfl) rfl) fun s10 =>
    (js_seq (E := fun (s12 : (((List Int) × Int) × (List Int))) => [.mu true (.lst [.d (e_Li s12.1.1), .d (D.int s12.1.2)]), .un, .shr (D.int s2.2), .mu false (O.l (List.map D.str s5.2)), .un, .mu false (O.l (List.map D.int s12.2)), .un, .un, .un, .un, .un, .un, .un, .un]) (js_req fun hc11 => (js_forL (e := D.int) (xs := (rng s2.2)) (E := fun (s12 : (((List Int) × Int) × (List Int))) => [.mu true (.lst [.d (e_Li s12.1.1), .d (D.int s12.1.2)]), .un, .shr (D.int s2.2), .mu false (O.l (List.map D.str s5.2)), .un, .mu false (O.l (List.map D.int s12.2)), .un, .un, .un, .un, .un, .un, .un, .un]) (fun s12 x13 => [.mu true (.lst [.d (e_Li s12.1.1), .d (D.int s12.1.2)]), .un, .shr (D.int s2.2), .mu false (O.l (List.map D.str s5.2)), .shr (D.int x13), .mu false (O.l (List.map D.int s12.2)), .un, .un, .un, .un, .un, .un, .un, .un]) (e_rg1 (e_nm_s rfl) hc11) rfl (fun _ _ => rfl) (fun s12 x13 =>
    (js_seq (E := fun (s15 : (((List Int) × Int) × Int)) => [.mu true (.lst [.d (e_Li s15.1.1), .d (D.int s15.1.2)]), .un, .shr (D.int s2.2), .mu false (O.l (List.map D.str s5.2)), .shr (D.int x13), .mu false (O.l (List.map D.int s12.2)), .shr (D.int s15.2), .un, .un, .un, .un, .un, .un, .un]) (js_bind (v__law_draw s12.1 ((s12.2.length : Int) + 1)) fun p14 hp14 => (js_st (E := fun (s15 : (((List Int) × Int) × Int)) => [.mu true (.lst [.d (e_Li s15.1.1), .d (D.int s15.1.2)]), .un, .shr (D.int s2.2), .mu false (O.l (List.map D.str s5.2)), .shr (D.int x13), .mu false (O.l (List.map D.int s12.2)), .shr (D.int s15.2), .un, .un, .un, .un, .un, .un, .un]) (st_set (e_call (e_argBb (i := 0) rfl (e_argBv (e_addI (e_lenP (e := D.int) (xs := s12.2) (e_nm_m rfl)) e_C) e_argB0 rfl)) (e_lendm (i := 0) rfl (e_lendr rfl e_lend0)) hp14 rfl) rfl rfl) rfl)) fun s15 =>
    (js_last (E1 := fun (s18 : (List Int)) => [.mu true (.lst [.d (e_Li s15.1.1), .d (D.int s15.1.2)]), .un, .shr (D.int s2.2), .mu false (O.l (List.map D.str s5.2)), .un, .mu false (O.l (List.map D.int s18)), .un, .un, .un, .un, .un, .un, .un, .un]) (js_req fun hc16 => (js_req fun hc17 => (js_st (E := fun (s18 : (List Int)) => [.mu true (.lst [.d (e_Li s15.1.1), .d (D.int s15.1.2)]), .un, .shr (D.int s2.2), .mu false (O.l (List.map D.str s5.2)), .un, .mu false (O.l (List.map D.int s18)), .un, .un, .un, .un, .un, .un, .un, .un]) (st_kl (st_set (e_addL (e := D.int) (xs := ((cutA s12.2 none (some s15.2)) ++ [x13])) (ys := (cutA s12.2 (some s15.2) none)) (e_addL (e := D.int) (xs := (cutA s12.2 none (some s15.2))) (ys := [x13]) (e_sl01 (e_nm_m rfl) (e_nm_s rfl) rfl (lSl_L (e := D.int) (xs := s12.2) (R.pl_pk _))) (e_cast (r' := .own (O.l (List.map D.int [x13]))) (e_lst (e_args (e_fz_s rfl) e_args0 rfl) (e_sts rfl e_sts0) (Nat.le_of_ble_eq_true rfl)) rfl) rfl (R.pl_own _) (R.pl_own _) hc16) (e_sl10 (e_nm_m rfl) (e_nm_s rfl) rfl (lSl_L (e := D.int) (xs := s12.2) (R.pl_pk _))) rfl (R.pl_own _) (R.pl_own _) hc17) rfl rfl) (kl_eq rfl)) rfl))) fun _ => rfl))))) fun s12 =>
    (js_seq (E := fun (s19 : (List Item)) => [.mu true (.lst [.d (e_Li s12.1.1), .d (D.int s12.1.2)]), .un, .shr (D.int s2.2), .mu false (O.l (List.map D.str s5.2)), .un, .mu false (O.l (List.map D.int s12.2)), .un, .mu false (O.l (List.map e_Item s19)), .un, .un, .un, .un, .un, .un]) (js_st (E := fun (s19 : (List Item)) => [.mu true (.lst [.d (e_Li s12.1.1), .d (D.int s12.1.2)]), .un, .shr (D.int s2.2), .mu false (O.l (List.map D.str s5.2)), .un, .mu false (O.l (List.map D.int s12.2)), .un, .mu false (O.l (List.map e_Item s19)), .un, .un, .un, .un, .un, .un]) (st_set (e_cast (r' := .own (O.l (List.map e_Item ([] : (List Item))))) (e_lst e_args0 e_sts0 (Nat.le_of_ble_eq_true rfl)) rfl) rfl rfl) rfl) fun s19 =>
    (js_seq (E := fun (s21 : (((List Int) × Int) × (List Item))) => [.mu true (.lst [.d (e_Li s21.1.1), .d (D.int s21.1.2)]), .un, .un, .un, .un, .un, .un, .mu false (O.l (List.map e_Item s21.2)), .un, .un, .un, .un, .un, .un]) (js_klN (E := fun (s21 : (((List Int) × Int) × (List Item))) => [.mu true (.lst [.d (e_Li s21.1.1), .d (D.int s21.1.2)]), .un, .shr (D.int s2.2), .mu false (O.l (List.map D.str s5.2)), .un, .mu false (O.l (List.map D.int s12.2)), .un, .mu false (O.l (List.map e_Item s21.2)), .un, .un, .un, .un, .un, .un]) (js_req fun hc20 => (js_forL (e := D.int) (xs := (rng s2.2)) (E := fun (s21 : (((List Int) × Int) × (List Item))) => [.mu true (.lst [.d (e_Li s21.1.1), .d (D.int s21.1.2)]), .un, .shr (D.int s2.2), .mu false (O.l (List.map D.str s5.2)), .un, .mu false (O.l (List.map D.int s12.2)), .un, .mu false (O.l (List.map e_Item s21.2)), .un, .un, .un, .un, .un, .un]) (fun s21 x22 => [.mu true (.lst [.d (e_Li s21.1.1), .d (D.int s21.1.2)]), .un, .shr (D.int s2.2), .mu false (O.l (List.map D.str s5.2)), .shr (D.int x22), .mu false (O.l (List.map D.int s12.2)), .un, .mu false (O.l (List.map e_Item s21.2)), .un, .un, .un, .un, .un, .un]) (e_rg1 (e_nm_s rfl) hc20) rfl (fun _ _ => rfl) (fun s21 x22 =>
    (js_seq (E := fun (s24 : (List Int)) => [.mu true (.lst [.d (e_Li s21.1.1), .d (D.int s21.1.2)]), .un, .shr (D.int s2.2), .mu false (O.l (List.map D.str s5.2)), .shr (D.int x22), .mu false (O.l (List.map D.int s12.2)), .un, .mu false (O.l (List.map e_Item s21.2)), .mu false (O.l (List.map D.int s24)), .un, .un, .un, .un, .un]) (js_req fun hc23 => (js_st (E := fun (s24 : (List Int)) => [.mu true (.lst [.d (e_Li s21.1.1), .d (D.int s21.1.2)]), .un, .shr (D.int s2.2), .mu false (O.l (List.map D.str s5.2)), .shr (D.int x22), .mu false (O.l (List.map D.int s12.2)), .un, .mu false (O.l (List.map e_Item s21.2)), .mu false (O.l (List.map D.int s24)), .un, .un, .un, .un, .un]) (st_set (e_sl01 (e_nm_m rfl) (e_index (e_nm_m rfl) (e_nm_s rfl) rfl (R.pl_pk _) hc23) rfl (lSl_L (e := D.int) (xs := s12.2) (R.pl_pk _))) rfl rfl) rfl)) fun s24 =>
    (js_seq (E := fun (s25 : (List (Int × Int))) => [.mu true (.lst [.d (e_Li s21.1.1), .d (D.int s21.1.2)]), .un, .shr (D.int s2.2), .mu false (O.l (List.map D.str s5.2)), .shr (D.int x22), .mu false (O.l (List.map D.int s12.2)), .un, .mu false (O.l (List.map e_Item s21.2)), .mu false (O.l (List.map D.int s24)), .mu false (O.l (List.map e_T2ii s25)), .un, .un, .un, .un]) (js_st (E := fun (s25 : (List (Int × Int))) => [.mu true (.lst [.d (e_Li s21.1.1), .d (D.int s21.1.2)]), .un, .shr (D.int s2.2), .mu false (O.l (List.map D.str s5.2)), .shr (D.int x22), .mu false (O.l (List.map D.int s12.2)), .un, .mu false (O.l (List.map e_Item s21.2)), .mu false (O.l (List.map D.int s24)), .mu false (O.l (List.map e_T2ii s25)), .un, .un, .un, .un]) (st_set (e_cast (r' := .own (O.l (List.map e_T2ii ([] : (List (Int × Int)))))) (e_lst e_args0 e_sts0 (Nat.le_of_ble_eq_true rfl)) rfl) rfl rfl) rfl) fun s25 =>
    (js_fz rfl rfl (js_seq (E := fun (s51 : (((List Int) × Int) × (List (Int × Int)))) => [.mu true (.lst [.d (e_Li s51.1.1), .d (D.int s51.1.2)]), .un, .shr (D.int s2.2), .mu false (O.l (List.map D.str s5.2)), .shr (D.int x22), .mu false (O.l (List.map D.int s12.2)), .un, .mu false (O.l (List.map e_Item s21.2)), .un, .mu false (O.l (List.map e_T2ii s51.2)), .un, .un, .un, .un]) (js_klN (E := fun (s51 : (((List Int) × Int) × (List (Int × Int)))) => [.mu true (.lst [.d (e_Li s51.1.1), .d (D.int s51.1.2)]), .un, .shr (D.int s2.2), .mu false (O.l (List.map D.str s5.2)), .shr (D.int x22), .mu false (O.l (List.map D.int s12.2)), .un, .mu false (O.l (List.map e_Item s21.2)), .shr (e_Li s24), .mu false (O.l (List.map e_T2ii s51.2)), .un, .un, .un, .un]) (js_bind (v__law_draw s21.1 5) fun p49 hp49 => (js_req fun hc50 => (js_forL (e := D.int) (xs := (rng p49.1)) (E := fun (s51 : (((List Int) × Int) × (List (Int × Int)))) => [.mu true (.lst [.d (e_Li s51.1.1), .d (D.int s51.1.2)]), .un, .shr (D.int s2.2), .mu false (O.l (List.map D.str s5.2)), .shr (D.int x22), .mu false (O.l (List.map D.int s12.2)), .un, .mu false (O.l (List.map e_Item s21.2)), .shr (e_Li s24), .mu false (O.l (List.map e_T2ii s51.2)), .un, .un, .un, .un]) (fun s51 x52 => [.mu true (.lst [.d (e_Li s51.1.1), .d (D.int s51.1.2)]), .un, .shr (D.int s2.2), .mu false (O.l (List.map D.str s5.2)), .shr (D.int x22), .mu false (O.l (List.map D.int s12.2)), .un, .mu false (O.l (List.map e_Item s21.2)), .shr (e_Li s24), .mu false (O.l (List.map e_T2ii s51.2)), .shr (D.int x52), .un, .un, .un]) (e_rg1 (e_call (e_argBb (i := 0) rfl (e_argBv e_C e_argB0 rfl)) (e_lendm (i := 0) rfl (e_lendr rfl e_lend0)) hp49 rfl) hc50) rfl (fun _ _ => rfl) (fun s51 x52 =>
    (js_last (E1 := fun (s62 : (((List Int) × Int) × (List (Int × Int)))) => [.mu true (.lst [.d (e_Li s62.1.1), .d (D.int s62.1.2)]), .un, .shr (D.int s2.2), .mu false (O.l (List.map D.str s5.2)), .shr (D.int x22), .mu false (O.l (List.map D.int s12.2)), .un, .mu false (O.l (List.map e_Item s21.2)), .shr (e_Li s24), .mu false (O.l (List.map e_T2ii s62.2)), .un, .un, .un, .un]) (js_if (e_test (e_gt (e_lenL (e := D.int) (xs := s24) (e_nm_s rfl)) e_C)) (js_seq (E := fun (s54 : (((List Int) × Int) × Int)) => [.mu true (.lst [.d (e_Li s54.1.1), .d (D.int s54.1.2)]), .un, .shr (D.int s2.2), .mu false (O.l (List.map D.str s5.2)), .shr (D.int x22), .mu false (O.l (List.map D.int s12.2)), .un, .mu false (O.l (List.map e_Item s21.2)), .shr (e_Li s24), .mu false (O.l (List.map e_T2ii s51.2)), .un, .shr (D.int s54.2), .un, .un]) (js_bind (v__law_draw s51.1 3) fun p53 hp53 => (js_st (E := fun (s54 : (((List Int) × Int) × Int)) => [.mu true (.lst [.d (e_Li s54.1.1), .d (D.int s54.1.2)]), .un, .shr (D.int s2.2), .mu false (O.l (List.map D.str s5.2)), .shr (D.int x22), .mu false (O.l (List.map D.int s12.2)), .un, .mu false (O.l (List.map e_Item s21.2)), .shr (e_Li s24), .mu false (O.l (List.map e_T2ii s51.2)), .un, .shr (D.int s54.2), .un, .un]) (st_kl (st_set (e_addI e_C (e_call (e_argBb (i := 0) rfl (e_argBv e_C e_argB0 rfl)) (e_lendm (i := 0) rfl (e_lendr rfl e_lend0)) hp53 rfl)) rfl rfl) (kl_eq rfl)) rfl)) fun s54 =>
    (js_seq (E := fun (s57 : (((List Int) × Int) × Int)) => [.mu true (.lst [.d (e_Li s57.1.1), .d (D.int s57.1.2)]), .un, .shr (D.int s2.2), .mu false (O.l (List.map D.str s5.2)), .shr (D.int x22), .mu false (O.l (List.map D.int s12.2)), .un, .mu false (O.l (List.map e_Item s21.2)), .shr (e_Li s24), .mu false (O.l (List.map e_T2ii s51.2)), .un, .shr (D.int s57.2), .un, .un]) (js_bind (v__law_draw s54.1 9) fun p55 hp55 => (js_if (e_test (e_eqI (e_call (e_argBb (i := 0) rfl (e_argBv e_C e_argB0 rfl)) (e_lendm (i := 0) rfl (e_lendr rfl e_lend0)) hp55 rfl) e_C)) (js_last (E1 := fun (s56 : Int) => [.mu true (.lst [.d (e_Li p55.2.1), .d (D.int p55.2.2)]), .un, .shr (D.int s2.2), .mu false (O.l (List.map D.str s5.2)), .shr (D.int x22), .mu false (O.l (List.map D.int s12.2)), .un, .mu false (O.l (List.map e_Item s21.2)), .shr (e_Li s24), .mu false (O.l (List.map e_T2ii s51.2)), .un, .shr (D.int s56), .un, .un]) (js_st (E := fun (s56 : Int) => [.mu true (.lst [.d (e_Li p55.2.1), .d (D.int p55.2.2)]), .un, .shr (D.int s2.2), .mu false (O.l (List.map D.str s5.2)), .shr (D.int x22), .mu false (O.l (List.map D.int s12.2)), .un, .mu false (O.l (List.map e_Item s21.2)), .shr (e_Li s24), .mu false (O.l (List.map e_T2ii s51.2)), .un, .shr (D.int s56), .un, .un]) (st_set e_C rfl rfl) rfl) fun _ => rfl) (js_nx rfl))) fun s57 =>
    (js_last (E1 := fun (s61 : (((List Int) × Int) × (List (Int × Int)))) => [.mu true (.lst [.d (e_Li s61.1.1), .d (D.int s61.1.2)]), .un, .shr (D.int s2.2), .mu false (O.l (List.map D.str s5.2)), .shr (D.int x22), .mu false (O.l (List.map D.int s12.2)), .un, .mu false (O.l (List.map e_Item s21.2)), .shr (e_Li s24), .mu false (O.l (List.map e_T2ii s61.2)), .un, .un, .un, .un]) (js_bind (v__law_draw s57.1 (s24.length : Int)) fun p58 hp58 => (js_req fun hc59 => (js_req fun hc60 => (js_st (E := fun (s61 : (((List Int) × Int) × (List (Int × Int)))) => [.mu true (.lst [.d (e_Li s61.1.1), .d (D.int s61.1.2)]), .un, .shr (D.int s2.2), .mu false (O.l (List.map D.str s5.2)), .shr (D.int x22), .mu false (O.l (List.map D.int s12.2)), .un, .mu false (O.l (List.map e_Item s21.2)), .shr (e_Li s24), .mu false (O.l (List.map e_T2ii s61.2)), .un, .un, .un, .un]) (st_kl (st_drop (e_app (e := e_T2ii) (xs := s51.2) (z := ((ix s24 p58.1), s57.2)) rfl (e_cast (r' := .d (e_T2ii ((ix s24 p58.1), s57.2))) (e_tup (e_args (e_ixL (e := D.int) (xs := s24) (e_fz_s rfl) (e_call (e_argBb (i := 0) rfl (e_argBv (e_lenL (e := D.int) (xs := s24) (e_nm_s rfl)) e_argB0 rfl)) (e_lendm (i := 0) rfl (e_lendr rfl e_lend0)) hp58 rfl) hc59) (e_args (e_fz_s rfl) e_args0 rfl) rfl) (e_sts rfl (e_sts rfl e_sts0)) (Nat.le_of_ble_eq_true rfl)) rfl) rfl rfl hc60)) (kl_eq rfl)) rfl)))) fun _ => rfl))) (js_kn (v := (s51.1, s51.2)) (kl_eq rfl))) fun _ => rfl))))) (fun _ => kl_eq rfl)) fun s51 =>
    (js_seq (E := fun (s67 : (((List Int) × Int) × Int)) => [.mu true (.lst [.d (e_Li s67.1.1), .d (D.int s67.1.2)]), .un, .shr (D.int s2.2), .mu false (O.l (List.map D.str s5.2)), .shr (D.int x22), .mu false (O.l (List.map D.int s12.2)), .un, .mu false (O.l (List.map e_Item s21.2)), .un, .mu false (O.l (List.map e_T2ii s51.2)), .un, .un, .shr (D.int s67.2), .un]) (js_bind (v__law_draw s51.1 5) fun p63 hp63 => (js_bind (v__law_draw p63.2 11) fun p64 hp64 => (js_bind (v__law_draw p64.2 5) fun p65 hp65 => (js_req fun hc66 => (js_st (E := fun (s67 : (((List Int) × Int) × Int)) => [.mu true (.lst [.d (e_Li s67.1.1), .d (D.int s67.1.2)]), .un, .shr (D.int s2.2), .mu false (O.l (List.map D.str s5.2)), .shr (D.int x22), .mu false (O.l (List.map D.int s12.2)), .un, .mu false (O.l (List.map e_Item s21.2)), .un, .mu false (O.l (List.map e_T2ii s51.2)), .un, .un, .shr (D.int s67.2), .un]) (st_set (e_ixO (e := D.int) (xs := [p63.1, p64.1]) (e_cast (r' := .own (O.l (List.map D.int [p63.1, p64.1]))) (e_lst (e_args (e_call (e_argBb (i := 0) rfl (e_argBv e_C e_argB0 rfl)) (e_lendm (i := 0) rfl (e_lendr rfl e_lend0)) hp63 rfl) (e_args (e_call (e_argBb (i := 0) rfl (e_argBv e_C e_argB0 rfl)) (e_lendm (i := 0) rfl (e_lendr rfl e_lend0)) hp64 rfl) e_args0 rfl) rfl) (e_sts rfl (e_sts rfl e_sts0)) (Nat.le_of_ble_eq_true rfl)) rfl) (e_divI (e_call (e_argBb (i := 0) rfl (e_argBv e_C e_argB0 rfl)) (e_lendm (i := 0) rfl (e_lendr rfl e_lend0)) hp65 rfl) e_C (by decide)) hc66) rfl rfl) rfl))))) fun s67 =>
    (js_seq (E := fun (s72 : (((List Int) × Int) × Int)) => [.mu true (.lst [.d (e_Li s72.1.1), .d (D.int s72.1.2)]), .un, .shr (D.int s2.2), .mu false (O.l (List.map D.str s5.2)), .shr (D.int x22), .mu false (O.l (List.map D.int s12.2)), .un, .mu false (O.l (List.map e_Item s21.2)), .un, .mu false (O.l (List.map e_T2ii s51.2)), .un, .un, .shr (D.int s67.2), .shr (D.int s72.2)]) (js_bind (v__law_draw s67.1 6) fun p68 hp68 => (js_bind (v__law_draw p68.2 50) fun p69 hp69 => (js_bind (v__law_draw p69.2 5) fun p70 hp70 => (js_req fun hc71 => (js_st (E := fun (s72 : (((List Int) × Int) × Int)) => [.mu true (.lst [.d (e_Li s72.1.1), .d (D.int s72.1.2)]), .un, .shr (D.int s2.2), .mu false (O.l (List.map D.str s5.2)), .shr (D.int x22), .mu false (O.l (List.map D.int s12.2)), .un, .mu false (O.l (List.map e_Item s21.2)), .un, .mu false (O.l (List.map e_T2ii s51.2)), .un, .un, .shr (D.int s67.2), .shr (D.int s72.2)]) (st_set (e_ixO (e := D.int) (xs := [(1 + p68.1), (1 + p69.1)]) (e_cast (r' := .own (O.l (List.map D.int [(1 + p68.1), (1 + p69.1)]))) (e_lst (e_args (e_addI e_C (e_call (e_argBb (i := 0) rfl (e_argBv e_C e_argB0 rfl)) (e_lendm (i := 0) rfl (e_lendr rfl e_lend0)) hp68 rfl)) (e_args (e_addI e_C (e_call (e_argBb (i := 0) rfl (e_argBv e_C e_argB0 rfl)) (e_lendm (i := 0) rfl (e_lendr rfl e_lend0)) hp69 rfl)) e_args0 rfl) rfl) (e_sts rfl (e_sts rfl e_sts0)) (Nat.le_of_ble_eq_true rfl)) rfl) (e_divI (e_call (e_argBb (i := 0) rfl (e_argBv e_C e_argB0 rfl)) (e_lendm (i := 0) rfl (e_lendr rfl e_lend0)) hp70 rfl) e_C (by decide)) hc71) rfl rfl) rfl))))) fun s72 =>
    (js_last (E1 := fun (s76 : (((List Int) × Int) × (List Item))) => [.mu true (.lst [.d (e_Li s76.1.1), .d (D.int s76.1.2)]), .un, .shr (D.int s2.2), .mu false (O.l (List.map D.str s5.2)), .un, .mu false (O.l (List.map D.int s12.2)), .un, .mu false (O.l (List.map e_Item s76.2)), .un, .un, .un, .un, .un, .un]) (js_req fun hc73 => (js_bind (v__law_draw s72.1 s72.2) fun p74 hp74 => (js_req fun hc75 => (js_st (E := fun (s76 : (((List Int) × Int) × (List Item))) => [.mu true (.lst [.d (e_Li s76.1.1), .d (D.int s76.1.2)]), .un, .shr (D.int s2.2), .mu false (O.l (List.map D.str s5.2)), .un, .mu false (O.l (List.map D.int s12.2)), .un, .mu false (O.l (List.map e_Item s76.2)), .un, .un, .un, .un, .un, .un]) (st_kl (st_drop (e_app (e := e_Item) (xs := s21.2) (z := (Item.mk (ix s5.2 x22) s51.2 s67.2 s72.2 (1 + p74.1))) rfl (e_cast (r' := .d (e_Item (Item.mk (ix s5.2 x22) s51.2 s67.2 s72.2 (1 + p74.1)))) (e_tup (e_args (e_ixP (e := D.str) (xs := s5.2) (e_nm_m rfl) (e_nm_s rfl) rfl hc73) (e_args (e_tupL (e := e_T2ii) (xs := s51.2) (e_nm_m rfl) (R.pl_pk _)) (e_args (e_fz_s rfl) (e_args (e_fz_s rfl) (e_args (e_addI e_C (e_call (e_argBb (i := 0) rfl (e_argBv (e_fz_s rfl) e_argB0 rfl)) (e_lendm (i := 0) rfl (e_lendr rfl e_lend0)) hp74 rfl)) e_args0 rfl) rfl) rfl) rfl) rfl) (e_sts rfl (e_sts rfl (e_sts rfl (e_sts rfl (e_sts rfl e_sts0))))) (Nat.le_of_ble_eq_true rfl)) rfl) rfl rfl hc75)) (kl_eq rfl)) rfl)))) fun _ => rfl)))))))))) (fun _ => kl_eq rfl)) fun s21 =>
    (js_rt (e_tupL (e := e_Item) (xs := s21.2) (e_nm_m rfl) (R.pl_pk _)) rfl))))))))
noncomputable def t__write_part (bill' : (List Item)) (part' : (Int × Int)) : T (List Nat) :=
  T.bind (T.req (0 ≤ part'.1 ∧ part'.1 < bill'.length) (T.ret ((ix bill' part'.1).name))) fun s2 =>
    if (decide (part'.2 = 1)) = true then T.ret s2 else
    T.req (part'.2.natAbs ≤ 1000000000000000000) (T.req ((iCs part'.2).length + [32].length ≤ 1000000) (T.req (((iCs part'.2) ++ [32]).length + s2.length ≤ 1000000) (T.ret (((iCs part'.2) ++ [32]) ++ s2))))
abbrev q__write_part (bill' : (List Item)) (part' : (Int × Int)) : (List Nat) → Prop := fun z => f__write_part [.shr (e_VItem bill'), .shr (e_T2ii part')] = ((fun (z : (List Nat)) => FRes.ok (.d (D.str z)) [.un, .un] : (List Nat) → FRes)) z
theorem v__write_part (bill' : (List Item)) (part' : (Int × Int)) : J (t__write_part bill' part') (q__write_part bill' part') :=
  v_fn (as := [.shr (e_VItem bill'), .shr (e_T2ii part')]) (R' := fun (z : (List Nat)) => FRes.ok (.d (D.str z)) [.un, .un]) f__write_part_eq rfl (js_seq (E := fun (s2 : (List Nat)) => [.un, .shr (e_T2ii part'), .shr (D.str s2)]) (js_req fun hc1 => (js_st (E := fun (s2 : (List Nat)) => [.un, .shr (e_T2ii part'), .shr (D.str s2)]) (st_kl (st_set (e_tF 0 (e_ixT (e := e_Item) (xs := bill') (e_nm_s rfl) (e_tF 0 (e_nm_s rfl) rfl rfl) hc1) rfl rfl) rfl rfl) (kl_eq rfl)) rfl)) fun s2 =>
    (js_ifr (e_test (e_eqI (e_tF 1 (e_nm_s rfl) rfl rfl) e_C)) (js_rtS (e_mv_s rfl) rfl)
    (js_req fun hc3 => (js_req fun hc4 => (js_req fun hc5 => (js_rt (e_addS (e_addS (e_strI (e_tF 1 (e_nm_s rfl) rfl rfl) hc3) e_C hc4) (e_nm_s rfl) hc5) rfl))))))
noncomputable def t_write_bill (bill' : (List Item)) : T (List Nat) :=
  T.bind (T.ret ([] : (List (List Nat)))) fun s1 =>
    T.bind (T.forL (fun (s2 : (List (List Nat))) (x3 : Item) =>
    T.bind (T.req (x3.parts.length ≤ 1000000) (T.req ((T.lcP (fun (x4 : (Int × Int)) => T.ret true) (fun x4 => T.bind (t__write_part bill' x4) fun p6 => T.ret p6) x3.parts).ok) (T.req (joinOk [44, 32] ((T.lcP (fun (x4 : (Int × Int)) => T.ret true) (fun x4 => T.bind (t__write_part bill' x4) fun p6 => T.ret p6) x3.parts).val) = true) (T.ret (joinL [44, 32] ((T.lcP (fun (x4 : (Int × Int)) => T.ret true) (fun x4 => T.bind (t__write_part bill' x4) fun p6 => T.ret p6) x3.parts).val)))))) fun s10 =>
    T.bind (T.req (([] : List Nat).length + x3.name.length ≤ 1000000) (T.req ((([] : List Nat) ++ x3.name).length + [58, 32].length ≤ 1000000) (T.req (((([] : List Nat) ++ x3.name) ++ [58, 32]).length + s10.length ≤ 1000000) (T.req ((((([] : List Nat) ++ x3.name) ++ [58, 32]) ++ s10).length + [59, 32].length ≤ 1000000) (T.req (x3.lead.natAbs ≤ 1000000000000000000) (T.req (((((([] : List Nat) ++ x3.name) ++ [58, 32]) ++ s10) ++ [59, 32]).length + (iCs x3.lead).length ≤ 1000000) (T.req ((((((([] : List Nat) ++ x3.name) ++ [58, 32]) ++ s10) ++ [59, 32]) ++ (iCs x3.lead)).length + [32, 100, 97, 121, 115, 59, 32].length ≤ 1000000) (T.req (x3.lot.natAbs ≤ 1000000000000000000) (T.req (((((((([] : List Nat) ++ x3.name) ++ [58, 32]) ++ s10) ++ [59, 32]) ++ (iCs x3.lead)) ++ [32, 100, 97, 121, 115, 59, 32]).length + (iCs x3.lot).length ≤ 1000000) (T.req ((((((((([] : List Nat) ++ x3.name) ++ [58, 32]) ++ s10) ++ [59, 32]) ++ (iCs x3.lead)) ++ [32, 100, 97, 121, 115, 59, 32]) ++ (iCs x3.lot)).length + [32, 121, 105, 101, 108, 100, 115, 32].length ≤ 1000000) (T.req (x3.good.natAbs ≤ 1000000000000000000) (T.req (((((((((([] : List Nat) ++ x3.name) ++ [58, 32]) ++ s10) ++ [59, 32]) ++ (iCs x3.lead)) ++ [32, 100, 97, 121, 115, 59, 32]) ++ (iCs x3.lot)) ++ [32, 121, 105, 101, 108, 100, 115, 32]).length + (iCs x3.good).length ≤ 1000000) (T.req ((((((((((([] : List Nat) ++ x3.name) ++ [58, 32]) ++ s10) ++ [59, 32]) ++ (iCs x3.lead)) ++ [32, 100, 97, 121, 115, 59, 32]) ++ (iCs x3.lot)) ++ [32, 121, 105, 101, 108, 100, 115, 32]) ++ (iCs x3.good)).length + [10].length ≤ 1000000) (T.req (s2.length < 1000000) (T.ret (s2 ++ [((((((((((([] : List Nat) ++ x3.name) ++ [58, 32]) ++ s10) ++ [59, 32]) ++ (iCs x3.lead)) ++ [32, 100, 97, 121, 115, 59, 32]) ++ (iCs x3.lot)) ++ [32, 121, 105, 101, 108, 100, 115, 32]) ++ (iCs x3.good)) ++ [10])])))))))))))))))) fun s25 => T.ret s25) bill' s1) fun s2 =>
    T.req (joinOk [] s2 = true) (T.ret (joinL [] s2))
abbrev q_write_bill (bill' : (List Item)) : (List Nat) → Prop := fun z => f_write_bill [.shr (e_VItem bill')] = ((fun (z : (List Nat)) => FRes.ok (.d (D.str z)) [.un] : (List Nat) → FRes)) z
theorem v_write_bill (bill' : (List Item)) : J (t_write_bill bill') (q_write_bill bill') :=
  v_fn (as := [.shr (e_VItem bill')]) (R' := fun (z : (List Nat)) => FRes.ok (.d (D.str z)) [.un]) f_write_bill_eq rfl (js_seq (E := fun (s1 : (List (List Nat))) => [.shr (e_VItem bill'), .mu false (O.l (List.map D.str s1)), .un, .un, .un, .un, .un, .un, .un]) (js_st (E := fun (s1 : (List (List Nat))) => [.shr (e_VItem bill'), .mu false (O.l (List.map D.str s1)), .un, .un, .un, .un, .un, .un, .un]) (st_set (e_cast (r' := .own (O.l (List.map D.str ([] : (List (List Nat)))))) (e_lst e_args0 e_sts0 (Nat.le_of_ble_eq_true rfl)) rfl) rfl rfl) rfl) fun s1 =>
    (js_seq (E := fun (s2 : (List (List Nat))) => [.un, .mu false (O.l (List.map D.str s2)), .un, .un, .un, .un, .un, .un, .un]) (js_klN (E := fun (s2 : (List (List Nat))) => [.shr (e_VItem bill'), .mu false (O.l (List.map D.str s2)), .un, .un, .un, .un, .un, .un, .un]) (js_forL (e := e_Item) (xs := bill') (E := fun (s2 : (List (List Nat))) => [.shr (e_VItem bill'), .mu false (O.l (List.map D.str s2)), .un, .un, .un, .un, .un, .un, .un]) (fun s2 x3 => [.shr (e_VItem bill'), .mu false (O.l (List.map D.str s2)), .shr (D.str x3.name), .shr (e_VT2ii x3.parts), .shr (D.int x3.lead), .shr (D.int x3.lot), .shr (D.int x3.good), .un, .un]) (e_it (e_fz_s rfl) rfl) rfl (fun _ _ => rfl) (fun s2 x3 =>
    (js_seq (E := fun (s10 : (List Nat)) => [.shr (e_VItem bill'), .mu false (O.l (List.map D.str s2)), .shr (D.str x3.name), .un, .shr (D.int x3.lead), .shr (D.int x3.lot), .shr (D.int x3.good), .shr (D.str s10), .un]) (js_req fun hc7 => (js_req fun hc8 => (js_req fun hc9 => (js_st (E := fun (s10 : (List Nat)) => [.shr (e_VItem bill'), .mu false (O.l (List.map D.str s2)), .shr (D.str x3.name), .un, .shr (D.int x3.lead), .shr (D.int x3.lot), .shr (D.int x3.good), .shr (D.str s10), .un]) (st_kl (st_set (e_joinL e_C ((e_lcJ (e := e_T2ii) (xs := x3.parts) (eb := D.str) (fun x4 => [.shr (e_VItem bill'), .mu false (O.l (List.map D.str s2)), .shr (D.str x3.name), .shr (e_VT2ii x3.parts), .shr (D.int x3.lead), .shr (D.int x3.lot), .shr (D.int x3.good), .un, .shr (e_T2ii x4)]) (e_it (e_fz_s rfl) rfl) hc7 rfl rfl (fun _ => rfl) (fun _ => rfl) rfl (fun x4 => j_yes) (fun x4 => (jj_bind (v__write_part bill' x4) fun p6 hp6 => (jj_ret ⟨_, (e_call (e_argBv (e_fz_s rfl) (e_argBv (e_fz_s rfl) e_argB0 rfl) rfl) (e_lendr rfl (e_lendr rfl e_lend0)) hp6 rfl), rfl⟩)))) hc8) (R.pl_own _) hc9) rfl rfl) (kl_eq rfl)) rfl)))) fun s10 =>
    (js_last (E1 := fun (s25 : (List (List Nat))) => [.shr (e_VItem bill'), .mu false (O.l (List.map D.str s25)), .un, .un, .un, .un, .un, .un, .un]) (js_req fun hc11 => (js_req fun hc12 => (js_req fun hc13 => (js_req fun hc14 => (js_req fun hc15 => (js_req fun hc16 => (js_req fun hc17 => (js_req fun hc18 => (js_req fun hc19 => (js_req fun hc20 => (js_req fun hc21 => (js_req fun hc22 => (js_req fun hc23 => (js_req fun hc24 => (js_st (E := fun (s25 : (List (List Nat))) => [.shr (e_VItem bill'), .mu false (O.l (List.map D.str s25)), .un, .un, .un, .un, .un, .un, .un]) (st_kl (st_drop (e_app (e := D.str) (xs := s2) (z := ((((((((((([] : List Nat) ++ x3.name) ++ [58, 32]) ++ s10) ++ [59, 32]) ++ (iCs x3.lead)) ++ [32, 100, 97, 121, 115, 59, 32]) ++ (iCs x3.lot)) ++ [32, 121, 105, 101, 108, 100, 115, 32]) ++ (iCs x3.good)) ++ [10])) rfl (e_cat (e_cat (e_cat (e_cat (e_cat (e_cat (e_cat (e_cat (e_cat (e_cat e_fs0 (e_fmtS (e_nm_s rfl)) hc11) e_C hc12) (e_fmtS (e_nm_s rfl)) hc13) e_C hc14) (e_fmtI (e_nm_s rfl) hc15) hc16) e_C hc17) (e_fmtI (e_nm_s rfl) hc18) hc19) e_C hc20) (e_fmtI (e_nm_s rfl) hc21) hc22) e_C hc23) rfl rfl hc24)) (kl_eq rfl)) rfl))))))))))))))) fun _ => rfl)))) (fun _ => kl_eq rfl)) fun s2 =>
    (js_req fun hc26 => (js_rt (e_joinL e_C (e_nm_m rfl) (R.pl_pk _) hc26) rfl))))
noncomputable def t__law_text (bill' : (List Item)) : T (List Nat) :=
  T.bind (T.ret []) fun s1 =>
    T.bind (T.forL (fun (s2 : (List Nat)) (x3 : Item) =>
    T.bind (T.ret ([] : (List (List Nat)))) fun s4 =>
    T.bind (T.forL (fun (s5 : (List (List Nat))) (x6 : (Int × Int)) =>
    T.bind (T.req (x6.2.natAbs ≤ 1000000000000000000) (T.req ((iCs x6.2).length + [32].length ≤ 1000000) (T.req (0 ≤ (b2i (decide (x6.2 = 1))) ∧ (b2i (decide (x6.2 = 1))) < [((iCs x6.2) ++ [32]), []].length) (T.req (0 ≤ x6.1 ∧ x6.1 < bill'.length) (T.req ((ix [((iCs x6.2) ++ [32]), []] (b2i (decide (x6.2 = 1)))).length + ((ix bill' x6.1).name).length ≤ 1000000) (T.req (s5.length < 1000000) (T.ret (s5 ++ [((ix [((iCs x6.2) ++ [32]), []] (b2i (decide (x6.2 = 1)))) ++ (ix bill' x6.1).name)])))))))) fun s13 => T.ret s13) x3.parts s4) fun s5 =>
    T.bind (T.req (s2.length + x3.name.length ≤ 1000000) (T.req ((s2 ++ x3.name).length + [58, 32].length ≤ 1000000) (T.req (joinOk [44, 32] s5 = true) (T.req (((s2 ++ x3.name) ++ [58, 32]).length + (joinL [44, 32] s5).length ≤ 1000000) (T.req ((((s2 ++ x3.name) ++ [58, 32]) ++ (joinL [44, 32] s5)).length + [59, 32].length ≤ 1000000) (T.req (x3.lead.natAbs ≤ 1000000000000000000) (T.req (((((s2 ++ x3.name) ++ [58, 32]) ++ (joinL [44, 32] s5)) ++ [59, 32]).length + (iCs x3.lead).length ≤ 1000000) (T.req ((((((s2 ++ x3.name) ++ [58, 32]) ++ (joinL [44, 32] s5)) ++ [59, 32]) ++ (iCs x3.lead)).length + [32, 100, 97, 121, 115, 59, 32].length ≤ 1000000) (T.req (x3.lot.natAbs ≤ 1000000000000000000) (T.req (((((((s2 ++ x3.name) ++ [58, 32]) ++ (joinL [44, 32] s5)) ++ [59, 32]) ++ (iCs x3.lead)) ++ [32, 100, 97, 121, 115, 59, 32]).length + (iCs x3.lot).length ≤ 1000000) (T.req ((((((((s2 ++ x3.name) ++ [58, 32]) ++ (joinL [44, 32] s5)) ++ [59, 32]) ++ (iCs x3.lead)) ++ [32, 100, 97, 121, 115, 59, 32]) ++ (iCs x3.lot)).length + [32, 121, 105, 101, 108, 100, 115, 32].length ≤ 1000000) (T.req (x3.good.natAbs ≤ 1000000000000000000) (T.req (((((((((s2 ++ x3.name) ++ [58, 32]) ++ (joinL [44, 32] s5)) ++ [59, 32]) ++ (iCs x3.lead)) ++ [32, 100, 97, 121, 115, 59, 32]) ++ (iCs x3.lot)) ++ [32, 121, 105, 101, 108, 100, 115, 32]).length + (iCs x3.good).length ≤ 1000000) (T.req ((((((((((s2 ++ x3.name) ++ [58, 32]) ++ (joinL [44, 32] s5)) ++ [59, 32]) ++ (iCs x3.lead)) ++ [32, 100, 97, 121, 115, 59, 32]) ++ (iCs x3.lot)) ++ [32, 121, 105, 101, 108, 100, 115, 32]) ++ (iCs x3.good)).length + [10].length ≤ 1000000) (T.ret ((((((((((s2 ++ x3.name) ++ [58, 32]) ++ (joinL [44, 32] s5)) ++ [59, 32]) ++ (iCs x3.lead)) ++ [32, 100, 97, 121, 115, 59, 32]) ++ (iCs x3.lot)) ++ [32, 121, 105, 101, 108, 100, 115, 32]) ++ (iCs x3.good)) ++ [10])))))))))))))))) fun s28 => T.ret s28) bill' s1) fun s2 =>
    T.ret s2
abbrev q__law_text (bill' : (List Item)) : (List Nat) → Prop := fun z => f__law_text [.shr (e_VItem bill')] = ((fun (z : (List Nat)) => FRes.ok (.d (D.str z)) [.un] : (List Nat) → FRes)) z
theorem v__law_text (bill' : (List Item)) : J (t__law_text bill') (q__law_text bill') :=
  v_fn (as := [.shr (e_VItem bill')]) (R' := fun (z : (List Nat)) => FRes.ok (.d (D.str z)) [.un]) f__law_text_eq rfl (js_seq (E := fun (s1 : (List Nat)) => [.shr (e_VItem bill'), .shr (D.str s1), .un, .un, .un, .un, .un, .un, .un]) (js_st (E := fun (s1 : (List Nat)) => [.shr (e_VItem bill'), .shr (D.str s1), .un, .un, .un, .un, .un, .un, .un]) (st_set e_C rfl rfl) rfl) fun s1 =>
    (js_seq (E := fun (s2 : (List Nat)) => [.un, .shr (D.str s2), .un, .un, .un, .un, .un, .un, .un]) (js_klN (E := fun (s2 : (List Nat)) => [.shr (e_VItem bill'), .shr (D.str s2), .un, .un, .un, .un, .un, .un, .un]) (js_forL (e := e_Item) (xs := bill') (E := fun (s2 : (List Nat)) => [.shr (e_VItem bill'), .shr (D.str s2), .un, .un, .un, .un, .un, .un, .un]) (fun s2 x3 => [.shr (e_VItem bill'), .shr (D.str s2), .shr (D.str x3.name), .shr (e_VT2ii x3.parts), .shr (D.int x3.lead), .shr (D.int x3.lot), .shr (D.int x3.good), .un, .un]) (e_it (e_fz_s rfl) rfl) rfl (fun _ _ => rfl) (fun s2 x3 =>
    (js_seq (E := fun (s4 : (List (List Nat))) => [.shr (e_VItem bill'), .shr (D.str s2), .shr (D.str x3.name), .shr (e_VT2ii x3.parts), .shr (D.int x3.lead), .shr (D.int x3.lot), .shr (D.int x3.good), .mu false (O.l (List.map D.str s4)), .un]) (js_st (E := fun (s4 : (List (List Nat))) => [.shr (e_VItem bill'), .shr (D.str s2), .shr (D.str x3.name), .shr (e_VT2ii x3.parts), .shr (D.int x3.lead), .shr (D.int x3.lot), .shr (D.int x3.good), .mu false (O.l (List.map D.str s4)), .un]) (st_set (e_cast (r' := .own (O.l (List.map D.str ([] : (List (List Nat)))))) (e_lst e_args0 e_sts0 (Nat.le_of_ble_eq_true rfl)) rfl) rfl rfl) rfl) fun s4 =>
    (js_seq (E := fun (s5 : (List (List Nat))) => [.shr (e_VItem bill'), .shr (D.str s2), .shr (D.str x3.name), .un, .shr (D.int x3.lead), .shr (D.int x3.lot), .shr (D.int x3.good), .mu false (O.l (List.map D.str s5)), .un]) (js_klN (E := fun (s5 : (List (List Nat))) => [.shr (e_VItem bill'), .shr (D.str s2), .shr (D.str x3.name), .shr (e_VT2ii x3.parts), .shr (D.int x3.lead), .shr (D.int x3.lot), .shr (D.int x3.good), .mu false (O.l (List.map D.str s5)), .un]) (js_forL (e := e_T2ii) (xs := x3.parts) (E := fun (s5 : (List (List Nat))) => [.shr (e_VItem bill'), .shr (D.str s2), .shr (D.str x3.name), .shr (e_VT2ii x3.parts), .shr (D.int x3.lead), .shr (D.int x3.lot), .shr (D.int x3.good), .mu false (O.l (List.map D.str s5)), .un]) (fun s5 x6 => [.shr (e_VItem bill'), .shr (D.str s2), .shr (D.str x3.name), .shr (e_VT2ii x3.parts), .shr (D.int x3.lead), .shr (D.int x3.lot), .shr (D.int x3.good), .mu false (O.l (List.map D.str s5)), .shr (e_T2ii x6)]) (e_it (e_fz_s rfl) rfl) rfl (fun _ _ => rfl) (fun s5 x6 =>
    (js_last (E1 := fun (s13 : (List (List Nat))) => [.shr (e_VItem bill'), .shr (D.str s2), .shr (D.str x3.name), .shr (e_VT2ii x3.parts), .shr (D.int x3.lead), .shr (D.int x3.lot), .shr (D.int x3.good), .mu false (O.l (List.map D.str s13)), .un]) (js_req fun hc7 => (js_req fun hc8 => (js_req fun hc9 => (js_req fun hc10 => (js_req fun hc11 => (js_req fun hc12 => (js_st (E := fun (s13 : (List (List Nat))) => [.shr (e_VItem bill'), .shr (D.str s2), .shr (D.str x3.name), .shr (e_VT2ii x3.parts), .shr (D.int x3.lead), .shr (D.int x3.lot), .shr (D.int x3.good), .mu false (O.l (List.map D.str s13)), .un]) (st_kl (st_drop (e_app (e := D.str) (xs := s5) (z := ((ix [((iCs x6.2) ++ [32]), []] (b2i (decide (x6.2 = 1)))) ++ (ix bill' x6.1).name)) rfl (e_addS (e_ixO (e := D.str) (xs := [((iCs x6.2) ++ [32]), []]) (e_cast (r' := .own (O.l (List.map D.str [((iCs x6.2) ++ [32]), []]))) (e_lst (e_args (e_addS (e_strI (e_tF 1 (e_nm_s rfl) rfl rfl) hc7) e_C hc8) (e_args e_C e_args0 rfl) rfl) (e_sts rfl (e_sts rfl e_sts0)) (Nat.le_of_ble_eq_true rfl)) rfl) (e_int1B (e_eqI (e_tF 1 (e_nm_s rfl) rfl rfl) e_C)) hc9) (e_tF 0 (e_ixT (e := e_Item) (xs := bill') (e_nm_s rfl) (e_tF 0 (e_nm_s rfl) rfl rfl) hc10) rfl rfl) hc11) rfl rfl hc12)) (kl_eq rfl)) rfl))))))) fun _ => rfl))) (fun _ => kl_eq rfl)) fun s5 =>
    (js_last (E1 := fun (s28 : (List Nat)) => [.shr (e_VItem bill'), .shr (D.str s28), .un, .un, .un, .un, .un, .un, .un]) (js_req fun hc14 => (js_req fun hc15 => (js_req fun hc16 => (js_req fun hc17 => (js_req fun hc18 => (js_req fun hc19 => (js_req fun hc20 => (js_req fun hc21 => (js_req fun hc22 => (js_req fun hc23 => (js_req fun hc24 => (js_req fun hc25 => (js_req fun hc26 => (js_req fun hc27 => (js_st (E := fun (s28 : (List Nat)) => [.shr (e_VItem bill'), .shr (D.str s28), .un, .un, .un, .un, .un, .un, .un]) (st_kl (st_set (e_addS (e_addS (e_addS (e_addS (e_addS (e_addS (e_addS (e_addS (e_addS (e_addS (e_nm_s rfl) (e_nm_s rfl) hc14) e_C hc15) (e_joinL e_C (e_nm_m rfl) (R.pl_pk _) hc16) hc17) e_C hc18) (e_strI (e_nm_s rfl) hc19) hc20) e_C hc21) (e_strI (e_nm_s rfl) hc22) hc23) e_C hc24) (e_strI (e_nm_s rfl) hc25) hc26) e_C hc27) rfl rfl) (kl_eq rfl)) rfl))))))))))))))) fun _ => rfl))))) (fun _ => kl_eq rfl)) fun s2 =>
    (js_rt (e_mv_s rfl) rfl)))
noncomputable def t__run_end (line' : (List Nat)) (at' : Int) (chars' : (List Nat)) : T Int :=
  T.bind (T.ret at') fun s1 =>
    T.bind (T.whL (fun (s2 : Int) => T.req ((decide (s2 < (line'.length : Int))) = true → (0 ≤ s2 ∧ s2 < line'.length)) (T.req ((decide (s2 < (line'.length : Int))) = true → [ix line' s2].length = 1) (T.ret ((decide (s2 < (line'.length : Int))) && (decide ([ix line' s2].headD 0 ∈ chars')))))) (fun s2 =>
    T.bind (T.ret (s2 + 1)) fun s7 => T.ret s7) s1) fun s2 =>
    T.ret s2
abbrev q__run_end (line' : (List Nat)) (at' : Int) (chars' : (List Nat)) : Int → Prop := fun z => f__run_end [.shr (D.str line'), .shr (D.int at'), .shr (D.str chars')] = ((fun (z : Int) => FRes.ok (.d (D.int z)) [.un, .un, .un] : Int → FRes)) z
theorem v__run_end (line' : (List Nat)) (at' : Int) (chars' : (List Nat)) : J (t__run_end line' at' chars') (q__run_end line' at' chars') :=
  v_fn (as := [.shr (D.str line'), .shr (D.int at'), .shr (D.str chars')]) (R' := fun (z : Int) => FRes.ok (.d (D.int z)) [.un, .un, .un]) f__run_end_eq rfl (js_seq (E := fun (s1 : Int) => [.shr (D.str line'), .un, .shr (D.str chars'), .shr (D.int s1)]) (js_st (E := fun (s1 : Int) => [.shr (D.str line'), .un, .shr (D.str chars'), .shr (D.int s1)]) (st_kl (st_set (e_fz_s rfl) rfl rfl) (kl_eq rfl)) rfl) fun s1 =>
    (js_seq (E := fun (s2 : Int) => [.un, .un, .un, .shr (D.int s2)]) (js_klN (E := fun (s2 : Int) => [.shr (D.str line'), .un, .shr (D.str chars'), .shr (D.int s2)]) (js_whL (E := fun (s2 : Int) => [.shr (D.str line'), .un, .shr (D.str chars'), .shr (D.int s2)]) rfl (fun s2 => (jj_req fun hc5 => (jj_req fun hc6 => (jj_ret ⟨_, (e_and (e_test (e_lt (e_nm_s rfl) (e_lenS  (e_nm_s rfl)))) fun g4 => (e_test (e_in (e_ixS (e_nm_s rfl) (e_nm_s rfl) (hc5 g4)) (e_nm_s rfl) rfl (isIn_c (hc6 g4)))))⟩)))) (fun s2 =>
    (js_last (E1 := fun (s7 : Int) => [.shr (D.str line'), .un, .shr (D.str chars'), .shr (D.int s7)]) (js_st (E := fun (s7 : Int) => [.shr (D.str line'), .un, .shr (D.str chars'), .shr (D.int s7)]) (st_augI rfl e_C rfl) rfl) fun _ => rfl))) (fun _ => kl_eq rfl)) fun s2 =>
    (js_rt (e_mv_s rfl) rfl)))
noncomputable def t__token (line' : (List Nat)) (at' : Int) : T ((List Nat) × (List Nat)) :=
  T.bind (T.req (0 ≤ at' ∧ at' < line'.length) (T.ret [ix line' at'])) fun s2 =>
    T.req (s2.length = 1) (if (decide (s2.headD 0 ∈ [97, 98, 99, 100, 101, 102, 103, 104, 105, 106, 107, 108, 109, 110, 111, 112, 113, 114, 115, 116, 117, 118, 119, 120, 121, 122])) = true then T.bind (T.bind (t__run_end line' at' [97, 98, 99, 100, 101, 102, 103, 104, 105, 106, 107, 108, 109, 110, 111, 112, 113, 114, 115, 116, 117, 118, 119, 120, 121, 122]) fun p4 => T.ret (cutA line' (some at') (some p4))) fun s5 =>
    if (decide ((12 : Int) < (s5.length : Int))) = true then T.ret ([98, 97, 100], s5) else
    T.ret ([110, 97, 109, 101], s5) else
    T.req (s2.length = 1) (if (decide (s2.headD 0 ∈ [48, 49, 50, 51, 52, 53, 54, 55, 56, 57])) = true then T.bind (T.bind (t__run_end line' at' [48, 49, 50, 51, 52, 53, 54, 55, 56, 57]) fun p7 => T.ret (cutA line' (some at') (some p7))) fun s8 =>
    T.req ((decide ((4 : Int) < (s8.length : Int))) = false → ((decide (1 < (s8.length : Int))) = true → (0 ≤ (0 : Int) ∧ (0 : Int) < s8.length))) (if ((decide ((4 : Int) < (s8.length : Int))) || ((decide (1 < (s8.length : Int))) && (decide ([ix s8 0] = [48])))) = true then T.ret ([98, 97, 100], s8) else
    T.ret ([110, 117, 109, 98, 101, 114], s8)) else
    T.req (s2.length = 1) (if (decide (s2.headD 0 ∈ [58, 44, 59])) = true then T.ret ([115, 105, 103, 110], s2) else
    T.ret ([98, 97, 100], s2))))
abbrev q__token (line' : (List Nat)) (at' : Int) : ((List Nat) × (List Nat)) → Prop := fun z => f__token [.shr (D.str line'), .shr (D.int at')] = ((fun (z : ((List Nat) × (List Nat))) => FRes.ok (.d (e_T2ss z)) [.un, .un] : ((List Nat) × (List Nat)) → FRes)) z
theorem v__token (line' : (List Nat)) (at' : Int) : J (t__token line' at') (q__token line' at') :=
  v_fn (as := [.shr (D.str line'), .shr (D.int at')]) (R' := fun (z : ((List Nat) × (List Nat))) => FRes.ok (.d (e_T2ss z)) [.un, .un]) f__token_eq rfl (js_seq (E := fun (s2 : (List Nat)) => [.shr (D.str line'), .shr (D.int at'), .shr (D.str s2), .un]) (js_req fun hc1 => (js_st (E := fun (s2 : (List Nat)) => [.shr (D.str line'), .shr (D.int at'), .shr (D.str s2), .un]) (st_set (e_ixS (e_nm_s rfl) (e_nm_s rfl) hc1) rfl rfl) rfl)) fun s2 =>
    (js_req fun hc3 => (js_ifr (e_test (e_in (e_nm_s rfl) e_C rfl (isIn_c hc3))) (js_seq (E := fun (s5 : (List Nat)) => [.un, .un, .un, .shr (D.str s5)]) (js_bind (v__run_end line' at' [97, 98, 99, 100, 101, 102, 103, 104, 105, 106, 107, 108, 109, 110, 111, 112, 113, 114, 115, 116, 117, 118, 119, 120, 121, 122]) fun p4 hp4 => (js_st (E := fun (s5 : (List Nat)) => [.un, .un, .un, .shr (D.str s5)]) (st_kl (st_set (e_sl11 (e_nm_s rfl) (e_nm_s rfl) (e_call (e_argBv (e_fz_s rfl) (e_argBv (e_fz_s rfl) (e_argBv e_C e_argB0 rfl) rfl) rfl) (e_lendr rfl (e_lendr rfl (e_lendr rfl e_lend0))) hp4 rfl) rfl lSl_S) rfl rfl) (kl_eq rfl)) rfl)) fun s5 =>
    (js_ifrS (e_test (e_gt (e_lenS  (e_nm_s rfl)) e_C)) (js_rtS (e_cast (r' := .d (e_T2ss ([98, 97, 100], s5))) (e_tup (e_args e_C (e_args (e_fz_s rfl) e_args0 rfl) rfl) (e_sts rfl (e_sts rfl e_sts0)) (Nat.le_of_ble_eq_true rfl)) rfl) rfl)
    (js_rtS (e_cast (r' := .d (e_T2ss ([110, 97, 109, 101], s5))) (e_tup (e_args e_C (e_args (e_fz_s rfl) e_args0 rfl) rfl) (e_sts rfl (e_sts rfl e_sts0)) (Nat.le_of_ble_eq_true rfl)) rfl) rfl)))
    (js_req fun hc6 => (js_ifr (e_test (e_in (e_nm_s rfl) e_C rfl (isIn_c hc6))) (js_seq (E := fun (s8 : (List Nat)) => [.un, .un, .un, .shr (D.str s8)]) (js_bind (v__run_end line' at' [48, 49, 50, 51, 52, 53, 54, 55, 56, 57]) fun p7 hp7 => (js_st (E := fun (s8 : (List Nat)) => [.un, .un, .un, .shr (D.str s8)]) (st_kl (st_set (e_sl11 (e_nm_s rfl) (e_nm_s rfl) (e_call (e_argBv (e_fz_s rfl) (e_argBv (e_fz_s rfl) (e_argBv e_C e_argB0 rfl) rfl) rfl) (e_lendr rfl (e_lendr rfl (e_lendr rfl e_lend0))) hp7 rfl) rfl lSl_S) rfl rfl) (kl_eq rfl)) rfl)) fun s8 =>
    (js_req fun hc11 => (js_ifrS (e_or (e_test (e_gt (e_lenS  (e_nm_s rfl)) e_C)) fun g9 => (e_and (e_test (e_gt (e_lenS  (e_nm_s rfl)) e_C)) fun g10 => (e_test (e_eqS (e_ixS (e_nm_s rfl) e_C (hc11 g9 g10)) e_C)))) (js_rtS (e_cast (r' := .d (e_T2ss ([98, 97, 100], s8))) (e_tup (e_args e_C (e_args (e_fz_s rfl) e_args0 rfl) rfl) (e_sts rfl (e_sts rfl e_sts0)) (Nat.le_of_ble_eq_true rfl)) rfl) rfl)
    (js_rtS (e_cast (r' := .d (e_T2ss ([110, 117, 109, 98, 101, 114], s8))) (e_tup (e_args e_C (e_args (e_fz_s rfl) e_args0 rfl) rfl) (e_sts rfl (e_sts rfl e_sts0)) (Nat.le_of_ble_eq_true rfl)) rfl) rfl))))
    (js_req fun hc12 => (js_ifr (e_test (e_in (e_nm_s rfl) e_C rfl (isIn_c hc12))) (js_rtS (e_cast (r' := .d (e_T2ss ([115, 105, 103, 110], s2))) (e_tup (e_args e_C (e_args (e_fz_s rfl) e_args0 rfl) rfl) (e_sts rfl (e_sts rfl e_sts0)) (Nat.le_of_ble_eq_true rfl)) rfl) rfl)
    (js_rt (e_cast (r' := .d (e_T2ss ([98, 97, 100], s2))) (e_tup (e_args e_C (e_args (e_fz_s rfl) e_args0 rfl) rfl) (e_sts rfl (e_sts rfl e_sts0)) (Nat.le_of_ble_eq_true rfl)) rfl) rfl))))))))
noncomputable def t_tokens (line' : (List Nat)) : T (List ((List Nat) × (List Nat))) :=
  T.bind (T.ret ([] : (List ((List Nat) × (List Nat))))) fun s1 =>
    T.bind (T.ret 0) fun s2 =>
    T.bind (T.whL (fun (s3 : ((List ((List Nat) × (List Nat))) × Int)) => T.ret (decide (s3.2 < (line'.length : Int)))) (fun s3 =>
    T.bind (T.req (0 ≤ s3.2 ∧ s3.2 < line'.length) (if (decide ([ix line' s3.2] = [32])) = true then T.bind (T.ret (s3.2 + 1)) fun s6 => T.ret (s3.1, s6) else T.bind (T.bind (t__token line' s3.2) fun p7 => T.ret p7) fun s8 =>
    T.bind (T.req (s3.1.length < 1000000) (T.ret (s3.1 ++ [s8]))) fun s10 =>
    T.bind (T.ret (s3.2 + (s8.2.length : Int))) fun s11 => T.ret (s10, s11))) fun s12 => T.ret (s12.1, s12.2)) (s1, s2)) fun s3 =>
    T.ret s3.1
abbrev q_tokens (line' : (List Nat)) : (List ((List Nat) × (List Nat))) → Prop := fun z => f_tokens [.shr (D.str line')] = ((fun (z : (List ((List Nat) × (List Nat)))) => FRes.ok (.own (O.l (List.map e_T2ss z))) [.un] : (List ((List Nat) × (List Nat))) → FRes)) z
theorem v_tokens (line' : (List Nat)) : J (t_tokens line') (q_tokens line') :=
  v_fn (as := [.shr (D.str line')]) (R' := fun (z : (List ((List Nat) × (List Nat)))) => FRes.ok (.own (O.l (List.map e_T2ss z))) [.un]) f_tokens_eq rfl (js_seq (E := fun (s1 : (List ((List Nat) × (List Nat)))) => [.shr (D.str line'), .mu false (O.l (List.map e_T2ss s1)), .un, .un]) (js_st (E := fun (s1 : (List ((List Nat) × (List Nat)))) => [.shr (D.str line'), .mu false (O.l (List.map e_T2ss s1)), .un, .un]) (st_set (e_cast (r' := .own (O.l (List.map e_T2ss ([] : (List ((List Nat) × (List Nat))))))) (e_lst e_args0 e_sts0 (Nat.le_of_ble_eq_true rfl)) rfl) rfl rfl) rfl) fun s1 =>
    (js_seq (E := fun (s2 : Int) => [.shr (D.str line'), .mu false (O.l (List.map e_T2ss s1)), .shr (D.int s2), .un]) (js_st (E := fun (s2 : Int) => [.shr (D.str line'), .mu false (O.l (List.map e_T2ss s1)), .shr (D.int s2), .un]) (st_set e_C rfl rfl) rfl) fun s2 =>
    (js_seq (E := fun (s3 : ((List ((List Nat) × (List Nat))) × Int)) => [.un, .mu false (O.l (List.map e_T2ss s3.1)), .un, .un]) (js_klN (E := fun (s3 : ((List ((List Nat) × (List Nat))) × Int)) => [.shr (D.str line'), .mu false (O.l (List.map e_T2ss s3.1)), .shr (D.int s3.2), .un]) (js_whL (E := fun (s3 : ((List ((List Nat) × (List Nat))) × Int)) => [.shr (D.str line'), .mu false (O.l (List.map e_T2ss s3.1)), .shr (D.int s3.2), .un]) rfl (fun s3 => (jj_ret ⟨_, (e_test (e_lt (e_nm_s rfl) (e_lenS  (e_nm_s rfl))))⟩)) (fun s3 =>
    (js_last (E1 := fun (s12 : ((List ((List Nat) × (List Nat))) × Int)) => [.shr (D.str line'), .mu false (O.l (List.map e_T2ss s12.1)), .shr (D.int s12.2), .un]) (js_req fun hc5 => (js_if (e_test (e_eqS (e_ixS (e_nm_s rfl) (e_nm_s rfl) hc5) e_C)) (js_last (E1 := fun (s6 : Int) => [.shr (D.str line'), .mu false (O.l (List.map e_T2ss s3.1)), .shr (D.int s6), .un]) (js_st (E := fun (s6 : Int) => [.shr (D.str line'), .mu false (O.l (List.map e_T2ss s3.1)), .shr (D.int s6), .un]) (st_augI rfl e_C rfl) rfl) fun _ => rfl) (js_seq (E := fun (s8 : ((List Nat) × (List Nat))) => [.shr (D.str line'), .mu false (O.l (List.map e_T2ss s3.1)), .shr (D.int s3.2), .shr (e_T2ss s8)]) (js_bind (v__token line' s3.2) fun p7 hp7 => (js_st (E := fun (s8 : ((List Nat) × (List Nat))) => [.shr (D.str line'), .mu false (O.l (List.map e_T2ss s3.1)), .shr (D.int s3.2), .shr (e_T2ss s8)]) (st_set (e_call (e_argBv (e_fz_s rfl) (e_argBv (e_fz_s rfl) e_argB0 rfl) rfl) (e_lendr rfl (e_lendr rfl e_lend0)) hp7 rfl) rfl rfl) rfl)) fun s8 =>
    (js_seq (E := fun (s10 : (List ((List Nat) × (List Nat)))) => [.shr (D.str line'), .mu false (O.l (List.map e_T2ss s10)), .shr (D.int s3.2), .shr (e_T2ss s8)]) (js_req fun hc9 => (js_st (E := fun (s10 : (List ((List Nat) × (List Nat)))) => [.shr (D.str line'), .mu false (O.l (List.map e_T2ss s10)), .shr (D.int s3.2), .shr (e_T2ss s8)]) (st_drop (e_app (e := e_T2ss) (xs := s3.1) (z := s8) rfl (e_fz_s rfl) rfl rfl hc9)) rfl)) fun s10 =>
    (js_last (E1 := fun (s11 : Int) => [.shr (D.str line'), .mu false (O.l (List.map e_T2ss s10)), .shr (D.int s11), .un]) (js_st (E := fun (s11 : Int) => [.shr (D.str line'), .mu false (O.l (List.map e_T2ss s10)), .shr (D.int s11), .un]) (st_kl (st_augI rfl (e_lenS  (e_tF 1 (e_nm_s rfl) rfl rfl)) rfl) (kl_eq rfl)) rfl) fun _ => rfl))))) fun _ => rfl))) (fun _ => kl_eq rfl)) fun s3 =>
    (js_rt (e_mv_m rfl) rfl))))
noncomputable def t_Line___init__ (self' : Unit) : T (Unit × ((List Nat) × (List Nat) × (List ((List Nat) × Int)) × Int × (List Int))) :=
  T.bind (T.ret [110, 97, 109, 101]) fun s1 =>
    T.bind (T.ret (s1, [])) fun s2 =>
    T.bind (T.ret (s2.1, s2.2, ([] : (List ((List Nat) × Int))))) fun s3 =>
    T.bind (T.ret (s3.1, s3.2.1, s3.2.2, 1)) fun s4 =>
    T.bind (T.ret (s4.1, s4.2.1, s4.2.2.1, s4.2.2.2, ([] : (List Int)))) fun s5 => T.ret ((), s5)
abbrev q_Line___init__ (self' : Unit) : (Unit × ((List Nat) × (List Nat) × (List ((List Nat) × Int)) × Int × (List Int))) → Prop := fun z => f_Line___init__ [.mu true (.obj ("Line" : Str) [] [])] = ((fun (z : (Unit × ((List Nat) × (List Nat) × (List ((List Nat) × Int)) × Int × (List Int)))) => FRes.ok (.d (eN z.1)) [.mu true (.obj ("Line" : Str) [("state" : Str), ("name" : Str), ("parts" : Str), ("quantity" : Str), ("numbers" : Str)] [.d (D.str z.2.1), .d (D.str z.2.2.1), (O.l (List.map e_T2si z.2.2.2.1)), .d (D.int z.2.2.2.2.1), (O.l (List.map D.int z.2.2.2.2.2))])] : (Unit × ((List Nat) × (List Nat) × (List ((List Nat) × Int)) × Int × (List Int))) → FRes)) z
theorem v_Line___init__ (self' : Unit) : J (t_Line___init__ self') (q_Line___init__ self') :=
  v_fn (as := [.mu true (.obj ("Line" : Str) [] [])]) (R' := fun (z : (Unit × ((List Nat) × (List Nat) × (List ((List Nat) × Int)) × Int × (List Int)))) => FRes.ok (.d (eN z.1)) [.mu true (.obj ("Line" : Str) [("state" : Str), ("name" : Str), ("parts" : Str), ("quantity" : Str), ("numbers" : Str)] [.d (D.str z.2.1), .d (D.str z.2.2.1), (O.l (List.map e_T2si z.2.2.2.1)), .d (D.int z.2.2.2.2.1), (O.l (List.map D.int z.2.2.2.2.2))])]) f_Line___init___eq rfl (js_seq (E := fun (s1 : (List Nat)) => [.mu true (.obj ("Line" : Str) [("state" : Str)] [.d (D.str s1)])]) (js_st (E := fun (s1 : (List Nat)) => [.mu true (.obj ("Line" : Str) [("state" : Str)] [.d (D.str s1)])]) (st_fnew rfl e_C rfl rfl rfl (by decide) (by decide)) rfl) fun s1 =>
    (js_seq (E := fun (s2 : ((List Nat) × (List Nat))) => [.mu true (.obj ("Line" : Str) [("state" : Str), ("name" : Str)] [.d (D.str s2.1), .d (D.str s2.2)])]) (js_st (E := fun (s2 : ((List Nat) × (List Nat))) => [.mu true (.obj ("Line" : Str) [("state" : Str), ("name" : Str)] [.d (D.str s2.1), .d (D.str s2.2)])]) (st_fnew rfl e_C rfl rfl rfl (by decide) (by decide)) rfl) fun s2 =>
    (js_seq (E := fun (s3 : ((List Nat) × (List Nat) × (List ((List Nat) × Int)))) => [.mu true (.obj ("Line" : Str) [("state" : Str), ("name" : Str), ("parts" : Str)] [.d (D.str s3.1), .d (D.str s3.2.1), (O.l (List.map e_T2si s3.2.2))])]) (js_st (E := fun (s3 : ((List Nat) × (List Nat) × (List ((List Nat) × Int)))) => [.mu true (.obj ("Line" : Str) [("state" : Str), ("name" : Str), ("parts" : Str)] [.d (D.str s3.1), .d (D.str s3.2.1), (O.l (List.map e_T2si s3.2.2))])]) (st_fnew rfl (e_cast (r' := .own (O.l (List.map e_T2si ([] : (List ((List Nat) × Int)))))) (e_lst e_args0 e_sts0 (Nat.le_of_ble_eq_true rfl)) rfl) rfl rfl rfl (by decide) (by decide)) rfl) fun s3 =>
    (js_seq (E := fun (s4 : ((List Nat) × (List Nat) × (List ((List Nat) × Int)) × Int)) => [.mu true (.obj ("Line" : Str) [("state" : Str), ("name" : Str), ("parts" : Str), ("quantity" : Str)] [.d (D.str s4.1), .d (D.str s4.2.1), (O.l (List.map e_T2si s4.2.2.1)), .d (D.int s4.2.2.2)])]) (js_st (E := fun (s4 : ((List Nat) × (List Nat) × (List ((List Nat) × Int)) × Int)) => [.mu true (.obj ("Line" : Str) [("state" : Str), ("name" : Str), ("parts" : Str), ("quantity" : Str)] [.d (D.str s4.1), .d (D.str s4.2.1), (O.l (List.map e_T2si s4.2.2.1)), .d (D.int s4.2.2.2)])]) (st_fnew rfl e_C rfl rfl rfl (by decide) (by decide)) rfl) fun s4 =>
    (js_lastT (E1 := fun (s5 : ((List Nat) × (List Nat) × (List ((List Nat) × Int)) × Int × (List Int))) => [.mu true (.obj ("Line" : Str) [("state" : Str), ("name" : Str), ("parts" : Str), ("quantity" : Str), ("numbers" : Str)] [.d (D.str s5.1), .d (D.str s5.2.1), (O.l (List.map e_T2si s5.2.2.1)), .d (D.int s5.2.2.2.1), (O.l (List.map D.int s5.2.2.2.2))])]) (js_st (E := fun (s5 : ((List Nat) × (List Nat) × (List ((List Nat) × Int)) × Int × (List Int))) => [.mu true (.obj ("Line" : Str) [("state" : Str), ("name" : Str), ("parts" : Str), ("quantity" : Str), ("numbers" : Str)] [.d (D.str s5.1), .d (D.str s5.2.1), (O.l (List.map e_T2si s5.2.2.1)), .d (D.int s5.2.2.2.1), (O.l (List.map D.int s5.2.2.2.2))])]) (st_fnew rfl (e_cast (r' := .own (O.l (List.map D.int ([] : (List Int))))) (e_lst e_args0 e_sts0 (Nat.le_of_ble_eq_true rfl)) rfl) rfl rfl rfl (by decide) (by decide)) rfl) fun _ => rfl)))))
noncomputable def t_Line__head (self' : ((List Nat) × (List Nat) × (List ((List Nat) × Int)) × Int × (List Int))) (kind' : (List Nat)) (text' : (List Nat)) : T ((Option (List Nat)) × ((List Nat) × (List Nat) × (List ((List Nat) × Int)) × Int × (List Int))) :=
  if ((decide (self'.1 = [110, 97, 109, 101])) && (decide (kind' = [110, 97, 109, 101]))) = true then T.bind (T.ret (self'.1, text', self'.2.2.1, self'.2.2.2.1, self'.2.2.2.2)) fun s2 =>
    T.ret ((some [99, 111, 108, 111, 110]), s2) else
    if ((decide (self'.1 = [99, 111, 108, 111, 110])) && ((decide (kind' = [115, 105, 103, 110])) && (decide (text' = [58])))) = true then T.ret ((some [102, 105, 114, 115, 116]), self') else
    T.ret (none, self')
abbrev q_Line__head (self' : ((List Nat) × (List Nat) × (List ((List Nat) × Int)) × Int × (List Int))) (kind' : (List Nat)) (text' : (List Nat)) : ((Option (List Nat)) × ((List Nat) × (List Nat) × (List ((List Nat) × Int)) × Int × (List Int))) → Prop := fun z => f_Line__head [.mu true (.obj ("Line" : Str) [("state" : Str), ("name" : Str), ("parts" : Str), ("quantity" : Str), ("numbers" : Str)] [.d (D.str self'.1), .d (D.str self'.2.1), (O.l (List.map e_T2si self'.2.2.1)), .d (D.int self'.2.2.2.1), (O.l (List.map D.int self'.2.2.2.2))]), .shr (D.str kind'), .shr (D.str text')] = ((fun (z : ((Option (List Nat)) × ((List Nat) × (List Nat) × (List ((List Nat) × Int)) × Int × (List Int)))) => FRes.ok (.d (e_Os z.1)) [.mu true (.obj ("Line" : Str) [("state" : Str), ("name" : Str), ("parts" : Str), ("quantity" : Str), ("numbers" : Str)] [.d (D.str z.2.1), .d (D.str z.2.2.1), (O.l (List.map e_T2si z.2.2.2.1)), .d (D.int z.2.2.2.2.1), (O.l (List.map D.int z.2.2.2.2.2))]), .un, .un] : ((Option (List Nat)) × ((List Nat) × (List Nat) × (List ((List Nat) × Int)) × Int × (List Int))) → FRes)) z
theorem v_Line__head (self' : ((List Nat) × (List Nat) × (List ((List Nat) × Int)) × Int × (List Int))) (kind' : (List Nat)) (text' : (List Nat)) : J (t_Line__head self' kind' text') (q_Line__head self' kind' text') :=
  v_fn (as := [.mu true (.obj ("Line" : Str) [("state" : Str), ("name" : Str), ("parts" : Str), ("quantity" : Str), ("numbers" : Str)] [.d (D.str self'.1), .d (D.str self'.2.1), (O.l (List.map e_T2si self'.2.2.1)), .d (D.int self'.2.2.2.1), (O.l (List.map D.int self'.2.2.2.2))]), .shr (D.str kind'), .shr (D.str text')]) (R' := fun (z : ((Option (List Nat)) × ((List Nat) × (List Nat) × (List ((List Nat) × Int)) × Int × (List Int)))) => FRes.ok (.d (e_Os z.1)) [.mu true (.obj ("Line" : Str) [("state" : Str), ("name" : Str), ("parts" : Str), ("quantity" : Str), ("numbers" : Str)] [.d (D.str z.2.1), .d (D.str z.2.2.1), (O.l (List.map e_T2si z.2.2.2.1)), .d (D.int z.2.2.2.2.1), (O.l (List.map D.int z.2.2.2.2.2))]), .un, .un]) f_Line__head_eq rfl (js_ifr (e_and (e_test (e_eqS (e_fld (e_nm_m rfl) rfl) e_C)) fun g1 => (e_test (e_eqS (e_nm_s rfl) e_C))) (js_seq (E := fun (s2 : ((List Nat) × (List Nat) × (List ((List Nat) × Int)) × Int × (List Int))) => [.mu true (.obj ("Line" : Str) [("state" : Str), ("name" : Str), ("parts" : Str), ("quantity" : Str), ("numbers" : Str)] [.d (D.str s2.1), .d (D.str s2.2.1), (O.l (List.map e_T2si s2.2.2.1)), .d (D.int s2.2.2.2.1), (O.l (List.map D.int s2.2.2.2.2))]), .un, .un]) (js_st (E := fun (s2 : ((List Nat) × (List Nat) × (List ((List Nat) × Int)) × Int × (List Int))) => [.mu true (.obj ("Line" : Str) [("state" : Str), ("name" : Str), ("parts" : Str), ("quantity" : Str), ("numbers" : Str)] [.d (D.str s2.1), .d (D.str s2.2.1), (O.l (List.map e_T2si s2.2.2.1)), .d (D.int s2.2.2.2.1), (O.l (List.map D.int s2.2.2.2.2))]), .un, .un]) (st_kl (st_fput rfl (e_fz_s rfl) rfl rfl rfl (by decide) (by decide)) (kl_eq rfl)) rfl) fun s2 =>
    (js_rtS (e_cast (r' := .d (e_Os (some [99, 111, 108, 111, 110]))) e_C rfl) rfl))
    (js_ifr (e_and (e_test (e_eqS (e_fld (e_nm_m rfl) rfl) e_C)) fun g3 => (e_and (e_test (e_eqS (e_nm_s rfl) e_C)) fun g4 => (e_test (e_eqS (e_nm_s rfl) e_C)))) (js_rtS (e_cast (r' := .d (e_Os (some [102, 105, 114, 115, 116]))) e_C rfl) rfl)
    (js_rt (e_cast (r' := .d (e_Os none)) e_C rfl) rfl)))
noncomputable def t_Line__part (self' : ((List Nat) × (List Nat) × (List ((List Nat) × Int)) × Int × (List Int))) (kind' : (List Nat)) (text' : (List Nat)) : T ((Option (List Nat)) × ((List Nat) × (List Nat) × (List ((List Nat) × Int)) × Int × (List Int))) :=
  if ((decide (self'.1 = [102, 105, 114, 115, 116])) && ((decide (kind' = [115, 105, 103, 110])) && (decide (text' = [59])))) = true then T.ret ((some [108, 101, 97, 100]), self') else
    if ((decide (self'.1 = [98, 101, 104, 105, 110, 100])) && ((decide (kind' = [115, 105, 103, 110])) && (decide (text' = [59])))) = true then T.ret ((some [108, 101, 97, 100]), self') else
    if ((decide (self'.1 = [98, 101, 104, 105, 110, 100])) && ((decide (kind' = [115, 105, 103, 110])) && ((decide (text' = [44])) && (decide ((self'.2.2.1.length : Int) < (4 : Int)))))) = true then T.ret ((some [112, 97, 114, 116]), self') else
    T.req ((decide (self'.1 ∈ [([102, 105, 114, 115, 116], [112, 97, 114, 116]).1, ([102, 105, 114, 115, 116], [112, 97, 114, 116]).2])) = true → ((decide (kind' = [110, 117, 109, 98, 101, 114])) = true → (PySem.intText? (tx text')).isSome = true ∧ text'.length ≤ 640)) (T.req ((decide (self'.1 ∈ [([102, 105, 114, 115, 116], [112, 97, 114, 116]).1, ([102, 105, 114, 115, 116], [112, 97, 114, 116]).2])) = true → ((decide (kind' = [110, 117, 109, 98, 101, 114])) = true → ((decide (1 ≤ (txI text'))) = true → (PySem.intText? (tx text')).isSome = true ∧ text'.length ≤ 640))) (if ((decide (self'.1 ∈ [([102, 105, 114, 115, 116], [112, 97, 114, 116]).1, ([102, 105, 114, 115, 116], [112, 97, 114, 116]).2])) && ((decide (kind' = [110, 117, 109, 98, 101, 114])) && ((decide (1 ≤ (txI text'))) && (decide ((txI text') ≤ (20 : Int)))))) = true then T.bind (T.req ((PySem.intText? (tx text')).isSome = true ∧ text'.length ≤ 640) (T.ret (self'.1, self'.2.1, self'.2.2.1, (txI text'), self'.2.2.2.2))) fun s14 =>
    T.ret ((some [112, 97, 114, 116, 32, 110, 97, 109, 101]), s14) else
    if ((decide (self'.1 ∈ [([102, 105, 114, 115, 116], [112, 97, 114, 116], [112, 97, 114, 116, 32, 110, 97, 109, 101]).1, ([102, 105, 114, 115, 116], [112, 97, 114, 116], [112, 97, 114, 116, 32, 110, 97, 109, 101]).2.1, ([102, 105, 114, 115, 116], [112, 97, 114, 116], [112, 97, 114, 116, 32, 110, 97, 109, 101]).2.2])) && (decide (kind' = [110, 97, 109, 101]))) = true then T.bind (T.req (self'.2.2.1.length < 1000000) (T.ret (self'.1, self'.2.1, (self'.2.2.1 ++ [(text', self'.2.2.2.1)]), self'.2.2.2.1, self'.2.2.2.2))) fun s17 =>
    T.bind (T.ret (s17.1, s17.2.1, s17.2.2.1, 1, s17.2.2.2.2)) fun s18 =>
    T.ret ((some [98, 101, 104, 105, 110, 100]), s18) else
    T.ret (none, self')))
abbrev q_Line__part (self' : ((List Nat) × (List Nat) × (List ((List Nat) × Int)) × Int × (List Int))) (kind' : (List Nat)) (text' : (List Nat)) : ((Option (List Nat)) × ((List Nat) × (List Nat) × (List ((List Nat) × Int)) × Int × (List Int))) → Prop := fun z => f_Line__part [.mu true (.obj ("Line" : Str) [("state" : Str), ("name" : Str), ("parts" : Str), ("quantity" : Str), ("numbers" : Str)] [.d (D.str self'.1), .d (D.str self'.2.1), (O.l (List.map e_T2si self'.2.2.1)), .d (D.int self'.2.2.2.1), (O.l (List.map D.int self'.2.2.2.2))]), .shr (D.str kind'), .shr (D.str text')] = ((fun (z : ((Option (List Nat)) × ((List Nat) × (List Nat) × (List ((List Nat) × Int)) × Int × (List Int)))) => FRes.ok (.d (e_Os z.1)) [.mu true (.obj ("Line" : Str) [("state" : Str), ("name" : Str), ("parts" : Str), ("quantity" : Str), ("numbers" : Str)] [.d (D.str z.2.1), .d (D.str z.2.2.1), (O.l (List.map e_T2si z.2.2.2.1)), .d (D.int z.2.2.2.2.1), (O.l (List.map D.int z.2.2.2.2.2))]), .un, .un] : ((Option (List Nat)) × ((List Nat) × (List Nat) × (List ((List Nat) × Int)) × Int × (List Int))) → FRes)) z
theorem v_Line__part (self' : ((List Nat) × (List Nat) × (List ((List Nat) × Int)) × Int × (List Int))) (kind' : (List Nat)) (text' : (List Nat)) : J (t_Line__part self' kind' text') (q_Line__part self' kind' text') :=
  v_fn (as := [.mu true (.obj ("Line" : Str) [("state" : Str), ("name" : Str), ("parts" : Str), ("quantity" : Str), ("numbers" : Str)] [.d (D.str self'.1), .d (D.str self'.2.1), (O.l (List.map e_T2si self'.2.2.1)), .d (D.int self'.2.2.2.1), (O.l (List.map D.int self'.2.2.2.2))]), .shr (D.str kind'), .shr (D.str text')]) (R' := fun (z : ((Option (List Nat)) × ((List Nat) × (List Nat) × (List ((List Nat) × Int)) × Int × (List Int)))) => FRes.ok (.d (e_Os z.1)) [.mu true (.obj ("Line" : Str) [("state" : Str), ("name" : Str), ("parts" : Str), ("quantity" : Str), ("numbers" : Str)] [.d (D.str z.2.1), .d (D.str z.2.2.1), (O.l (List.map e_T2si z.2.2.2.1)), .d (D.int z.2.2.2.2.1), (O.l (List.map D.int z.2.2.2.2.2))]), .un, .un]) f_Line__part_eq rfl (js_ifr (e_and (e_test (e_eqS (e_fld (e_nm_m rfl) rfl) e_C)) fun g1 => (e_and (e_test (e_eqS (e_nm_s rfl) e_C)) fun g2 => (e_test (e_eqS (e_nm_s rfl) e_C)))) (js_rtS (e_cast (r' := .d (e_Os (some [108, 101, 97, 100]))) e_C rfl) rfl)
    (js_ifr (e_and (e_test (e_eqS (e_fld (e_nm_m rfl) rfl) e_C)) fun g3 => (e_and (e_test (e_eqS (e_nm_s rfl) e_C)) fun g4 => (e_test (e_eqS (e_nm_s rfl) e_C)))) (js_rtS (e_cast (r' := .d (e_Os (some [108, 101, 97, 100]))) e_C rfl) rfl)
    (js_ifr (e_and (e_test (e_eqS (e_fld (e_nm_m rfl) rfl) e_C)) fun g5 => (e_and (e_test (e_eqS (e_nm_s rfl) e_C)) fun g6 => (e_and (e_test (e_eqS (e_nm_s rfl) e_C)) fun g7 => (e_test (e_lt (e_lenP (e := e_T2si) (xs := self'.2.2.1) (e_fld (e_nm_m rfl) rfl)) e_C))))) (js_rtS (e_cast (r' := .d (e_Os (some [112, 97, 114, 116]))) e_C rfl) rfl)
    (js_req fun hc10 => (js_req fun hc12 => (js_ifr (e_and (e_test (e_in (e_fld (e_nm_m rfl) rfl) (e_cast (r' := .d (e_Vs [([102, 105, 114, 115, 116], [112, 97, 114, 116]).1, ([102, 105, 114, 115, 116], [112, 97, 114, 116]).2])) (e_cast (r' := .d (e_T2ss ([102, 105, 114, 115, 116], [112, 97, 114, 116]))) (e_tup (e_args e_C (e_args e_C e_args0 rfl) rfl) (e_sts rfl (e_sts rfl e_sts0)) (Nat.le_of_ble_eq_true rfl)) rfl) rfl) rfl (isInT_s rfl))) fun g8 => (e_and (e_test (e_eqS (e_nm_s rfl) e_C)) fun g9 => (e_and (e_test (e_le e_C (e_intS (e_nm_s rfl) (hc10 g8 g9)))) fun g11 => (e_test (e_le (e_intS (e_nm_s rfl) (hc12 g8 g9 g11)) e_C))))) (js_seq (E := fun (s14 : ((List Nat) × (List Nat) × (List ((List Nat) × Int)) × Int × (List Int))) => [.mu true (.obj ("Line" : Str) [("state" : Str), ("name" : Str), ("parts" : Str), ("quantity" : Str), ("numbers" : Str)] [.d (D.str s14.1), .d (D.str s14.2.1), (O.l (List.map e_T2si s14.2.2.1)), .d (D.int s14.2.2.2.1), (O.l (List.map D.int s14.2.2.2.2))]), .un, .un]) (js_req fun hc13 => (js_st (E := fun (s14 : ((List Nat) × (List Nat) × (List ((List Nat) × Int)) × Int × (List Int))) => [.mu true (.obj ("Line" : Str) [("state" : Str), ("name" : Str), ("parts" : Str), ("quantity" : Str), ("numbers" : Str)] [.d (D.str s14.1), .d (D.str s14.2.1), (O.l (List.map e_T2si s14.2.2.1)), .d (D.int s14.2.2.2.1), (O.l (List.map D.int s14.2.2.2.2))]), .un, .un]) (st_kl (st_fput rfl (e_intS (e_nm_s rfl) hc13) rfl rfl rfl (by decide) (by decide)) (kl_eq rfl)) rfl)) fun s14 =>
    (js_rtS (e_cast (r' := .d (e_Os (some [112, 97, 114, 116, 32, 110, 97, 109, 101]))) e_C rfl) rfl))
    (js_ifr (e_and (e_test (e_in (e_fld (e_nm_m rfl) rfl) (e_cast (r' := .d (e_Vs [([102, 105, 114, 115, 116], [112, 97, 114, 116], [112, 97, 114, 116, 32, 110, 97, 109, 101]).1, ([102, 105, 114, 115, 116], [112, 97, 114, 116], [112, 97, 114, 116, 32, 110, 97, 109, 101]).2.1, ([102, 105, 114, 115, 116], [112, 97, 114, 116], [112, 97, 114, 116, 32, 110, 97, 109, 101]).2.2])) (e_cast (r' := .d (e_T3sss ([102, 105, 114, 115, 116], [112, 97, 114, 116], [112, 97, 114, 116, 32, 110, 97, 109, 101]))) (e_tup (e_args e_C (e_args e_C (e_args e_C e_args0 rfl) rfl) rfl) (e_sts rfl (e_sts rfl (e_sts rfl e_sts0))) (Nat.le_of_ble_eq_true rfl)) rfl) rfl) rfl (isInT_s rfl))) fun g15 => (e_test (e_eqS (e_nm_s rfl) e_C))) (js_seq (E := fun (s17 : ((List Nat) × (List Nat) × (List ((List Nat) × Int)) × Int × (List Int))) => [.mu true (.obj ("Line" : Str) [("state" : Str), ("name" : Str), ("parts" : Str), ("quantity" : Str), ("numbers" : Str)] [.d (D.str s17.1), .d (D.str s17.2.1), (O.l (List.map e_T2si s17.2.2.1)), .d (D.int s17.2.2.2.1), (O.l (List.map D.int s17.2.2.2.2))]), .un, .un]) (js_req fun hc16 => (js_st (E := fun (s17 : ((List Nat) × (List Nat) × (List ((List Nat) × Int)) × Int × (List Int))) => [.mu true (.obj ("Line" : Str) [("state" : Str), ("name" : Str), ("parts" : Str), ("quantity" : Str), ("numbers" : Str)] [.d (D.str s17.1), .d (D.str s17.2.1), (O.l (List.map e_T2si s17.2.2.1)), .d (D.int s17.2.2.2.1), (O.l (List.map D.int s17.2.2.2.2))]), .un, .un]) (st_kl (st_drop (e_fapp (e := e_T2si) (xs := self'.2.2.1) (z := (text', self'.2.2.2.1)) rfl rfl (e_cast (r' := .d (e_T2si (text', self'.2.2.2.1))) (e_tup (e_args (e_fz_s rfl) (e_args (e_fld (e_nm_m rfl) rfl) e_args0 rfl) rfl) (e_sts rfl (e_sts rfl e_sts0)) (Nat.le_of_ble_eq_true rfl)) rfl) rfl hc16)) (kl_eq rfl)) rfl)) fun s17 =>
    (js_seq (E := fun (s18 : ((List Nat) × (List Nat) × (List ((List Nat) × Int)) × Int × (List Int))) => [.mu true (.obj ("Line" : Str) [("state" : Str), ("name" : Str), ("parts" : Str), ("quantity" : Str), ("numbers" : Str)] [.d (D.str s18.1), .d (D.str s18.2.1), (O.l (List.map e_T2si s18.2.2.1)), .d (D.int s18.2.2.2.1), (O.l (List.map D.int s18.2.2.2.2))]), .un, .un]) (js_st (E := fun (s18 : ((List Nat) × (List Nat) × (List ((List Nat) × Int)) × Int × (List Int))) => [.mu true (.obj ("Line" : Str) [("state" : Str), ("name" : Str), ("parts" : Str), ("quantity" : Str), ("numbers" : Str)] [.d (D.str s18.1), .d (D.str s18.2.1), (O.l (List.map e_T2si s18.2.2.1)), .d (D.int s18.2.2.2.1), (O.l (List.map D.int s18.2.2.2.2))]), .un, .un]) (st_fput rfl e_C rfl rfl rfl (by decide) (by decide)) rfl) fun s18 =>
    (js_rtS (e_cast (r' := .d (e_Os (some [98, 101, 104, 105, 110, 100]))) e_C rfl) rfl)))
    (js_rt (e_cast (r' := .d (e_Os none)) e_C rfl) rfl))))))))
noncomputable def t_Line__number (self' : ((List Nat) × (List Nat) × (List ((List Nat) × Int)) × Int × (List Int))) (text' : (List Nat)) (least' : Int) (most' : Int) (state' : (List Nat)) : T ((Option (List Nat)) × ((List Nat) × (List Nat) × (List ((List Nat) × Int)) × Int × (List Int))) :=
  T.req ((PySem.intText? (tx text')).isSome = true ∧ text'.length ≤ 640) (T.req ((decide ((txI text') < least')) = false → (PySem.intText? (tx text')).isSome = true ∧ text'.length ≤ 640) (if ((decide ((txI text') < least')) || (decide (most' < (txI text')))) = true then T.ret (none, self') else
    T.bind (T.req ((PySem.intText? (tx text')).isSome = true ∧ text'.length ≤ 640) (T.req (self'.2.2.2.2.length < 1000000) (T.ret (self'.1, self'.2.1, self'.2.2.1, self'.2.2.2.1, (self'.2.2.2.2 ++ [(txI text')]))))) fun s6 =>
    T.ret ((some state'), s6)))
abbrev q_Line__number (self' : ((List Nat) × (List Nat) × (List ((List Nat) × Int)) × Int × (List Int))) (text' : (List Nat)) (least' : Int) (most' : Int) (state' : (List Nat)) : ((Option (List Nat)) × ((List Nat) × (List Nat) × (List ((List Nat) × Int)) × Int × (List Int))) → Prop := fun z => f_Line__number [.mu true (.obj ("Line" : Str) [("state" : Str), ("name" : Str), ("parts" : Str), ("quantity" : Str), ("numbers" : Str)] [.d (D.str self'.1), .d (D.str self'.2.1), (O.l (List.map e_T2si self'.2.2.1)), .d (D.int self'.2.2.2.1), (O.l (List.map D.int self'.2.2.2.2))]), .shr (D.str text'), .shr (D.int least'), .shr (D.int most'), .shr (D.str state')] = ((fun (z : ((Option (List Nat)) × ((List Nat) × (List Nat) × (List ((List Nat) × Int)) × Int × (List Int)))) => FRes.ok (.d (e_Os z.1)) [.mu true (.obj ("Line" : Str) [("state" : Str), ("name" : Str), ("parts" : Str), ("quantity" : Str), ("numbers" : Str)] [.d (D.str z.2.1), .d (D.str z.2.2.1), (O.l (List.map e_T2si z.2.2.2.1)), .d (D.int z.2.2.2.2.1), (O.l (List.map D.int z.2.2.2.2.2))]), .un, .un, .un, .un] : ((Option (List Nat)) × ((List Nat) × (List Nat) × (List ((List Nat) × Int)) × Int × (List Int))) → FRes)) z
theorem v_Line__number (self' : ((List Nat) × (List Nat) × (List ((List Nat) × Int)) × Int × (List Int))) (text' : (List Nat)) (least' : Int) (most' : Int) (state' : (List Nat)) : J (t_Line__number self' text' least' most' state') (q_Line__number self' text' least' most' state') :=
  v_fn (as := [.mu true (.obj ("Line" : Str) [("state" : Str), ("name" : Str), ("parts" : Str), ("quantity" : Str), ("numbers" : Str)] [.d (D.str self'.1), .d (D.str self'.2.1), (O.l (List.map e_T2si self'.2.2.1)), .d (D.int self'.2.2.2.1), (O.l (List.map D.int self'.2.2.2.2))]), .shr (D.str text'), .shr (D.int least'), .shr (D.int most'), .shr (D.str state')]) (R' := fun (z : ((Option (List Nat)) × ((List Nat) × (List Nat) × (List ((List Nat) × Int)) × Int × (List Int)))) => FRes.ok (.d (e_Os z.1)) [.mu true (.obj ("Line" : Str) [("state" : Str), ("name" : Str), ("parts" : Str), ("quantity" : Str), ("numbers" : Str)] [.d (D.str z.2.1), .d (D.str z.2.2.1), (O.l (List.map e_T2si z.2.2.2.1)), .d (D.int z.2.2.2.2.1), (O.l (List.map D.int z.2.2.2.2.2))]), .un, .un, .un, .un]) f_Line__number_eq rfl (js_req fun hc1 => (js_req fun hc3 => (js_ifr (e_or (e_test (e_lt (e_intS (e_nm_s rfl) hc1) (e_nm_s rfl))) fun g2 => (e_test (e_gt (e_intS (e_nm_s rfl) (hc3 g2)) (e_nm_s rfl)))) (js_rtS (e_cast (r' := .d (e_Os none)) e_C rfl) rfl)
    (js_seq (E := fun (s6 : ((List Nat) × (List Nat) × (List ((List Nat) × Int)) × Int × (List Int))) => [.mu true (.obj ("Line" : Str) [("state" : Str), ("name" : Str), ("parts" : Str), ("quantity" : Str), ("numbers" : Str)] [.d (D.str s6.1), .d (D.str s6.2.1), (O.l (List.map e_T2si s6.2.2.1)), .d (D.int s6.2.2.2.1), (O.l (List.map D.int s6.2.2.2.2))]), .un, .un, .un, .shr (D.str state')]) (js_req fun hc4 => (js_req fun hc5 => (js_st (E := fun (s6 : ((List Nat) × (List Nat) × (List ((List Nat) × Int)) × Int × (List Int))) => [.mu true (.obj ("Line" : Str) [("state" : Str), ("name" : Str), ("parts" : Str), ("quantity" : Str), ("numbers" : Str)] [.d (D.str s6.1), .d (D.str s6.2.1), (O.l (List.map e_T2si s6.2.2.1)), .d (D.int s6.2.2.2.1), (O.l (List.map D.int s6.2.2.2.2))]), .un, .un, .un, .shr (D.str state')]) (st_kl (st_drop (e_fapp (e := D.int) (xs := self'.2.2.2.2) (z := (txI text')) rfl rfl (e_intS (e_nm_s rfl) hc4) rfl hc5)) (kl_eq rfl)) rfl))) fun s6 =>
    (js_rt (e_cast (r' := .d (e_Os (some state'))) (e_mv_s rfl) rfl) rfl)))))
noncomputable def t_Line__tail (self' : ((List Nat) × (List Nat) × (List ((List Nat) × Int)) × Int × (List Int))) (kind' : (List Nat)) (text' : (List Nat)) : T ((Option (List Nat)) × ((List Nat) × (List Nat) × (List ((List Nat) × Int)) × Int × (List Int))) :=
  if ((decide (self'.1 = [108, 101, 97, 100])) && (decide (kind' = [110, 117, 109, 98, 101, 114]))) = true then T.bind (t_Line__number self' text' 0 (10 : Int) [100, 97, 121, 115]) fun p2 => T.ret (p2.1, p2.2) else
    if ((decide (self'.1 = [100, 97, 121, 115])) && ((decide (kind' = [110, 97, 109, 101])) && (decide (text' = [100, 97, 121, 115])))) = true then T.ret ((some [115, 101, 109, 105, 99, 111, 108, 111, 110]), self') else
    if ((decide (self'.1 = [115, 101, 109, 105, 99, 111, 108, 111, 110])) && ((decide (kind' = [115, 105, 103, 110])) && (decide (text' = [59])))) = true then T.ret ((some [108, 111, 116]), self') else
    if ((decide (self'.1 = [108, 111, 116])) && (decide (kind' = [110, 117, 109, 98, 101, 114]))) = true then T.bind (t_Line__number self' text' 1 (50 : Int) [121, 105, 101, 108, 100, 115]) fun p8 => T.ret (p8.1, p8.2) else
    if ((decide (self'.1 = [121, 105, 101, 108, 100, 115])) && ((decide (kind' = [110, 97, 109, 101])) && (decide (text' = [121, 105, 101, 108, 100, 115])))) = true then T.ret ((some [103, 111, 111, 100]), self') else
    if ((decide (self'.1 = [103, 111, 111, 100])) && (decide (kind' = [110, 117, 109, 98, 101, 114]))) = true then T.req (0 ≤ (1 : Int) ∧ (1 : Int) < self'.2.2.2.2.length) (T.bind (t_Line__number self' text' 1 (ix self'.2.2.2.2 1) [119, 104, 111, 108, 101]) fun p13 => T.ret (p13.1, p13.2)) else
    T.ret (none, self')
abbrev q_Line__tail (self' : ((List Nat) × (List Nat) × (List ((List Nat) × Int)) × Int × (List Int))) (kind' : (List Nat)) (text' : (List Nat)) : ((Option (List Nat)) × ((List Nat) × (List Nat) × (List ((List Nat) × Int)) × Int × (List Int))) → Prop := fun z => f_Line__tail [.mu true (.obj ("Line" : Str) [("state" : Str), ("name" : Str), ("parts" : Str), ("quantity" : Str), ("numbers" : Str)] [.d (D.str self'.1), .d (D.str self'.2.1), (O.l (List.map e_T2si self'.2.2.1)), .d (D.int self'.2.2.2.1), (O.l (List.map D.int self'.2.2.2.2))]), .shr (D.str kind'), .shr (D.str text')] = ((fun (z : ((Option (List Nat)) × ((List Nat) × (List Nat) × (List ((List Nat) × Int)) × Int × (List Int)))) => FRes.ok (.d (e_Os z.1)) [.mu true (.obj ("Line" : Str) [("state" : Str), ("name" : Str), ("parts" : Str), ("quantity" : Str), ("numbers" : Str)] [.d (D.str z.2.1), .d (D.str z.2.2.1), (O.l (List.map e_T2si z.2.2.2.1)), .d (D.int z.2.2.2.2.1), (O.l (List.map D.int z.2.2.2.2.2))]), .un, .un] : ((Option (List Nat)) × ((List Nat) × (List Nat) × (List ((List Nat) × Int)) × Int × (List Int))) → FRes)) z
theorem v_Line__tail (self' : ((List Nat) × (List Nat) × (List ((List Nat) × Int)) × Int × (List Int))) (kind' : (List Nat)) (text' : (List Nat)) : J (t_Line__tail self' kind' text') (q_Line__tail self' kind' text') :=
  v_fn (as := [.mu true (.obj ("Line" : Str) [("state" : Str), ("name" : Str), ("parts" : Str), ("quantity" : Str), ("numbers" : Str)] [.d (D.str self'.1), .d (D.str self'.2.1), (O.l (List.map e_T2si self'.2.2.1)), .d (D.int self'.2.2.2.1), (O.l (List.map D.int self'.2.2.2.2))]), .shr (D.str kind'), .shr (D.str text')]) (R' := fun (z : ((Option (List Nat)) × ((List Nat) × (List Nat) × (List ((List Nat) × Int)) × Int × (List Int)))) => FRes.ok (.d (e_Os z.1)) [.mu true (.obj ("Line" : Str) [("state" : Str), ("name" : Str), ("parts" : Str), ("quantity" : Str), ("numbers" : Str)] [.d (D.str z.2.1), .d (D.str z.2.2.1), (O.l (List.map e_T2si z.2.2.2.1)), .d (D.int z.2.2.2.2.1), (O.l (List.map D.int z.2.2.2.2.2))]), .un, .un]) f_Line__tail_eq rfl (js_ifr (e_and (e_test (e_eqS (e_fld (e_nm_m rfl) rfl) e_C)) fun g1 => (e_test (e_eqS (e_nm_s rfl) e_C))) (js_bind (v_Line__number self' text' 0 (10 : Int) [100, 97, 121, 115]) fun p2 hp2 => (js_rtS (e_meth rfl (e_call (e_argBb (i := 0) rfl (e_argBv (e_fz_s rfl) (e_argBv e_C (e_argBv e_C (e_argBv e_C e_argB0 rfl) rfl) rfl) rfl)) (e_lendm (i := 0) rfl (e_lendr rfl (e_lendr rfl (e_lendr rfl (e_lendr rfl e_lend0))))) hp2 rfl)) rfl))
    (js_ifr (e_and (e_test (e_eqS (e_fld (e_nm_m rfl) rfl) e_C)) fun g3 => (e_and (e_test (e_eqS (e_nm_s rfl) e_C)) fun g4 => (e_test (e_eqS (e_nm_s rfl) e_C)))) (js_rtS (e_cast (r' := .d (e_Os (some [115, 101, 109, 105, 99, 111, 108, 111, 110]))) e_C rfl) rfl)
    (js_ifr (e_and (e_test (e_eqS (e_fld (e_nm_m rfl) rfl) e_C)) fun g5 => (e_and (e_test (e_eqS (e_nm_s rfl) e_C)) fun g6 => (e_test (e_eqS (e_nm_s rfl) e_C)))) (js_rtS (e_cast (r' := .d (e_Os (some [108, 111, 116]))) e_C rfl) rfl)
    (js_ifr (e_and (e_test (e_eqS (e_fld (e_nm_m rfl) rfl) e_C)) fun g7 => (e_test (e_eqS (e_nm_s rfl) e_C))) (js_bind (v_Line__number self' text' 1 (50 : Int) [121, 105, 101, 108, 100, 115]) fun p8 hp8 => (js_rtS (e_meth rfl (e_call (e_argBb (i := 0) rfl (e_argBv (e_fz_s rfl) (e_argBv e_C (e_argBv e_C (e_argBv e_C e_argB0 rfl) rfl) rfl) rfl)) (e_lendm (i := 0) rfl (e_lendr rfl (e_lendr rfl (e_lendr rfl (e_lendr rfl e_lend0))))) hp8 rfl)) rfl))
    (js_ifr (e_and (e_test (e_eqS (e_fld (e_nm_m rfl) rfl) e_C)) fun g9 => (e_and (e_test (e_eqS (e_nm_s rfl) e_C)) fun g10 => (e_test (e_eqS (e_nm_s rfl) e_C)))) (js_rtS (e_cast (r' := .d (e_Os (some [103, 111, 111, 100]))) e_C rfl) rfl)
    (js_ifr (e_and (e_test (e_eqS (e_fld (e_nm_m rfl) rfl) e_C)) fun g11 => (e_test (e_eqS (e_nm_s rfl) e_C))) (js_req fun hc12 => (js_bind (v_Line__number self' text' 1 (ix self'.2.2.2.2 1) [119, 104, 111, 108, 101]) fun p13 hp13 => (js_rtS (e_meth rfl (e_call (e_argBb (i := 0) rfl (e_argBv (e_fz_s rfl) (e_argBv e_C (e_argBv (e_ixP (e := D.int) (xs := self'.2.2.2.2) (e_fld (e_nm_m rfl) rfl) e_C rfl hc12) (e_argBv e_C e_argB0 rfl) rfl) rfl) rfl)) (e_lendm (i := 0) rfl (e_lendr rfl (e_lendr rfl (e_lendr rfl (e_lendr rfl e_lend0))))) hp13 rfl)) rfl)))
    (js_rt (e_cast (r' := .d (e_Os none)) e_C rfl) rfl)))))))
noncomputable def t_Line_take (self' : ((List Nat) × (List Nat) × (List ((List Nat) × Int)) × Int × (List Int))) (token' : ((List Nat) × (List Nat))) : T (Bool × ((List Nat) × (List Nat) × (List ((List Nat) × Int)) × Int × (List Int))) :=
  T.bind (T.ret ()) fun s1 =>
    T.bind (if (decide (self'.1 ∈ [([110, 97, 109, 101], [99, 111, 108, 111, 110]).1, ([110, 97, 109, 101], [99, 111, 108, 111, 110]).2])) = true then T.bind (T.bind (t_Line__head self' token'.1 token'.2) fun p2 => T.ret (p2.2, p2.1)) fun s3 => T.ret (s3.1, s3.2) else T.bind (if (decide (self'.1 ∈ [([102, 105, 114, 115, 116], [112, 97, 114, 116], [112, 97, 114, 116, 32, 110, 97, 109, 101], [98, 101, 104, 105, 110, 100]).1, ([102, 105, 114, 115, 116], [112, 97, 114, 116], [112, 97, 114, 116, 32, 110, 97, 109, 101], [98, 101, 104, 105, 110, 100]).2.1, ([102, 105, 114, 115, 116], [112, 97, 114, 116], [112, 97, 114, 116, 32, 110, 97, 109, 101], [98, 101, 104, 105, 110, 100]).2.2.1, ([102, 105, 114, 115, 116], [112, 97, 114, 116], [112, 97, 114, 116, 32, 110, 97, 109, 101], [98, 101, 104, 105, 110, 100]).2.2.2])) = true then T.bind (T.bind (t_Line__part self' token'.1 token'.2) fun p4 => T.ret (p4.2, p4.1)) fun s5 => T.ret (s5.1, s5.2) else T.bind (T.bind (t_Line__tail self' token'.1 token'.2) fun p6 => T.ret (p6.2, p6.1)) fun s7 => T.ret (s7.1, s7.2)) fun s8 => T.ret (s8.1, s8.2)) fun s9 =>
    if (D.isNon (e_Os s9.2)) = true then T.ret (false, s9.1) else
    T.bind (T.req (s9.2.isSome = true) (T.ret ((oget s9.2), s9.1.2.1, s9.1.2.2.1, s9.1.2.2.2.1, s9.1.2.2.2.2))) fun s11 =>
    T.ret (true, s11)
abbrev q_Line_take (self' : ((List Nat) × (List Nat) × (List ((List Nat) × Int)) × Int × (List Int))) (token' : ((List Nat) × (List Nat))) : (Bool × ((List Nat) × (List Nat) × (List ((List Nat) × Int)) × Int × (List Int))) → Prop := fun z => f_Line_take [.mu true (.obj ("Line" : Str) [("state" : Str), ("name" : Str), ("parts" : Str), ("quantity" : Str), ("numbers" : Str)] [.d (D.str self'.1), .d (D.str self'.2.1), (O.l (List.map e_T2si self'.2.2.1)), .d (D.int self'.2.2.2.1), (O.l (List.map D.int self'.2.2.2.2))]), .shr (e_T2ss token')] = ((fun (z : (Bool × ((List Nat) × (List Nat) × (List ((List Nat) × Int)) × Int × (List Int)))) => FRes.ok (.d (D.bl z.1)) [.mu true (.obj ("Line" : Str) [("state" : Str), ("name" : Str), ("parts" : Str), ("quantity" : Str), ("numbers" : Str)] [.d (D.str z.2.1), .d (D.str z.2.2.1), (O.l (List.map e_T2si z.2.2.2.1)), .d (D.int z.2.2.2.2.1), (O.l (List.map D.int z.2.2.2.2.2))]), .un] : (Bool × ((List Nat) × (List Nat) × (List ((List Nat) × Int)) × Int × (List Int))) → FRes)) z
theorem v_Line_take (self' : ((List Nat) × (List Nat) × (List ((List Nat) × Int)) × Int × (List Int))) (token' : ((List Nat) × (List Nat))) : J (t_Line_take self' token') (q_Line_take self' token') :=
  v_fn (as := [.mu true (.obj ("Line" : Str) [("state" : Str), ("name" : Str), ("parts" : Str), ("quantity" : Str), ("numbers" : Str)] [.d (D.str self'.1), .d (D.str self'.2.1), (O.l (List.map e_T2si self'.2.2.1)), .d (D.int self'.2.2.2.1), (O.l (List.map D.int self'.2.2.2.2))]), .shr (e_T2ss token')]) (R' := fun (z : (Bool × ((List Nat) × (List Nat) × (List ((List Nat) × Int)) × Int × (List Int)))) => FRes.ok (.d (D.bl z.1)) [.mu true (.obj ("Line" : Str) [("state" : Str), ("name" : Str), ("parts" : Str), ("quantity" : Str), ("numbers" : Str)] [.d (D.str z.2.1), .d (D.str z.2.2.1), (O.l (List.map e_T2si z.2.2.2.1)), .d (D.int z.2.2.2.2.1), (O.l (List.map D.int z.2.2.2.2.2))]), .un]) f_Line_take_eq rfl (js_seq (E := fun (s1 : Unit) => [.mu true (.obj ("Line" : Str) [("state" : Str), ("name" : Str), ("parts" : Str), ("quantity" : Str), ("numbers" : Str)] [.d (D.str self'.1), .d (D.str self'.2.1), (O.l (List.map e_T2si self'.2.2.1)), .d (D.int self'.2.2.2.1), (O.l (List.map D.int self'.2.2.2.2))]), .shr (e_T2ss token'), .un]) (js_st (E := fun (s1 : Unit) => [.mu true (.obj ("Line" : Str) [("state" : Str), ("name" : Str), ("parts" : Str), ("quantity" : Str), ("numbers" : Str)] [.d (D.str self'.1), .d (D.str self'.2.1), (O.l (List.map e_T2si self'.2.2.1)), .d (D.int self'.2.2.2.1), (O.l (List.map D.int self'.2.2.2.2))]), .shr (e_T2ss token'), .un]) (st_kl (st_set e_C rfl rfl) (kl_eq rfl)) rfl) fun s1 =>
    (js_seq (E := fun (s9 : (((List Nat) × (List Nat) × (List ((List Nat) × Int)) × Int × (List Int)) × (Option (List Nat)))) => [.mu true (.obj ("Line" : Str) [("state" : Str), ("name" : Str), ("parts" : Str), ("quantity" : Str), ("numbers" : Str)] [.d (D.str s9.1.1), .d (D.str s9.1.2.1), (O.l (List.map e_T2si s9.1.2.2.1)), .d (D.int s9.1.2.2.2.1), (O.l (List.map D.int s9.1.2.2.2.2))]), .un, .shr (e_Os s9.2)]) (js_if (e_test (e_in (e_fld (e_nm_m rfl) rfl) (e_cast (r' := .d (e_Vs [([110, 97, 109, 101], [99, 111, 108, 111, 110]).1, ([110, 97, 109, 101], [99, 111, 108, 111, 110]).2])) (e_cast (r' := .d (e_T2ss ([110, 97, 109, 101], [99, 111, 108, 111, 110]))) (e_tup (e_args e_C (e_args e_C e_args0 rfl) rfl) (e_sts rfl (e_sts rfl e_sts0)) (Nat.le_of_ble_eq_true rfl)) rfl) rfl) rfl (isInT_s rfl))) (js_last (E1 := fun (s3 : (((List Nat) × (List Nat) × (List ((List Nat) × Int)) × Int × (List Int)) × (Option (List Nat)))) => [.mu true (.obj ("Line" : Str) [("state" : Str), ("name" : Str), ("parts" : Str), ("quantity" : Str), ("numbers" : Str)] [.d (D.str s3.1.1), .d (D.str s3.1.2.1), (O.l (List.map e_T2si s3.1.2.2.1)), .d (D.int s3.1.2.2.2.1), (O.l (List.map D.int s3.1.2.2.2.2))]), .un, .shr (e_Os s3.2)]) (js_bind (v_Line__head self' token'.1 token'.2) fun p2 hp2 => (js_st (E := fun (s3 : (((List Nat) × (List Nat) × (List ((List Nat) × Int)) × Int × (List Int)) × (Option (List Nat)))) => [.mu true (.obj ("Line" : Str) [("state" : Str), ("name" : Str), ("parts" : Str), ("quantity" : Str), ("numbers" : Str)] [.d (D.str s3.1.1), .d (D.str s3.1.2.1), (O.l (List.map e_T2si s3.1.2.2.1)), .d (D.int s3.1.2.2.2.1), (O.l (List.map D.int s3.1.2.2.2.2))]), .un, .shr (e_Os s3.2)]) (st_kl (st_set (e_meth rfl (e_call (e_argBb (i := 0) rfl (e_argBv (e_tF 0 (e_nm_s rfl) rfl rfl) (e_argBv (e_tF 1 (e_nm_s rfl) rfl rfl) e_argB0 rfl) rfl)) (e_lendm (i := 0) rfl (e_lendr rfl (e_lendr rfl e_lend0))) hp2 rfl)) rfl rfl) (kl_eq rfl)) rfl)) fun _ => rfl) (js_last (E1 := fun (s8 : (((List Nat) × (List Nat) × (List ((List Nat) × Int)) × Int × (List Int)) × (Option (List Nat)))) => [.mu true (.obj ("Line" : Str) [("state" : Str), ("name" : Str), ("parts" : Str), ("quantity" : Str), ("numbers" : Str)] [.d (D.str s8.1.1), .d (D.str s8.1.2.1), (O.l (List.map e_T2si s8.1.2.2.1)), .d (D.int s8.1.2.2.2.1), (O.l (List.map D.int s8.1.2.2.2.2))]), .un, .shr (e_Os s8.2)]) (js_if (e_test (e_in (e_fld (e_nm_m rfl) rfl) (e_cast (r' := .d (e_Vs [([102, 105, 114, 115, 116], [112, 97, 114, 116], [112, 97, 114, 116, 32, 110, 97, 109, 101], [98, 101, 104, 105, 110, 100]).1, ([102, 105, 114, 115, 116], [112, 97, 114, 116], [112, 97, 114, 116, 32, 110, 97, 109, 101], [98, 101, 104, 105, 110, 100]).2.1, ([102, 105, 114, 115, 116], [112, 97, 114, 116], [112, 97, 114, 116, 32, 110, 97, 109, 101], [98, 101, 104, 105, 110, 100]).2.2.1, ([102, 105, 114, 115, 116], [112, 97, 114, 116], [112, 97, 114, 116, 32, 110, 97, 109, 101], [98, 101, 104, 105, 110, 100]).2.2.2])) (e_cast (r' := .d (e_T4ssss ([102, 105, 114, 115, 116], [112, 97, 114, 116], [112, 97, 114, 116, 32, 110, 97, 109, 101], [98, 101, 104, 105, 110, 100]))) (e_tup (e_args e_C (e_args e_C (e_args e_C (e_args e_C e_args0 rfl) rfl) rfl) rfl) (e_sts rfl (e_sts rfl (e_sts rfl (e_sts rfl e_sts0)))) (Nat.le_of_ble_eq_true rfl)) rfl) rfl) rfl (isInT_s rfl))) (js_last (E1 := fun (s5 : (((List Nat) × (List Nat) × (List ((List Nat) × Int)) × Int × (List Int)) × (Option (List Nat)))) => [.mu true (.obj ("Line" : Str) [("state" : Str), ("name" : Str), ("parts" : Str), ("quantity" : Str), ("numbers" : Str)] [.d (D.str s5.1.1), .d (D.str s5.1.2.1), (O.l (List.map e_T2si s5.1.2.2.1)), .d (D.int s5.1.2.2.2.1), (O.l (List.map D.int s5.1.2.2.2.2))]), .un, .shr (e_Os s5.2)]) (js_bind (v_Line__part self' token'.1 token'.2) fun p4 hp4 => (js_st (E := fun (s5 : (((List Nat) × (List Nat) × (List ((List Nat) × Int)) × Int × (List Int)) × (Option (List Nat)))) => [.mu true (.obj ("Line" : Str) [("state" : Str), ("name" : Str), ("parts" : Str), ("quantity" : Str), ("numbers" : Str)] [.d (D.str s5.1.1), .d (D.str s5.1.2.1), (O.l (List.map e_T2si s5.1.2.2.1)), .d (D.int s5.1.2.2.2.1), (O.l (List.map D.int s5.1.2.2.2.2))]), .un, .shr (e_Os s5.2)]) (st_kl (st_set (e_meth rfl (e_call (e_argBb (i := 0) rfl (e_argBv (e_tF 0 (e_nm_s rfl) rfl rfl) (e_argBv (e_tF 1 (e_nm_s rfl) rfl rfl) e_argB0 rfl) rfl)) (e_lendm (i := 0) rfl (e_lendr rfl (e_lendr rfl e_lend0))) hp4 rfl)) rfl rfl) (kl_eq rfl)) rfl)) fun _ => rfl) (js_last (E1 := fun (s7 : (((List Nat) × (List Nat) × (List ((List Nat) × Int)) × Int × (List Int)) × (Option (List Nat)))) => [.mu true (.obj ("Line" : Str) [("state" : Str), ("name" : Str), ("parts" : Str), ("quantity" : Str), ("numbers" : Str)] [.d (D.str s7.1.1), .d (D.str s7.1.2.1), (O.l (List.map e_T2si s7.1.2.2.1)), .d (D.int s7.1.2.2.2.1), (O.l (List.map D.int s7.1.2.2.2.2))]), .un, .shr (e_Os s7.2)]) (js_bind (v_Line__tail self' token'.1 token'.2) fun p6 hp6 => (js_st (E := fun (s7 : (((List Nat) × (List Nat) × (List ((List Nat) × Int)) × Int × (List Int)) × (Option (List Nat)))) => [.mu true (.obj ("Line" : Str) [("state" : Str), ("name" : Str), ("parts" : Str), ("quantity" : Str), ("numbers" : Str)] [.d (D.str s7.1.1), .d (D.str s7.1.2.1), (O.l (List.map e_T2si s7.1.2.2.1)), .d (D.int s7.1.2.2.2.1), (O.l (List.map D.int s7.1.2.2.2.2))]), .un, .shr (e_Os s7.2)]) (st_kl (st_set (e_meth rfl (e_call (e_argBb (i := 0) rfl (e_argBv (e_tF 0 (e_nm_s rfl) rfl rfl) (e_argBv (e_tF 1 (e_nm_s rfl) rfl rfl) e_argB0 rfl) rfl)) (e_lendm (i := 0) rfl (e_lendr rfl (e_lendr rfl e_lend0))) hp6 rfl)) rfl rfl) (kl_eq rfl)) rfl)) fun _ => rfl)) fun _ => rfl)) fun s9 =>
    (js_ifr (e_test (e_isN (u := e_Os s9.2) (e_nm_s rfl) e_C rfl rfl)) (js_rtS e_C rfl)
    (js_seq (E := fun (s11 : ((List Nat) × (List Nat) × (List ((List Nat) × Int)) × Int × (List Int))) => [.mu true (.obj ("Line" : Str) [("state" : Str), ("name" : Str), ("parts" : Str), ("quantity" : Str), ("numbers" : Str)] [.d (D.str s11.1), .d (D.str s11.2.1), (O.l (List.map e_T2si s11.2.2.1)), .d (D.int s11.2.2.2.1), (O.l (List.map D.int s11.2.2.2.2))]), .un, .un]) (js_req fun hc10 => (js_st (E := fun (s11 : ((List Nat) × (List Nat) × (List ((List Nat) × Int)) × Int × (List Int))) => [.mu true (.obj ("Line" : Str) [("state" : Str), ("name" : Str), ("parts" : Str), ("quantity" : Str), ("numbers" : Str)] [.d (D.str s11.1), .d (D.str s11.2.1), (O.l (List.map e_T2si s11.2.2.1)), .d (D.int s11.2.2.2.1), (O.l (List.map D.int s11.2.2.2.2))]), .un, .un]) (st_kl (st_fput rfl (e_castD (congrArg e_Os (oget_eq hc10)) (e_fz_s rfl)) rfl rfl rfl (by decide) (by decide)) (kl_eq rfl)) rfl)) fun s11 =>
    (js_rt e_C rfl)))))
noncomputable def t__read_line (line' : Int) (parts' : (List ((List Nat) × (List Nat)))) : T (Exc ⊕ ((List Nat) × (List Nat) × (List ((List Nat) × Int)) × Int × (List Int))) :=
  T.bind (T.bind (t_Line___init__ ()) fun p1 => T.ret p1.2) fun s2 =>
    T.ctl (T.forC (fun (s3 : ((List Nat) × (List Nat) × (List ((List Nat) × Int)) × Int × (List Int))) (x4 : (Int × ((List Nat) × (List Nat)))) =>
    T.ctc (T.bind (t_Line_take s3 x4.2) fun p5 => if (!p5.1) = true then T.req (-1000000000000 ≤ x4.1 ∧ x4.1 ≤ 1000000000000) (T.req (-1000000000000 ≤ line' ∧ line' ≤ 1000000000000) (T.ret (.rt (Sum.inl (Exc.mk ("BillFault" : Str) ["word", "place", "line"] [D.str [117, 110, 101, 120, 112, 101, 99, 116, 101, 100], D.int x4.1, D.int line']))))) else T.ret (.nx p5.2)) fun s8 => T.ret (.nx s8)) (enumL 0 parts') s2) fun s3 =>
    if (!decide (s3.1 = [119, 104, 111, 108, 101])) = true then T.req (-1000000000000 ≤ (parts'.length : Int) ∧ (parts'.length : Int) ≤ 1000000000000) (T.req (-1000000000000 ≤ line' ∧ line' ≤ 1000000000000) (T.ret (Sum.inl (Exc.mk ("BillFault" : Str) ["word", "place", "line"] [D.str [101, 110, 100], D.int (parts'.length : Int), D.int line'])))) else
    T.ret (Sum.inr s3)
abbrev q__read_line (line' : Int) (parts' : (List ((List Nat) × (List Nat)))) : (Exc ⊕ ((List Nat) × (List Nat) × (List ((List Nat) × Int)) × Int × (List Int))) → Prop := fun z => f__read_line [.shr (D.int line'), .shr (e_LT2ss parts')] = ((fun (z : (Exc ⊕ ((List Nat) × (List Nat) × (List ((List Nat) × Int)) × Int × (List Int)))) => match z with | Sum.inl x => FRes.ex x [.un, .un] | Sum.inr v => FRes.ok (.own (.obj ("Line" : Str) [("state" : Str), ("name" : Str), ("parts" : Str), ("quantity" : Str), ("numbers" : Str)] [.d (D.str v.1), .d (D.str v.2.1), (O.l (List.map e_T2si v.2.2.1)), .d (D.int v.2.2.2.1), (O.l (List.map D.int v.2.2.2.2))])) [.un, .un] : (Exc ⊕ ((List Nat) × (List Nat) × (List ((List Nat) × Int)) × Int × (List Int))) → FRes)) z
theorem v__read_line (line' : Int) (parts' : (List ((List Nat) × (List Nat)))) : J (t__read_line line' parts') (q__read_line line' parts') :=
  v_fn (as := [.shr (D.int line'), .shr (e_LT2ss parts')]) (R' := fun (z : (Exc ⊕ ((List Nat) × (List Nat) × (List ((List Nat) × Int)) × Int × (List Int)))) => match z with | Sum.inl x => FRes.ex x [.un, .un] | Sum.inr v => FRes.ok (.own (.obj ("Line" : Str) [("state" : Str), ("name" : Str), ("parts" : Str), ("quantity" : Str), ("numbers" : Str)] [.d (D.str v.1), .d (D.str v.2.1), (O.l (List.map e_T2si v.2.2.1)), .d (D.int v.2.2.2.1), (O.l (List.map D.int v.2.2.2.2))])) [.un, .un]) f__read_line_eq rfl (js_seq (E := fun (s2 : ((List Nat) × (List Nat) × (List ((List Nat) × Int)) × Int × (List Int))) => [.shr (D.int line'), .shr (e_LT2ss parts'), .mu false (.obj ("Line" : Str) [("state" : Str), ("name" : Str), ("parts" : Str), ("quantity" : Str), ("numbers" : Str)] [.d (D.str s2.1), .d (D.str s2.2.1), (O.l (List.map e_T2si s2.2.2.1)), .d (D.int s2.2.2.2.1), (O.l (List.map D.int s2.2.2.2.2))]), .un, .un]) (js_bind (v_Line___init__ ()) fun p1 hp1 => (js_st (E := fun (s2 : ((List Nat) × (List Nat) × (List ((List Nat) × Int)) × Int × (List Int))) => [.shr (D.int line'), .shr (e_LT2ss parts'), .mu false (.obj ("Line" : Str) [("state" : Str), ("name" : Str), ("parts" : Str), ("quantity" : Str), ("numbers" : Str)] [.d (D.str s2.1), .d (D.str s2.2.1), (O.l (List.map e_T2si s2.2.2.1)), .d (D.int s2.2.2.2.1), (O.l (List.map D.int s2.2.2.2.2))]), .un, .un]) (st_set (e_make e_args0 rfl hp1) rfl rfl) rfl)) fun s2 =>
    (js_ctl (E := fun (s3 : ((List Nat) × (List Nat) × (List ((List Nat) × Int)) × Int × (List Int))) => [.shr (D.int line'), .shr (e_LT2ss parts'), .mu false (.obj ("Line" : Str) [("state" : Str), ("name" : Str), ("parts" : Str), ("quantity" : Str), ("numbers" : Str)] [.d (D.str s3.1), .d (D.str s3.2.1), (O.l (List.map e_T2si s3.2.2.1)), .d (D.int s3.2.2.2.1), (O.l (List.map D.int s3.2.2.2.2))]), .un, .un]) (L := Empty.elim) (js_forC (e := (eEn e_T2ss)) (xs := (enumL 0 parts')) (E := fun (s3 : ((List Nat) × (List Nat) × (List ((List Nat) × Int)) × Int × (List Int))) => [.shr (D.int line'), .shr (e_LT2ss parts'), .mu false (.obj ("Line" : Str) [("state" : Str), ("name" : Str), ("parts" : Str), ("quantity" : Str), ("numbers" : Str)] [.d (D.str s3.1), .d (D.str s3.2.1), (O.l (List.map e_T2si s3.2.2.1)), .d (D.int s3.2.2.2.1), (O.l (List.map D.int s3.2.2.2.2))]), .un, .un]) (fun s3 x4 => [.shr (D.int line'), .shr (e_LT2ss parts'), .mu false (.obj ("Line" : Str) [("state" : Str), ("name" : Str), ("parts" : Str), ("quantity" : Str), ("numbers" : Str)] [.d (D.str s3.1), .d (D.str s3.2.1), (O.l (List.map e_T2si s3.2.2.1)), .d (D.int s3.2.2.2.1), (O.l (List.map D.int s3.2.2.2.2))]), .shr (D.int x4.1), .shr (e_T2ss x4.2)]) (e_en (e := e_T2ss) (xs := parts') (e_fz_s rfl)) rfl (fun _ _ => rfl) (fun s3 x4 =>
    (js_ctcL (E1 := fun (s8 : ((List Nat) × (List Nat) × (List ((List Nat) × Int)) × Int × (List Int))) => [.shr (D.int line'), .shr (e_LT2ss parts'), .mu false (.obj ("Line" : Str) [("state" : Str), ("name" : Str), ("parts" : Str), ("quantity" : Str), ("numbers" : Str)] [.d (D.str s8.1), .d (D.str s8.2.1), (O.l (List.map e_T2si s8.2.2.1)), .d (D.int s8.2.2.2.1), (O.l (List.map D.int s8.2.2.2.2))]), .un, .un]) (js_bind (v_Line_take s3 x4.2) fun p5 hp5 => (js_if (e_not (e_test (e_meth rfl (e_call (e_argBb (i := 2) rfl (e_argBv (e_fz_s rfl) e_argB0 rfl)) (e_lendm (i := 2) rfl (e_lendr rfl e_lend0)) hp5 rfl)))) (js_req fun hc6 => (js_req fun hc7 => (js_xC (sx_raiseA (e_args (e_nm_s rfl) (e_args (e_nm_s rfl) (e_args e_C e_args0 rfl) rfl) rfl) (fmt_cons (fmtI hc7.1 hc7.2) (fmt_cons (fmtI hc6.1 hc6.2) (fmt_cons (fmtS (Nat.le_of_ble_eq_true rfl)) fmt_nil))) rfl) rfl))) (js_knC (v := p5.2) (kl_eq rfl)))) fun _ => rfl))) fun s3 =>
    (js_ifr (e_test (e_neS (e_fld (e_nm_m rfl) rfl) e_C)) (js_req fun hc9 => (js_req fun hc10 => (js_xS (sx_raiseA (e_args (e_nm_s rfl) (e_args (e_lenL (e := e_T2ss) (xs := parts') (e_nm_s rfl)) (e_args e_C e_args0 rfl) rfl) rfl) (fmt_cons (fmtI hc10.1 hc10.2) (fmt_cons (fmtI hc9.1 hc9.2) (fmt_cons (fmtS (Nat.le_of_ble_eq_true rfl)) fmt_nil))) rfl) rfl)))
    (js_rt (e_mv_m rfl) rfl))))
noncomputable def t__read_lines (text' : (List Nat)) : T (Exc ⊕ (List (Int × (List ((List Nat) × (List Nat))) × ((List Nat) × (List Nat) × (List ((List Nat) × Int)) × Int × (List Int))))) :=
  T.bind (T.ret ([] : (List (Int × (List ((List Nat) × (List Nat))) × ((List Nat) × (List Nat) × (List ((List Nat) × Int)) × Int × (List Int)))))) fun s1 =>
    T.bind (T.ret ([] : (List (List Nat)))) fun s2 =>
    T.ctl (T.req (splitOk text' [10] = true) (T.forC (fun (s4 : ((List (Int × (List ((List Nat) × (List Nat))) × ((List Nat) × (List Nat) × (List ((List Nat) × Int)) × Int × (List Int)))) × (List (List Nat)))) (x5 : (Int × (List Nat))) =>
    T.bind (T.bind (t_tokens x5.2) fun p6 => T.ret p6) fun s7 =>
    T.ctc (if (decide (0 < (s7.length : Int))) = true then T.ctc (T.bx (t__read_line x5.1 s7) (fun xe => T.ret (.rt (Sum.inl xe))) fun p8 => T.ret (.nx p8)) fun s9 =>
    T.ctc (if (decide (s9.2.1 ∈ s4.2)) = true then T.req (-1000000000000 ≤ x5.1 ∧ x5.1 ≤ 1000000000000) (T.ret (.rt (Sum.inl (Exc.mk ("BillFault" : Str) ["word", "place", "line"] [D.str [100, 111, 117, 98, 108, 101], D.int 0, D.int x5.1])))) else T.ret (.nx ())) fun s11 =>
    T.ctc (if (decide ((s4.1.length : Int) = (8 : Int))) = true then T.req (-1000000000000 ≤ x5.1 ∧ x5.1 ≤ 1000000000000) (T.ret (.rt (Sum.inl (Exc.mk ("BillFault" : Str) ["word", "place", "line"] [D.str [109, 97, 110, 121], D.int 0, D.int x5.1])))) else T.ret (.nx ())) fun s13 =>
    T.bind (T.req (s4.1.length < 1000000) (T.ret (s4.1 ++ [(x5.1, s7, s9)]))) fun s15 =>
    T.bind (T.req (s4.2.length < 1000000) (T.ret (s4.2 ++ [s9.2.1]))) fun s17 => T.ret (.nx (s15, s17)) else T.ret (.nx (s4.1, s4.2))) fun s18 => T.ret (.nx (s18.1, s18.2))) (enumL 0 (splitL text' [10])) (s1, s2))) fun s4 =>
    T.ret (Sum.inr s4.1)
abbrev q__read_lines (text' : (List Nat)) : (Exc ⊕ (List (Int × (List ((List Nat) × (List Nat))) × ((List Nat) × (List Nat) × (List ((List Nat) × Int)) × Int × (List Int))))) → Prop := fun z => f__read_lines [.shr (D.str text')] = ((fun (z : (Exc ⊕ (List (Int × (List ((List Nat) × (List Nat))) × ((List Nat) × (List Nat) × (List ((List Nat) × Int)) × Int × (List Int)))))) => match z with | Sum.inl x => FRes.ex x [.un] | Sum.inr v => FRes.ok (.own (O.l (List.map e_T3iLT2ssLine5 v))) [.un] : (Exc ⊕ (List (Int × (List ((List Nat) × (List Nat))) × ((List Nat) × (List Nat) × (List ((List Nat) × Int)) × Int × (List Int))))) → FRes)) z
theorem v__read_lines (text' : (List Nat)) : J (t__read_lines text') (q__read_lines text') :=
  v_fn (as := [.shr (D.str text')]) (R' := fun (z : (Exc ⊕ (List (Int × (List ((List Nat) × (List Nat))) × ((List Nat) × (List Nat) × (List ((List Nat) × Int)) × Int × (List Int)))))) => match z with | Sum.inl x => FRes.ex x [.un] | Sum.inr v => FRes.ok (.own (O.l (List.map e_T3iLT2ssLine5 v))) [.un]) f__read_lines_eq rfl (js_seq (E := fun (s1 : (List (Int × (List ((List Nat) × (List Nat))) × ((List Nat) × (List Nat) × (List ((List Nat) × Int)) × Int × (List Int))))) => [.shr (D.str text'), .mu false (O.l (List.map e_T3iLT2ssLine5 s1)), .un, .un, .un, .un, .un]) (js_st (E := fun (s1 : (List (Int × (List ((List Nat) × (List Nat))) × ((List Nat) × (List Nat) × (List ((List Nat) × Int)) × Int × (List Int))))) => [.shr (D.str text'), .mu false (O.l (List.map e_T3iLT2ssLine5 s1)), .un, .un, .un, .un, .un]) (st_set (e_cast (r' := .own (O.l (List.map e_T3iLT2ssLine5 ([] : (List (Int × (List ((List Nat) × (List Nat))) × ((List Nat) × (List Nat) × (List ((List Nat) × Int)) × Int × (List Int)))))))) (e_lst e_args0 e_sts0 (Nat.le_of_ble_eq_true rfl)) rfl) rfl rfl) rfl) fun s1 =>
    (js_seq (E := fun (s2 : (List (List Nat))) => [.shr (D.str text'), .mu false (O.l (List.map e_T3iLT2ssLine5 s1)), .mu false (O.l (List.map D.str s2)), .un, .un, .un, .un]) (js_st (E := fun (s2 : (List (List Nat))) => [.shr (D.str text'), .mu false (O.l (List.map e_T3iLT2ssLine5 s1)), .mu false (O.l (List.map D.str s2)), .un, .un, .un, .un]) (st_set (e_cast (r' := .own (O.l (List.map D.str ([] : (List (List Nat)))))) (e_lst e_args0 e_sts0 (Nat.le_of_ble_eq_true rfl)) rfl) rfl rfl) rfl) fun s2 =>
    (js_ctl (E := fun (s4 : ((List (Int × (List ((List Nat) × (List Nat))) × ((List Nat) × (List Nat) × (List ((List Nat) × Int)) × Int × (List Int)))) × (List (List Nat)))) => [.un, .mu false (O.l (List.map e_T3iLT2ssLine5 s4.1)), .un, .un, .un, .un, .un]) (L := Empty.elim) (js_klC (E := fun (s4 : ((List (Int × (List ((List Nat) × (List Nat))) × ((List Nat) × (List Nat) × (List ((List Nat) × Int)) × Int × (List Int)))) × (List (List Nat)))) => [.shr (D.str text'), .mu false (O.l (List.map e_T3iLT2ssLine5 s4.1)), .mu false (O.l (List.map D.str s4.2)), .un, .un, .un, .un]) (E' := fun (s4 : ((List (Int × (List ((List Nat) × (List Nat))) × ((List Nat) × (List Nat) × (List ((List Nat) × Int)) × Int × (List Int)))) × (List (List Nat)))) => [.un, .mu false (O.l (List.map e_T3iLT2ssLine5 s4.1)), .un, .un, .un, .un, .un]) (L := Empty.elim) (L' := Empty.elim) (js_req fun hc3 => (js_forC (e := (eEn D.str)) (xs := (enumL 0 (splitL text' [10]))) (E := fun (s4 : ((List (Int × (List ((List Nat) × (List Nat))) × ((List Nat) × (List Nat) × (List ((List Nat) × Int)) × Int × (List Int)))) × (List (List Nat)))) => [.shr (D.str text'), .mu false (O.l (List.map e_T3iLT2ssLine5 s4.1)), .mu false (O.l (List.map D.str s4.2)), .un, .un, .un, .un]) (fun s4 x5 => [.shr (D.str text'), .mu false (O.l (List.map e_T3iLT2ssLine5 s4.1)), .mu false (O.l (List.map D.str s4.2)), .shr (D.int x5.1), .shr (D.str x5.2), .un, .un]) (e_en (e := D.str) (xs := (splitL text' [10])) (e_frz (e_split (e_nm_s rfl) e_C hc3))) rfl (fun _ _ => rfl) (fun s4 x5 =>
    (js_seq (E := fun (s7 : (List ((List Nat) × (List Nat)))) => [.shr (D.str text'), .mu false (O.l (List.map e_T3iLT2ssLine5 s4.1)), .mu false (O.l (List.map D.str s4.2)), .shr (D.int x5.1), .un, .mu false (O.l (List.map e_T2ss s7)), .un]) (js_bind (v_tokens x5.2) fun p6 hp6 => (js_st (E := fun (s7 : (List ((List Nat) × (List Nat)))) => [.shr (D.str text'), .mu false (O.l (List.map e_T3iLT2ssLine5 s4.1)), .mu false (O.l (List.map D.str s4.2)), .shr (D.int x5.1), .un, .mu false (O.l (List.map e_T2ss s7)), .un]) (st_kl (st_set (e_call (e_argBv (e_fz_s rfl) e_argB0 rfl) (e_lendr rfl e_lend0) hp6 rfl) rfl rfl) (kl_eq rfl)) rfl)) fun s7 =>
    (js_ctcL (E1 := fun (s18 : ((List (Int × (List ((List Nat) × (List Nat))) × ((List Nat) × (List Nat) × (List ((List Nat) × Int)) × Int × (List Int)))) × (List (List Nat)))) => [.shr (D.str text'), .mu false (O.l (List.map e_T3iLT2ssLine5 s18.1)), .mu false (O.l (List.map D.str s18.2)), .un, .un, .un, .un]) (js_if (e_test (e_gt (e_lenP (e := e_T2ss) (xs := s7) (e_nm_m rfl)) e_C)) (js_ctc (E := fun (s9 : ((List Nat) × (List Nat) × (List ((List Nat) × Int)) × Int × (List Int))) => [.shr (D.str text'), .mu false (O.l (List.map e_T3iLT2ssLine5 s4.1)), .mu false (O.l (List.map D.str s4.2)), .shr (D.int x5.1), .un, .shr (e_LT2ss s7), .mu false (.obj ("Line" : Str) [("state" : Str), ("name" : Str), ("parts" : Str), ("quantity" : Str), ("numbers" : Str)] [.d (D.str s9.1), .d (D.str s9.2.1), (O.l (List.map e_T2si s9.2.2.1)), .d (D.int s9.2.2.2.1), (O.l (List.map D.int s9.2.2.2.2))])]) (js_bx (v__read_line x5.1 s7) (fun xe hxe => (js_xC (sx_set (e_callX (e_argBv (e_fz_s rfl) (e_argBv (e_fz_m rfl) e_argB0 rfl) rfl) (e_lendr rfl (e_lendr rfl e_lend0)) hxe rfl)) rfl)) fun p8 hp8 => (js_stC (E := fun (s9 : ((List Nat) × (List Nat) × (List ((List Nat) × Int)) × Int × (List Int))) => [.shr (D.str text'), .mu false (O.l (List.map e_T3iLT2ssLine5 s4.1)), .mu false (O.l (List.map D.str s4.2)), .shr (D.int x5.1), .un, .shr (e_LT2ss s7), .mu false (.obj ("Line" : Str) [("state" : Str), ("name" : Str), ("parts" : Str), ("quantity" : Str), ("numbers" : Str)] [.d (D.str s9.1), .d (D.str s9.2.1), (O.l (List.map e_T2si s9.2.2.1)), .d (D.int s9.2.2.2.1), (O.l (List.map D.int s9.2.2.2.2))])]) (st_set (e_call (e_argBv (e_fz_s rfl) (e_argBv (e_fz_m rfl) e_argB0 rfl) rfl) (e_lendr rfl (e_lendr rfl e_lend0)) hp8 rfl) rfl rfl) rfl)) fun s9 =>
    (js_ctc (E := fun (s11 : Unit) => [.shr (D.str text'), .mu false (O.l (List.map e_T3iLT2ssLine5 s4.1)), .mu false (O.l (List.map D.str s4.2)), .shr (D.int x5.1), .un, .shr (e_LT2ss s7), .mu false (.obj ("Line" : Str) [("state" : Str), ("name" : Str), ("parts" : Str), ("quantity" : Str), ("numbers" : Str)] [.d (D.str s9.1), .d (D.str s9.2.1), (O.l (List.map e_T2si s9.2.2.1)), .d (D.int s9.2.2.2.1), (O.l (List.map D.int s9.2.2.2.2))])]) (js_if (e_test (e_in (e_fld (e_nm_m rfl) rfl) (e_nm_m rfl) rfl (isInL_s (R.pl_pk _)))) (js_req fun hc10 => (js_xC (sx_raiseA (e_args (e_nm_s rfl) (e_args e_C (e_args e_C e_args0 rfl) rfl) rfl) (fmt_cons (fmtI hc10.1 hc10.2) (fmt_cons (fmtI (by decide) (by decide)) (fmt_cons (fmtS (Nat.le_of_ble_eq_true rfl)) fmt_nil))) rfl) rfl)) (js_nxC rfl)) fun s11 =>
    (js_ctc (E := fun (s13 : Unit) => [.shr (D.str text'), .mu false (O.l (List.map e_T3iLT2ssLine5 s4.1)), .mu false (O.l (List.map D.str s4.2)), .shr (D.int x5.1), .un, .shr (e_LT2ss s7), .mu false (.obj ("Line" : Str) [("state" : Str), ("name" : Str), ("parts" : Str), ("quantity" : Str), ("numbers" : Str)] [.d (D.str s9.1), .d (D.str s9.2.1), (O.l (List.map e_T2si s9.2.2.1)), .d (D.int s9.2.2.2.1), (O.l (List.map D.int s9.2.2.2.2))])]) (js_if (e_test (e_eqI (e_lenP (e := e_T3iLT2ssLine5) (xs := s4.1) (e_nm_m rfl)) e_C)) (js_req fun hc12 => (js_xC (sx_raiseA (e_args (e_nm_s rfl) (e_args e_C (e_args e_C e_args0 rfl) rfl) rfl) (fmt_cons (fmtI hc12.1 hc12.2) (fmt_cons (fmtI (by decide) (by decide)) (fmt_cons (fmtS (Nat.le_of_ble_eq_true rfl)) fmt_nil))) rfl) rfl)) (js_nxC rfl)) fun s13 =>
    (js_seq (E := fun (s15 : (List (Int × (List ((List Nat) × (List Nat))) × ((List Nat) × (List Nat) × (List ((List Nat) × Int)) × Int × (List Int))))) => [.shr (D.str text'), .mu false (O.l (List.map e_T3iLT2ssLine5 s15)), .mu false (O.l (List.map D.str s4.2)), .un, .un, .un, .shr (e_Line5 s9)]) (js_req fun hc14 => (js_st (E := fun (s15 : (List (Int × (List ((List Nat) × (List Nat))) × ((List Nat) × (List Nat) × (List ((List Nat) × Int)) × Int × (List Int))))) => [.shr (D.str text'), .mu false (O.l (List.map e_T3iLT2ssLine5 s15)), .mu false (O.l (List.map D.str s4.2)), .un, .un, .un, .shr (e_Line5 s9)]) (st_kl (st_drop (e_app (e := e_T3iLT2ssLine5) (xs := s4.1) (z := (x5.1, s7, s9)) rfl (e_cast (r' := .d (e_T3iLT2ssLine5 (x5.1, s7, s9))) (e_tup (e_args (e_fz_s rfl) (e_args (e_fz_s rfl) (e_args (e_fz_C rfl (fzrd (fzrd (fzrl (fzrd (fzrl fzr0)))))) e_args0 rfl) rfl) rfl) (e_sts rfl (e_sts rfl (e_sts rfl e_sts0))) (Nat.le_of_ble_eq_true rfl)) rfl) rfl rfl hc14)) (kl_eq rfl)) rfl)) fun s15 =>
    (js_lastC (E1 := fun (s17 : (List (List Nat))) => [.shr (D.str text'), .mu false (O.l (List.map e_T3iLT2ssLine5 s15)), .mu false (O.l (List.map D.str s17)), .un, .un, .un, .un]) (js_req fun hc16 => (js_st (E := fun (s17 : (List (List Nat))) => [.shr (D.str text'), .mu false (O.l (List.map e_T3iLT2ssLine5 s15)), .mu false (O.l (List.map D.str s17)), .un, .un, .un, .un]) (st_kl (st_drop (e_app (e := D.str) (xs := s4.2) (z := s9.2.1) rfl (e_fldD (e_nm_s rfl) rfl) rfl rfl hc16)) (kl_eq rfl)) rfl)) fun _ => rfl))))) (js_knC (v := (s4.1, s4.2)) (kl_eq rfl))) fun _ => rfl))))) (fun _ => kl_eq rfl) (fun x => x.elim)) fun s4 =>
    (js_rt (e_mv_m rfl) rfl))))
noncomputable def t__check_names (lines' : (List (Int × (List ((List Nat) × (List Nat))) × ((List Nat) × (List Nat) × (List ((List Nat) × Int)) × Int × (List Int))))) : T (Exc ⊕ Unit) :=
  T.bind (T.req (lines'.length ≤ 1000000) (T.req ((T.lcP (fun (x1 : (Int × (List ((List Nat) × (List Nat))) × ((List Nat) × (List Nat) × (List ((List Nat) × Int)) × Int × (List Int)))) => T.ret true) (fun x1 => T.ret x1.2.2.2.1) lines').ok) (T.ret ((T.lcP (fun (x1 : (Int × (List ((List Nat) × (List Nat))) × ((List Nat) × (List Nat) × (List ((List Nat) × Int)) × Int × (List Int)))) => T.ret true) (fun x1 => T.ret x1.2.2.2.1) lines').val)))) fun s5 =>
    T.ctl (T.forC (fun (s6 : Unit) (x7 : (Int × (List ((List Nat) × (List Nat))) × ((List Nat) × (List Nat) × (List ((List Nat) × Int)) × Int × (List Int)))) =>
    T.bind (T.req (IdxOk e_T2ss x7.2.1 ([115, 105, 103, 110], [59])) (T.ret (idxX e_T2ss x7.2.1 ([115, 105, 103, 110], [59])))) fun s9 =>
    T.ctc (T.req (-1000000 ≤ s9 ∧ s9 ≤ 1000000) (T.forC (fun (s11 : Unit) (x12 : Int) =>
    T.ctc (T.req (0 ≤ x12 ∧ x12 < x7.2.1.length) (T.req ((decide ((ix x7.2.1 x12).1 = [110, 97, 109, 101])) = true → (0 ≤ x12 ∧ x12 < x7.2.1.length)) (if ((decide ((ix x7.2.1 x12).1 = [110, 97, 109, 101])) && (!decide ((ix x7.2.1 x12).2 ∈ s5))) = true then T.req (-1000000000000 ≤ x12 ∧ x12 ≤ 1000000000000) (T.req (-1000000000000 ≤ x7.1 ∧ x7.1 ≤ 1000000000000) (T.ret (.rt (Sum.inl (Exc.mk ("BillFault" : Str) ["word", "place", "line"] [D.str [117, 110, 107, 110, 111, 119, 110], D.int x12, D.int x7.1]))))) else T.ret (.nx ())))) fun s18 => T.ret (.nx ())) (rng2 2 s9) ())) fun s11 => T.ret (.nx ())) lines' ()) fun s6 => T.ret (Sum.inr ())
abbrev q__check_names (lines' : (List (Int × (List ((List Nat) × (List Nat))) × ((List Nat) × (List Nat) × (List ((List Nat) × Int)) × Int × (List Int))))) : (Exc ⊕ Unit) → Prop := fun z => f__check_names [.shr (e_LT3iLT2ssLine5 lines')] = ((fun (z : (Exc ⊕ Unit)) => match z with | Sum.inl x => FRes.ex x [.un] | Sum.inr v => FRes.ok (.d (eN v)) [.un] : (Exc ⊕ Unit) → FRes)) z
theorem v__check_names (lines' : (List (Int × (List ((List Nat) × (List Nat))) × ((List Nat) × (List Nat) × (List ((List Nat) × Int)) × Int × (List Int))))) : J (t__check_names lines') (q__check_names lines') :=
  v_fn (as := [.shr (e_LT3iLT2ssLine5 lines')]) (R' := fun (z : (Exc ⊕ Unit)) => match z with | Sum.inl x => FRes.ex x [.un] | Sum.inr v => FRes.ok (.d (eN v)) [.un]) f__check_names_eq rfl (js_seq (E := fun (s5 : (List (List Nat))) => [.shr (e_LT3iLT2ssLine5 lines'), .mu false (O.l (List.map D.str s5)), .un, .un, .un, .un, .un]) (js_req fun hc3 => (js_req fun hc4 => (js_st (E := fun (s5 : (List (List Nat))) => [.shr (e_LT3iLT2ssLine5 lines'), .mu false (O.l (List.map D.str s5)), .un, .un, .un, .un, .un]) (st_set ((e_lcJ (e := e_T3iLT2ssLine5) (xs := lines') (eb := D.str) (fun x1 => [.shr (e_LT3iLT2ssLine5 lines'), .un, .shr (D.int x1.1), .shr (e_LT2ss x1.2.1), .shr (e_Line5 x1.2.2), .un, .un]) (e_it (e_fz_s rfl) rfl) hc3 rfl rfl (fun _ => rfl) (fun _ => rfl) rfl (fun x1 => j_yes) (fun x1 => (jj_ret ⟨_, (e_fldD (e_nm_s rfl) rfl), rfl⟩))) hc4) rfl rfl) rfl))) fun s5 =>
    (js_ctlT (E := fun (s6 : Unit) => [.un, .un, .un, .un, .un, .un, .un]) (L := Empty.elim) (js_klC (E := fun (s6 : Unit) => [.shr (e_LT3iLT2ssLine5 lines'), .mu false (O.l (List.map D.str s5)), .un, .un, .un, .un, .un]) (E' := fun (s6 : Unit) => [.un, .un, .un, .un, .un, .un, .un]) (L := Empty.elim) (L' := Empty.elim) (js_forC (e := e_T3iLT2ssLine5) (xs := lines') (E := fun (s6 : Unit) => [.shr (e_LT3iLT2ssLine5 lines'), .mu false (O.l (List.map D.str s5)), .un, .un, .un, .un, .un]) (fun s6 x7 => [.shr (e_LT3iLT2ssLine5 lines'), .mu false (O.l (List.map D.str s5)), .shr (D.int x7.1), .shr (e_LT2ss x7.2.1), .shr (e_Line5 x7.2.2), .un, .un]) (e_it (e_fz_s rfl) rfl) rfl (fun _ _ => rfl) (fun s6 x7 =>
    (js_seq (E := fun (s9 : Int) => [.shr (e_LT3iLT2ssLine5 lines'), .mu false (O.l (List.map D.str s5)), .shr (D.int x7.1), .shr (e_LT2ss x7.2.1), .un, .shr (D.int s9), .un]) (js_req fun hc8 => (js_st (E := fun (s9 : Int) => [.shr (e_LT3iLT2ssLine5 lines'), .mu false (O.l (List.map D.str s5)), .shr (D.int x7.1), .shr (e_LT2ss x7.2.1), .un, .shr (D.int s9), .un]) (st_kl (st_set (e_indexX (e := e_T2ss) (z := ([115, 105, 103, 110], [59])) (e_nm_s rfl) (e_cast (r' := .d (e_T2ss ([115, 105, 103, 110], [59]))) (e_tup (e_args e_C (e_args e_C e_args0 rfl) rfl) (e_sts rfl (e_sts rfl e_sts0)) (Nat.le_of_ble_eq_true rfl)) rfl) rfl rfl hc8) rfl rfl) (kl_eq rfl)) rfl)) fun s9 =>
    (js_ctcL (E1 := fun (s11 : Unit) => [.shr (e_LT3iLT2ssLine5 lines'), .mu false (O.l (List.map D.str s5)), .un, .un, .un, .un, .un]) (js_klC (E := fun (s11 : Unit) => [.shr (e_LT3iLT2ssLine5 lines'), .mu false (O.l (List.map D.str s5)), .shr (D.int x7.1), .shr (e_LT2ss x7.2.1), .un, .shr (D.int s9), .un]) (E' := fun (s11 : Unit) => [.shr (e_LT3iLT2ssLine5 lines'), .mu false (O.l (List.map D.str s5)), .un, .un, .un, .un, .un]) (L := fun (s6 : Unit) => [.shr (e_LT3iLT2ssLine5 lines'), .mu false (O.l (List.map D.str s5)), .un, .un, .un, .un, .un]) (L' := fun (s6 : Unit) => [.shr (e_LT3iLT2ssLine5 lines'), .mu false (O.l (List.map D.str s5)), .un, .un, .un, .un, .un]) (js_req fun hc10 => (js_forC (e := D.int) (xs := (rng2 2 s9)) (E := fun (s11 : Unit) => [.shr (e_LT3iLT2ssLine5 lines'), .mu false (O.l (List.map D.str s5)), .shr (D.int x7.1), .shr (e_LT2ss x7.2.1), .un, .shr (D.int s9), .un]) (fun s11 x12 => [.shr (e_LT3iLT2ssLine5 lines'), .mu false (O.l (List.map D.str s5)), .shr (D.int x7.1), .shr (e_LT2ss x7.2.1), .un, .shr (D.int s9), .shr (D.int x12)]) (e_rg2 e_C (e_nm_s rfl) (by decide) hc10) rfl (fun _ _ => rfl) (fun s11 x12 =>
    (js_ctcL (E1 := fun (s18 : Unit) => [.shr (e_LT3iLT2ssLine5 lines'), .mu false (O.l (List.map D.str s5)), .shr (D.int x7.1), .shr (e_LT2ss x7.2.1), .un, .shr (D.int s9), .un]) (js_req fun hc13 => (js_req fun hc15 => (js_if (e_and (e_test (e_eqS (e_tF 0 (e_ixL (e := e_T2ss) (xs := x7.2.1) (e_nm_s rfl) (e_nm_s rfl) hc13) rfl rfl) e_C)) fun g14 => (e_test (e_notin (e_tF 1 (e_ixL (e := e_T2ss) (xs := x7.2.1) (e_nm_s rfl) (e_nm_s rfl) (hc15 g14)) rfl rfl) (e_nm_m rfl) rfl (isInL_s (R.pl_pk _))))) (js_req fun hc16 => (js_req fun hc17 => (js_xC (sx_raiseA (e_args (e_nm_s rfl) (e_args (e_nm_s rfl) (e_args e_C e_args0 rfl) rfl) rfl) (fmt_cons (fmtI hc17.1 hc17.2) (fmt_cons (fmtI hc16.1 hc16.2) (fmt_cons (fmtS (Nat.le_of_ble_eq_true rfl)) fmt_nil))) rfl) rfl))) (js_knC (v := ()) (kl_eq rfl))))) fun _ => rfl)))) (fun _ => kl_eq rfl) (fun _ => kl_eq rfl)) fun _ => rfl)))) (fun _ => kl_eq rfl) (fun x => x.elim)) fun _ => rfl))
noncomputable def t__reaches (items' : (List Item)) (first' : Int) : T Bool :=
  T.bind (T.req (0 ≤ first' ∧ first' < items'.length) (T.req (((ix items' first').parts).length ≤ 1000000) (T.req ((T.lcP (fun (x2 : (Int × Int)) => T.ret true) (fun x2 => T.ret x2.1) ((ix items' first').parts)).ok) (T.ret ((T.lcP (fun (x2 : (Int × Int)) => T.ret true) (fun x2 => T.ret x2.1) ((ix items' first').parts)).val))))) fun s6 =>
    T.bind (T.ret 0) fun s7 =>
    T.bind (T.whL (fun (s8 : ((List Int) × Int)) => T.ret (decide (s8.2 < (s8.1.length : Int)))) (fun s8 =>
    T.bind (T.req (0 ≤ s8.2 ∧ s8.2 < s8.1.length) (T.req (0 ≤ (ix s8.1 s8.2) ∧ (ix s8.1 s8.2) < items'.length) (T.forL (fun (s12 : (List Int)) (x13 : (Int × Int)) =>
    T.bind (if (!decide (x13.1 ∈ s12)) = true then T.bind (T.req (s12.length < 1000000) (T.ret (s12 ++ [x13.1]))) fun s15 => T.ret s15 else T.ret s12) fun s16 => T.ret s16) ((ix items' (ix s8.1 s8.2)).parts) s8.1))) fun s12 =>
    T.bind (T.ret (s8.2 + 1)) fun s17 => T.ret (s12, s17)) (s6, s7)) fun s8 =>
    T.ret (decide (first' ∈ s8.1))
abbrev q__reaches (items' : (List Item)) (first' : Int) : Bool → Prop := fun z => f__reaches [.mu true (O.l (List.map e_Item items')), .shr (D.int first')] = ((fun (z : Bool) => FRes.ok (.d (D.bl z)) [.mu true (O.l (List.map e_Item items')), .un] : Bool → FRes)) z
theorem v__reaches (items' : (List Item)) (first' : Int) : J (t__reaches items' first') (q__reaches items' first') :=
  v_fn (as := [.mu true (O.l (List.map e_Item items')), .shr (D.int first')]) (R' := fun (z : Bool) => FRes.ok (.d (D.bl z)) [.mu true (O.l (List.map e_Item items')), .un]) f__reaches_eq rfl (js_seq (E := fun (s6 : (List Int)) => [.mu true (O.l (List.map e_Item items')), .shr (D.int first'), .mu false (O.l (List.map D.int s6)), .un, .un]) (js_req fun hc1 => (js_req fun hc4 => (js_req fun hc5 => (js_st (E := fun (s6 : (List Int)) => [.mu true (O.l (List.map e_Item items')), .shr (D.int first'), .mu false (O.l (List.map D.int s6)), .un, .un]) (st_set ((e_lcJ (e := e_T2ii) (xs := (ix items' first').parts) (eb := D.int) (fun x2 => [.mu true (O.l (List.map e_Item items')), .shr (D.int first'), .un, .un, .shr (e_T2ii x2)]) (e_it (e_tF 1 (e_ixP (e := e_Item) (xs := items') (e_nm_m rfl) (e_nm_s rfl) rfl hc1) rfl rfl) rfl) hc4 rfl rfl (fun _ => rfl) (fun _ => rfl) rfl (fun x2 => j_yes) (fun x2 => (jj_ret ⟨_, (e_tF 0 (e_nm_s rfl) rfl rfl), rfl⟩))) hc5) rfl rfl) rfl)))) fun s6 =>
    (js_seq (E := fun (s7 : Int) => [.mu true (O.l (List.map e_Item items')), .shr (D.int first'), .mu false (O.l (List.map D.int s6)), .shr (D.int s7), .un]) (js_st (E := fun (s7 : Int) => [.mu true (O.l (List.map e_Item items')), .shr (D.int first'), .mu false (O.l (List.map D.int s6)), .shr (D.int s7), .un]) (st_set e_C rfl rfl) rfl) fun s7 =>
    (js_seq (E := fun (s8 : ((List Int) × Int)) => [.mu true (O.l (List.map e_Item items')), .shr (D.int first'), .mu false (O.l (List.map D.int s8.1)), .un, .un]) (js_klN (E := fun (s8 : ((List Int) × Int)) => [.mu true (O.l (List.map e_Item items')), .shr (D.int first'), .mu false (O.l (List.map D.int s8.1)), .shr (D.int s8.2), .un]) (js_whL (E := fun (s8 : ((List Int) × Int)) => [.mu true (O.l (List.map e_Item items')), .shr (D.int first'), .mu false (O.l (List.map D.int s8.1)), .shr (D.int s8.2), .un]) rfl (fun s8 => (jj_ret ⟨_, (e_test (e_lt (e_nm_s rfl) (e_lenP (e := D.int) (xs := s8.1) (e_nm_m rfl))))⟩)) (fun s8 =>
    (js_seq (E := fun (s12 : (List Int)) => [.mu true (O.l (List.map e_Item items')), .shr (D.int first'), .mu false (O.l (List.map D.int s12)), .shr (D.int s8.2), .un]) (js_req fun hc10 => (js_req fun hc11 => (js_forL (e := e_T2ii) (xs := (ix items' (ix s8.1 s8.2)).parts) (E := fun (s12 : (List Int)) => [.mu true (O.l (List.map e_Item items')), .shr (D.int first'), .mu false (O.l (List.map D.int s12)), .shr (D.int s8.2), .un]) (fun s12 x13 => [.mu true (O.l (List.map e_Item items')), .shr (D.int first'), .mu false (O.l (List.map D.int s12)), .shr (D.int s8.2), .shr (e_T2ii x13)]) (e_it (e_tF 1 (e_ixP (e := e_Item) (xs := items') (e_nm_m rfl) (e_ixP (e := D.int) (xs := s8.1) (e_nm_m rfl) (e_nm_s rfl) rfl hc10) rfl hc11) rfl rfl) rfl) rfl (fun _ _ => rfl) (fun s12 x13 =>
    (js_last (E1 := fun (s16 : (List Int)) => [.mu true (O.l (List.map e_Item items')), .shr (D.int first'), .mu false (O.l (List.map D.int s16)), .shr (D.int s8.2), .un]) (js_if (e_test (e_notin (e_tF 0 (e_nm_s rfl) rfl rfl) (e_nm_m rfl) rfl (isInL_i (R.pl_pk _)))) (js_last (E1 := fun (s15 : (List Int)) => [.mu true (O.l (List.map e_Item items')), .shr (D.int first'), .mu false (O.l (List.map D.int s15)), .shr (D.int s8.2), .un]) (js_req fun hc14 => (js_st (E := fun (s15 : (List Int)) => [.mu true (O.l (List.map e_Item items')), .shr (D.int first'), .mu false (O.l (List.map D.int s15)), .shr (D.int s8.2), .un]) (st_kl (st_drop (e_app (e := D.int) (xs := s12) (z := x13.1) rfl (e_tF 0 (e_nm_s rfl) rfl rfl) rfl rfl hc14)) (kl_eq rfl)) rfl)) fun _ => rfl) (js_kn (v := s12) (kl_eq rfl))) fun _ => rfl))))) fun s12 =>
    (js_last (E1 := fun (s17 : Int) => [.mu true (O.l (List.map e_Item items')), .shr (D.int first'), .mu false (O.l (List.map D.int s12)), .shr (D.int s17), .un]) (js_st (E := fun (s17 : Int) => [.mu true (O.l (List.map e_Item items')), .shr (D.int first'), .mu false (O.l (List.map D.int s12)), .shr (D.int s17), .un]) (st_augI rfl e_C rfl) rfl) fun _ => rfl)))) (fun _ => kl_eq rfl)) fun s8 =>
    (js_rt (e_in (e_nm_s rfl) (e_nm_m rfl) rfl (isInL_i (R.pl_pk _))) rfl))))
noncomputable def t_read_bill (text' : (List Nat)) : T (Exc ⊕ (List Item)) :=
  T.ctl (T.bx (t__read_lines text') (fun xe => T.ret (.rt (Sum.inl xe))) fun p1 => T.ret (.nx p1)) fun s2 =>
    T.ctl (T.bx (t__check_names s2) (fun xe => T.ret (.rt (Sum.inl xe))) fun p3 => T.ret (.nx ())) fun s4 =>
    T.bind (T.ret ([] : (List (List Nat × Int)))) fun s5 =>
    T.bind (T.forL (fun (s6 : (List (List Nat × Int))) (x7 : (Int × (Int × (List ((List Nat) × (List Nat))) × ((List Nat) × (List Nat) × (List ((List Nat) × Int)) × Int × (List Int))))) =>
    T.bind (T.req (s6.length < 1000000) (T.ret (tput s6 x7.2.2.2.2.1 x7.1))) fun s9 => T.ret s9) (enumL 0 s2) s5) fun s6 =>
    T.bind (T.ret ([] : (List Item))) fun s10 =>
    T.bind (T.forL (fun (s11 : (List Item)) (x12 : (Int × (List ((List Nat) × (List Nat))) × ((List Nat) × (List Nat) × (List ((List Nat) × Int)) × Int × (List Int)))) =>
    T.bind (T.req (x12.2.2.2.2.1.length ≤ 1000000) (T.req ((T.lcP (fun (x13 : ((List Nat) × Int)) => T.ret true) (fun x13 => T.req ((tget s6 x13.1).isSome = true) (T.ret ((dat s6 x13.1), x13.2))) x12.2.2.2.2.1).ok) (T.ret ((T.lcP (fun (x13 : ((List Nat) × Int)) => T.ret true) (fun x13 => T.req ((tget s6 x13.1).isSome = true) (T.ret ((dat s6 x13.1), x13.2))) x12.2.2.2.2.1).val)))) fun s18 =>
    T.bind (T.req (0 ≤ (0 : Int) ∧ (0 : Int) < x12.2.2.2.2.2.2.length) (T.req (0 ≤ (1 : Int) ∧ (1 : Int) < x12.2.2.2.2.2.2.length) (T.req (0 ≤ (2 : Int) ∧ (2 : Int) < x12.2.2.2.2.2.2.length) (T.req (s11.length < 1000000) (T.ret (s11 ++ [(Item.mk x12.2.2.2.1 s18 (ix x12.2.2.2.2.2.2 0) (ix x12.2.2.2.2.2.2 1) (ix x12.2.2.2.2.2.2 2))])))))) fun s23 => T.ret s23) s2 s10) fun s11 =>
    T.ctl (T.forC (fun (s24 : Unit) (x25 : (Int × (Int × (List ((List Nat) × (List Nat))) × ((List Nat) × (List Nat) × (List ((List Nat) × Int)) × Int × (List Int))))) =>
    T.ctc (T.bind (t__reaches s11 x25.1) fun p26 => if p26 = true then T.req (-1000000000000 ≤ x25.2.1 ∧ x25.2.1 ≤ 1000000000000) (T.ret (.rt (Sum.inl (Exc.mk ("BillFault" : Str) ["word", "place", "line"] [D.str [108, 111, 111, 112], D.int 0, D.int x25.2.1])))) else T.ret (.nx ())) fun s28 => T.ret (.nx ())) (enumL 0 s2) ()) fun s24 =>
    T.ret (Sum.inr s11)
abbrev q_read_bill (text' : (List Nat)) : (Exc ⊕ (List Item)) → Prop := fun z => f_read_bill [.shr (D.str text')] = ((fun (z : (Exc ⊕ (List Item))) => match z with | Sum.inl x => FRes.ex x [.un] | Sum.inr v => FRes.ok (.d (e_VItem v)) [.un] : (Exc ⊕ (List Item)) → FRes)) z
theorem v_read_bill (text' : (List Nat)) : J (t_read_bill text') (q_read_bill text') :=
  v_fn (as := [.shr (D.str text')]) (R' := fun (z : (Exc ⊕ (List Item))) => match z with | Sum.inl x => FRes.ex x [.un] | Sum.inr v => FRes.ok (.d (e_VItem v)) [.un]) f_read_bill_eq rfl (js_ctl (E := fun (s2 : (List (Int × (List ((List Nat) × (List Nat))) × ((List Nat) × (List Nat) × (List ((List Nat) × Int)) × Int × (List Int))))) => [.un, .mu false (O.l (List.map e_T3iLT2ssLine5 s2)), .un, .un, .un, .un, .un, .un, .un, .un, .un, .un]) (L := Empty.elim) (js_bx (v__read_lines text') (fun xe hxe => (js_xC (sx_kl (sx_set (e_callX (e_argBv (e_fz_s rfl) e_argB0 rfl) (e_lendr rfl e_lend0) hxe rfl))) rfl)) fun p1 hp1 => (js_stC (E := fun (s2 : (List (Int × (List ((List Nat) × (List Nat))) × ((List Nat) × (List Nat) × (List ((List Nat) × Int)) × Int × (List Int))))) => [.un, .mu false (O.l (List.map e_T3iLT2ssLine5 s2)), .un, .un, .un, .un, .un, .un, .un, .un, .un, .un]) (st_kl (st_set (e_call (e_argBv (e_fz_s rfl) e_argB0 rfl) (e_lendr rfl e_lend0) hp1 rfl) rfl rfl) (kl_eq rfl)) rfl)) fun s2 =>
    (js_ctl (E := fun (s4 : Unit) => [.un, .shr (e_LT3iLT2ssLine5 s2), .un, .un, .un, .un, .un, .un, .un, .un, .un, .un]) (L := Empty.elim) (js_bx (v__check_names s2) (fun xe hxe => (js_xC (sx_drop (e_callX (e_argBv (e_fz_m rfl) e_argB0 rfl) (e_lendr rfl e_lend0) hxe rfl)) rfl)) fun p3 hp3 => (js_stC (E := fun (s4 : Unit) => [.un, .shr (e_LT3iLT2ssLine5 s2), .un, .un, .un, .un, .un, .un, .un, .un, .un, .un]) (st_drop (e_call (e_argBv (e_fz_m rfl) e_argB0 rfl) (e_lendr rfl e_lend0) hp3 rfl)) rfl)) fun s4 =>
    (js_seq (E := fun (s5 : (List (List Nat × Int))) => [.un, .shr (e_LT3iLT2ssLine5 s2), .mu false (SDt D.int s5), .un, .un, .un, .un, .un, .un, .un, .un, .un]) (js_st (E := fun (s5 : (List (List Nat × Int))) => [.un, .shr (e_LT3iLT2ssLine5 s2), .mu false (SDt D.int s5), .un, .un, .un, .un, .un, .un, .un, .un, .un]) (st_set (e_dnewS (e := D.int)) rfl rfl) rfl) fun s5 =>
    (js_seq (E := fun (s6 : (List (List Nat × Int))) => [.un, .shr (e_LT3iLT2ssLine5 s2), .mu false (SDt D.int s6), .un, .un, .un, .un, .un, .un, .un, .un, .un]) (js_forL (e := (eEn e_T3iLT2ssLine5)) (xs := (enumL 0 s2)) (E := fun (s6 : (List (List Nat × Int))) => [.un, .shr (e_LT3iLT2ssLine5 s2), .mu false (SDt D.int s6), .un, .un, .un, .un, .un, .un, .un, .un, .un]) (fun s6 x7 => [.un, .shr (e_LT3iLT2ssLine5 s2), .mu false (SDt D.int s6), .shr (D.int x7.1), .shr (e_T3iLT2ssLine5 x7.2), .un, .un, .un, .un, .un, .un, .un]) (e_en (e := e_T3iLT2ssLine5) (xs := s2) (e_fz_s rfl)) rfl (fun _ _ => rfl) (fun s6 x7 =>
    (js_last (E1 := fun (s9 : (List (List Nat × Int))) => [.un, .shr (e_LT3iLT2ssLine5 s2), .mu false (SDt D.int s9), .un, .un, .un, .un, .un, .un, .un, .un, .un]) (js_req fun hc8 => (js_st (E := fun (s9 : (List (List Nat × Int))) => [.un, .shr (e_LT3iLT2ssLine5 s2), .mu false (SDt D.int s9), .un, .un, .un, .un, .un, .un, .un, .un, .un]) (st_kl (st_dputS (e := D.int) (kv := s6) (z := x7.1) rfl (e_args (e_fz_s rfl) (e_args (e_fldD (e_tF 2 (e_nm_s rfl) rfl rfl) rfl) e_args0 rfl) rfl) rfl rfl hc8) (kl_eq rfl)) rfl)) fun _ => rfl))) fun s6 =>
    (js_seq (E := fun (s10 : (List Item)) => [.un, .shr (e_LT3iLT2ssLine5 s2), .mu false (SDt D.int s6), .un, .un, .mu false (O.l (List.map e_Item s10)), .un, .un, .un, .un, .un, .un]) (js_st (E := fun (s10 : (List Item)) => [.un, .shr (e_LT3iLT2ssLine5 s2), .mu false (SDt D.int s6), .un, .un, .mu false (O.l (List.map e_Item s10)), .un, .un, .un, .un, .un, .un]) (st_set (e_cast (r' := .own (O.l (List.map e_Item ([] : (List Item))))) (e_lst e_args0 e_sts0 (Nat.le_of_ble_eq_true rfl)) rfl) rfl rfl) rfl) fun s10 =>
    (js_seq (E := fun (s11 : (List Item)) => [.un, .shr (e_LT3iLT2ssLine5 s2), .un, .un, .un, .mu false (O.l (List.map e_Item s11)), .un, .un, .un, .un, .un, .un]) (js_klN (E := fun (s11 : (List Item)) => [.un, .shr (e_LT3iLT2ssLine5 s2), .mu false (SDt D.int s6), .un, .un, .mu false (O.l (List.map e_Item s11)), .un, .un, .un, .un, .un, .un]) (js_forL (e := e_T3iLT2ssLine5) (xs := s2) (E := fun (s11 : (List Item)) => [.un, .shr (e_LT3iLT2ssLine5 s2), .mu false (SDt D.int s6), .un, .un, .mu false (O.l (List.map e_Item s11)), .un, .un, .un, .un, .un, .un]) (fun s11 x12 => [.un, .shr (e_LT3iLT2ssLine5 s2), .mu false (SDt D.int s6), .un, .un, .mu false (O.l (List.map e_Item s11)), .shr (D.int x12.1), .shr (e_LT2ss x12.2.1), .shr (e_Line5 x12.2.2), .un, .un, .un]) (e_it (e_fz_s rfl) rfl) rfl (fun _ _ => rfl) (fun s11 x12 =>
    (js_seq (E := fun (s18 : (List (Int × Int))) => [.un, .shr (e_LT3iLT2ssLine5 s2), .mu false (SDt D.int s6), .un, .un, .mu false (O.l (List.map e_Item s11)), .un, .un, .shr (e_Line5 x12.2.2), .shr (e_VT2ii s18), .un, .un]) (js_req fun hc16 => (js_req fun hc17 => (js_st (E := fun (s18 : (List (Int × Int))) => [.un, .shr (e_LT3iLT2ssLine5 s2), .mu false (SDt D.int s6), .un, .un, .mu false (O.l (List.map e_Item s11)), .un, .un, .shr (e_Line5 x12.2.2), .shr (e_VT2ii s18), .un, .un]) (st_kl (st_set (e_tupL (e := e_T2ii) (xs := (T.lcP (fun (x13 : ((List Nat) × Int)) => T.ret true) (fun x13 => T.req ((tget s6 x13.1).isSome = true) (T.ret ((dat s6 x13.1), x13.2))) x12.2.2.2.2.1).val) ((e_lcJ (e := e_T2si) (xs := x12.2.2.2.2.1) (eb := e_T2ii) (fun x13 => [.un, .shr (e_LT3iLT2ssLine5 s2), .mu false (SDt D.int s6), .un, .un, .mu false (O.l (List.map e_Item s11)), .shr (D.int x12.1), .shr (e_LT2ss x12.2.1), .shr (e_Line5 x12.2.2), .un, .shr (D.str x13.1), .shr (D.int x13.2)]) (e_it (e_fldD (e_nm_s rfl) rfl) rfl) hc16 rfl rfl (fun _ => rfl) (fun _ => rfl) rfl (fun x13 => j_yes) (fun x13 => (jj_req fun hc15 => (jj_ret ⟨_, (e_cast (r' := .d (e_T2ii ((dat s6 x13.1), x13.2))) (e_tup (e_args (e_dgetS (e := D.int) (kv := s6) (e_nm_m rfl) (e_nm_s rfl) rfl hc15) (e_args (e_fz_s rfl) e_args0 rfl) rfl) (e_sts rfl (e_sts rfl e_sts0)) (Nat.le_of_ble_eq_true rfl)) rfl), rfl⟩)))) hc17) (R.pl_own _)) rfl rfl) (kl_eq rfl)) rfl))) fun s18 =>
    (js_last (E1 := fun (s23 : (List Item)) => [.un, .shr (e_LT3iLT2ssLine5 s2), .mu false (SDt D.int s6), .un, .un, .mu false (O.l (List.map e_Item s23)), .un, .un, .un, .un, .un, .un]) (js_req fun hc19 => (js_req fun hc20 => (js_req fun hc21 => (js_req fun hc22 => (js_st (E := fun (s23 : (List Item)) => [.un, .shr (e_LT3iLT2ssLine5 s2), .mu false (SDt D.int s6), .un, .un, .mu false (O.l (List.map e_Item s23)), .un, .un, .un, .un, .un, .un]) (st_kl (st_drop (e_app (e := e_Item) (xs := s11) (z := (Item.mk x12.2.2.2.1 s18 (ix x12.2.2.2.2.2.2 0) (ix x12.2.2.2.2.2.2 1) (ix x12.2.2.2.2.2.2 2))) rfl (e_cast (r' := .d (e_Item (Item.mk x12.2.2.2.1 s18 (ix x12.2.2.2.2.2.2 0) (ix x12.2.2.2.2.2.2 1) (ix x12.2.2.2.2.2.2 2)))) (e_tup (e_args (e_fldD (e_nm_s rfl) rfl) (e_args (e_fz_s rfl) (e_args (e_ixL (e := D.int) (xs := x12.2.2.2.2.2.2) (e_fldD (e_nm_s rfl) rfl) e_C hc19) (e_args (e_ixL (e := D.int) (xs := x12.2.2.2.2.2.2) (e_fldD (e_nm_s rfl) rfl) e_C hc20) (e_args (e_ixL (e := D.int) (xs := x12.2.2.2.2.2.2) (e_fldD (e_nm_s rfl) rfl) e_C hc21) e_args0 rfl) rfl) rfl) rfl) rfl) (e_sts rfl (e_sts rfl (e_sts rfl (e_sts rfl (e_sts rfl e_sts0))))) (Nat.le_of_ble_eq_true rfl)) rfl) rfl rfl hc22)) (kl_eq rfl)) rfl))))) fun _ => rfl)))) (fun _ => kl_eq rfl)) fun s11 =>
    (js_ctl (E := fun (s24 : Unit) => [.un, .un, .un, .un, .un, .mu false (O.l (List.map e_Item s11)), .un, .un, .un, .un, .un, .un]) (L := Empty.elim) (js_klC (E := fun (s24 : Unit) => [.un, .shr (e_LT3iLT2ssLine5 s2), .un, .un, .un, .mu false (O.l (List.map e_Item s11)), .un, .un, .un, .un, .un, .un]) (E' := fun (s24 : Unit) => [.un, .un, .un, .un, .un, .mu false (O.l (List.map e_Item s11)), .un, .un, .un, .un, .un, .un]) (L := Empty.elim) (L' := Empty.elim) (js_forC (e := (eEn e_T3iLT2ssLine5)) (xs := (enumL 0 s2)) (E := fun (s24 : Unit) => [.un, .shr (e_LT3iLT2ssLine5 s2), .un, .un, .un, .mu false (O.l (List.map e_Item s11)), .un, .un, .un, .un, .un, .un]) (fun s24 x25 => [.un, .shr (e_LT3iLT2ssLine5 s2), .un, .shr (D.int x25.1), .shr (e_T3iLT2ssLine5 x25.2), .mu false (O.l (List.map e_Item s11)), .un, .un, .un, .un, .un, .un]) (e_en (e := e_T3iLT2ssLine5) (xs := s2) (e_fz_s rfl)) rfl (fun _ _ => rfl) (fun s24 x25 =>
    (js_ctcL (E1 := fun (s28 : Unit) => [.un, .shr (e_LT3iLT2ssLine5 s2), .un, .un, .un, .mu false (O.l (List.map e_Item s11)), .un, .un, .un, .un, .un, .un]) (js_bind (v__reaches s11 x25.1) fun p26 hp26 => (js_if (e_test (e_call (e_argBb (i := 5) rfl (e_argBv (e_fz_s rfl) e_argB0 rfl)) (e_lendm (i := 5) rfl (e_lendr rfl e_lend0)) hp26 rfl)) (js_req fun hc27 => (js_xC (sx_raiseA (e_args (e_tF 0 (e_nm_s rfl) rfl rfl) (e_args e_C (e_args e_C e_args0 rfl) rfl) rfl) (fmt_cons (fmtI hc27.1 hc27.2) (fmt_cons (fmtI (by decide) (by decide)) (fmt_cons (fmtS (Nat.le_of_ble_eq_true rfl)) fmt_nil))) rfl) rfl)) (js_knC (v := ()) (kl_eq rfl)))) fun _ => rfl))) (fun _ => kl_eq rfl) (fun x => x.elim)) fun s24 =>
    (js_rt (e_tupL (e := e_Item) (xs := s11) (e_nm_m rfl) (R.pl_pk _)) rfl))))))))
end Mw
set_option Elab.async false
set_option linter.all false
set_option maxRecDepth 100000
set_option autoImplicit false
namespace Mw
open PySem PySem.Spec PyProof.Rows L2
section
variable {α β γ σ τ l : Type}
def Gd (t : T α) (Q : α → Prop) : Prop := t.ok ∧ Q t.val
theorem gd_ret {a : α} {Q : α → Prop} (h : Q a) : Gd (T.ret a) Q := ⟨trivial, h⟩
theorem gd_bind {t : T α} {f : α → T β} {P : α → Prop} {Q : β → Prop} (h : Gd t P) (k : ∀ v, P v → Gd (f v) Q) : Gd (t.bind f) Q := ⟨⟨h.1, (k _ h.2).1⟩, (k _ h.2).2⟩
theorem gd_let {a : α} {f : α → T β} {Q : β → Prop} (k : Gd (f a) Q) : Gd ((T.ret a).bind f) Q := ⟨⟨trivial, k.1⟩, k.2⟩
theorem gd_eq {t : T α} {f : α → T β} {a : α} {Q : β → Prop} (h : Gd t (· = a)) (k : Gd (f a) Q) : Gd (t.bind f) Q := gd_bind h fun v e => e ▸ k
theorem gd_req {p : Prop} {t : T α} {Q : α → Prop} (h : p) (k : Gd t Q) : Gd (t.req p) Q := ⟨⟨h, k.1⟩, k.2⟩
theorem gd_if {c : Prop} [Decidable c] {a b : T α} {Q : α → Prop} (h1 : c → Gd a Q) (h2 : ¬ c → Gd b Q) : Gd (if c then a else b) Q := by
  by_cases h : c
  · rw [if_pos h]; exact h1 h
  · rw [if_neg h]; exact h2 h
theorem Gd.imp {t : T α} {P Q : α → Prop} (h : Gd t P) (i : ∀ v, P v → Q v) : Gd t Q := ⟨h.1, i _ h.2⟩
theorem gd_forL {b : σ → α → T σ} (I : Nat → σ → Prop) : ∀ {xs : List α} {s : σ}, I 0 s → (∀ i x s, xs[i]? = some x → I i s → Gd (b s x) (I (i + 1))) → Gd (T.forL b xs s) (I xs.length) := by
  intro xs
  induction xs generalizing I with
  | nil => intro s h _; exact gd_ret h
  | cons x xs ih =>
    intro s h hs
    refine gd_bind (hs 0 x s rfl h) fun v hv => ?_
    exact ih (fun i => I (i + 1)) hv fun i y s' hy hi => hs (i + 1) y s' (by simpa using hy) hi
theorem gd_forL' {b : σ → α → T σ} {xs : List α} {s : σ} {Q : σ → Prop} (I : Nat → σ → Prop) (h0 : I 0 s) (hs : ∀ i x s, xs[i]? = some x → I i s → Gd (b s x) (I (i + 1))) (hq : ∀ s, I xs.length s → Q s) : Gd (T.forL b xs s) Q := (gd_forL I h0 hs).imp hq
def CtP (I : σ → Prop) (B : σ → Prop) (R : β → Prop) : Ct σ σ β → Prop
  | .nx s => I s
  | .ct s => I s
  | .bk s => B s
  | .rt r => R r
def CtE (I : σ → Prop) (R : β → Prop) : Ct σ l β → Prop
  | .nx s => I s
  | .rt r => R r
  | _ => False
theorem gd_forC {b : σ → α → T (Ct σ σ β)} {Q : σ → Prop} {R : β → Prop} (I : Nat → σ → Prop) : ∀ {xs : List α} {s : σ}, I 0 s → (∀ i x s, xs[i]? = some x → I i s → Gd (b s x) (CtP (I (i + 1)) Q R)) → (∀ s, I xs.length s → Q s) → Gd (T.forC (l := l) b xs s) (CtE Q R) := by
  intro xs
  induction xs generalizing I with
  | nil => intro s h _ hq; exact gd_ret (hq s h)
  | cons x xs ih =>
    intro s h hs hq
    refine gd_bind (hs 0 x s rfl h) fun v hv => ?_
    cases v with
    | nx s' => exact ih (fun i => I (i + 1)) hv (fun i y s' hy hi => hs (i + 1) y s' (by simpa using hy) hi) hq
    | ct s' => exact ih (fun i => I (i + 1)) hv (fun i y s' hy hi => hs (i + 1) y s' (by simpa using hy) hi) hq
    | bk s' => exact gd_ret hv
    | rt r => exact gd_ret hv
theorem gd_ctl {t : T (Ct σ Empty β)} {k : σ → T β} {I : σ → Prop} {Q : β → Prop} (h : Gd t (CtE I Q)) (hk : ∀ s, I s → Gd (k s) Q) : Gd (t.ctl k) Q := by
  refine gd_bind h fun v hv => ?_
  cases v with
  | nx s => exact hk s hv
  | ct s => exact s.elim
  | bk s => exact s.elim
  | rt r => exact gd_ret hv
theorem gd_ctl' {t : T (Ct σ Empty β)} {k : σ → T β} {c : Ct σ Empty β} {Q : β → Prop} (h : Gd t (· = c)) (hn : ∀ s, c = .nx s → Gd (k s) Q) (hr : ∀ r, c = .rt r → Q r) : Gd (t.ctl k) Q := by
  refine gd_bind h fun v hv => ?_
  subst hv
  cases v with
  | nx s => exact hn s rfl
  | ct s => exact s.elim
  | bk s => exact s.elim
  | rt r => exact gd_ret (hr r rfl)
theorem gd_ctc {t : T (Ct σ l β)} {k : σ → T (Ct τ l β)} {P : Ct σ l β → Prop} {Q : Ct τ l β → Prop} (h : Gd t P) (hn : ∀ s, P (.nx s) → Gd (k s) Q) (hr : ∀ r, P (.rt r) → Q (.rt r)) (hb : ∀ s, P (.bk s) → Q (.bk s)) (hc : ∀ s, P (.ct s) → Q (.ct s)) : Gd (t.ctc k) Q := by
  refine gd_bind h fun v hv => ?_
  cases v with
  | nx s => exact hn s hv
  | rt r => exact gd_ret (hr r hv)
  | bk s => exact gd_ret (hb s hv)
  | ct s => exact gd_ret (hc s hv)
theorem gd_whM {c : σ → T Bool} {b : σ → T σ} {I Q : σ → Prop} (μ : σ → Nat) (hc : ∀ s, I s → (c s).ok) (hb : ∀ s, I s → (c s).val = true → Gd (b s) (fun s' => I s' ∧ μ s' < μ s)) (hq : ∀ s, I s → (c s).val = false → Q s) : ∀ (n : Nat) (s : σ), I s → μ s < n → Gd (T.whM c b n s) Q := by
  intro n
  induction n with
  | zero => intro s _ h; omega
  | succ n ih =>
    intro s hi hn
    refine gd_bind (P := fun v => v = (c s).val) ⟨hc s hi, rfl⟩ fun v hv => ?_
    subst hv
    by_cases h : (c s).val = true
    · rw [if_pos h]
      exact gd_bind (hb s hi h) fun s' hs' => ih s' hs'.1 (by omega)
    · rw [if_neg h]; exact gd_ret (hq s hi (by simpa using h))
theorem gd_whL {c : σ → T Bool} {b : σ → T σ} {I Q : σ → Prop} {s : σ} (μ : σ → Nat) (h0 : I s) (hμ : μ s ≤ 100000000) (hc : ∀ s, I s → (c s).ok) (hb : ∀ s, I s → (c s).val = true → Gd (b s) (fun s' => I s' ∧ μ s' < μ s)) (hq : ∀ s, I s → (c s).val = false → Q s) : Gd (T.whL c b s) Q :=
  gd_whM μ hc hb hq _ _ h0 (by rw [T.fuel_eq]; omega)
theorem lcP_good {c : α → T Bool} {f : α → T β} (xs : List α) (hc : ∀ x ∈ xs, (c x).ok) (hf : ∀ x ∈ xs, (c x).val = true → (f x).ok) : T.lcP c f xs = ⟨(xs.filter fun x => (c x).val).map fun x => (f x).val, (T.lcP c f xs).ok⟩ ∧ (T.lcP c f xs).ok := by
  induction xs with
  | nil => exact ⟨rfl, trivial⟩
  | cons x xs ih =>
    have ih := ih (fun y hy => hc y (by simp [hy])) fun y hy => hf y (by simp [hy])
    have h1 := hc x (by simp)
    have key : (T.lcP c f (x :: xs)).val = (((x :: xs).filter fun x => (c x).val).map fun x => (f x).val) ∧ (T.lcP c f (x :: xs)).ok := by
      unfold T.lcP
      have iv : (T.lcP c f xs).val = ((xs.filter fun x => (c x).val).map fun x => (f x).val) := congrArg T.val ih.1
      by_cases h : (c x).val = true
      · have h2 := hf x (by simp) h
        simp [T.bind, h, h1, h2, iv, ih.2]
      · have h' : (c x).val = false := by simpa using h
        simp [T.bind, h', h1, iv, ih.2]
    exact ⟨by rw [← key.1], key.2⟩
theorem lcP_val {c : α → T Bool} {f : α → T β} {xs : List α} (hc : ∀ x ∈ xs, (c x).ok) (hf : ∀ x ∈ xs, (c x).val = true → (f x).ok) : (T.lcP c f xs).val = (xs.filter fun x => (c x).val).map fun x => (f x).val := congrArg T.val (lcP_good xs hc hf).1
theorem lcP_ok {c : α → T Bool} {f : α → T β} {xs : List α} (hc : ∀ x ∈ xs, (c x).ok) (hf : ∀ x ∈ xs, (c x).val = true → (f x).ok) : (T.lcP c f xs).ok := (lcP_good xs hc hf).2
@[simp] theorem lcP_ret (c : α → Bool) (f : α → β) (xs : List α) : T.lcP (fun x => T.ret (c x)) (fun x => T.ret (f x)) xs = ⟨(xs.filter c).map f, (T.lcP (fun x => T.ret (c x)) (fun x => T.ret (f x)) xs).ok⟩ := (lcP_good xs (fun _ _ => trivial) fun _ _ _ => trivial).1
@[simp] theorem lcP_ret_val (c : α → Bool) (f : α → β) (xs : List α) : (T.lcP (fun x => T.ret (c x)) (fun x => T.ret (f x)) xs).val = (xs.filter c).map f := lcP_val (fun _ _ => trivial) fun _ _ _ => trivial
@[simp] theorem lcP_ret_ok (c : α → Bool) (f : α → β) (xs : List α) : (T.lcP (fun x => T.ret (c x)) (fun x => T.ret (f x)) xs).ok := lcP_ok (fun _ _ => trivial) fun _ _ _ => trivial
theorem ix_mem [Inhabited α] {xs : List α} {i : Int} (h : 0 ≤ i ∧ i < xs.length) : ix xs i ∈ xs := by
  unfold ix
  have : i.toNat < xs.length := by omega
  rw [List.getD_eq_getElem?_getD, List.getElem?_eq_getElem this]
  exact List.getElem_mem this
theorem ix_get [Inhabited α] {xs : List α} {i : Nat} {x : α} (h : xs[i]? = some x) : ix xs (i : Int) = x := by
  unfold ix
  rw [List.getD_eq_getElem?_getD, show ((i : Int).toNat) = i by omega, h]; rfl
theorem get_ix [Inhabited α] {xs : List α} {i : Nat} (h : i < xs.length) : xs[i]? = some (ix xs (i : Int)) := by
  have := List.getElem?_eq_getElem h
  rw [this, ix_get this]
theorem mem_ix [Inhabited α] {xs : List α} {x : α} (h : x ∈ xs) : ∃ i : Nat, i < xs.length ∧ ix xs (i : Int) = x := by
  obtain ⟨i, hi, e⟩ := List.mem_iff_getElem.mp h
  exact ⟨i, hi, ix_get (by rw [List.getElem?_eq_getElem hi, e])⟩
theorem rng_get {n : Int} {i : Nat} {x : Int} (h : (rng n)[i]? = some x) : x = i ∧ (i : Int) < n := by
  unfold rng at h
  rw [List.getElem?_map] at h
  cases e : (List.range n.toNat)[i]? with
  | none => rw [e] at h; cases h
  | some k =>
    rw [e] at h
    have hk := List.getElem?_eq_some_iff.mp e
    obtain ⟨hl, hk⟩ := hk
    rw [List.getElem_range] at hk
    rw [List.length_range] at hl
    cases h
    subst hk
    exact ⟨rfl, by omega⟩
theorem mem_rng {n x : Int} : x ∈ rng n ↔ 0 ≤ x ∧ x < n := by
  unfold rng
  rw [List.mem_map]
  constructor
  · rintro ⟨k, hk, rfl⟩
    have := List.mem_range.mp hk
    omega
  · intro h
    exact ⟨x.toNat, List.mem_range.mpr (by omega), by omega⟩
@[simp] theorem rng_len (n : Int) : (rng n).length = n.toNat := by unfold rng; simp
theorem rng2_get {a b : Int} {i : Nat} {x : Int} (h : (rng2 a b)[i]? = some x) : x = a + i ∧ a + (i : Int) < b := by
  unfold rng2 at h
  rw [List.getElem?_map] at h
  cases e : (List.range (b - a).toNat)[i]? with
  | none => rw [e] at h; cases h
  | some k =>
    rw [e] at h
    have hk := List.getElem?_eq_some_iff.mp e
    obtain ⟨hl, hk⟩ := hk
    rw [List.getElem_range] at hk
    rw [List.length_range] at hl
    cases h
    subst hk
    exact ⟨rfl, by omega⟩
@[simp] theorem rng2_len (a b : Int) : (rng2 a b).length = (b - a).toNat := by unfold rng2; simp
theorem enumL_get {xs : List α} {k i : Nat} {p : Int × α} (h : (enumL k xs)[i]? = some p) : ∃ x, xs[i]? = some x ∧ p = (((k + i : Nat) : Int), x) := by
  induction xs generalizing k i with
  | nil => simp [enumL] at h
  | cons x xs ih =>
    cases i with
    | zero => simp [enumL] at h; exact ⟨x, rfl, by simp [← h]⟩
    | succ i =>
      simp only [enumL, List.getElem?_cons_succ] at h
      obtain ⟨y, h1, h2⟩ := ih h
      exact ⟨y, by simpa using h1, by rw [h2, show k + 1 + i = k + (i + 1) by omega]⟩
@[simp] theorem enumL_len (xs : List α) (k : Nat) : (enumL k xs).length = xs.length := by
  induction xs generalizing k with
  | nil => rfl
  | cons x xs ih => simp [enumL, ih]
theorem cut_to {xs : List α} {n : Nat} : cutA xs none (some (n : Int)) = xs.take n := by
  unfold cutA
  rw [show HT.sIx xs.length 0 none = 0 from rfl, HT.sIx_nat, List.drop_zero, Nat.sub_zero]
  by_cases h : n ≤ xs.length
  · congr 1; omega
  · rw [List.take_of_length_le (by omega), List.take_of_length_le (by omega)]
theorem cut_toI {xs : List α} {n : Int} (h : 0 ≤ n) : cutA xs none (some n) = xs.take n.toNat := by
  obtain ⟨k, rfl⟩ := Int.eq_ofNat_of_zero_le h
  rw [cut_to]; congr 1
theorem cut_from {xs : List α} {n : Nat} : cutA xs (some (n : Int)) none = xs.drop n := by
  unfold cutA
  rw [HT.sIx_nat, show HT.sIx xs.length xs.length none = xs.length from rfl]
  by_cases h : n ≤ xs.length
  · rw [Nat.min_eq_left h, List.take_of_length_le (by rw [List.length_drop]; omega)]
  · rw [Nat.min_eq_right (by omega), List.drop_of_length_le (Nat.le_refl _), List.drop_of_length_le (by omega), List.take_nil]
theorem cut_fromI {xs : List α} {n : Int} (h : 0 ≤ n) : cutA xs (some n) none = xs.drop n.toNat := by
  obtain ⟨k, rfl⟩ := Int.eq_ofNat_of_zero_le h
  rw [cut_from]; congr 1
theorem sx_len (xs : List α) (i : Int) (z : α) : (sx xs i z).length = xs.length := by unfold sx; simp
theorem ix_sx [Inhabited α] {xs : List α} {i j : Int} {z : α} (hi : 0 ≤ i ∧ i < xs.length) (hj : 0 ≤ j) : ix (sx xs i z) j = if j = i then z else ix xs j := by
  unfold ix sx
  rw [List.getD_eq_getElem?_getD, List.getD_eq_getElem?_getD, List.getElem?_set]
  by_cases h : j = i
  · subst h
    rw [if_pos rfl, if_pos (by omega), if_pos rfl]; rfl
  · rw [if_neg (by omega), if_neg h]
end
end Mw
set_option Elab.async false
set_option linter.all false
set_option maxRecDepth 100000
set_option autoImplicit false
namespace Mw
open PySem PySem.Spec PyProof.Rows L2
section
variable {α β γ κ μ σ τ l : Type}
theorem gd_bx {t : T (Exc ⊕ α)} {kx : Exc → T β} {f : α → T β} {P : Exc ⊕ α → Prop} {Q : β → Prop} (h : Gd t P) (hx : ∀ e, P (.inl e) → Gd (kx e) Q) (hv : ∀ v, P (.inr v) → Gd (f v) Q) : Gd (T.bx t kx f) Q := by
  refine gd_bind h fun r hr => ?_
  cases r with
  | inl e => exact hx e hr
  | inr v => exact hv v hr
theorem gd_hd {cs : List (Str × Option Nat)} {c : Str} {ts : List (T γ)} {t p d : T γ} {j : Nat} {Q : γ → Prop} (hc : cs.lookup c = some (some j)) (ht : ts[j]? = some t) (h : Gd t Q) : Gd (T.hd cs c ts p d) Q := by
  unfold T.hd; rw [hc]; dsimp only; rw [ht]; exact h
end
end Mw
set_option Elab.async false
set_option linter.all false
set_option maxRecDepth 100000
set_option autoImplicit false
namespace Mw
open PySem PySem.Spec PyProof.Rows L2
abbrev Box := List Int × Int
def BxOk (b : Box) : Prop := 0 ≤ b.2
theorem gd_draw {b : Box} {m : Int} (hb : BxOk b) (hm : 0 < m) : Gd (t__law_draw b m) (fun p => (0 ≤ p.1 ∧ p.1 < m) ∧ BxOk p.2) := by
  unfold BxOk at hb
  refine gd_let (gd_let (gd_if (fun h => ?_) fun _ => ?_))
  · have h := of_decide_eq_true h
    exact gd_req ⟨hb, h⟩ (gd_req hm (gd_ret ⟨⟨Int.emod_nonneg _ (by omega), Int.emod_lt_of_pos _ hm⟩, by unfold BxOk; dsimp only; omega⟩))
  · exact gd_ret ⟨⟨by omega, hm⟩, by unfold BxOk; dsimp only; omega⟩
theorem gd_cell (ns : List Int) {k : Int} (hk : 0 ≤ k) : Gd (t__law_cell ns k) fun _ => True := by
  refine gd_if (fun h => ?_) fun _ => gd_ret trivial
  have h := of_decide_eq_true h
  exact gd_req ⟨hk, h⟩ (gd_ret trivial)
theorem gd_digits (ns : List Int) {lo hi : Int} (h0 : 0 ≤ lo ∧ lo ≤ 1000) (h1 : 0 ≤ hi ∧ hi ≤ 1000) : Gd (t__law_digits ns lo hi) fun _ => True := by
  refine gd_let (gd_bind (P := fun _ => True) (gd_req (by omega) (gd_req (by omega) ?_)) fun _ _ => gd_ret trivial)
  refine gd_forL' (fun i s => s.length ≤ 60 * i) (by simp) (fun i x s hx hs => ?_) fun _ _ => trivial
  have hx := rng2_get hx
  refine gd_bind (P := fun _ => True) (gd_bind (gd_cell ns (by omega)) fun _ _ => gd_ret trivial) fun c _ => ?_
  refine gd_bind (P := fun _ => True) (gd_if (fun _ => gd_let (gd_ret trivial)) fun _ => gd_ret trivial) fun c _ => ?_
  refine gd_bind (P := fun s' => s'.length ≤ 60 * (i + 1)) (gd_if (fun _ => ?_) fun _ => gd_let ?_) fun s h => gd_ret h
  · refine gd_bind (P := fun p => p.1.length ≤ 60 * (i + 1)) ?_ fun p h => gd_ret h
    refine gd_forL' (fun j s' => s'.1.length ≤ 60 * i + j) (by simpa using hs) (fun j y s' hy hs' => ?_) fun s' h => by simp [rng] at h; omega
    have hy := rng_get hy
    refine gd_bind (P := fun s2 => s2.1.length ≤ 60 * i + (j + 1)) (gd_if (fun _ => ?_) fun _ => gd_ret (by dsimp only; omega)) fun _ h => gd_ret h
    refine gd_bind (P := fun l => l.length ≤ 60 * i + (j + 1)) (gd_req (by omega) (gd_ret (by simp; omega))) fun _ h => gd_let (gd_ret h)
  · refine gd_bind (P := fun p => p.1.length ≤ 60 * (i + 1)) ?_ fun p h => gd_ret h
    refine gd_forL' (fun j s' => s'.1.length ≤ 60 * i + j) (by simpa using hs) (fun j y s' hy hs' => ?_) fun s' h => by simp [rng] at h; omega
    have hy := rng_get hy
    refine gd_let (gd_bind (P := fun l => l.length ≤ 60 * i + (j + 1)) (gd_req (by omega) (gd_ret (by simp; omega))) fun _ h => gd_ret h)
theorem gd_run {b : Box} {n : Int} {cs : List Nat} (hb : BxOk b) (hn : 0 ≤ n ∧ n ≤ 1000) (hc : 0 < cs.length) : Gd (t__law_run b n cs) (fun p => (p.1.length = n.toNat ∧ ∀ c ∈ p.1, c ∈ cs) ∧ BxOk p.2) := by
  refine gd_let (gd_bind (P := fun s => BxOk s.1 ∧ s.2.length = n.toNat ∧ ∀ c ∈ s.2, c ∈ cs) (gd_req (by omega) ?_) fun s h => gd_ret ⟨h.2, h.1⟩)
  refine gd_forL' (fun i s => BxOk s.1 ∧ s.2.length = i ∧ ∀ c ∈ s.2, c ∈ cs) ⟨hb, rfl, fun _ h => nomatch h⟩ (fun i x s hx hs => ?_) fun s h => by simpa using h
  obtain ⟨h1, h2, h3⟩ := hs
  have hx := rng_get hx
  refine gd_bind (P := fun s => BxOk s.1 ∧ s.2.length = i + 1 ∧ ∀ c ∈ s.2, c ∈ cs) (gd_bind (gd_draw h1 (by omega)) fun p hp => gd_req (by omega) (gd_req (by simp; omega) (gd_ret ⟨hp.2, by simp [h2], fun c hcc => ?_⟩))) fun s h => gd_ret h
  rcases List.mem_append.mp hcc with z | z
  · exact h3 c z
  · rw [List.mem_singleton] at z; subst z; exact ix_mem (by omega)
abbrev LETT : List Nat := [97, 98, 99, 100, 101, 102, 103, 104, 105, 106, 107, 108, 109, 110, 111, 112, 113, 114, 115, 116, 117, 118, 119, 120, 121, 122]
structure Nm (w : List Nat) : Prop where
  ne : w ≠ []
  len : w.length ≤ 12
  lt : ∀ c ∈ w, c ∈ LETT
def ren (ws : List (List Nat)) (w : List Nat) (t : Nat) : List Nat := if w ∈ ws then w.take 11 ++ [97 + t] else w
theorem ren_nm {ws : List (List Nat)} {w : List Nat} {t : Nat} (h : Nm w) (ht : t < 26) : Nm (ren ws w t) := by
  unfold ren
  split
  · refine ⟨by simp, by rw [List.length_append, List.length_take]; simp; omega, fun c hc => ?_⟩
    rcases List.mem_append.mp hc with z | z
    · exact h.lt c (List.mem_of_mem_take z)
    · rw [List.mem_singleton] at z; subst z
      have : t = 0 ∨ t = 1 ∨ t = 2 ∨ t = 3 ∨ t = 4 ∨ t = 5 ∨ t = 6 ∨ t = 7 ∨ t = 8 ∨ t = 9 ∨ t = 10 ∨ t = 11 ∨ t = 12 ∨ t = 13 ∨ t = 14 ∨ t = 15 ∨ t = 16 ∨ t = 17 ∨ t = 18 ∨ t = 19 ∨ t = 20 ∨ t = 21 ∨ t = 22 ∨ t = 23 ∨ t = 24 ∨ t = 25 := by omega
      rcases this with h | h | h | h | h | h | h | h | h | h | h | h | h | h | h | h | h | h | h | h | h | h | h | h | h | h <;> subst h <;> decide
  · exact h
def rens (ws : List (List Nat)) (w : List Nat) : Nat → List Nat
  | 0 => w
  | t + 1 => ren ws (rens ws w t) t
theorem rens_nm {ws : List (List Nat)} {w : List Nat} (h : Nm w) : ∀ t, t ≤ 9 → Nm (rens ws w t)
  | 0, _ => h
  | t + 1, ht => ren_nm (rens_nm h t (by omega)) (by omega)
theorem rens_in {ws : List (List Nat)} {w : List Nat} {n : Nat} (h : rens ws w n ∈ ws) : ∀ t, t ≤ n → rens ws w t ∈ ws := by
  induction n with
  | zero => intro t ht; rw [Nat.le_zero.mp ht]; exact h
  | succ n ih =>
    intro t ht
    by_cases e : t = n + 1
    · subst e; exact h
    · refine ih ?_ t (by omega)
      by_cases g : rens ws w n ∈ ws
      · exact g
      · have : rens ws w (n + 1) = rens ws w n := if_neg g
        rw [this] at h; exact absurd h g
theorem rens_last {ws : List (List Nat)} {w : List Nat} {t : Nat} (h : rens ws w t ∈ ws) : rens ws w (t + 1) = (rens ws w t).take 11 ++ [97 + t] := if_pos h
theorem nodup_le {α : Type} [DecidableEq α] : ∀ (l ws : List α), l.Nodup → (∀ x ∈ l, x ∈ ws) → l.length ≤ ws.length
  | [], _, _, _ => Nat.zero_le _
  | x :: l, ws, nd, h => by
    have nd := List.nodup_cons.mp nd
    have := nodup_le l (ws.erase x) nd.2 fun y hy => (List.mem_erase_of_ne (fun z => nd.1 (by rw [← z]; exact hy))).mpr (h y (List.mem_cons_of_mem _ hy))
    have hx := h x List.mem_cons_self
    rw [List.length_erase_of_mem hx] at this
    have : 0 < ws.length := List.length_pos_of_mem hx
    rw [List.length_cons]; omega
theorem rens_new {ws : List (List Nat)} {w : List Nat} (hl : ws.length ≤ 8) : rens ws w 9 ∉ ws := fun h => by
  have hi := rens_in h
  have := nodup_le ((List.range 9).map fun t => rens ws w (t + 1)) ws (by
    refine List.pairwise_map.mpr ?_
    refine List.Pairwise.imp_of_mem (fun {a b} ha hb hne e => ?_) (List.nodup_range (n := 9))
    have ha := List.mem_range.mp ha
    have hb := List.mem_range.mp hb
    rw [rens_last (hi a (by omega)), rens_last (hi b (by omega))] at e
    have := (List.append_inj' e rfl).2
    simp at this; exact hne this) fun x hx => by
      obtain ⟨t, ht, rfl⟩ := List.mem_map.mp hx
      exact hi (t + 1) (by have := List.mem_range.mp ht; omega)
  rw [List.length_map, List.length_range] at this
  omega
theorem nm_of {w : List Nat} (h1 : w.length ≠ 0) (h2 : w.length ≤ 12) (h3 : (w.all fun c => decide (c ∈ LETT)) = true) : Nm w := ⟨fun e => h1 (by rw [e]; rfl), h2, fun c hc => of_decide_eq_true (List.all_eq_true.mp h3 c hc)⟩
abbrev NAMES : List (List Nat) := [[119, 104, 101, 101, 108], [102, 114, 97, 109, 101], [98, 105, 99, 121, 99, 108, 101], [100, 97, 121, 115], [121, 105, 101, 108, 100, 115], [97], [98], [115, 112, 111, 107, 101]]
theorem names_nm {w : List Nat} (h : w ∈ NAMES) : Nm w := by
  have : (NAMES.all fun w => decide (w.length ≠ 0) && decide (w.length ≤ 12) && (w.all fun c => decide (c ∈ LETT))) = true := by decide +kernel
  have := List.all_eq_true.mp this w h
  simp only [Bool.and_eq_true, decide_eq_true_eq] at this
  exact nm_of this.1.1 this.1.2 this.2
theorem gd_name {b : Box} {ws : List (List Nat)} (hb : BxOk b) (hl : ws.length ≤ 8) : Gd (t__law_name b ws) (fun p => (Nm p.1 ∧ p.1 ∉ ws) ∧ BxOk p.2) := by
  refine gd_bind (P := fun s => BxOk s.1 ∧ Nm s.2) (gd_bind (gd_draw hb (by decide)) fun p hp => gd_req ⟨hp.1.1, by simpa using hp.1.2⟩ (gd_ret ⟨hp.2, names_nm (ix_mem ⟨hp.1.1, by simpa using hp.1.2⟩)⟩)) fun s hs => ?_
  refine gd_bind (P := fun s => BxOk s.1 ∧ Nm s.2) (gd_bind (gd_draw hs.1 (by decide)) fun p hp => gd_if (fun _ => ?_) fun _ => gd_ret ⟨hp.2, hs.2⟩) fun s hs => ?_
  · refine gd_bind (P := fun s => BxOk s.1 ∧ Nm s.2) (gd_bind (gd_draw hp.2 (by decide)) fun p hp => gd_req ⟨hp.1.1, by simpa using hp.1.2⟩ ?_) fun s h => gd_ret h
    have hi : 3 ≤ ix ([3, 9] : List Int) p.1 ∧ ix ([3, 9] : List Int) p.1 ≤ (9 : Int) := by
      have : p.1 = 0 ∨ p.1 = 1 := by omega
      rcases this with h | h <;> rw [h] <;> decide
    refine gd_bind (gd_draw hp.2 (by omega)) fun p2 hp2 => gd_bind (gd_run (cs := LETT) hp2.2 (by omega) (by decide)) fun p3 hp3 => gd_ret ⟨hp3.2, fun e => ?_, by show p3.1.length ≤ 12; omega, hp3.1.2⟩
    have := hp3.1.1
    have e : p3.1 = [] := e
    rw [e] at this
    simp at this; omega
  · refine gd_bind (P := fun w => Nm w ∧ w ∉ ws) ?_ fun w hw => gd_ret ⟨hw, hs.1⟩
    refine gd_forL' (fun i w => w = rens ws s.2 i) rfl (fun i x w hx hw => ?_) fun w hw => ?_
    · subst hw
      have hx := rng_get hx
      have hi : i < 9 := by omega
      have hr := rens_nm (ws := ws) hs.2 i (by omega)
      refine gd_bind (P := fun w => w = rens ws s.2 (i + 1)) (gd_if (fun h => ?_) fun h => ?_) fun w hw => gd_ret hw
      · have h := of_decide_eq_true h
        rw [rens_last h]
        have e : x = i := hx.1
        subst e
        refine gd_bind (P := fun w => w = (rens ws s.2 i).take 11 ++ [97 + i]) (gd_req ⟨by omega, by show (i : Int) < 9; omega⟩ (gd_req ?_ (gd_ret ?_))) fun w hw => gd_ret hw
        · have := hr.len
          rw [show (11 : Int) = ((11 : Nat) : Int) from rfl, cut_to, List.length_take]
          simp; omega
        · rw [show (11 : Int) = ((11 : Nat) : Int) from rfl, cut_to]
          congr 2
          have : i = 0 ∨ i = 1 ∨ i = 2 ∨ i = 3 ∨ i = 4 ∨ i = 5 ∨ i = 6 ∨ i = 7 ∨ i = 8 := by omega
          rcases this with h | h | h | h | h | h | h | h | h <;> subst h <;> rfl
      · have h : ¬ rens ws s.2 i ∈ ws := fun z => h (decide_eq_true z)
        have e : rens ws s.2 (i + 1) = rens ws s.2 i := if_neg h
        rw [e]; exact gd_ret rfl
    · rw [hw, rng_len]
      exact ⟨rens_nm hs.2 9 (by omega), rens_new hl⟩
end Mw
set_option Elab.async false
set_option linter.all false
set_option maxRecDepth 100000
set_option autoImplicit false
namespace Mw
open PySem PySem.Spec PyProof.Rows L2
structure ItOk (n : Nat) (x : Item) : Prop where
  pl : x.parts.length ≤ 4
  pt : ∀ p ∈ x.parts, (0 ≤ p.1 ∧ p.1 < n) ∧ 1 ≤ p.2 ∧ p.2 ≤ 20
  lead : 0 ≤ x.lead ∧ x.lead ≤ 10
  lot : 1 ≤ x.lot ∧ x.lot ≤ 50
  good : 1 ≤ x.good ∧ x.good ≤ x.lot
structure BillOk (b : List Item) : Prop where
  len : b.length ≤ 8
  it : ∀ x ∈ b, ItOk b.length x
  rk : ∃ r : Int → Nat, (∀ i : Int, 0 ≤ i → i < b.length → r i < b.length) ∧ ∀ i : Int, 0 ≤ i → i < b.length → ∀ p ∈ (ix b i).parts, r p.1 < r i
structure BillNm (b : List Item) : Prop where
  nm : ∀ x ∈ b, Nm x.name
  nd : (b.map Item.name).Nodup
theorem BillOk.ix {b : List Item} (h : BillOk b) {i : Int} (hi : 0 ≤ i ∧ i < b.length) : ItOk b.length (ix b i) := h.it _ (ix_mem hi)
structure Rks (n : Nat) (l : List Int) : Prop where
  nd : l.Nodup
  mem : ∀ x, x ∈ l ↔ 0 ≤ x ∧ x < n
  len : l.length = n
theorem Rks.ins {n : Nat} {l : List Int} (h : Rks n l) (a : Nat) : Rks (n + 1) (l.take a ++ [(n : Int)] ++ l.drop a) := by
  have hp : (l.take a ++ [(n : Int)] ++ l.drop a).Perm ((n : Int) :: l) := by
    have h1 : (l.take a ++ [(n : Int)] ++ l.drop a).Perm ([(n : Int)] ++ l.take a ++ l.drop a) := List.Perm.append_right _ List.perm_append_comm
    have h2 : [(n : Int)] ++ l.take a ++ l.drop a = (n : Int) :: l := by rw [List.append_assoc, List.take_append_drop]; rfl
    rw [h2] at h1; exact h1
  refine ⟨hp.nodup_iff.mpr (List.nodup_cons.mpr ⟨fun z => by have := (h.mem _).mp z; omega, h.nd⟩), fun x => ?_, by rw [hp.length_eq, List.length_cons, h.len]⟩
  rw [hp.mem_iff, List.mem_cons, h.mem]
  omega
theorem idxOf_le : ∀ {l : List Int} {j : Nat} (h : j < l.length), l.idxOf l[j] ≤ j
  | z :: l, 0, h => by rw [List.idxOf_cons]; simp
  | z :: l, j + 1, h => by
    rw [List.idxOf_cons, List.getElem_cons_succ]
    cases (z == l[j]'(by simpa using h)) with
    | true => simp
    | false => have := idxOf_le (l := l) (j := j) (by simpa using h); simp only [cond_false]; omega
theorem idx_take {l : List Int} {x : Int} : ∀ y ∈ l.take (l.idxOf x), l.idxOf y < l.idxOf x := by
  intro y hy
  obtain ⟨j, hj, e⟩ := List.mem_iff_getElem.mp hy
  rw [List.length_take] at hj
  rw [List.getElem_take] at e
  have := idxOf_le (l := l) (j := j) (by omega)
  rw [e] at this
  omega
theorem get_app1 {α : Type} {l : List α} {x y : α} {j : Nat} (h : (l ++ [x])[j]? = some y) : l[j]? = some y ∨ (j = l.length ∧ y = x) := by
  by_cases hj : j < l.length
  · rw [List.getElem?_append_left hj] at h; exact .inl h
  · rw [List.getElem?_append_right (by omega)] at h
    have : j - l.length = 0 := by
      rcases Nat.eq_zero_or_pos (j - l.length) with z | z
      · exact z
      · rw [List.getElem?_eq_none (by simp; omega)] at h; cases h
    rw [this] at h
    simp at h
    exact .inr ⟨by omega, h.symm⟩
structure ItR (n : Nat) (ranks : List Int) (names : List (List Nat)) (j : Nat) (x : Item) : Prop where
  ok : ItOk n x
  name : names[j]? = some x.name
  low : ∀ p ∈ x.parts, ranks.idxOf p.1 < ranks.idxOf (j : Int)
theorem pick2 {a b x : Int} {lo hi : Int} (h : 0 ≤ x ∧ x < 2) (ha : lo ≤ a ∧ a ≤ hi) (hb : lo ≤ b ∧ b ≤ hi) : lo ≤ ix [a, b] x ∧ ix [a, b] x ≤ hi := by
  have : x = 0 ∨ x = 1 := by omega
  rcases this with h | h <;> subst h
  · exact ha
  · exact hb
theorem gd_bill {b : Box} {most : Int} (hb : BxOk b) (hm : 1 ≤ most ∧ most ≤ 8) : Gd (t__law_bill b most) (fun p => (BillOk p.1 ∧ BillNm p.1 ∧ 1 ≤ p.1.length ∧ p.1.length ≤ most) ∧ BxOk p.2) := by
  refine gd_bind (P := fun s => BxOk s.1 ∧ 1 ≤ s.2 ∧ s.2 ≤ most) (gd_bind (gd_draw hb (by omega)) fun p hp => gd_ret ⟨hp.2, by dsimp only; omega⟩) fun s hs => ?_
  obtain ⟨b1, cnt⟩ := s
  obtain ⟨hb1, hc⟩ := hs
  obtain ⟨n, rfl⟩ := Int.eq_ofNat_of_zero_le (show 0 ≤ cnt by have := hc.1; dsimp only at this; omega)
  have hc : 1 ≤ n ∧ (n : Int) ≤ most := by dsimp only at hc; omega
  dsimp only at hb1
  refine gd_let (gd_bind (P := fun s => BxOk s.1 ∧ s.2.length = n ∧ (∀ w ∈ s.2, Nm w) ∧ s.2.Nodup) (gd_req (by omega) ?_) fun s hs => ?_)
  · refine gd_forL' (fun i s => BxOk s.1 ∧ s.2.length = i ∧ (∀ w ∈ s.2, Nm w) ∧ s.2.Nodup) ⟨hb1, rfl, fun _ h => (nomatch h), List.nodup_nil⟩ (fun i x s hx hs => ?_) fun s h => by simpa using h
    have hx := rng_get hx
    obtain ⟨h1, h2, h3, h4⟩ := hs
    refine gd_bind (P := fun s => BxOk s.1 ∧ s.2.length = i + 1 ∧ (∀ w ∈ s.2, Nm w) ∧ s.2.Nodup) (gd_bind (gd_name h1 (by omega)) fun p hp => gd_req (by omega) (gd_ret ⟨hp.2, by simp [h2], fun w hw => ?_, ?_⟩)) fun s h => gd_ret h
    · rcases List.mem_append.mp hw with z | z
      · exact h3 w z
      · rw [List.mem_singleton] at z; subst z; exact hp.1.1
    · refine List.nodup_append.mpr ⟨h4, by simp, fun a ha c hc e => ?_⟩
      rw [List.mem_singleton] at hc; subst hc; subst e
      exact hp.1.2 ha
  obtain ⟨b2, names⟩ := s
  obtain ⟨hb2, hnl, hnm, hnd⟩ := hs
  dsimp only at hb2 hnl hnm hnd
  refine gd_let (gd_bind (P := fun s => BxOk s.1 ∧ Rks n s.2) (gd_req (by omega) ?_) fun s hs => ?_)
  · refine gd_forL' (fun i s => BxOk s.1 ∧ Rks i s.2) ⟨hb2, List.nodup_nil, (fun x => ⟨(fun h => nomatch h), (fun h => by omega)⟩), rfl⟩ (fun i x s hx hs => ?_) fun s h => by simpa using h
    have hx := rng_get hx
    obtain ⟨h1, h2⟩ := hs
    have hl := h2.len
    refine gd_bind (P := fun t => BxOk t.1 ∧ 0 ≤ t.2) (gd_bind (gd_draw h1 (by omega)) fun p hp => gd_ret ⟨hp.2, hp.1.1⟩) fun t ht => ?_
    have e1 := cut_toI (xs := s.2) ht.2
    have e2 := cut_fromI (xs := s.2) ht.2
    refine gd_bind (P := fun l => Rks (i + 1) l) (gd_req ?_ (gd_req ?_ (gd_ret ?_))) fun l h => gd_ret ⟨ht.1, h⟩
    · rw [e1, List.length_take]; simp; omega
    · rw [e1, e2, List.length_append, List.length_take, List.length_drop]; simp; omega
    · rw [e1, e2, hx.1]; exact h2.ins _
  obtain ⟨b3, ranks⟩ := s
  obtain ⟨hb3, hr⟩ := hs
  dsimp only at hb3 hr
  refine gd_let (gd_bind (P := fun s => BxOk s.1 ∧ s.2.length = n ∧ ∀ j x, s.2[j]? = some x → ItR n ranks names j x) (gd_req (by omega) ?_) fun s hs => gd_ret ?_)
  · refine gd_forL' (fun i s => BxOk s.1 ∧ s.2.length = i ∧ ∀ j x, s.2[j]? = some x → ItR n ranks names j x) ⟨hb3, rfl, fun j x h => by simp at h⟩ (fun i x s hx hs => ?_) fun s h => by simpa using h
    have hx := rng_get hx
    have ex := hx.1
    subst ex
    obtain ⟨h1, h2, h3⟩ := hs
    have hm : (i : Int) ∈ ranks := (hr.mem _).mpr (by omega)
    refine gd_eq (gd_req hm (gd_ret rfl)) ?_
    rw [show idxI ranks (i : Int) = ((ranks.idxOf (i : Int) : Nat) : Int) from rfl, cut_to]
    generalize hlow : ranks.take (ranks.idxOf (i : Int)) = low
    have hlw : ∀ y ∈ low, ranks.idxOf y < ranks.idxOf (i : Int) ∧ 0 ≤ y ∧ y < n := fun y hy => by
      rw [← hlow] at hy
      exact ⟨idx_take y hy, (hr.mem y).mp (List.mem_of_mem_take hy)⟩
    refine gd_let (gd_bind (P := fun s => BxOk s.1 ∧ s.2.length ≤ 4 ∧ ∀ p ∈ s.2, p.1 ∈ low ∧ 1 ≤ p.2 ∧ p.2 ≤ 20) (gd_bind (gd_draw h1 (by omega)) fun p hp => gd_req (by omega) ?_) fun t ht => ?_)
    · refine gd_forL' (fun k s => BxOk s.1 ∧ s.2.length ≤ k ∧ ∀ p ∈ s.2, p.1 ∈ low ∧ 1 ≤ p.2 ∧ p.2 ≤ 20) ⟨hp.2, Nat.le_refl _, fun _ h => nomatch h⟩ (fun k y s hy hs => ?_) fun s h => ⟨h.1, by have := h.2.1; simp at this; omega, h.2.2⟩
      have hy := rng_get hy
      obtain ⟨g1, g2, g3⟩ := hs
      refine gd_bind (P := fun s => BxOk s.1 ∧ s.2.length ≤ k + 1 ∧ ∀ p ∈ s.2, p.1 ∈ low ∧ 1 ≤ p.2 ∧ p.2 ≤ 20) (gd_if (fun hl => ?_) fun _ => gd_ret ⟨g1, by dsimp only; omega, g3⟩) fun s h => gd_ret h
      have hl := of_decide_eq_true hl
      refine gd_bind (P := fun s => BxOk s.1 ∧ 1 ≤ s.2 ∧ s.2 ≤ 20) (gd_bind (gd_draw g1 (by omega)) fun p hp => gd_ret ⟨hp.2, by dsimp only; omega⟩) fun t ht => ?_
      refine gd_bind (P := fun s => BxOk s.1 ∧ 1 ≤ s.2 ∧ s.2 ≤ 20) (gd_bind (gd_draw ht.1 (by omega)) fun p hp => gd_if (fun _ => gd_let (gd_ret ⟨hp.2, show (1 : Int) ≤ 20 by decide, show (20 : Int) ≤ 20 by decide⟩)) fun _ => gd_ret ⟨hp.2, ht.2⟩) fun t2 ht2 => ?_
      refine gd_bind (P := fun s => BxOk s.1 ∧ s.2.length ≤ k + 1 ∧ ∀ p ∈ s.2, p.1 ∈ low ∧ 1 ≤ p.2 ∧ p.2 ≤ 20) (gd_bind (gd_draw ht2.1 (by omega)) fun p hp => gd_req hp.1 (gd_req (by omega) (gd_ret ⟨hp.2, by simp; omega, fun q hq => ?_⟩))) fun s h => gd_ret h
      rcases List.mem_append.mp hq with z | z
      · exact g3 q z
      · rw [List.mem_singleton] at z; subst z; exact ⟨ix_mem hp.1, ht2.2⟩
    · obtain ⟨k1, k2, k3⟩ := ht
      refine gd_bind (P := fun s => BxOk s.1 ∧ 0 ≤ s.2 ∧ s.2 ≤ 10) (gd_bind (gd_draw k1 (by omega)) fun p1 hp1 => gd_bind (gd_draw hp1.2 (by omega)) fun p2 hp2 => gd_bind (gd_draw hp2.2 (by omega)) fun p3 hp3 => gd_req ⟨by omega, by simp; omega⟩ (gd_ret ⟨hp3.2, pick2 (by omega) (by omega) (by omega)⟩)) fun t1 ht1 => ?_
      refine gd_bind (P := fun s => BxOk s.1 ∧ 1 ≤ s.2 ∧ s.2 ≤ 50) (gd_bind (gd_draw ht1.1 (by omega)) fun p1 hp1 => gd_bind (gd_draw hp1.2 (by omega)) fun p2 hp2 => gd_bind (gd_draw hp2.2 (by omega)) fun p3 hp3 => gd_req ⟨by omega, by simp; omega⟩ (gd_ret ⟨hp3.2, pick2 (by omega) (by omega) (by omega)⟩)) fun t2 ht2 => ?_
      refine gd_bind (P := fun s => BxOk s.1 ∧ s.2.length = i + 1 ∧ ∀ j x, s.2[j]? = some x → ItR n ranks names j x) (gd_req (by dsimp only; omega) (gd_bind (gd_draw ht2.1 (by omega)) fun p hp => gd_req (by omega) (gd_ret ⟨hp.2, by simp [h2], fun j x hj => ?_⟩))) fun s h => gd_ret h
      rcases get_app1 hj with z | ⟨z, rfl⟩
      · exact h3 j x z
      · rw [h2] at z; subst z
        refine ⟨⟨k2, fun p hp => ⟨(hlw _ (k3 p hp).1).2, (k3 p hp).2⟩, ht1.2, ht2.2, by dsimp only; omega⟩, ?_, fun p hp => (hlw _ (k3 p hp).1).1⟩
        exact get_ix (by omega)
  · obtain ⟨h1, h2, h3⟩ := hs
    refine ⟨⟨⟨by dsimp only; omega, fun x hx => ?_, fun (k : Int) => ranks.idxOf k, fun (i : Int) h0 h1 => ?_, fun (i : Int) h0 hi p hp => ?_⟩, ⟨fun x hx => ?_, ?_⟩, by dsimp only; omega, by dsimp only; omega⟩, h1⟩
    · obtain ⟨j, hj, e⟩ := List.mem_iff_getElem.mp hx
      have := (h3 j x (by rw [List.getElem?_eq_getElem hj, e])).ok
      rw [← h2] at this; exact this
    · show ranks.idxOf i < s.2.length
      rw [h2, ← hr.len]
      exact List.idxOf_lt_length_iff.mpr ((hr.mem i).mpr (by dsimp only at h1; omega))
    · obtain ⟨k, rfl⟩ := Int.eq_ofNat_of_zero_le h0
      exact (h3 k _ (get_ix (by dsimp only at hi; omega))).low p hp
    · obtain ⟨j, hj, e⟩ := List.mem_iff_getElem.mp hx
      have := (h3 j x (by rw [List.getElem?_eq_getElem hj, e])).name
      exact hnm _ (List.mem_of_getElem? this)
    · have : s.2.map Item.name = names := by
        apply List.ext_getElem?
        intro j
        rw [List.getElem?_map]
        cases e : s.2[j]? with
        | none =>
          have := List.getElem?_eq_none_iff.mp e
          rw [List.getElem?_eq_none (by omega)]; rfl
        | some x => rw [(h3 j x e).name]; rfl
      show (s.2.map Item.name).Nodup
      rw [this]; exact hnd
end Mw
set_option Elab.async false
set_option linter.all false
set_option maxRecDepth 100000
set_option autoImplicit false
namespace Mw
open PySem PySem.Spec PyProof.Rows L2
def qtyIn (b : List Item) (p i : Int) : Int := (((ix b p).parts.filter fun x => decide (x.1 = i)).map fun x => x.2).sum
def usedBy (b : List Item) (i : Int) : List (Int × Int) := ((rng b.length).map fun p => (p, qtyIn b p i)).filter fun x => decide (0 < x.2)
theorem usedBy_mem {b : List Item} {i p q : Int} : (p, q) ∈ usedBy b i ↔ (0 ≤ p ∧ p < b.length) ∧ q = qtyIn b p i ∧ 0 < q := by
  unfold usedBy
  rw [List.mem_filter, List.mem_map]
  constructor
  · rintro ⟨⟨x, hx, e⟩, hq⟩
    cases e
    exact ⟨mem_rng.mp hx, rfl, of_decide_eq_true hq⟩
  · rintro ⟨hp, rfl, hq⟩
    exact ⟨⟨p, mem_rng.mpr hp, rfl⟩, decide_eq_true hq⟩
theorem sum_pos_mem {xs : List Int} (h : 0 < xs.sum) : ∃ x ∈ xs, 0 < x := by
  induction xs with
  | nil => simp at h
  | cons x xs ih =>
    by_cases hx : 0 < x
    · exact ⟨x, by simp, hx⟩
    · rw [List.sum_cons] at h
      obtain ⟨y, hy, z⟩ := ih (by omega)
      exact ⟨y, by simp [hy], z⟩
theorem qty_uses {b : List Item} {p i : Int} (h : 0 < qtyIn b p i) : ∃ q, (i, q) ∈ (ix b p).parts := by
  obtain ⟨x, hx, _⟩ := sum_pos_mem h
  obtain ⟨y, hy, rfl⟩ := List.mem_map.mp hx
  have h2 := List.mem_filter.mp hy
  have h3 := of_decide_eq_true h2.2
  exact ⟨y.2, by rw [← h3]; exact h2.1⟩
theorem sum_le {xs : List Int} {c : Int} (h : ∀ x ∈ xs, x ≤ c) : xs.sum ≤ c * xs.length := by
  induction xs with
  | nil => simp
  | cons x xs ih =>
    rw [List.sum_cons, List.length_cons]
    have := h x (by simp); have := ih fun y hy => h y (by simp [hy])
    rw [show ((xs.length + 1 : Nat) : Int) = xs.length + 1 by omega, Int.mul_add]; omega
def ready (b : List Item) (tk : List Int) (i : Int) : Bool := !decide (i ∈ tk) && (usedBy b i).all fun x => decide (x.1 ∈ tk)
def nextIt (b : List Item) (tk : List Int) : List Int := match (rng b.length).find? (ready b tk) with
  | some i => tk ++ [i]
  | none => tk
def ordN (b : List Item) : Nat → List Int
  | 0 => []
  | k + 1 => nextIt b (ordN b k)
def pf (b : List Item) : List Int := ordN b b.length
structure Tkn (b : List Item) (l : List Int) : Prop where
  nd : l.Nodup
  mem : ∀ x ∈ l, 0 ≤ x ∧ x < b.length
  up : ∀ (k : Nat) (x : Int), l[k]? = some x → ∀ p : Int, 0 ≤ p → p < b.length → 0 < qtyIn b p x → p ∈ l.take k
theorem exists_max {α : Type} (r : α → Nat) : ∀ (l : List α), l ≠ [] → ∃ x ∈ l, ∀ y ∈ l, r y ≤ r x
  | [x], _ => ⟨x, by simp, by simp⟩
  | x :: y :: l, _ => by
    obtain ⟨z, hz, hm⟩ := exists_max r (y :: l) (by simp)
    by_cases h : r z ≤ r x
    · exact ⟨x, by simp, fun w hw => by
        rcases List.mem_cons.mp hw with rfl | hw
        · exact Nat.le_refl _
        · exact Nat.le_trans (hm w hw) h⟩
    · exact ⟨z, List.mem_cons_of_mem _ hz, fun w hw => by
        rcases List.mem_cons.mp hw with rfl | hw
        · omega
        · exact hm w hw⟩
theorem ready_iff {b : List Item} {tk : List Int} {i : Int} : ready b tk i = true ↔ i ∉ tk ∧ ∀ p : Int, 0 ≤ p → p < b.length → 0 < qtyIn b p i → p ∈ tk := by
  unfold ready
  rw [Bool.and_eq_true, List.all_eq_true]
  simp only [Bool.not_eq_true', decide_eq_false_iff_not, decide_eq_true_eq]
  constructor
  · rintro ⟨h1, h2⟩
    exact ⟨h1, fun p h0 hl hq => h2 _ (usedBy_mem.mpr ⟨⟨h0, hl⟩, rfl, hq⟩)⟩
  · rintro ⟨h1, h2⟩
    exact ⟨h1, fun x hx => by
      obtain ⟨hp, e, hq⟩ := usedBy_mem.mp (show (x.1, x.2) ∈ usedBy b i from hx)
      exact h2 _ hp.1 hp.2 (by rw [← e]; exact hq)⟩
theorem ready_ex {b : List Item} (hb : BillOk b) {tk : List Int} (h : Tkn b tk) (hl : tk.length < b.length) : ∃ i, (rng b.length).find? (ready b tk) = some i := by
  obtain ⟨r, hr, hlow⟩ := hb.rk
  have ne : (rng b.length).filter (fun i => !decide (i ∈ tk)) ≠ [] := by
    intro e
    have := nodup_le (rng b.length) tk (by
      unfold rng
      refine List.pairwise_map.mpr (List.Pairwise.imp (fun h e => h (by omega)) List.nodup_range)) fun x hx => by
        have := List.filter_eq_nil_iff.mp e x hx
        simpa using this
    simp at this; omega
  obtain ⟨x, hx, hm⟩ := exists_max r _ ne
  obtain ⟨hx1, hx2⟩ := List.mem_filter.mp hx
  have hx2 : x ∉ tk := by simpa using hx2
  have hready : ready b tk x = true := ready_iff.mpr ⟨hx2, fun p h0 h1 hq => by
    by_cases hp : p ∈ tk
    · exact hp
    · obtain ⟨q, hq⟩ := qty_uses hq
      have := hlow p h0 h1 _ hq
      have := hm p (List.mem_filter.mpr ⟨mem_rng.mpr ⟨h0, h1⟩, by simpa using hp⟩)
      dsimp only at *
      omega⟩
  cases e : (rng b.length).find? (ready b tk) with
  | some i => exact ⟨i, rfl⟩
  | none =>
    have := List.find?_eq_none.mp e x hx1
    rw [hready] at this; exact absurd rfl this
theorem next_tkn {b : List Item} (hb : BillOk b) {tk : List Int} (h : Tkn b tk) (hl : tk.length < b.length) : ∃ i, (rng b.length).find? (ready b tk) = some i ∧ nextIt b tk = tk ++ [i] ∧ Tkn b (tk ++ [i]) := by
  obtain ⟨i, e⟩ := ready_ex hb h hl
  have hr := ready_iff.mp (List.find?_some e)
  have hi := mem_rng.mp (List.mem_of_find?_eq_some e)
  refine ⟨i, e, by unfold nextIt; rw [e], ⟨List.nodup_append.mpr ⟨h.nd, by simp, fun a ha c hc z => by rw [List.mem_singleton] at hc; subst hc; subst z; exact hr.1 ha⟩, fun x hx => ?_, fun k x hk p h0 h1 hq => ?_⟩⟩
  · rcases List.mem_append.mp hx with z | z
    · exact h.mem x z
    · rw [List.mem_singleton] at z; subst z; exact hi
  · rcases get_app1 hk with z | ⟨z, rfl⟩
    · have := h.up k x z p h0 h1 hq
      rw [List.take_append_of_le_length (by have := (List.getElem?_eq_some_iff.mp z).1; omega)]
      exact this
    · subst z
      rw [List.take_append_of_le_length (by omega), List.take_length]
      exact hr.2 p h0 h1 hq
theorem ordN_tkn {b : List Item} (hb : BillOk b) : ∀ k, k ≤ b.length → Tkn b (ordN b k) ∧ (ordN b k).length = k
  | 0, _ => ⟨⟨List.nodup_nil, fun _ h => (nomatch h), fun k x h => by simp [ordN] at h⟩, rfl⟩
  | k + 1, h => by
    obtain ⟨h1, h2⟩ := ordN_tkn hb k (by omega)
    obtain ⟨i, _, e, t⟩ := next_tkn hb h1 (by omega)
    show Tkn b (nextIt b (ordN b k)) ∧ (nextIt b (ordN b k)).length = k + 1
    rw [e]
    exact ⟨t, by simp [h2]⟩
theorem pf_len {b : List Item} (hb : BillOk b) : (pf b).length = b.length := (ordN_tkn hb _ (Nat.le_refl _)).2
end Mw
set_option Elab.async false
set_option linter.all false
set_option maxRecDepth 100000
set_option autoImplicit false
namespace Mw
open PySem PySem.Spec PyProof.Rows L2
structure BooksOk (b : List Item) (k : Books) : Prop where
  today : 0 ≤ k.today ∧ k.today ≤ 200
  stl : k.stock.length = b.length
  stk : ∀ x ∈ k.stock, 0 ≤ x
  recl : k.recs.length ≤ 12
  rc : ∀ e ∈ k.recs, (0 ≤ e.1 ∧ e.1 < b.length) ∧ (k.today ≤ e.2.1 ∧ e.2.1 ≤ 200) ∧ 1 ≤ e.2.2 ∧ e.2.2 ≤ 500
  ordl : k.ords.length ≤ 12
  ord : ∀ e ∈ k.ords, (1 ≤ e.1 ∧ e.1 ≤ 99) ∧ (0 ≤ e.2.1 ∧ e.2.1 < b.length) ∧ (1 ≤ e.2.2.1 ∧ e.2.2.1 ≤ 500) ∧ k.today ≤ e.2.2.2 ∧ e.2.2.2 ≤ 300
  rise : (k.ords.map fun e => e.1).Pairwise (· < ·)
structure BkW (b : List Item) (k : Books) : Prop where
  stl : k.stock.length = b.length
  recl : k.recs.length ≤ 100
  ordl : k.ords.length ≤ 100
  ord : ∀ e ∈ k.ords, -1000 ≤ e.2.2.2 ∧ e.2.2.2 ≤ 2000
theorem BooksOk.w {b : List Item} {k : Books} (h : BooksOk b k) : BkW b k := ⟨h.stl, by have := h.recl; omega, by have := h.ordl; omega, fun e he => by have := h.ord e he; have := h.today; omega⟩
def ordd (k : Books) (i d : Int) : Int := ((k.ords.filter fun e => decide (e.2.1 = i) && decide (e.2.2.2 ≤ d)).map fun e => e.2.2.1).sum
def supp (k : Books) (i d : Int) : Int := ix k.stock i + ((k.recs.filter fun e => decide (e.1 = i) && decide (e.2.1 ≤ d)).map fun e => e.2.2).sum
def lotsAt (rows : List (Int × Int)) (d : Int) : Int := rows.foldl (fun l r => if r.1 ≤ d then r.2 else l) 0
def daysOf (b : List Item) (k : Books) (f : List (List (Int × Int))) (i : Int) : List Int := srtI (((k.ords.filter fun e => decide (e.2.1 = i)).map fun e => e.2.2.2) ++ (usedBy b i).flatMap fun u => (ix f u.1).map fun r => r.1)
structure FdOk (b : List Item) (f : List (List (Int × Int))) : Prop where
  len : f.length = b.length
  rows : ∀ x ∈ f, x.length ≤ 10000
def takenF (b : List Item) (k : Books) (f : List (List (Int × Int))) (i d : Int) : Int := ordd k i d + ((usedBy b i).map fun u => u.2 * (ix b u.1).lot * lotsAt (ix f u.1) d).sum
def rup (n g : Int) : Int := -(-n / g)
def rowStep (b : List Item) (k : Books) (f : List (List (Int × Int))) (i : Int) (s : List (Int × Int) × Int) (d : Int) : List (Int × Int) × Int :=
  if s.2 < rup (takenF b k f i d - supp k i d) (ix b i).good then (s.1 ++ [(d - (ix b i).lead, rup (takenF b k f i d - supp k i d) (ix b i).good)], rup (takenF b k f i d - supp k i d) (ix b i).good) else s
def rowsOf (b : List Item) (k : Books) (f : List (List (Int × Int))) (i : Int) : List (Int × Int) := ((daysOf b k f i).foldl (rowStep b k f i) ([], 0)).1
end Mw
set_option Elab.async false
set_option linter.all false
set_option maxRecDepth 100000
set_option autoImplicit false
namespace Mw
open PySem PySem.Spec PyProof.Rows L2
theorem rising_len : ∀ (l : List Int) (lo hi : Int), l.Pairwise (· < ·) → (∀ x ∈ l, lo ≤ x ∧ x ≤ hi) → (l.length : Int) ≤ max 0 (hi - lo + 1)
  | [], lo, hi, _, _ => by simp; omega
  | x :: l, lo, hi, hp, hm => by
    have hp := List.pairwise_cons.mp hp
    have h1 := hm x (by simp)
    have := rising_len l (x + 1) hi hp.2 fun y hy => ⟨by have := hp.1 y hy; omega, (hm y (by simp [hy])).2⟩
    rw [List.length_cons]; omega
abbrev Needs := List (List (Int × Int))
def Btw (lo hi : Int) (rows : List (Int × Int)) : Prop := rows.Pairwise (fun a b => a.1 < b.1) ∧ ∀ r ∈ rows, lo ≤ r.1 ∧ r.1 ≤ hi
structure NInv (b : List Item) (k : Books) (A B : Int) (n : Nat) (f : Needs) : Prop where
  len : f.length = b.length
  don : ∀ (j : Nat) (x : Int), j < n → (pf b)[j]? = some x → ix f x = rowsOf b k f x ∧ Btw (A - 10 * (j + 1)) B (ix f x)
  rst : ∀ x : Int, 0 ≤ x → x < b.length → x ∉ (pf b).take n → ix f x = []
theorem Btw.len {lo hi : Int} {rows : List (Int × Int)} (h : Btw lo hi rows) : (rows.length : Int) ≤ max 0 (hi - lo + 1) := by
  have := rising_len (rows.map fun r => r.1) lo hi (List.pairwise_map.mpr h.1) fun x hx => by
    obtain ⟨r, hr, rfl⟩ := List.mem_map.mp hx
    exact h.2 r hr
  rwa [List.length_map] at this
theorem NInv.fd {b : List Item} {k : Books} {A B : Int} {n : Nat} {f : Needs} (hb : BillOk b) (h : NInv b k A B n f) (hw : B - A ≤ 5000) : FdOk b f := by
  refine ⟨h.len, fun x hx => ?_⟩
  obtain ⟨i, hi, e⟩ := mem_ix hx
  have hl := hb.len
  have hfl := h.len
  by_cases hm : (i : Int) ∈ (pf b).take n
  · obtain ⟨j, hj, ej⟩ := List.mem_iff_getElem.mp hm
    rw [List.length_take] at hj
    rw [List.getElem_take] at ej
    have := (h.don j i (by omega) (by rw [List.getElem?_eq_getElem (by omega), ej])).2.len
    have hpl := pf_len hb
    rw [e] at this
    omega
  · rw [h.rst i (by omega) (by omega) hm] at e
    rw [← e]; simp
end Mw
set_option Elab.async false
set_option linter.all false
set_option maxRecDepth 100000
set_option autoImplicit false
namespace Mw
open PySem PySem.Spec PyProof.Rows L2
def useSum (b : List Item) (i : Int) (X : Int → Int) : Int := ((usedBy b i).map fun u => u.2 * (ix b u.1).lot * X u.1).sum
abbrev Fact := Int × Int × Int
end Mw
set_option Elab.async false
set_option linter.all false
set_option maxRecDepth 100000
set_option autoImplicit false
namespace Mw
open PySem PySem.Spec PyProof.Rows L2
end Mw
set_option Elab.async false
set_option linter.all false
set_option maxRecDepth 100000
set_option autoImplicit false
namespace Mw
open PySem PySem.Spec PyProof.Rows L2
end Mw
set_option Elab.async false
set_option linter.all false
set_option maxRecDepth 100000
set_option autoImplicit false
namespace Mw
open PySem PySem.Spec PyProof.Rows L2
section
variable {κ β : Type} [DecidableEq κ]
end
structure PlOk (b : List Item) (p : List Fact) : Prop where
  len : p.length ≤ 100000
  it : ∀ f ∈ p, (0 ≤ f.1 ∧ f.1 < b.length) ∧ -1000 ≤ f.2.1 ∧ f.2.1 ≤ 2000
structure PlNear (b : List Item) (k : Books) (p : List Fact) : Prop where
  len : p.length ≤ 6
  it : ∀ f ∈ p, (0 ≤ f.1 ∧ f.1 < b.length) ∧ (k.today ≤ f.2.1 ∧ f.2.1 ≤ k.today + 19) ∧ 1 ≤ f.2.2 ∧ f.2.2 ≤ 13
  srt : (p.map fun f => (f.1, f.2.1)).Pairwise fun a b => SrtO.lexB a b = true
theorem PlNear.ok {b : List Item} {k : Books} {p : List Fact} (h : PlNear b k p) (hk : BooksOk b k) : PlOk b p := ⟨by have := h.len; omega, fun f hf => ⟨(h.it f hf).1, by have := (h.it f hf).2.1; have := hk.today; omega⟩⟩
def startedF (p : List Fact) (i d : Int) : Int := ((p.filter fun f => decide (f.1 = i) && decide (f.2.1 ≤ d)).map fun f => f.2.2).sum
def balF (b : List Item) (k : Books) (p : List Fact) (i d : Int) : Int := supp k i d + (ix b i).good * startedF p i (d - (ix b i).lead) - (ordd k i d + useSum b i fun q => startedF p q d)
def lastF (b : List Item) (k : Books) (p : List Fact) : Int := p.foldl (fun s f => max s (f.2.1 + (ix b f.1).lead)) (k.ords.foldl (fun s e => max s e.2.2.2) (k.recs.foldl (fun s e => max s e.2.1) k.today))
def isShort (b : List Item) (k : Books) (p : List Fact) (d i : Int) : Bool := decide (balF b k p i d < 0) && (decide (d = k.today) || decide (0 ≤ balF b k p i (d - 1)))
def shStep (b : List Item) (k : Books) (p : List Fact) (d : Int) (s : List Fact) (i : Int) : List Fact := if isShort b k p d i = true then s ++ [(d, i, -balF b k p i d)] else s
def shDay (b : List Item) (k : Books) (p : List Fact) (s : List Fact) (d : Int) : List Fact := (rng b.length).foldl (shStep b k p d) s
def shortF (b : List Item) (k : Books) (p : List Fact) : List Fact := (rng2 k.today (lastF b k p + 1)).foldl (shDay b k p) []
section
variable {b : List Item} {k : Books} {p : List Fact}
def worksF (b : List Item) (k : Books) (p : List Fact) : Bool := decide (((shortF b k p).length : Int) = 0)
end
end Mw
set_option Elab.async false
set_option linter.all false
set_option maxRecDepth 100000
set_option autoImplicit false
namespace Mw
open PySem PySem.Spec PyProof.Rows L2
structure PlW (b : List Item) (k : Books) (p : List Fact) : Prop where
  ok : PlOk b p
  it : ∀ f ∈ p, k.today ≤ f.2.1 ∧ 0 ≤ f.2.2
theorem PlNear.w {b : List Item} {k : Books} {p : List Fact} (h : PlNear b k p) (hk : BooksOk b k) : PlW b k p := ⟨h.ok hk, fun f hf => by have := (h.it f hf).2; omega⟩
end Mw
set_option Elab.async false
set_option linter.all false
set_option maxRecDepth 100000
set_option autoImplicit false
namespace Mw
open PySem PySem.Spec PyProof.Rows L2
end Mw
set_option Elab.async false
set_option linter.all false
set_option maxRecDepth 100000
set_option autoImplicit false
namespace Mw
open PySem PySem.Spec PyProof.Rows L2
end Mw
set_option Elab.async false
set_option linter.all false
set_option maxRecDepth 100000
set_option autoImplicit false
namespace Mw
open PySem PySem.Spec PyProof.Rows L2
def noPlan : Exc := ⟨"NoPlan", [], []⟩
end Mw
set_option Elab.async false
set_option linter.all false
set_option maxRecDepth 100000
set_option autoImplicit false
namespace Mw
open PySem PySem.Spec PyProof.Rows L2
def lt2 (a b : Fact) : Prop := a.1 < b.1 ∨ (a.1 = b.1 ∧ a.2.1 < b.2.1)
structure PlS (b : List Item) (k : Books) (p : List Fact) : Prop where
  w : PlW b k p
  srt : p.Pairwise lt2
  pos : ∀ f ∈ p, 1 ≤ f.2.2
theorem srt_lt2 {p : List Fact} (h : (p.map fun f => (f.1, f.2.1)).Pairwise fun a b => SrtO.lexB a b = true) : p.Pairwise lt2 := by
  rw [List.pairwise_map] at h
  exact h.imp fun {a b} z => SrtO.lexB_iff.mp z
theorem PlNear.s {b : List Item} {k : Books} {p : List Fact} (h : PlNear b k p) (hk : BooksOk b k) : PlS b k p := ⟨h.w hk, srt_lt2 h.srt, fun f hf => (h.it f hf).2.2.1⟩
end Mw
set_option Elab.async false
set_option linter.all false
set_option maxRecDepth 100000
set_option autoImplicit false
namespace Mw
open PySem PySem.Spec PyProof.Rows L2
section
variable {α β γ δ : Type}
def EqvOk (e : α → D) : Prop := ∀ a b, D.eqv (e a) (e b) = true ↔ a = b
theorem eo_str : EqvOk D.str := fun a b => by rw [eqv_s]; exact decide_eq_true_iff
theorem eqvAll_cons (x y : D) (xs ys : List D) : PyData.eqvAll (pys (x :: xs)) (pys (y :: ys)) = (D.eqv x y && PyData.eqvAll (pys xs) (pys ys)) := rfl
theorem eo_2 {e : α → D} {f : β → D} (h1 : EqvOk e) (h2 : EqvOk f) : EqvOk fun x : α × β => D.tup [e x.1, f x.2] := fun a b => by
  show PyData.eqvAll (pys [e a.1, f a.2]) (pys [e b.1, f b.2]) = true ↔ _
  rw [eqvAll_cons, eqvAll_cons, Bool.and_eq_true, Bool.and_eq_true, h1, h2]
  exact ⟨fun z => Prod.ext z.1 z.2.1, fun z => by subst z; exact ⟨rfl, rfl, rfl⟩⟩
def D.shn : Nat → D → Prop
  | n + 1, .tup xs => ∀ y ∈ xs, D.shn n y
  | n + 1, .lst xs => ∀ y ∈ xs, D.shn n y
  | 0, .tup xs => False
  | 0, .lst xs => False
  | _, .obj _ _ _ => False
  | _, .str s => PyData.strOk ⟨s.toArray⟩ = true
  | _, _ => True
theorem pys_lay : ∀ {xs : List D}, (∀ y ∈ xs, y.py.canLay0 = true) → PyData.canLayAll0 (pys xs) = true
  | [], _ => rfl
  | x :: xs, h => by
    show (x.py.canLay0 && PyData.canLayAll0 (pys xs)) = true
    rw [h x (by simp), pys_lay fun y hy => h y (by simp [hy])]; rfl
theorem pys_depth {n : Nat} : ∀ {xs : List D}, (∀ y ∈ xs, y.py.depth ≤ n) → PyData.depthAll (pys xs) ≤ n
  | [], _ => Nat.zero_le _
  | x :: xs, h => by
    show max x.py.depth (PyData.depthAll (pys xs)) ≤ n
    have := h x (by simp)
    have := pys_depth (n := n) (xs := xs) fun y hy => h y (List.mem_cons_of_mem _ hy)
    omega
theorem nobs_all : ∀ {xs : List D}, (∀ y ∈ xs, y.nob = true) → nobs xs = true
  | [], _ => rfl
  | x :: xs, h => by
    show (x.nob && nobs xs) = true
    rw [h x (by simp), nobs_all fun y hy => h y (by simp [hy])]; rfl
theorem shn_ok : ∀ (n : Nat) (x : D), D.shn n x → x.nob = true ∧ x.py.canLay0 = true ∧ x.py.depth ≤ n
  | n + 1, .tup xs, h => ⟨nobs_all fun y hy => (shn_ok n y (h y hy)).1, pys_lay fun y hy => (shn_ok n y (h y hy)).2.1, Nat.succ_le_succ (pys_depth fun y hy => (shn_ok n y (h y hy)).2.2)⟩
  | n + 1, .lst xs, h => ⟨nobs_all fun y hy => (shn_ok n y (h y hy)).1, pys_lay fun y hy => (shn_ok n y (h y hy)).2.1, Nat.succ_le_succ (pys_depth fun y hy => (shn_ok n y (h y hy)).2.2)⟩
  | 0, .tup xs, h => h.elim
  | 0, .lst xs, h => h.elim
  | 0, .obj _ _ _, h => by cases h
  | n + 1, .obj _ _ _, h => by cases h
  | 0, .str s, h => ⟨rfl, h, Nat.le_refl _⟩
  | n + 1, .str s, h => ⟨rfl, h, Nat.zero_le _⟩
  | 0, .int _, h => ⟨rfl, rfl, Nat.le_refl _⟩
  | n + 1, .int _, h => ⟨rfl, rfl, Nat.zero_le _⟩
  | 0, .bl _, h => ⟨rfl, rfl, Nat.le_refl _⟩
  | n + 1, .bl _, h => ⟨rfl, rfl, Nat.zero_le _⟩
  | 0, .non, h => ⟨rfl, rfl, Nat.le_refl _⟩
  | n + 1, .non, h => ⟨rfl, rfl, Nat.zero_le _⟩
theorem shn_shp {n : Nat} {x : D} (h : D.shn n x) (hn : n ≤ 64) : x.shp = true := by
  obtain ⟨h1, h2, h3⟩ := shn_ok n x h
  unfold D.shp SeqAt.shaped
  rw [h1, h2, decide_eq_true (by omega)]; rfl
end
end Mw
set_option Elab.async false
set_option linter.all false
set_option maxRecDepth 100000
set_option autoImplicit false
namespace Mw
open PySem PySem.Spec PyProof.Rows L2
end Mw
set_option Elab.async false
set_option linter.all false
set_option maxRecDepth 100000
set_option autoImplicit false
namespace Mw
open PySem PySem.Spec PyProof.Rows L2
def Pad (d : List Int) : Prop := 20 ≤ d.length ∧ d.length ≤ 40
theorem Pad.at {d : List Int} (h : Pad d) {i : Int} (h0 : 0 ≤ i) (h1 : i < 20) : 0 ≤ i ∧ i < d.length := by have := h.1; omega
structure ItS (x : Item) : Prop where
  pl : x.parts.length ≤ 3
  pt : ∀ p ∈ x.parts, 1 ≤ p.2 ∧ p.2 ≤ 3
  lead : 0 ≤ x.lead ∧ x.lead ≤ 3
  lot : 1 ≤ x.lot ∧ x.lot ≤ 4
  good : 1 ≤ x.good ∧ x.good ≤ x.lot
structure GivA (b : List Item) : Prop where
  ok : BillOk b
  one : 1 ≤ b.length
  five : b.length ≤ 5
  it : ∀ x ∈ b, ItS x
  nm : ∀ i : Nat, i < b.length → (ix b i).name = [ix [97, 98, 99, 100, 101] (i : Int)]
structure ItG (n : Nat) (dn : Bool) (i : Int) (x : Item) : Prop where
  s : ItS x
  pt : ∀ p ∈ x.parts, if dn then 0 ≤ p.1 ∧ p.1 < i else i < p.1 ∧ p.1 < n
  nm : x.name = [ix [97, 98, 99, 100, 101] i]
theorem GivA.of {b : List Item} {dn : Bool} (h1 : 1 ≤ b.length) (h5 : b.length ≤ 5) (h : ∀ i : Nat, i < b.length → ItG b.length dn i (ix b i)) : GivA b := by
  have key : ∀ x ∈ b, ∃ i : Nat, i < b.length ∧ x = ix b i := fun x hx => by
    obtain ⟨i, hi, e⟩ := List.mem_iff_getElem.mp hx
    exact ⟨i, hi, by rw [← e, ix_get (List.getElem?_eq_getElem hi)]⟩
  refine ⟨⟨by omega, fun x hx => ?_, ⟨fun i => if dn then i.toNat else (b.length - 1 - i.toNat), fun i h0 h1 => ?_, fun i h0 h1 p hp => ?_⟩⟩, h1, h5, fun x hx => ?_, fun i hi => (h i hi).nm⟩
  · obtain ⟨i, hi, rfl⟩ := key x hx
    have g := h i hi
    refine ⟨by have := g.s.pl; omega, fun p hp => ?_, by have := g.s.lead; omega, by have := g.s.lot; omega, g.s.good⟩
    have a1 := g.pt p hp
    have a2 := g.s.pt p hp
    cases dn
    · rw [if_neg (by decide)] at a1; omega
    · rw [if_pos rfl] at a1; omega
  · dsimp only
    cases dn
    · rw [if_neg (by decide)]; omega
    · rw [if_pos rfl]; omega
  · have g := (h i.toNat (by omega)).pt p (by rw [show ((i.toNat : Nat) : Int) = i by omega]; exact hp)
    dsimp only
    cases dn
    · rw [if_neg (by decide)] at g; rw [if_neg (by decide), if_neg (by decide)]; omega
    · rw [if_pos rfl] at g; rw [if_pos rfl, if_pos rfl]; omega
  · obtain ⟨i, hi, rfl⟩ := key x hx
    exact (h i hi).s
end Mw
set_option Elab.async false
set_option linter.all false
set_option maxRecDepth 100000
set_option autoImplicit false
namespace Mw
open PySem PySem.Spec PyProof.Rows L2 PySem.W
end Mw
set_option Elab.async false
set_option linter.all false
set_option maxRecDepth 100000
set_option autoImplicit false
namespace Mw.Chk
open PySem PySem.Spec PyProof.Rows L2 Mw PySem.W
def badB (w : List Nat) : Exc := Exc.mk ("BadBooks" : Str) ["word"] [D.str w]
end Mw.Chk
set_option Elab.async false
set_option linter.all false
set_option maxRecDepth 100000
set_option autoImplicit false
namespace Mw
open PySem PySem.Spec PyProof.Rows L2
structure Hlp (b : List Item) (e : List Int) : Prop where
  len : e.length = b.length
  pos : ∀ x ∈ e, 0 ≤ x
theorem sx_len2 (xs : List Int) (i p : Int) : (sx xs i p).length = xs.length := List.length_set ..
theorem Hlp.sx {b : List Item} {e : List Int} (h : Hlp b e) {i p : Int} (hp : 0 ≤ p) : Hlp b (sx e i p) := ⟨by rw [sx_len2]; exact h.len, fun x hx => by
  rcases List.mem_or_eq_of_mem_set hx with z | z
  · exact h.pos x z
  · omega⟩
end Mw
set_option Elab.async false
set_option linter.all false
set_option maxRecDepth 100000
set_option autoImplicit false
namespace Mw
open PySem PySem.Spec PyProof.Rows L2 PySem.W
abbrev Row := Int × Int × Int × Int
def lt4 (x y : Row) : Prop := x.1 < y.1 ∨ x.1 = y.1 ∧ (x.2.1 < y.2.1 ∨ x.2.1 = y.2.1 ∧ (x.2.2.1 < y.2.2.1 ∨ x.2.2.1 = y.2.2.1 ∧ x.2.2.2 < y.2.2.2))
instance (x y : Row) : Decidable (lt4 x y) := by unfold lt4; infer_instance
end Mw
set_option Elab.async false
set_option linter.all false
set_option maxRecDepth 100000
set_option autoImplicit false
namespace Mw.Pg
open PySem PySem.Spec PyProof.Rows L2 Mw PySem.W
def fT (a k c : Int) : D := if k = 0 then e_T2si ([111, 114, 100, 101, 114], c) else e_T3sii ([115, 116, 97, 114, 116], c, a)
def nF (f : Int → Int → Int → D) (r : Row) : Int × Int × Int × D × Int := (r.1, r.2.1, r.2.2.1, f r.1 r.2.1 r.2.2.1, r.2.2.2)
def out (f : Int → Int → Int → D) (r : Row) : Int × D × Int := (r.1, f r.1 r.2.1 r.2.2.1, r.2.2.2)
structure PlP (b : List Item) (p : List Fact) : Prop where
  ok : PlOk b p
  pos : ∀ f ∈ p, 1 ≤ f.2.2
def PlT (b : List Item) (k : Books) (p : List Fact) : Prop := PlP b p ∧ ∀ f ∈ p, k.today ≤ f.2.1
theorem PlT.w {b : List Item} {k : Books} {p : List Fact} (h : PlT b k p) : PlW b k p := ⟨h.1.ok, fun f hf => ⟨h.2 f hf, by have := h.1.pos f hf; omega⟩⟩
def PlG (b : List Item) (k : Books) (p : List Fact) : Prop := PlP b p ∧ worksF b k p = true ∧ ∀ f ∈ p, k.today ≤ f.2.1
theorem PlG.w {b : List Item} {k : Books} {p : List Fact} (h : PlG b k p) : PlW b k p := PlT.w ⟨h.1, h.2.2⟩
end Mw.Pg
set_option Elab.async false
set_option linter.all false
set_option maxRecDepth 100000
set_option autoImplicit false
namespace Mw.Pg
open PySem PySem.Spec PyProof.Rows L2 Mw PySem.W
abbrev Src := Int × D × Int
abbrev Peg := D × D × Int
abbrev GSt := List Peg × Int × Int × Int
def psum (S : List Src) (n : Nat) : Int := ((S.take n).map fun s => s.2.2).sum
theorem psum_succ {S : List Src} {n : Nat} (h : n < S.length) : psum S (n + 1) = psum S n + (ix S (n : Int)).2.2 := by
  unfold psum
  rw [List.take_add_one, get_ix h, List.map_append, List.sum_append]
  simp
theorem psum_mono {S : List Src} (hp : ∀ s ∈ S, 0 < s.2.2) {n m : Nat} (h : n ≤ m) : psum S n ≤ psum S m := by
  induction m with
  | zero => rw [show n = 0 by omega]; exact Int.le_refl _
  | succ m ih =>
    by_cases z : n = m + 1
    · rw [z]; exact Int.le_refl _
    · have := ih (by omega)
      by_cases c : m < S.length
      · rw [psum_succ c]
        have := hp _ (ix_mem (xs := S) (i := (m : Int)) ⟨by omega, by omega⟩)
        omega
      · have e : psum S (m + 1) = psum S m := by unfold psum; rw [List.take_of_length_le (by omega), List.take_of_length_le (by omega)]
        omega
def pstep (S : List Src) (nm : D) (s : GSt) : GSt :=
  if 0 < s.2.2.2 then
    (s.1 ++ [(nm, (ix S s.2.1).2.1, min s.2.2.2 ((ix S s.2.1).2.2 - s.2.2.1))],
      (if s.2.2.1 + min s.2.2.2 ((ix S s.2.1).2.2 - s.2.2.1) = (ix S s.2.1).2.2 then s.2.1 + 1 else s.2.1),
      (if s.2.2.1 + min s.2.2.2 ((ix S s.2.1).2.2 - s.2.2.1) = (ix S s.2.1).2.2 then 0 else s.2.2.1 + min s.2.2.2 ((ix S s.2.1).2.2 - s.2.2.1)),
      s.2.2.2 - min s.2.2.2 ((ix S s.2.1).2.2 - s.2.2.1))
  else s
def prun (S : List Src) (nm : D) : Nat → GSt → GSt
  | 0, s => s
  | n + 1, s => pstep S nm (prun S nm n s)
theorem prun_fix {S : List Src} {nm : D} {s : GSt} {n : Nat} (h : ¬ 0 < (prun S nm n s).2.2.2) (m : Nat) : prun S nm (n + m) s = prun S nm n s := by
  induction m with
  | zero => rfl
  | succ m ih =>
    show pstep S nm (prun S nm (n + m) s) = _
    rw [ih]; unfold pstep; rw [if_neg h]
structure GI (S : List Src) (C : Int) (j : Nat) (s : GSt) : Prop where
  k : 0 ≤ s.2.1 ∧ s.2.1 ≤ S.length
  u : 0 ≤ s.2.2.1
  ub : s.2.1 < S.length → s.2.2.1 < (ix S s.2.1).2.2
  u0 : s.2.1 = S.length → s.2.2.1 = 0
  w : 0 ≤ s.2.2.2
  eq : psum S s.2.1.toNat + s.2.2.1 + s.2.2.2 = C
  len : (s.1.length : Int) ≤ s.2.1 + j + 1
  len0 : 0 < s.2.2.2 → (s.1.length : Int) ≤ s.2.1 + j
structure Has (S : List Src) (C : Int) (m : Nat) : Prop where
  pos : ∀ s ∈ S, 0 < s.2.2
  le : m ≤ S.length
  c : C ≤ psum S m
theorem GI.at {S : List Src} {C : Int} {m j : Nat} {s : GSt} (h : GI S C j s) (hs : Has S C m) (hw : 0 < s.2.2.2) : s.2.1 < m := by
  by_cases z : s.2.1 < m
  · exact z
  · have := psum_mono hs.pos (n := m) (m := s.2.1.toNat) (by omega)
    have := h.eq; have := h.u; have := hs.c
    omega
theorem GI.step {S : List Src} {C : Int} {m j : Nat} {s : GSt} {nm : D} (h : GI S C j s) (hs : Has S C m) : GI S C j (pstep S nm s) := by
  unfold pstep
  by_cases hw : 0 < s.2.2.2
  · rw [if_pos hw]
    have ha := h.at hs hw
    have hm := hs.le
    have hk := h.k
    have hu := h.u
    have hub := h.ub (by omega)
    have heq := h.eq
    have hl := h.len0 hw
    obtain ⟨due, k, used, w⟩ := s
    dsimp only at *
    have ps := psum_succ (S := S) (n := k.toNat) (by omega)
    rw [show ((k.toNat : Nat) : Int) = k by omega] at ps
    obtain ⟨P, hP⟩ : ∃ P, P = (ix S k).2.2 := ⟨_, rfl⟩
    rw [← hP] at hub ps ⊢
    have hlen : ((due ++ [(nm, (ix S k).2.1, min w (P - used))]).length : Int) = due.length + 1 := by simp
    by_cases c : used + min w (P - used) = P
    · rw [if_pos c, if_pos c]
      refine ⟨by dsimp only; omega, by dsimp only; omega, fun z => ?_, fun _ => rfl, by dsimp only; omega, ?_, ?_, fun _ => ?_⟩
      · dsimp only at z ⊢
        exact hs.pos _ (ix_mem (by omega))
      · dsimp only
        rw [show (k + 1).toNat = k.toNat + 1 by omega, ps]; omega
      · dsimp only; rw [hlen]; omega
      · dsimp only; rw [hlen]; omega
    · rw [if_neg c, if_neg c]
      refine ⟨hk, by dsimp only; omega, fun z => ?_, fun z => ?_, by dsimp only; omega, ?_, ?_, fun z => ?_⟩
      · dsimp only at z ⊢; rw [← hP]; omega
      · dsimp only at z; omega
      · dsimp only; omega
      · dsimp only; rw [hlen]; omega
      · dsimp only at z; omega
  · rw [if_neg hw]; exact h
theorem GI.next {S : List Src} {C : Int} {m j : Nat} {s : GSt} {nm : D} (h : GI S C j s) (hs : Has S C m) (hw : 0 < s.2.2.2) (hw2 : 0 < (pstep S nm s).2.2.2) : (pstep S nm s).2.1 = s.2.1 + 1 := by
  unfold pstep at hw2 ⊢
  rw [if_pos hw] at hw2 ⊢
  dsimp only at hw2 ⊢
  rw [if_pos (by omega)]
theorem GI.run {S : List Src} {C : Int} {m j : Nat} {s : GSt} {nm : D} (h : GI S C j s) (hs : Has S C m) : ∀ n, GI S C j (prun S nm n s)
  | 0 => h
  | n + 1 => (h.run hs n).step hs
theorem GI.far {S : List Src} {C : Int} {m j : Nat} {s : GSt} {nm : D} (h : GI S C j s) (hs : Has S C m) : ∀ n, 0 < (prun S nm n s).2.2.2 → (prun S nm n s).2.1 = s.2.1 + n
  | 0, _ => by show s.2.1 = _; omega
  | n + 1, hw => by
    have hw0 : 0 < (prun S nm n s).2.2.2 := by
      by_cases z : 0 < (prun S nm n s).2.2.2
      · exact z
      · have : prun S nm (n + 1) s = prun S nm n s := prun_fix z 1
        rw [this] at hw; exact absurd hw z
    have := h.far hs n hw0
    have := (h.run hs n).next hs hw0 hw
    show (pstep S nm (prun S nm n s)).2.1 = _
    omega
theorem GI.done {S : List Src} {C : Int} {m j : Nat} {s : GSt} {nm : D} (h : GI S C j s) (hs : Has S C m) : ¬ 0 < (prun S nm (S.length + 1) s).2.2.2 := fun z => by
  have h1 := h.far hs _ z
  have h2 := (h.run hs (nm := nm) (S.length + 1)).at hs z
  have := hs.le; have := h.k
  omega
structure LR (S : List Src) (k used : Int) (left : List (D × Int)) : Prop where
  len : left.length = S.length
  at' : ∀ i : Int, 0 ≤ i ∧ i < S.length → (ix left i).1 = (ix S i).2.1 ∧ (k < i → (ix left i).2 = (ix S i).2.2) ∧ (i = k → (ix left i).2 = (ix S i).2.2 - used)
theorem LR.step {S : List Src} {C : Int} {m j : Nat} {s : GSt} {nm : D} {left : List (D × Int)} (h : LR S s.2.1 s.2.2.1 left) (g : GI S C j s) (hs : Has S C m) (hw : 0 < s.2.2.2) :
    LR S (pstep S nm s).2.1 (pstep S nm s).2.2.1 (sx left s.2.1 ((ix left s.2.1).1, (ix left s.2.1).2 - min s.2.2.2 ((ix left s.2.1).2))) := by
  have ha := g.at hs hw
  have hk := g.k
  have hm := hs.le
  have hkk : 0 ≤ s.2.1 ∧ s.2.1 < S.length := by omega
  have h0 := h.at' s.2.1 hkk
  have hl := h.len
  refine ⟨by rw [sx_len]; exact hl, fun i hi => ?_⟩
  rw [ix_sx (by omega) hi.1]
  have hi0 := h.at' i hi
  unfold pstep
  rw [if_pos hw]
  dsimp only
  have e0 := h0.2.2 rfl
  rw [e0]
  by_cases z : i = s.2.1
  · subst z
    rw [if_pos rfl]
    dsimp only
    refine ⟨h0.1, fun y => ?_, fun y => ?_⟩
    · split at y <;> omega
    · by_cases c : s.2.2.1 + min s.2.2.2 ((ix S s.2.1).2.2 - s.2.2.1) = (ix S s.2.1).2.2
      · rw [if_pos c] at y; omega
      · rw [if_neg c]; omega
  · rw [if_neg z]
    refine ⟨hi0.1, fun y => ?_, fun y => ?_⟩
    · exact hi0.2.1 (by split at y <;> omega)
    · by_cases c : s.2.2.1 + min s.2.2.2 ((ix S s.2.1).2.2 - s.2.2.1) = (ix S s.2.1).2.2
      · rw [if_pos c] at y ⊢
        rw [hi0.2.1 (by omega)]; omega
      · rw [if_neg c] at y; exact absurd y z
end Mw.Pg
set_option Elab.async false
set_option linter.all false
set_option maxRecDepth 100000
set_option autoImplicit false
namespace Mw.Day
open PySem PySem.Spec PyProof.Rows L2 Mw PySem.W Mw.Chk
end Mw.Day
set_option Elab.async false
set_option linter.all false
set_option maxRecDepth 100000
set_option autoImplicit false
namespace Mw.Ev
open PySem PySem.Spec PyProof.Rows L2 Mw PySem.W Mw.Chk Mw.Day
inductive Ev where
  | day | moved (k d : Int) | changed (k q : Int) | expected (i d q : Int) | counted (i q : Int) | scrapped (i q : Int) | ordered (n i q d : Int) | cancelled (n : Int)
section
variable {α : Type} {x : D} {i : Int} {t : T α} {Q : α → Prop}
end
def noOrder (n : Int) : Exc := Exc.mk ("NoSuchOrder" : Str) ["number"] [D.int n]
end Mw.Ev
set_option Elab.async false
set_option linter.all false
set_option maxRecDepth 100000
set_option autoImplicit false
namespace Mw.Day
open PySem PySem.Spec PyProof.Rows L2 Mw PySem.W Mw.Chk
end Mw.Day
set_option Elab.async false
set_option linter.all false
set_option maxRecDepth 100000
set_option autoImplicit false
namespace Mw.Dk
open PySem PySem.Spec PyProof.Rows L2 Mw PySem.W Mw.Chk Mw.Day Mw.Ev
theorem eqv_dec {α : Type} {e : α → D} (h : EqvOk e) (a c : α) [Decidable (a = c)] : D.eqv (e a) (e c) = decide (a = c) := by
  rw [Bool.eq_iff_iff, h, decide_eq_true_iff]
end Mw.Dk
set_option Elab.async false
set_option linter.all false
set_option maxRecDepth 100000
set_option autoImplicit false
namespace Mw.Dk
open PySem PySem.Spec PyProof.Rows L2 Mw PySem.W Mw.Chk Mw.Day Mw.Ev
def Caught (e : Exc) : Prop := (∃ w, e = badB w) ∨ e = noPlan ∨ ∃ n, e = noOrder n
structure Kept (b : List Item) (kept : List Books) : Prop where
  pos : 0 < kept.length
  few : kept.length ≤ 1000
  ok : ∀ k ∈ kept, BooksOk b k
noncomputable def top (kept : List Books) : Books := ix kept ((kept.length : Int) - 1)
theorem Kept.top {b : List Item} {kept : List Books} (h : Kept b kept) : BooksOk b (top kept) := h.ok _ (ix_mem (by have := h.pos; omega))
theorem Kept.snoc {b : List Item} {kept : List Books} (h : Kept b kept) (hl : kept.length < 1000) {k : Books} (hk : BooksOk b k) : Kept b (kept ++ [k]) :=
  ⟨by simp, by rw [List.length_append, List.length_singleton]; omega, fun x hx => by
    rcases List.mem_append.mp hx with z | z
    · exact h.ok x z
    · rw [List.mem_singleton.mp z]; exact hk⟩
section
variable {b : List Item} {kept : List Books} {last : List Int}
end
end Mw.Dk
set_option Elab.async false
set_option linter.all false
set_option maxRecDepth 100000
set_option autoImplicit false
namespace Mw.Dk
open PySem PySem.Spec PyProof.Rows L2 Mw PySem.W Mw.Chk Mw.Day Mw.Ev
theorem ctcR {σ τ l β : Type} {t : T (Ct σ l β)} {k : σ → T (Ct τ l β)} {r : β} (h : Gd t (· = .rt r)) : Gd (t.ctc k) (· = .rt r) :=
  gd_ctc (P := fun c => c = .rt r) h (fun _ h => nomatch h) (fun r h => by cases h; rfl) (fun _ h => nomatch h) fun _ h => nomatch h
theorem ctcN {σ τ l β : Type} {t : T (Ct σ l β)} {k : σ → T (Ct τ l β)} {s : σ} {Q : Ct τ l β → Prop} (h : Gd t (· = .nx s)) (hk : Gd (k s) Q) : Gd (t.ctc k) Q :=
  gd_ctc (P := fun c => c = .nx s) h (fun _ h => by cases h; exact hk) (fun r h => nomatch h) (fun _ h => nomatch h) fun _ h => nomatch h
theorem hd3 {γ : Type} {e : Exc} (he : Caught e) {t0 t1 t2 : T γ} {p d : T γ} {Q : γ → Prop} (h0 : Gd t0 Q) (h1 : Gd t1 Q) (h2 : Gd t2 Q) : Gd (T.hd [(("BadBooks" : Str), some 0), (("NoPlan" : Str), some 1), (("NoSuchOrder" : Str), some 2)] e.c [t0, t1, t2] p d) Q := by
  rcases he with ⟨w, rfl⟩ | rfl | ⟨n, rfl⟩
  · exact gd_hd (j := 0) (by show List.lookup ("BadBooks" : Str) _ = _; decide) rfl h0
  · exact gd_hd (j := 1) (by show List.lookup ("NoPlan" : Str) _ = _; decide) rfl h1
  · exact gd_hd (j := 2) (by show List.lookup ("NoSuchOrder" : Str) _ = _; decide) rfl h2
end Mw.Dk
set_option maxHeartbeats 1000000
set_option Elab.async false
set_option linter.all false
set_option maxRecDepth 100000
set_option autoImplicit false
namespace Mw.Tk
open PySem PySem.Spec PyProof.Rows L2 Mw
abbrev LET : List Nat := [97, 98, 99, 100, 101, 102, 103, 104, 105, 106, 107, 108, 109, 110, 111, 112, 113, 114, 115, 116, 117, 118, 119, 120, 121, 122]
abbrev DIG : List Nat := [48, 49, 50, 51, 52, 53, 54, 55, 56, 57]
abbrev SGN : List Nat := [58, 44, 59]
abbrev kBad : List Nat := [98, 97, 100]
abbrev kName : List Nat := [110, 97, 109, 101]
abbrev kNum : List Nat := [110, 117, 109, 98, 101, 114]
abbrev kSign : List Nat := [115, 105, 103, 110]
def kindL (s : List Nat) : List Nat := if 12 < s.length then kBad else kName
def kindD (s : List Nat) : List Nat := if 4 < s.length ∨ (1 < s.length ∧ s.headD 0 = 48) then kBad else kNum
def isC (cs : List Nat) (c : Nat) : Bool := decide (c ∈ cs)
def runOf (cs : List Nat) (c : Nat) (r : List Nat) : List Nat := c :: r.takeWhile (isC cs)
def tokAt (c : Nat) (r : List Nat) : List Nat × List Nat :=
  if c ∈ LET then (kindL (runOf LET c r), runOf LET c r)
  else if c ∈ DIG then (kindD (runOf DIG c r), runOf DIG c r)
  else if c ∈ SGN then (kSign, [c]) else (kBad, [c])
theorem tw_len (p : Nat → Bool) (r : List Nat) : (r.takeWhile p).length ≤ r.length := (List.takeWhile_prefix _).length_le
theorem tokAt_pos (c : Nat) (r : List Nat) : 0 < (tokAt c r).2.length ∧ (tokAt c r).2.length ≤ r.length + 1 := by
  unfold tokAt runOf
  have h1 := tw_len (isC LET) r
  have h2 := tw_len (isC DIG) r
  split
  · simp; omega
  · split
    · simp; omega
    · split <;> simp
theorem tokAt_pre (c : Nat) (r : List Nat) : ∃ v, c :: r = (tokAt c r).2 ++ v := by
  unfold tokAt runOf
  split
  · exact ⟨r.dropWhile (isC LET), by rw [List.cons_append, List.takeWhile_append_dropWhile]⟩
  · split
    · exact ⟨r.dropWhile (isC DIG), by rw [List.cons_append, List.takeWhile_append_dropWhile]⟩
    · split <;> exact ⟨r, rfl⟩
def tokF : List Nat → List (List Nat × List Nat)
  | [] => []
  | c :: r => if c = 32 then tokF r else tokAt c r :: tokF ((c :: r).drop (tokAt c r).2.length)
termination_by l => l.length
decreasing_by
  · simp
  · have := tokAt_pos c r
    rw [List.length_drop, List.length_cons]; omega
theorem tokF_nil : tokF [] = [] := by rw [tokF]
theorem tokF_sp (r : List Nat) : tokF (32 :: r) = tokF r := by rw [tokF, if_pos rfl]
theorem tokF_tok {c : Nat} {r : List Nat} (h : c ≠ 32) : tokF (c :: r) = tokAt c r :: tokF ((c :: r).drop (tokAt c r).2.length) := by rw [tokF, if_neg h]
theorem ix_at {pre r : List Nat} {c : Nat} : ix (pre ++ c :: r) (pre.length : Int) = c := ix_get (by rw [List.getElem?_append_right (Nat.le_refl _)]; simp)
theorem tw_all {p : Nat → Bool} {u v : List Nat} (hu : ∀ c ∈ u, p c = true) (hv : v = [] ∨ ∃ c w, v = c :: w ∧ p c = false) : (u ++ v).takeWhile p = u := by
  induction u with
  | nil =>
    rcases hv with rfl | ⟨c, w, rfl, hc⟩
    · rfl
    · rw [List.nil_append, List.takeWhile_cons, hc]; rfl
  | cons c u ih =>
    rw [List.cons_append, List.takeWhile_cons, hu c (by simp), if_pos rfl, ih fun d hd => hu d (by simp [hd])]
theorem gd_run_end {pre r cs : List Nat} (hl : (pre ++ r).length ≤ 1000000) : Gd (t__run_end (pre ++ r) (pre.length : Int) cs) (· = ((pre.length + (r.takeWhile (isC cs)).length : Nat) : Int)) := by
  have hlen : (pre ++ r).length = pre.length + r.length := List.length_append
  refine gd_eq (gd_ret rfl) (gd_bind (P := fun s : Int => s = ((pre.length + (r.takeWhile (isC cs)).length : Nat) : Int)) (gd_whL (I := fun s : Int => ∃ u v, r = u ++ v ∧ (∀ c ∈ u, isC cs c = true) ∧ s = ((pre.length + u.length : Nat) : Int)) (fun s => (((pre ++ r).length : Int) - s).toNat) ⟨[], r, rfl, (fun c h => by cases h), by simp⟩ (by omega) (fun s hs => ?_) (fun s hs ht => ?_) fun s hs ht => ?_) fun s hs => gd_ret hs)
  · obtain ⟨u, v, hr, hu, rfl⟩ := hs
    exact ⟨fun h => ⟨by omega, of_decide_eq_true h⟩, ⟨fun _ => rfl, trivial⟩⟩
  · obtain ⟨u, v, hr, hu, rfl⟩ := hs
    obtain ⟨t1, t2⟩ := Bool.and_eq_true_iff.mp ht
    have t1 := of_decide_eq_true t1
    have t2 := of_decide_eq_true t2
    cases v with
    | nil => rw [hr, List.append_nil] at t1; rw [List.length_append] at t1; omega
    | cons c v =>
      have e : ix (pre ++ r) ((pre.length + u.length : Nat) : Int) = c := by
        have := ix_at (pre := pre ++ u) (r := v) (c := c)
        rw [List.append_assoc, List.length_append] at this
        rw [hr]; exact this
      refine gd_eq (gd_ret rfl) (gd_ret ⟨⟨u ++ [c], v, by rw [hr, List.append_assoc]; rfl, fun d hd => ?_, ?_⟩, ?_⟩)
      · rcases List.mem_append.mp hd with hd | hd
        · exact hu d hd
        · rw [List.mem_singleton.mp hd]
          have t2 : ix (pre ++ r) ((pre.length + u.length : Nat) : Int) ∈ cs := t2
          rw [e] at t2
          exact decide_eq_true t2
      · rw [List.length_append, List.length_singleton]; omega
      · rw [hr] at t1 ⊢; simp at t1 ⊢; omega
  · obtain ⟨u, v, hr, hu, rfl⟩ := hs
    have : r.takeWhile (isC cs) = u := by
      rw [hr]
      refine tw_all hu ?_
      cases v with
      | nil => exact .inl rfl
      | cons c v =>
        refine .inr ⟨c, v, rfl, ?_⟩
        have e : ix (pre ++ r) ((pre.length + u.length : Nat) : Int) = c := by
          have := ix_at (pre := pre ++ u) (r := v) (c := c)
          rw [List.append_assoc, List.length_append] at this
          rw [hr]; exact this
        by_cases hc : c ∈ cs
        · exfalso
          have t1 : (((pre.length + u.length : Nat) : Int) < ((pre ++ r).length : Int)) := by rw [hr]; simp; omega
          have ht : (decide (((pre.length + u.length : Nat) : Int) < ((pre ++ r).length : Int)) && decide ([ix (pre ++ r) ((pre.length + u.length : Nat) : Int)].headD 0 ∈ cs)) = false := ht
          rw [decide_eq_true t1, Bool.true_and, e] at ht
          exact of_decide_eq_false ht hc
        · exact decide_eq_false hc
    rw [this]
theorem cut_run {pre r : List Nat} {c : Nat} (cs : List Nat) (hc : c ∈ cs) : cutA (pre ++ c :: r) (some (pre.length : Int)) (some ((pre.length + ((c :: r).takeWhile (isC cs)).length : Nat) : Int)) = runOf cs c r := by
  have e : (c :: r).takeWhile (isC cs) = runOf cs c r := by rw [List.takeWhile_cons, show isC cs c = true from decide_eq_true hc, if_pos rfl]; rfl
  rw [e]
  have hp : (c :: r) = runOf cs c r ++ r.dropWhile (isC cs) := by unfold runOf; rw [List.cons_append, List.takeWhile_append_dropWhile]
  rw [hp]
  generalize runOf cs c r = u
  generalize r.dropWhile (isC cs) = v
  unfold cutA HT.sIx
  simp
  rw [if_neg (show ¬ ((pre.length : Int) + (u.length : Int) < 0) by omega), if_neg (show ¬ ((pre.length : Int) < 0) by omega), show min ((pre.length : Int) + (u.length : Int)).toNat (pre.length + (u.length + v.length)) - pre.length = u.length by omega, List.drop_left, List.take_left]
theorem gd_token {pre r : List Nat} {c : Nat} (hl : (pre ++ c :: r).length ≤ 1000000) : Gd (t__token (pre ++ c :: r) (pre.length : Int)) (· = tokAt c r) := by
  have hb : (0 : Int) ≤ (pre.length : Int) ∧ (pre.length : Int) < ((pre ++ c :: r).length : Nat) := by simp; omega
  refine gd_eq (a := [c]) (gd_req hb (gd_ret (by rw [ix_at]))) (gd_req rfl ?_)
  unfold tokAt
  by_cases h1 : c ∈ LET
  · rw [if_pos (show decide ([c].headD 0 ∈ LET) = true from decide_eq_true h1), if_pos h1]
    refine gd_eq (a := runOf LET c r) (gd_eq (gd_run_end hl) (gd_ret (cut_run LET h1))) ?_
    unfold kindL
    by_cases h : 12 < (runOf LET c r).length
    · rw [if_pos (decide_eq_true (by omega)), if_pos h]; exact gd_ret rfl
    · rw [if_neg (fun z => h (by have := of_decide_eq_true z; omega)), if_neg h]; exact gd_ret rfl
  · rw [if_neg (show ¬ decide ([c].headD 0 ∈ LET) = true from fun z => h1 (of_decide_eq_true z)), if_neg h1]
    refine gd_req rfl ?_
    by_cases h2 : c ∈ DIG
    · rw [if_pos (show decide ([c].headD 0 ∈ DIG) = true from decide_eq_true h2), if_pos h2]
      refine gd_eq (a := runOf DIG c r) (gd_eq (gd_run_end hl) (gd_ret (cut_run DIG h2))) ?_
      have hpos : 0 < (runOf DIG c r).length := by unfold runOf; simp
      refine gd_req (fun _ _ => by omega) ?_
      unfold kindD
      have e0 : ix (runOf DIG c r) 0 = c := ix_get (i := 0) rfl
      have e1 : (runOf DIG c r).headD 0 = c := rfl
      by_cases h : 4 < (runOf DIG c r).length ∨ (1 < (runOf DIG c r).length ∧ (runOf DIG c r).headD 0 = 48)
      · rw [if_pos h, if_pos]
        · exact gd_ret rfl
        · rw [Bool.or_eq_true, Bool.and_eq_true]
          refine h.imp (fun z => decide_eq_true (by omega)) fun z => ⟨decide_eq_true (by omega), decide_eq_true ?_⟩
          rw [e0, ← e1, z.2]
      · rw [if_neg h, if_neg]
        · exact gd_ret rfl
        · intro z
          rw [Bool.or_eq_true, Bool.and_eq_true] at z
          refine h (z.imp (fun z => by have := of_decide_eq_true z; omega) fun z => ⟨by have := of_decide_eq_true z.1; omega, ?_⟩)
          have := of_decide_eq_true z.2
          rw [e0] at this
          rw [e1]; exact (List.cons.inj this).1
    · rw [if_neg (show ¬ decide ([c].headD 0 ∈ DIG) = true from fun z => h2 (of_decide_eq_true z)), if_neg h2]
      refine gd_req rfl ?_
      by_cases h3 : c ∈ SGN
      · rw [if_pos (show decide ([c].headD 0 ∈ SGN) = true from decide_eq_true h3), if_pos h3]; exact gd_ret rfl
      · rw [if_neg (show ¬ decide ([c].headD 0 ∈ SGN) = true from fun z => h3 (of_decide_eq_true z)), if_neg h3]; exact gd_ret rfl
theorem gd_tokens {line : List Nat} (hl : line.length ≤ 900000) : Gd (t_tokens line) (· = tokF line) := by
  refine gd_eq (gd_ret rfl) (gd_eq (gd_ret rfl) (gd_bind (P := fun s : List (List Nat × List Nat) × Int => s.1 = tokF line) (gd_whL (I := fun s => ∃ pre r, line = pre ++ r ∧ s.2 = (pre.length : Int) ∧ s.1 ++ tokF r = tokF line ∧ s.1.length ≤ pre.length) (fun s => ((line.length : Int) - s.2).toNat) ⟨[], line, rfl, rfl, rfl, Nat.le_refl _⟩ (by omega) (fun s hs => trivial) (fun s hs ht => ?_) fun s hs ht => ?_) fun s hs => gd_ret hs))
  · obtain ⟨pre, r, rfl, h2, h3, h4⟩ := hs
    have ht := of_decide_eq_true ht
    rw [h2] at ht ⊢
    cases r with
    | nil => rw [List.append_nil] at ht; omega
    | cons c r =>
      have hlen : (pre ++ c :: r).length = pre.length + (r.length + 1) := by simp
      refine gd_bind (P := fun s' : List (List Nat × List Nat) × Int => ∃ u v, c :: r = u ++ v ∧ 0 < u.length ∧ s'.2 = ((pre.length + u.length : Nat) : Int) ∧ s'.1 ++ tokF v = tokF (pre ++ c :: r) ∧ s'.1.length ≤ pre.length + u.length) (gd_req ⟨by omega, ht⟩ ?_) fun s' hs' => gd_ret ?_
      · rw [ix_at]
        by_cases hc : c = 32
        · subst hc
          rw [if_pos (decide_eq_true rfl)]
          exact gd_eq (gd_ret rfl) (gd_ret ⟨[32], r, rfl, by simp, by simp, by rw [← tokF_sp]; exact h3, by simp; omega⟩)
        · rw [if_neg (fun z => hc (List.cons.inj (of_decide_eq_true z)).1)]
          refine gd_eq (gd_eq (gd_token (by omega)) (gd_ret rfl)) ?_
          obtain ⟨v, hv⟩ := tokAt_pre c r
          have hp := tokAt_pos c r
          refine gd_eq (gd_req (by omega) (gd_ret rfl)) (gd_eq (gd_ret rfl) (gd_ret ⟨(tokAt c r).2, v, hv, hp.1, by dsimp only; omega, ?_, by simp; omega⟩))
          rw [tokF_tok hc, show (c :: r).drop (tokAt c r).2.length = v by rw [hv, List.drop_left]] at h3
          dsimp only
          rw [List.append_assoc]; exact h3
      · obtain ⟨u, v, hv, hu, e2, e3, e4⟩ := hs'
        refine ⟨⟨pre ++ u, v, by rw [hv, List.append_assoc], by rw [e2, List.length_append], e3, by rw [List.length_append]; exact e4⟩, ?_⟩
        rw [e2, hlen]; omega
  · obtain ⟨pre, r, rfl, h2, h3, h4⟩ := hs
    have ht := of_decide_eq_false ht
    rw [h2] at ht
    have : r = [] := by
      cases r with
      | nil => rfl
      | cons c r => exfalso; apply ht; simp; omega
    subst this
    rw [tokF_nil, List.append_nil] at h3
    exact h3
end Mw.Tk
set_option maxHeartbeats 1000000
set_option Elab.async false
set_option linter.all false
set_option maxRecDepth 100000
set_option autoImplicit false
namespace Mw.Tk
open PySem PySem.Spec PyProof.Rows L2 Mw
def NumTx (s : List Nat) : Prop := NumText.AllDigits s ∧ s ≠ [] ∧ s.length ≤ 640
def numV (s : List Nat) : Int := ((NumText.digitsVal s : Nat) : Int)
theorem num_ok {s : List Nat} (h : NumTx s) : PySem.intText? (tx s) = some (numV s) := PySem.intText_digits (x := tx s) h.1 h.2.1 (by rw [tx_len]; have := h.2.2; omega)
theorem num_is {s : List Nat} (h : NumTx s) : (PySem.intText? (tx s)).isSome = true ∧ s.length ≤ 640 := ⟨by rw [num_ok h]; rfl, h.2.2⟩
theorem txI_num {s : List Nat} (h : NumTx s) : txI s = numV s := by unfold txI; rw [num_ok h]; rfl
def TkOk (t : List Nat × List Nat) : Prop := t.1 = kNum → NumTx t.2
theorem dig_mem {c : Nat} (h : c ∈ DIG) : 48 ≤ c ∧ c ≤ 57 := by
  simp at h; omega
theorem tokAt_ok (c : Nat) (r : List Nat) : TkOk (tokAt c r) := by
  unfold tokAt TkOk
  split
  · intro h; exfalso
    have h : kindL (runOf LET c r) = kNum := h
    unfold kindL at h
    split at h <;> exact absurd h (by decide)
  · split
    · next hd =>
      intro h
      have h : kindD (runOf DIG c r) = kNum := h
      unfold kindD at h
      split at h
      · exact absurd h (by decide)
      · next hn =>
        refine ⟨fun d hd' => ?_, by unfold runOf; simp, ?_⟩
        · rcases List.mem_cons.mp hd' with rfl | hd'
          · exact dig_mem hd
          · have h1 : isC DIG d = true := by
              have := List.all_takeWhile (p := isC DIG) (l := r)
              exact List.all_eq_true.mp this d hd'
            exact dig_mem (of_decide_eq_true h1)
        · show (runOf DIG c r).length ≤ 640
          rcases Nat.lt_or_ge 4 (runOf DIG c r).length with z | z
          · exact absurd (.inl z) hn
          · omega
    · split
      · intro h; exact absurd (show kSign = kNum from h) (by decide)
      · intro h; exact absurd (show kBad = kNum from h) (by decide)
theorem tokF_ok : ∀ (n : Nat) (l : List Nat), l.length ≤ n → (∀ t ∈ tokF l, TkOk t) ∧ (tokF l).length ≤ l.length := by
  intro n
  induction n with
  | zero => intro l h; cases l with
    | nil => rw [tokF_nil]; exact ⟨(fun t ht => by cases ht), Nat.le_refl _⟩
    | cons c r => simp at h
  | succ n ih =>
    intro l h
    cases l with
    | nil => rw [tokF_nil]; exact ⟨(fun t ht => by cases ht), Nat.le_refl _⟩
    | cons c r =>
      rw [List.length_cons] at h
      by_cases hc : c = 32
      · subst hc
        rw [tokF_sp]
        obtain ⟨h1, h2⟩ := ih r (by omega)
        exact ⟨h1, by rw [List.length_cons]; omega⟩
      · rw [tokF_tok hc]
        have hp := tokAt_pos c r
        obtain ⟨h1, h2⟩ := ih ((c :: r).drop (tokAt c r).2.length) (by rw [List.length_drop, List.length_cons]; omega)
        refine ⟨fun t ht => ?_, ?_⟩
        · rcases List.mem_cons.mp ht with rfl | ht
          · exact tokAt_ok c r
          · exact h1 t ht
        · rw [List.length_drop, List.length_cons] at h2
          rw [List.length_cons, List.length_cons]; omega
abbrev Ln := List Nat × List Nat × List (List Nat × Int) × Int × List Int
abbrev sName : List Nat := [110, 97, 109, 101]
abbrev sColon : List Nat := [99, 111, 108, 111, 110]
abbrev sFirst : List Nat := [102, 105, 114, 115, 116]
abbrev sPart : List Nat := [112, 97, 114, 116]
abbrev sPName : List Nat := [112, 97, 114, 116, 32, 110, 97, 109, 101]
abbrev sBehind : List Nat := [98, 101, 104, 105, 110, 100]
abbrev sLead : List Nat := [108, 101, 97, 100]
abbrev sDays : List Nat := [100, 97, 121, 115]
abbrev sSemi : List Nat := [115, 101, 109, 105, 99, 111, 108, 111, 110]
abbrev sLot : List Nat := [108, 111, 116]
abbrev sYields : List Nat := [121, 105, 101, 108, 100, 115]
abbrev sGood : List Nat := [103, 111, 111, 100]
abbrev sWhole : List Nat := [119, 104, 111, 108, 101]
def headF (s : Ln) (k t : List Nat) : Option (List Nat) × Ln :=
  if s.1 = sName ∧ k = kName then (some sColon, (s.1, t, s.2.2))
  else if s.1 = sColon ∧ k = kSign ∧ t = [58] then (some sFirst, s) else (none, s)
def partF (s : Ln) (k t : List Nat) : Option (List Nat) × Ln :=
  if s.1 = sFirst ∧ k = kSign ∧ t = [59] then (some sLead, s)
  else if s.1 = sBehind ∧ k = kSign ∧ t = [59] then (some sLead, s)
  else if s.1 = sBehind ∧ k = kSign ∧ t = [44] ∧ s.2.2.1.length < 4 then (some sPart, s)
  else if s.1 ∈ [sFirst, sPart] ∧ k = kNum ∧ 1 ≤ numV t ∧ numV t ≤ 20 then (some sPName, (s.1, s.2.1, s.2.2.1, numV t, s.2.2.2.2))
  else if s.1 ∈ [sFirst, sPart, sPName] ∧ k = kName then (some sBehind, (s.1, s.2.1, s.2.2.1 ++ [(t, s.2.2.2.1)], 1, s.2.2.2.2))
  else (none, s)
def numF (s : Ln) (t : List Nat) (lo hi : Int) (st : List Nat) : Option (List Nat) × Ln :=
  if numV t < lo ∨ hi < numV t then (none, s) else (some st, (s.1, s.2.1, s.2.2.1, s.2.2.2.1, s.2.2.2.2 ++ [numV t]))
def tailF (s : Ln) (k t : List Nat) : Option (List Nat) × Ln :=
  if s.1 = sLead ∧ k = kNum then numF s t 0 10 sDays
  else if s.1 = sDays ∧ k = kName ∧ t = [100, 97, 121, 115] then (some sSemi, s)
  else if s.1 = sSemi ∧ k = kSign ∧ t = [59] then (some sLot, s)
  else if s.1 = sLot ∧ k = kNum then numF s t 1 50 sYields
  else if s.1 = sYields ∧ k = kName ∧ t = [121, 105, 101, 108, 100, 115] then (some sGood, s)
  else if s.1 = sGood ∧ k = kNum then numF s t 1 (ix s.2.2.2.2 1) sWhole
  else (none, s)
def stepF (s : Ln) (t : List Nat × List Nat) : Option (List Nat) × Ln :=
  if s.1 ∈ [sName, sColon] then headF s t.1 t.2 else if s.1 ∈ [sFirst, sPart, sPName, sBehind] then partF s t.1 t.2 else tailF s t.1 t.2
def takeL (s : Ln) (t : List Nat × List Nat) : Bool × Ln := match (stepF s t).1 with
  | none => (false, (stepF s t).2)
  | some st => (true, (st, (stepF s t).2.2))
def WfL (n : Nat) (s : Ln) : Prop := s.2.2.1.length ≤ n ∧ s.2.2.2.2.length ≤ n ∧ (s.1 ∈ [sDays, sSemi, sLot] → 1 ≤ s.2.2.2.2.length) ∧ (s.1 ∈ [sYields, sGood] → 2 ≤ s.2.2.2.2.length) ∧ (s.1 = sWhole → 3 ≤ s.2.2.2.2.length)
theorem gd_head (s : Ln) (k t : List Nat) : Gd (t_Line__head s k t) (· = headF s k t) := by
  unfold t_Line__head headF
  simp only [Bool.and_eq_true, decide_eq_true_eq]
  split
  · exact gd_eq (gd_ret rfl) (gd_ret rfl)
  · split <;> exact gd_ret rfl
theorem gd_number {s : Ln} {t : List Nat} {lo hi : Int} {st : List Nat} (ht : NumTx t) (hl : s.2.2.2.2.length < 1000000) : Gd (t_Line__number s t lo hi st) (· = numF s t lo hi st) := by
  refine gd_req (num_is ht) (gd_req (fun _ => num_is ht) ?_)
  unfold numF
  rw [txI_num ht]
  simp only [Bool.or_eq_true, decide_eq_true_eq]
  split
  · exact gd_ret rfl
  · exact gd_eq (gd_req (num_is ht) (gd_req hl (gd_ret rfl))) (gd_ret rfl)
theorem gd_part {s : Ln} {k t : List Nat} (ht : k = kNum → NumTx t) (hl : s.2.2.1.length < 1000000) : Gd (t_Line__part s k t) (· = partF s k t) := by
  unfold t_Line__part partF
  simp only [Bool.and_eq_true, decide_eq_true_eq]
  split
  · exact gd_ret rfl
  · split
    · exact gd_ret rfl
    · by_cases h3 : s.1 = sBehind ∧ k = kSign ∧ t = [44] ∧ s.2.2.1.length < 4
      · rw [if_pos ⟨h3.1, h3.2.1, h3.2.2.1, by have := h3.2.2.2; omega⟩, if_pos h3]; exact gd_ret rfl
      · rw [if_neg (fun z => h3 ⟨z.1, z.2.1, z.2.2.1, by have := z.2.2.2; omega⟩), if_neg h3]
        refine gd_req (fun _ hk => num_is (ht hk)) (gd_req (fun _ hk _ => num_is (ht hk)) ?_)
        by_cases h4 : s.1 ∈ [sFirst, sPart] ∧ k = kNum ∧ 1 ≤ numV t ∧ numV t ≤ 20
        · have e := txI_num (ht h4.2.1)
          rw [if_pos (⟨h4.1, h4.2.1, by rw [e]; exact h4.2.2.1, by rw [e]; exact h4.2.2.2⟩), if_pos h4]
          exact gd_eq (gd_req (num_is (ht h4.2.1)) (gd_ret (by rw [e]))) (gd_ret rfl)
        · rw [if_neg (fun z => h4 ⟨z.1, z.2.1, by rw [← txI_num (ht z.2.1)]; exact z.2.2.1, by rw [← txI_num (ht z.2.1)]; exact z.2.2.2⟩), if_neg h4]
          by_cases h5 : s.1 ∈ [sFirst, sPart, sPName] ∧ k = kName
          · rw [if_pos h5, if_pos h5]
            exact gd_eq (gd_req hl (gd_ret rfl)) (gd_eq (gd_ret rfl) (gd_ret rfl))
          · rw [if_neg h5, if_neg h5]; exact gd_ret rfl
theorem gd_tail {s : Ln} {k t : List Nat} {n : Nat} (ht : k = kNum → NumTx t) (hw : WfL n s) (hl : n < 1000000) : Gd (t_Line__tail s k t) (· = tailF s k t) := by
  have hn : s.2.2.2.2.length < 1000000 := by have := hw.2.1; omega
  unfold t_Line__tail tailF
  simp only [Bool.and_eq_true, decide_eq_true_eq]
  split
  · next h => exact gd_eq (gd_number (ht h.2) hn) (gd_ret rfl)
  · split
    · exact gd_ret rfl
    · split
      · exact gd_ret rfl
      · split
        · next h => exact gd_eq (gd_number (ht h.2) hn) (gd_ret rfl)
        · split
          · exact gd_ret rfl
          · split
            · next h =>
              have h2 := hw.2.2.2.1 (by rw [h.1]; simp)
              exact gd_req ⟨by decide, by omega⟩ (gd_eq (gd_number (ht h.2) hn) (gd_ret rfl))
            · exact gd_ret rfl
theorem gd_take {s : Ln} {t : List Nat × List Nat} {n : Nat} (ht : TkOk t) (hw : WfL n s) (hl : n < 1000000) : Gd (t_Line_take s t) (· = takeL s t) := by
  unfold t_Line_take takeL
  refine gd_eq (gd_ret rfl) (gd_eq (a := ((stepF s t).2, (stepF s t).1)) ?_ ?_)
  · unfold stepF
    by_cases h1 : s.1 ∈ [sName, sColon]
    · rw [if_pos (decide_eq_true h1), if_pos h1]
      exact gd_eq (gd_eq (gd_head s t.1 t.2) (gd_ret rfl)) (gd_ret rfl)
    · rw [if_neg (fun z => h1 (of_decide_eq_true z)), if_neg h1]
      by_cases h2 : s.1 ∈ [sFirst, sPart, sPName, sBehind]
      · rw [if_pos (decide_eq_true h2), if_pos h2]
        exact gd_eq (gd_eq (gd_eq (gd_part ht (by have := hw.1; omega)) (gd_ret rfl)) (gd_ret rfl)) (gd_ret rfl)
      · rw [if_neg (fun z => h2 (of_decide_eq_true z)), if_neg h2]
        exact gd_eq (gd_eq (gd_eq (gd_tail ht hw hl) (gd_ret rfl)) (gd_ret rfl)) (gd_ret rfl)
  · cases e : (stepF s t).1 with
    | none => rw [if_pos (by show (D.isNon (e_Os none)) = true; rfl)]; exact gd_ret rfl
    | some st => rw [if_neg (by show ¬ (D.isNon (e_Os (some st))) = true; exact Bool.false_ne_true)]; exact gd_eq (gd_req rfl (gd_ret rfl)) (gd_ret rfl)
end Mw.Tk
set_option maxHeartbeats 4000000
set_option Elab.async false
set_option linter.all false
set_option maxRecDepth 100000
set_option autoImplicit false
namespace Mw.Tk
open PySem PySem.Spec PyProof.Rows L2 Mw Mw.Dk
theorem WfL.mono {n m : Nat} {s : Ln} (h : WfL n s) (l : n ≤ m) : WfL m s := ⟨by have := h.1; omega, by have := h.2.1; omega, h.2.2⟩
theorem num_cases (s : Ln) (t : List Nat) (lo hi : Int) (st : List Nat) : numF s t lo hi st = (none, s) ∨ numF s t lo hi st = (some st, (s.1, s.2.1, s.2.2.1, s.2.2.2.1, s.2.2.2.2 ++ [numV t])) := by
  unfold numF
  split
  · exact .inl rfl
  · exact .inr rfl
inductive Stp (s : Ln) : Option (List Nat) × Ln → Prop
  | no : Stp s (none, s)
  | colon (t : List Nat) (h : s.1 = sName) : Stp s (some sColon, (s.1, t, s.2.2))
  | plain (st : List Nat) (h : st = sFirst ∨ st = sLead ∨ st = sPart ∨ (st = sSemi ∧ s.1 = sDays) ∨ (st = sLot ∧ s.1 = sSemi) ∨ (st = sGood ∧ s.1 = sYields)) : Stp s (some st, s)
  | qty (q : Int) : Stp s (some sPName, (s.1, s.2.1, s.2.2.1, q, s.2.2.2.2))
  | part (t : List Nat) : Stp s (some sBehind, (s.1, s.2.1, s.2.2.1 ++ [(t, s.2.2.2.1)], 1, s.2.2.2.2))
  | num (v : Int) (st : List Nat) (h : st = sDays ∨ (st = sYields ∧ s.1 = sLot) ∨ (st = sWhole ∧ s.1 = sGood)) : Stp s (some st, (s.1, s.2.1, s.2.2.1, s.2.2.2.1, s.2.2.2.2 ++ [v]))
theorem step_stp (s : Ln) (t : List Nat × List Nat) : Stp s (stepF s t) := by
  unfold stepF
  split
  · unfold headF
    split
    · next h => exact .colon _ h.1
    · split
      · exact .plain _ (.inl rfl)
      · exact .no
  · split
    · unfold partF
      split
      · exact .plain _ (.inr (.inl rfl))
      · split
        · exact .plain _ (.inr (.inl rfl))
        · split
          · exact .plain _ (.inr (.inr (.inl rfl)))
          · split
            · exact .qty _
            · split
              · exact .part _
              · exact .no
    · unfold tailF
      split
      · rcases num_cases s t.2 0 10 sDays with e | e
        · rw [e]; exact .no
        · rw [e]; exact .num _ _ (.inl rfl)
      · split
        · next h => exact .plain _ (.inr (.inr (.inr (.inl ⟨rfl, h.1⟩))))
        · split
          · next h => exact .plain _ (.inr (.inr (.inr (.inr (.inl ⟨rfl, h.1⟩)))))
          · split
            · next h =>
              rcases num_cases s t.2 1 50 sYields with e | e
              · rw [e]; exact .no
              · rw [e]; exact .num _ _ (.inr (.inl ⟨rfl, h.1⟩))
            · split
              · next h => exact .plain _ (.inr (.inr (.inr (.inr (.inr ⟨rfl, h.1⟩)))))
              · split
                · next h =>
                  rcases num_cases s t.2 1 (ix s.2.2.2.2 1) sWhole with e | e
                  · rw [e]; exact .no
                  · rw [e]; exact .num _ _ (.inr (.inr ⟨rfl, h.1⟩))
                · exact .no
theorem wf_mk {n : Nat} {s : Ln} (h1 : s.2.2.1.length ≤ n) (h2 : s.2.2.2.2.length ≤ n) (e : s.1 ∉ [sDays, sSemi, sLot] ∧ s.1 ∉ [sYields, sGood] ∧ s.1 ≠ sWhole) : WfL n s := ⟨h1, h2, fun z => absurd z e.1, fun z => absurd z e.2.1, fun z => absurd z e.2.2⟩
theorem wf_take {n : Nat} {s : Ln} (t : List Nat × List Nat) (hw : WfL n s) : WfL (n + 1) (takeL s t).2 := by
  unfold takeL
  have hs := step_stp s t
  obtain ⟨w1, w2, w3, w4, w5⟩ := hw
  generalize stepF s t = r at hs
  cases hs with
  | no => exact ⟨by dsimp only; omega, by dsimp only; omega, w3, w4, w5⟩
  | colon x h => exact wf_mk (s := (sColon, _)) (by dsimp only; omega) (by dsimp only; omega) (show sColon ∉ [sDays, sSemi, sLot] ∧ sColon ∉ [sYields, sGood] ∧ sColon ≠ sWhole by decide)
  | plain st h =>
    refine ⟨by dsimp only; omega, by dsimp only; omega, ?_, ?_, ?_⟩
    all_goals (dsimp only; intro z)
    · rcases h with rfl | rfl | rfl | ⟨rfl, h⟩ | ⟨rfl, h⟩ | ⟨rfl, h⟩
      · exact absurd z (by decide)
      · exact absurd z (by decide)
      · exact absurd z (by decide)
      · exact w3 (by rw [h]; decide)
      · exact w3 (by rw [h]; decide)
      · exact absurd z (by decide)
    · rcases h with rfl | rfl | rfl | ⟨rfl, h⟩ | ⟨rfl, h⟩ | ⟨rfl, h⟩
      · exact absurd z (by decide)
      · exact absurd z (by decide)
      · exact absurd z (by decide)
      · exact absurd z (by decide)
      · exact absurd z (by decide)
      · exact w4 (by rw [h]; decide)
    · rcases h with rfl | rfl | rfl | ⟨rfl, h⟩ | ⟨rfl, h⟩ | ⟨rfl, h⟩ <;> exact absurd z (by decide)
  | qty q => exact wf_mk (s := (sPName, _)) (by dsimp only; omega) (by dsimp only; omega) (show sPName ∉ [sDays, sSemi, sLot] ∧ sPName ∉ [sYields, sGood] ∧ sPName ≠ sWhole by decide)
  | part x => exact wf_mk (s := (sBehind, _)) (by dsimp only; rw [List.length_append, List.length_singleton]; omega) (by dsimp only; omega) (show sBehind ∉ [sDays, sSemi, sLot] ∧ sBehind ∉ [sYields, sGood] ∧ sBehind ≠ sWhole by decide)
  | num v st h =>
    refine ⟨by dsimp only; omega, by dsimp only; rw [List.length_append, List.length_singleton]; omega, ?_, ?_, ?_⟩
    all_goals (dsimp only; intro z; rw [List.length_append, List.length_singleton])
    · omega
    · rcases h with rfl | ⟨rfl, h⟩ | ⟨rfl, h⟩
      · exact absurd z (by decide)
      · have := w3 (by rw [h]; decide); omega
      · exact absurd z (by decide)
    · rcases h with rfl | ⟨rfl, h⟩ | ⟨rfl, h⟩
      · exact absurd z (by decide)
      · exact absurd z (by decide)
      · have := w4 (by rw [h]; decide); omega
def runL : Ln → List (List Nat × List Nat) → Nat → Nat ⊕ Ln
  | s, [], _ => .inr s
  | s, t :: ts, k => if (takeL s t).1 = true then runL (takeL s t).2 ts (k + 1) else .inl k
abbrev L0 : Ln := (sName, [], [], 1, [])
theorem wf0 : WfL 0 L0 := ⟨Nat.le_refl _, Nat.le_refl _, fun z => absurd z (by decide), fun z => absurd z (by decide), fun z => absurd z (by decide)⟩
def fault (w : List Nat) (p l : Int) : Exc := Exc.mk ("BillFault" : Str) ["word", "place", "line"] [D.str w, D.int p, D.int l]
abbrev wUnexp : List Nat := [117, 110, 101, 120, 112, 101, 99, 116, 101, 100]
abbrev wEnd : List Nat := [101, 110, 100]
abbrev wDouble : List Nat := [100, 111, 117, 98, 108, 101]
abbrev wMany : List Nat := [109, 97, 110, 121]
def readL (n : Int) (ts : List (List Nat × List Nat)) : Exc ⊕ Ln := match runL L0 ts 0 with
  | .inl k => .inl (fault wUnexp k n)
  | .inr s => if s.1 = sWhole then .inr s else .inl (fault wEnd ts.length n)
theorem gd_init : Gd (t_Line___init__ ()) (·.2 = L0) := by
  unfold t_Line___init__
  exact gd_eq (gd_ret rfl) (gd_eq (gd_ret rfl) (gd_eq (gd_ret rfl) (gd_eq (gd_ret rfl) (gd_eq (gd_ret rfl) (gd_ret rfl)))))
theorem gd_read_line {n : Int} {ts : List (List Nat × List Nat)} (ht : ∀ t ∈ ts, TkOk t) (hl : ts.length ≤ 900000) (hn : 0 ≤ n ∧ n ≤ 1000000) : Gd (t__read_line n ts) (· = readL n ts) := by
  refine gd_eq (a := L0) (gd_bind gd_init fun p hp => gd_ret hp) (gd_ctl (I := fun s => runL L0 ts 0 = .inr s) (gd_forC (fun i s => runL L0 ts 0 = runL s (ts.drop i) i ∧ WfL i s) ⟨rfl, wf0⟩ (fun i x s hx hs => ?_) fun s hs => ?_) fun s hs => ?_)
  · obtain ⟨t, ht', rfl⟩ := enumL_get hx
    obtain ⟨h1, h2⟩ := hs
    have hi := (List.getElem?_eq_some_iff.mp ht').1
    have hd : ts.drop i = t :: ts.drop (i + 1) := by
      rw [List.drop_eq_getElem_cons hi]
      rw [List.getElem?_eq_getElem hi] at ht'; cases ht'; rfl
    rw [hd] at h1
    have h1 : runL L0 ts 0 = if (takeL s t).1 = true then runL (takeL s t).2 (ts.drop (i + 1)) (i + 1) else .inl i := h1
    dsimp only
    rw [Nat.zero_add]
    by_cases c : (takeL s t).1 = true
    · rw [if_pos c] at h1
      refine ctcN (s := (takeL s t).2) (gd_eq (gd_take (ht t (List.mem_of_getElem? ht')) h2 (by omega)) ?_) (gd_ret ⟨h1, wf_take t h2⟩)
      rw [c]; exact gd_ret rfl
    · rw [if_neg c] at h1
      refine gd_ctc (P := fun c => c = .rt (Sum.inl (fault wUnexp i n))) (gd_eq (gd_take (ht t (List.mem_of_getElem? ht')) h2 (by omega)) ?_) (fun _ z => by cases z) (fun r z => ?_) (fun _ z => by cases z) fun _ z => by cases z
      · rw [Bool.eq_false_iff.mpr c]
        exact gd_req (by omega) (gd_req (by omega) (gd_ret rfl))
      · cases z
        show Sum.inl (fault wUnexp i n) = readL n ts
        unfold readL; rw [h1]
  · rw [enumL_len, List.drop_length] at hs
    exact hs.1
  · unfold readL
    rw [hs]
    dsimp only
    by_cases c : s.1 = sWhole
    · rw [if_neg (by rw [decide_eq_true c]; exact Bool.false_ne_true), if_pos c]; exact gd_ret rfl
    · rw [if_pos (by rw [decide_eq_false c]; rfl), if_neg c]
      exact gd_req (by omega) (gd_req (by omega) (gd_ret rfl))
abbrev Ent := Int × List (List Nat × List Nat) × Ln
def readLs : List (Int × List Nat) → List Ent → Exc ⊕ List Ent
  | [], f => .inr f
  | (n, l) :: r, f => if tokF l = [] then readLs r f else match readL n (tokF l) with
    | .inl e => .inl e
    | .inr s => if s.2.1 ∈ f.map (·.2.2.2.1) then .inl (fault wDouble 0 n) else if f.length = 8 then .inl (fault wMany 0 n) else readLs r (f ++ [(n, tokF l, s)])
structure TxOk (text : List Nat) : Prop where
  sp : splitOk text [10] = true
  ln : (splitL text [10]).length ≤ 900000
  lens : ∀ l ∈ splitL text [10], l.length ≤ 900000
theorem gd_read_lines {text : List Nat} (h : TxOk text) : Gd (t__read_lines text) (· = readLs (enumL 0 (splitL text [10])) []) := by
  refine gd_eq (gd_ret rfl) (gd_eq (gd_ret rfl) (gd_ctl (I := fun s => readLs (enumL 0 (splitL text [10])) [] = .inr s.1) (gd_req h.sp (gd_forC (fun i s => readLs (enumL 0 (splitL text [10])) [] = readLs ((enumL 0 (splitL text [10])).drop i) s.1 ∧ s.2 = s.1.map (·.2.2.2.1) ∧ s.1.length ≤ i) ⟨rfl, rfl, Nat.le_refl _⟩ (fun i x s hx hs => ?_) fun s hs => ?_)) fun s hs => gd_ret hs.symm))
  · obtain ⟨l, hl', rfl⟩ := enumL_get hx
    obtain ⟨h1, h2, h3⟩ := hs
    have hi := (List.getElem?_eq_some_iff.mp hx).1
    have hd : (enumL 0 (splitL text [10])).drop i = (((0 + i : Nat) : Int), l) :: (enumL 0 (splitL text [10])).drop (i + 1) := by
      rw [List.drop_eq_getElem_cons hi]
      rw [List.getElem?_eq_getElem hi] at hx
      rw [Option.some.inj hx]
    rw [hd] at h1
    rw [enumL_len] at hi
    have hln := h.ln
    have hmem := List.mem_of_getElem? hl'
    have hll := h.lens l hmem
    obtain ⟨k1, k2⟩ := tokF_ok l.length l (Nat.le_refl _)
    rw [Nat.zero_add] at h1
    dsimp only
    rw [Nat.zero_add]
    refine gd_eq (a := tokF l) (gd_eq (gd_tokens hll) (gd_ret rfl)) ?_
    have h1 : readLs (enumL 0 (splitL text [10])) [] = (if tokF l = [] then readLs ((enumL 0 (splitL text [10])).drop (i + 1)) s.1 else match readL i (tokF l) with
      | .inl e => .inl e
      | .inr z => if z.2.1 ∈ s.1.map (·.2.2.2.1) then .inl (fault wDouble 0 i) else if s.1.length = 8 then .inl (fault wMany 0 i) else readLs ((enumL 0 (splitL text [10])).drop (i + 1)) (s.1 ++ [((i : Int), tokF l, z)])) := h1
    by_cases c : tokF l = []
    · rw [if_pos c] at h1
      rw [if_neg (by rw [c]; exact fun z => absurd (of_decide_eq_true z) (by decide))]
      exact ctcN (s := (s.1, s.2)) (gd_ret rfl) (gd_ret ⟨h1, h2, by dsimp only; omega⟩)
    · rw [if_neg c] at h1
      rw [if_pos (decide_eq_true (by
        cases e : tokF l with
        | nil => exact absurd e c
        | cons a b => simp))]
      have g := gd_read_line (n := (i : Int)) (ts := tokF l) k1 (by omega) ⟨by omega, by omega⟩
      cases e : readL (i : Int) (tokF l) with
      | inl x =>
        rw [e] at g h1
        refine gd_ctc (P := fun c => c = .rt (Sum.inl x)) (ctcR (gd_bx g (fun e he => by cases he; exact gd_ret rfl) fun v hv => by cases hv)) (fun _ z => by cases z) (fun r z => by cases z; exact h1.symm) (fun _ z => by cases z) fun _ z => by cases z
      | inr z =>
        rw [e] at g h1
        dsimp only at h1
        by_cases c1 : z.2.1 ∈ s.1.map (·.2.2.2.1)
        · rw [if_pos c1] at h1
          refine gd_ctc (P := fun c => c = .rt (Sum.inl (fault wDouble 0 i))) (ctcN (s := z) (gd_bx g (fun e he => by cases he) fun v hv => by cases hv; exact gd_ret rfl) (ctcR ?_)) (fun _ z => by cases z) (fun r z => by cases z; exact h1.symm) (fun _ z => by cases z) fun _ z => by cases z
          rw [if_pos (decide_eq_true (by rw [h2]; exact c1))]
          exact gd_req (by omega) (gd_ret rfl)
        · rw [if_neg c1] at h1
          by_cases c2 : s.1.length = 8
          · rw [if_pos c2] at h1
            refine gd_ctc (P := fun c => c = .rt (Sum.inl (fault wMany 0 i))) (ctcN (s := z) (gd_bx g (fun e he => by cases he) fun v hv => by cases hv; exact gd_ret rfl) (ctcN (s := ()) ?_ (ctcR ?_))) (fun _ z => by cases z) (fun r z => by cases z; exact h1.symm) (fun _ z => by cases z) fun _ z => by cases z
            · rw [if_neg (fun y => c1 (by rw [← h2]; exact of_decide_eq_true y))]; exact gd_ret rfl
            · rw [if_pos (decide_eq_true (by omega))]; exact gd_req (by omega) (gd_ret rfl)
          · rw [if_neg c2] at h1
            refine ctcN (s := (s.1 ++ [((i : Int), tokF l, z)], s.2 ++ [z.2.1])) (ctcN (s := z) (gd_bx g (fun e he => by cases he) fun v hv => by cases hv; exact gd_ret rfl) (ctcN (s := ()) ?_ (ctcN (s := ()) ?_ (gd_eq (gd_req (by omega) (gd_ret rfl)) (gd_eq (gd_req (by rw [h2, List.length_map]; omega) (gd_ret rfl)) (gd_ret rfl)))))) (gd_ret ⟨h1, ?_, ?_⟩)
            · rw [if_neg (fun y => c1 (by rw [← h2]; exact of_decide_eq_true y))]; exact gd_ret rfl
            · rw [if_neg (fun y => c2 (by have := of_decide_eq_true y; omega))]; exact gd_ret rfl
            · dsimp only; rw [h2, List.map_append]; rfl
            · dsimp only; rw [List.length_append, List.length_singleton]; omega
  · rw [List.drop_length] at hs
    exact hs.1
end Mw.Tk
set_option maxHeartbeats 4000000
set_option Elab.async false
set_option linter.all false
set_option maxRecDepth 100000
set_option autoImplicit false
namespace Mw.Tk
open PySem PySem.Spec PyProof.Rows L2 Mw Mw.Dk
def Cp (s : List Nat) : Prop := ∀ c ∈ s, c < 0x110000
theorem cp_ok {s : List Nat} (h : Cp s) : PyData.strOk ⟨s.toArray⟩ = true := by
  show s.toArray.all (· < 0x110000) = true
  rw [List.all_toArray]
  exact List.all_eq_true.mpr fun c hc => decide_eq_true (h c hc)
abbrev Tok' := List Nat × List Nat
abbrev sgn : Tok' := (kSign, [59])
def TsOk (ts : List Tok') : Prop := ∀ t ∈ ts, Cp t.1 ∧ Cp t.2
theorem shn_tok {t : Tok'} (h : Cp t.1 ∧ Cp t.2) : D.shn 1 (e_T2ss t) := fun y hy => by
  rcases List.mem_cons.mp hy with rfl | hy
  · exact cp_ok h.1
  · rw [List.mem_singleton.mp hy]; exact cp_ok h.2
theorem shn_toks {ts : List Tok'} (h : TsOk ts) : D.shn 2 (.lst (List.map e_T2ss ts)) := fun y hy => by
  obtain ⟨t, ht, rfl⟩ := List.mem_map.mp hy
  exact shn_tok (h t ht)
theorem idx_find {α : Type} [BEq α] [LawfulBEq α] [DecidableEq α] {e : α → D} (he : EqvOk e) (y : α) : ∀ {xs : List α}, y ∈ xs → (List.map e xs).findIdx? (fun z => D.eqv z (e y)) = some (xs.idxOf y)
  | x :: xs, h => by
    rw [List.map_cons, List.findIdx?_cons, eqv_dec he]
    by_cases c : x = y
    · subst c; rw [if_pos (decide_eq_true rfl), List.idxOf_cons_self]
    · rw [if_neg (fun z => c (of_decide_eq_true z))]
      have hm : y ∈ xs := (List.mem_cons.mp h).resolve_left fun z => c z.symm
      rw [idx_find he y hm, List.idxOf_cons, show (x == y) = false from beq_eq_false_iff_ne.mpr c]; rfl
theorem sgn_cp : Cp sgn.1 ∧ Cp sgn.2 := ⟨fun c hc => by simp at hc; omega, fun c hc => by simp at hc; omega⟩
theorem idx_ok {ts : List Tok'} (h : TsOk ts) (hs : sgn ∈ ts) : IdxOk e_T2ss ts sgn ∧ idxX e_T2ss ts sgn = (ts.idxOf sgn : Nat) := by
  have e := idx_find (e := e_T2ss) (eo_2 eo_str eo_str) sgn hs
  refine ⟨⟨shn_shp (shn_tok sgn_cp) (by omega), shn_shp (shn_toks h) (by omega), by rw [e]; rfl⟩, ?_⟩
  unfold idxX; rw [e]; simp
def badAt (known : List (List Nat)) (ts : List Tok') (j : Int) : Bool := decide ((ix ts j).1 = kName) && !decide ((ix ts j).2 ∈ known)
structure EntOk (e : Ent) : Prop where
  sg : sgn ∈ e.2.1
  ts : TsOk e.2.1
  tl : e.2.1.length ≤ 900000
  no : 0 ≤ e.1 ∧ e.1 ≤ 1000000
theorem gd_check_ok {es : List Ent} (hl : es.length ≤ 1000) (h : ∀ e ∈ es, EntOk e) (hb : ∀ e ∈ es, ∀ j : Int, 2 ≤ j ∧ j < (e.2.1.idxOf sgn : Nat) → badAt (es.map (·.2.2.2.1)) e.2.1 j = false) : Gd (t__check_names es) (· = .inr ()) := by
  refine gd_eq (a := es.map (·.2.2.2.1)) (gd_req (by omega) (gd_req (lcP_ret_ok _ _ _) (gd_ret (by rw [lcP_ret_val, List.filter_eq_self.mpr fun _ _ => rfl])))) ?_
  refine gd_ctl (I := fun _ => True) (gd_forC (fun _ _ => True) trivial (fun i e s he _ => ?_) fun _ _ => trivial) fun _ _ => gd_ret rfl
  have hm := List.mem_of_getElem? he
  have ho := h e hm
  obtain ⟨i1, i2⟩ := idx_ok ho.ts ho.sg
  have hil : e.2.1.idxOf sgn < e.2.1.length := List.idxOf_lt_length_iff.mpr ho.sg
  have htl := ho.tl
  refine gd_eq (a := ((e.2.1.idxOf sgn : Nat) : Int)) (gd_req i1 (gd_ret i2)) ?_
  refine ctcN (s := ()) (gd_req ⟨by omega, by omega⟩ ((gd_forC (l := Unit) (R := fun _ => False) (Q := fun _ => True) (fun _ _ => True) trivial (fun k x s' hx _ => ?_) fun _ _ => trivial).imp ?_)) (gd_ret trivial)
  · have hx := rng2_get hx
    refine ctcN (s := ()) (gd_req ⟨by omega, by omega⟩ (gd_req (fun _ => ⟨by omega, by omega⟩) ?_)) (gd_ret trivial)
    have := hb e hm x ⟨by omega, by omega⟩
    unfold badAt at this
    rw [this]
    exact gd_ret rfl
  · intro c hc
    cases c with
    | nx s => rfl
    | rt r => exact hc.elim
    | bk s => exact hc.elim
    | ct s => exact hc.elim
theorem gd_reaches_ok {b : List Item} (hb : BillOk b) {i : Int} (hi : 0 ≤ i ∧ i < b.length) : Gd (t__reaches b i) (· = false) := by
  obtain ⟨r, hr1, hr2⟩ := hb.rk
  have h8 := hb.len
  have hio := hb.ix hi
  have hpl := hio.pl
  have InR : ∀ j : Int, (0 ≤ j ∧ j < b.length) → ∀ p ∈ (ix b j).parts, (0 ≤ p.1 ∧ p.1 < b.length) ∧ r p.1 < r j := fun j hj p hp => ⟨((hb.ix hj).pt p hp).1, hr2 j hj.1 hj.2 p hp⟩
  refine gd_eq (a := (ix b i).parts.map (·.1)) (gd_req hi (gd_req (by omega) (gd_req (lcP_ret_ok _ _ _) (gd_ret (by rw [lcP_ret_val, List.filter_eq_self.mpr fun _ _ => rfl]))))) (gd_eq (gd_ret rfl) ?_)
  refine gd_bind (P := fun s : List Int × Int => ∀ x ∈ s.1, (0 ≤ x ∧ x < b.length) ∧ r x < r i) (gd_whL (I := fun s : List Int × Int => (∀ x ∈ s.1, (0 ≤ x ∧ x < b.length) ∧ r x < r i) ∧ 0 ≤ s.2 ∧ s.2 ≤ s.1.length ∧ ∃ init ext, s.1 = init ++ ext ∧ init.length ≤ 4 ∧ ext.Nodup) (fun s => (13 - s.2).toNat) ⟨fun x hx => ?_, by omega, by simp, _, [], (List.append_nil _).symm, by rw [List.length_map]; omega, List.nodup_nil⟩ (by omega) (fun s hs => trivial) (fun s hs ht => ?_) fun s hs ht => hs.1) fun s hs => gd_ret ?_
  · obtain ⟨p, hp, rfl⟩ := List.mem_map.mp hx
    exact InR i hi p hp
  · obtain ⟨h1, h2, h3, init, ext, h4, h5, h6⟩ := hs
    have ht : s.2 < s.1.length := of_decide_eq_true ht
    have hx := h1 (ix s.1 s.2) (ix_mem ⟨h2, ht⟩)
    have ext_len : ∀ ext : List Int, ext.Nodup → (∀ x ∈ ext, 0 ≤ x ∧ x < (b.length : Int)) → ext.length ≤ b.length := fun ext hn hm => by
      have : (ext.map Int.toNat).Nodup := List.pairwise_map.mpr (List.Pairwise.imp_of_mem (fun {x y} hx hy e z => by have := hm x hx; have := hm y hy; exact e (by omega)) hn)
      have h := List.Nodup.length_le_of_subset this (l₂ := List.range b.length) fun n hn' => by
        obtain ⟨x, hx, rfl⟩ := List.mem_map.mp hn'
        have := hm x hx
        exact List.mem_range.mpr (by omega)
      rw [List.length_map, List.length_range] at h; exact h
    refine gd_bind (P := fun l : List Int => (∀ x ∈ l, (0 ≤ x ∧ x < b.length) ∧ r x < r i) ∧ s.1.length ≤ l.length ∧ ∃ ext', l = init ++ ext' ∧ ext'.Nodup) (gd_req ⟨h2, ht⟩ (gd_req hx.1 (gd_forL' (fun _ l => (∀ x ∈ l, (0 ≤ x ∧ x < b.length) ∧ r x < r i) ∧ s.1.length ≤ l.length ∧ ∃ ext', l = init ++ ext' ∧ ext'.Nodup) ⟨h1, Nat.le_refl _, ext, h4, h6⟩ (fun k p l hp hl => ?_) fun l hl => hl))) fun l hl => gd_let (gd_ret ?_)
    · obtain ⟨l1, l2, ext', l3, l4⟩ := hl
      have hp := InR _ hx.1 p (List.mem_of_getElem? hp)
      refine gd_bind (P := fun l' : List Int => (∀ x ∈ l', (0 ≤ x ∧ x < b.length) ∧ r x < r i) ∧ s.1.length ≤ l'.length ∧ ∃ ext', l' = init ++ ext' ∧ ext'.Nodup) ?_ fun l' h => gd_ret h
      by_cases c : p.1 ∈ l
      · rw [if_neg (by rw [decide_eq_true c]; exact Bool.false_ne_true)]; exact gd_ret ⟨l1, l2, ext', l3, l4⟩
      · rw [if_pos (by rw [decide_eq_false c]; rfl)]
        have hel : ext'.length ≤ b.length := ext_len ext' l4 fun x hx => (l1 x (by rw [l3]; simp [hx])).1
        refine gd_eq (gd_req (by rw [l3, List.length_append]; omega) (gd_ret rfl)) (gd_ret ⟨fun x _ => ?_, by rw [List.length_append]; omega, ext' ++ [p.1], by rw [l3, List.append_assoc], ?_⟩)
        · rename_i hx'
          rcases List.mem_append.mp hx' with hx' | hx'
          · exact l1 x hx'
          · rw [List.mem_singleton.mp hx']; exact ⟨hp.1, Nat.lt_trans hp.2 hx.2⟩
        · refine List.nodup_append.mpr ⟨l4, by simp, fun x hx y hy => ?_⟩
          rw [List.mem_singleton.mp hy]
          intro z; subst z
          exact c (by rw [l3]; simp [hx])
    · obtain ⟨k1, k3, ext', k4, k5⟩ := hl
      have hel : ext'.length ≤ b.length := ext_len ext' k5 fun x hx => (k1 x (by rw [k4]; simp [hx])).1
      have hsl : l.length ≤ 12 := by rw [k4, List.length_append]; omega
      exact ⟨⟨k1, by dsimp only; omega, by dsimp only; omega, init, ext', k4, h5, k5⟩, by dsimp only; omega⟩
  · by_cases c : i ∈ s.1
    · exact absurd (hs i c).2 (Nat.lt_irrefl _)
    · exact decide_eq_false c
end Mw.Tk
set_option maxHeartbeats 4000000
set_option Elab.async false
set_option linter.all false
set_option maxRecDepth 100000
set_option autoImplicit false
namespace Mw.Tk
open PySem PySem.Spec PyProof.Rows L2 Mw Mw.Dk
def lnOf (b : List Item) (x : Item) : Ln := (sWhole, x.name, x.parts.map (fun p => ((ix b p.1).name, p.2)), 1, [x.lead, x.lot, x.good])
structure Reads (text : List Nat) (b : List Item) (es : List Ent) : Prop where
  tx : TxOk text
  rl : readLs (enumL 0 (splitL text [10])) [] = .inr es
  ln : es.map (·.2.2) = b.map (lnOf b)
  eo : ∀ e ∈ es, EntOk e
  ck : ∀ e ∈ es, ∀ j : Int, 2 ≤ j ∧ j < (e.2.1.idxOf sgn : Nat) → badAt (es.map (·.2.2.2.1)) e.2.1 j = false
theorem tget_cons' {κ β : Type} [DecidableEq κ] (q : κ × β) (kv : List (κ × β)) (c : κ) : tget (q :: kv) c = if q.1 = c then some q.2 else tget kv c := by
  unfold tget
  rw [List.find?_cons]
  by_cases h : q.1 = c
  · rw [if_pos h, decide_eq_true h]; rfl
  · rw [if_neg h, decide_eq_false h]
theorem tget_of_mem {κ β : Type} [DecidableEq κ] : ∀ {kv : List (κ × β)} {k : κ} {v : β}, (kv.map (·.1)).Nodup → (k, v) ∈ kv → tget kv k = some v
  | q :: kv, k, v, hn, h => by
    rw [tget_cons']
    rw [List.map_cons, List.nodup_cons] at hn
    rcases List.mem_cons.mp h with rfl | h
    · rw [if_pos rfl]
    · rw [if_neg (fun z => hn.1 (by rw [z]; exact List.mem_map_of_mem (f := (·.1)) h))]
      exact tget_of_mem hn.2 h
theorem tput_new {κ β : Type} [DecidableEq κ] {kv : List (κ × β)} {k : κ} {v : β} (h : k ∉ kv.map (·.1)) : tput kv k v = kv ++ [(k, v)] := by
  unfold tput
  rw [if_neg]
  intro z
  obtain ⟨p, hp, e⟩ := List.any_eq_true.mp z
  exact h (by rw [← of_decide_eq_true e]; exact List.mem_map_of_mem (f := (·.1)) hp)
theorem take_snoc {α : Type} {xs : List α} {i : Nat} {x : α} (h : xs[i]? = some x) : xs.take (i + 1) = xs.take i ++ [x] := by rw [List.take_add_one, h]; rfl
theorem enum_snd {α : Type} : ∀ (xs : List α) (k : Nat), (enumL k xs).map (·.2) = xs
  | [], _ => rfl
  | x :: xs, k => by show x :: (enumL (k + 1) xs).map (·.2) = _; rw [enum_snd xs (k + 1)]
theorem enum_at {α : Type} : ∀ (xs : List α) (k i : Nat) {x : α}, xs[i]? = some x → (enumL k xs)[i]? = some (((k + i : Nat) : Int), x)
  | _ :: xs, k, 0, x, h => by cases h; rfl
  | _ :: xs, k, i + 1, x, h => by
    show (enumL (k + 1) xs)[i]? = _
    rw [enum_at xs (k + 1) i h, show k + 1 + i = k + (i + 1) by omega]
theorem gd_read_ok {text : List Nat} {b : List Item} {es : List Ent} (R : Reads text b es) (hb : BillOk b) (hm : BillNm b) : Gd (t_read_bill text) (· = .inr b) := by
  have h8 := hb.len
  have hlen : es.length = b.length := by have := congrArg List.length R.ln; simpa using this
  have hat : ∀ (i : Nat) (e : Ent), es[i]? = some e → ∃ x, b[i]? = some x ∧ e.2.2 = lnOf b x := fun i e he => by
    have h1 : (es.map (·.2.2))[i]? = (b.map (lnOf b))[i]? := by rw [R.ln]
    rw [List.getElem?_map, List.getElem?_map, he] at h1
    cases q : b[i]? with
    | none => rw [q] at h1; cases h1
    | some x => rw [q] at h1; exact ⟨x, rfl, Option.some.inj h1⟩
  have hnm : es.map (·.2.2.2.1) = b.map Item.name := by
    have := congrArg (List.map fun l : Ln => l.2.1) R.ln
    rw [List.map_map, List.map_map] at this
    exact this
  have gl := gd_read_lines R.tx
  rw [R.rl] at gl
  have gc := gd_check_ok (by omega) R.eo R.ck
  refine gd_ctl' (c := .nx es) (gd_bx gl (fun e he => by cases he) fun v hv => by cases hv; exact gd_ret rfl) (fun s z => ?_) fun r z => by cases z
  cases z
  refine gd_ctl' (c := .nx ()) (gd_bx gc (fun e he => by cases he) fun v hv => gd_ret rfl) (fun s z => ?_) fun r z => by cases z
  have pl : ∀ i, ((enumL 0 es).take i).map (fun x => x.2.2.2.2.1) = (es.take i).map (·.2.2.2.1) := fun i => by
    have := congrArg (List.take i) (enum_snd es 0)
    rw [← List.map_take] at this
    rw [← this, List.map_map]; rfl
  refine gd_let (gd_eq (a := (enumL 0 es).map fun x => (x.2.2.2.2.1, x.1)) (gd_forL' (fun i s => s = ((enumL 0 es).take i).map fun x => (x.2.2.2.2.1, x.1)) rfl (fun i x s hx hs => ?_) fun s hs => by rw [hs, List.take_length]) ?_)
  · have hi := (List.getElem?_eq_some_iff.mp hx).1
    rw [enumL_len] at hi
    have hk : s.map (·.1) = (es.take i).map (·.2.2.2.1) := by rw [hs, List.map_map]; exact pl i
    have hsl : s.length = i := by rw [hs, List.length_map, List.length_take, enumL_len]; omega
    refine gd_eq (gd_req (by omega) (gd_ret rfl)) (gd_ret ?_)
    rw [take_snoc hx, List.map_append, ← hs]
    refine tput_new ?_
    rw [hk]
    have hnd := hm.nd
    rw [← hnm] at hnd
    obtain ⟨e, he, rfl⟩ := enumL_get hx
    have hsn : (es.take (i + 1)).map (·.2.2.2.1) = (es.take i).map (·.2.2.2.1) ++ [e.2.2.2.1] := by rw [take_snoc he, List.map_append]; rfl
    have h2 : ((es.take (i + 1)).map (·.2.2.2.1)).Nodup := by
      rw [List.map_take]; exact hnd.sublist (List.take_sublist _ _)
    rw [hsn] at h2
    intro z
    exact (List.nodup_append.mp h2).2.2 _ z _ (by simp) rfl
  · have hkeys : (((enumL 0 es).map fun x => (x.2.2.2.2.1, x.1)).map (·.1)).Nodup := by
      rw [List.map_map]
      have := pl es.length
      rw [List.take_length, show (enumL 0 es).take es.length = enumL 0 es by rw [← enumL_len es 0, List.take_length]] at this
      have h3 : ((enumL 0 es).map fun x => x.2.2.2.2.1).Nodup := by rw [this, hnm]; exact hm.nd
      exact h3
    have hget : ∀ j : Int, 0 ≤ j → j < b.length → tget ((enumL 0 es).map fun x => (x.2.2.2.2.1, x.1)) (ix b j).name = some j := fun j h0 h1 => by
      obtain ⟨n, rfl⟩ := Int.eq_ofNat_of_zero_le h0
      have hn : n < es.length := by omega
      have he : es[n]? = some es[n] := List.getElem?_eq_getElem hn
      obtain ⟨x, hx, hl⟩ := hat n _ he
      have e1 : (ix b (n : Int)).name = es[n].2.2.2.1 := by rw [ix_get hx, hl]; rfl
      refine tget_of_mem hkeys ?_
      rw [e1]
      refine List.mem_map.mpr ⟨((n : Int), es[n]), ?_, rfl⟩
      have := enum_at es 0 n he
      rw [Nat.zero_add] at this
      exact List.mem_of_getElem? this
    refine gd_let (gd_eq (a := b) (gd_forL' (fun i s => s = b.take i) rfl (fun i e s he hs => ?_) fun s hs => by rw [hs, hlen, List.take_length]) ?_)
    · obtain ⟨x, hx, hl⟩ := hat i e he
      have hxi := (List.getElem?_eq_some_iff.mp hx).1
      have hxm := List.mem_of_getElem? hx
      have hit := hb.it x hxm
      rw [hl]
      have key := lcP_good (c := fun _ : List Nat × Int => T.ret true) (f := fun x13 : List Nat × Int => T.req ((tget ((enumL 0 es).map fun x => (x.2.2.2.2.1, x.1)) x13.1).isSome = true) (T.ret ((dat ((enumL 0 es).map fun x => (x.2.2.2.2.1, x.1)) x13.1), x13.2))) (lnOf b x).2.2.1 (fun _ _ => trivial) (fun y hy _ => by
        obtain ⟨p, hp, rfl⟩ := List.mem_map.mp hy
        have hr := (hit.pt p hp).1
        exact ⟨by dsimp only; rw [hget p.1 hr.1 hr.2]; rfl, trivial⟩)
      refine gd_eq (a := x.parts) (gd_req (by show (x.parts.map _).length ≤ 1000000; rw [List.length_map]; have := hit.pl; omega) (gd_req key.2 (gd_ret ?_))) ?_
      · rw [key.1]
        refine Eq.trans (congrArg (List.map _) (List.filter_eq_self.mpr fun _ _ => rfl)) ?_
        show (x.parts.map (fun p => ((ix b p.1).name, p.2))).map _ = _
        rw [List.map_map]
        refine (List.map_congr_left fun p hp => ?_).trans (List.map_id _)
        have hr := (hit.pt p hp).1
        show (dat _ (ix b p.1).name, p.2) = p
        unfold dat
        rw [hget p.1 hr.1 hr.2]; rfl
      · refine gd_eq (a := b.take i ++ [x]) (gd_req ⟨by decide, by show (0 : Int) < ((3 : Nat) : Int); decide⟩ (gd_req ⟨by decide, by show (1 : Int) < ((3 : Nat) : Int); decide⟩ (gd_req ⟨by decide, by show (2 : Int) < ((3 : Nat) : Int); decide⟩ (gd_req (by rw [hs, List.length_take]; omega) (gd_ret ?_))))) (gd_ret (by rw [take_snoc hx]))
        rw [hs]
        congr 1
    · refine gd_ctl (I := fun _ => True) (gd_forC (fun _ _ => True) trivial (fun i x s hx _ => ?_) fun _ _ => trivial) fun _ _ => gd_ret rfl
      obtain ⟨e, he, rfl⟩ := enumL_get hx
      have hi := (List.getElem?_eq_some_iff.mp he).1
      refine ctcN (s := ()) (gd_eq (gd_reaches_ok hb ⟨by dsimp only; omega, by dsimp only; omega⟩) ?_) (gd_ret trivial)
      rw [if_neg Bool.false_ne_true]; exact gd_ret rfl
end Mw.Tk
set_option maxHeartbeats 4000000
set_option Elab.async false
set_option linter.all false
set_option maxRecDepth 100000
set_option autoImplicit false
namespace Mw.Tk
open PySem PySem.Spec PyProof.Rows L2 Mw Mw.Dk
theorem tx_join (a : List Nat) (ss : List (List Nat)) : Txt.join (tx a) (ss.map tx) = tx (TL.joinL a ss) := by
  have h : TL.tl (Txt.join (tx a) (ss.map tx)) = TL.joinL a ss := by
    rw [TL.join_eq, TL.tl_join]
    congr 1
    rw [List.map_map]
    exact List.map_id' ss
  rw [← h]
  exact (tx_xt _).symm
theorem joinL_eq (a : List Nat) (ss : List (List Nat)) : joinL a ss = TL.joinL a ss := by unfold joinL; rw [tx_join, xt_tx]
theorem joinL_len (a : List Nat) : ∀ ss : List (List Nat), (TL.joinL a ss).length ≤ (ss.map (·.length)).sum + ss.length * a.length
  | [] => by simp [TL.joinL]
  | [p] => by simp [TL.joinL]
  | p :: q :: r => by
    have ih := joinL_len a (q :: r)
    show (p ++ (a ++ TL.joinL a (q :: r))).length ≤ _
    rw [List.length_append, List.length_append, List.map_cons, List.sum_cons, List.length_cons, Nat.add_mul, Nat.one_mul]
    omega
theorem joinOk_of {a : List Nat} {ss : List (List Nat)} (h : (ss.map (·.length)).sum + ss.length * a.length ≤ 1000000) : joinOk a ss = true := by
  unfold joinOk
  rw [tx_join, tx_len]
  have := joinL_len a ss
  rw [decide_eq_true (by omega), decide_eq_true (by rw [sizeLine_eq]; omega)]; rfl
theorem split_tx {parts : List (List Nat)} (hne : parts ≠ []) (hp : ∀ p ∈ parts, 10 ∉ p) : Txt.split (tx (TL.joinL [10] parts)) (tx [10]) = parts.map tx := by
  rw [← tx_join]
  refine TL.split_join (y := tx [10]) (s := 10) (S := []) rfl (by decide +kernel) (fun e => hne (List.map_eq_nil_iff.mp e)) fun p h => ?_
  obtain ⟨z, hz, rfl⟩ := List.mem_map.mp h
  exact hp z hz
theorem splitL_of {parts : List (List Nat)} (hne : parts ≠ []) (hp : ∀ p ∈ parts, 10 ∉ p) : splitL (TL.joinL [10] parts) [10] = parts := by
  unfold splitL
  rw [split_tx hne hp, List.map_map]
  exact List.map_id' parts
theorem txOk_of {parts : List (List Nat)} (hne : parts ≠ []) (hp : ∀ p ∈ parts, 10 ∉ p) (hl : (TL.joinL [10] parts).length ≤ 900000) (hn : parts.length ≤ 900000) (hs : ∀ p ∈ parts, p.length ≤ 900000) : TxOk (TL.joinL [10] parts) := by
  refine ⟨?_, by rw [splitL_of hne hp]; exact hn, by rw [splitL_of hne hp]; exact hs⟩
  unfold splitOk
  rw [split_tx hne hp, List.length_map, decide_eq_true (show ([10] : List Nat).length ≠ 0 by decide), decide_eq_true (show (TL.joinL [10] parts).length + 2 ≤ sizeLine by rw [sizeLine_eq]; omega), decide_eq_true (show parts.length ≤ sizeLine by rw [sizeLine_eq]; omega)]
  rw [List.all_eq_true.mpr]; · rfl
  intro z hz
  obtain ⟨p, hp', rfl⟩ := List.mem_map.mp hz
  refine decide_eq_true ?_
  rw [tx_len, sizeLine_eq]
  have := hs p hp'
  omega
def NoHd (cs r : List Nat) : Prop := r = [] ∨ ∃ c w, r = c :: w ∧ isC cs c = false
theorem run_app {cs u r : List Nat} {c : Nat} (hu : ∀ d ∈ u, d ∈ cs) (hr : NoHd cs r) : runOf cs c (u ++ r) = c :: u := by
  unfold runOf
  rw [tw_all (p := isC cs) (fun d hd => decide_eq_true (hu d hd)) hr]
theorem tokF_name {w r : List Nat} (hne : w ≠ []) (hw : ∀ c ∈ w, c ∈ LET) (hl : w.length ≤ 12) (hr : NoHd LET r) : tokF (w ++ r) = (kName, w) :: tokF r := by
  cases w with
  | nil => exact absurd rfl hne
  | cons c u =>
    have hc := hw c (by simp)
    have e := run_app (c := c) (u := u) (fun d hd => hw d (List.mem_cons_of_mem _ hd)) hr
    have h32 : c ≠ 32 := fun z => by rw [z] at hc; exact absurd hc (by decide)
    rw [List.cons_append, tokF_tok h32]
    have ht : tokAt c (u ++ r) = (kName, c :: u) := by
      unfold tokAt
      rw [if_pos hc, e]
      unfold kindL
      rw [if_neg (by omega)]
    rw [ht]
    dsimp only
    rw [show (c :: (u ++ r)).drop (c :: u).length = r from List.drop_left (l₁ := c :: u)]
theorem tokF_num {w r : List Nat} (hne : w ≠ []) (hw : ∀ c ∈ w, c ∈ DIG) (hk : kindD w = kNum) (hr : NoHd DIG r) : tokF (w ++ r) = (kNum, w) :: tokF r := by
  cases w with
  | nil => exact absurd rfl hne
  | cons c u =>
    have hc := hw c (by simp)
    have e := run_app (c := c) (u := u) (fun d hd => hw d (List.mem_cons_of_mem _ hd)) hr
    have hb := dig_mem hc
    have h32 : c ≠ 32 := by omega
    rw [List.cons_append, tokF_tok h32]
    have hL : c ∉ LET := fun z => by simp at z; omega
    have ht : tokAt c (u ++ r) = (kNum, c :: u) := by
      unfold tokAt
      rw [if_neg hL, if_pos hc, e, hk]
    rw [ht]
    dsimp only
    rw [show (c :: (u ++ r)).drop (c :: u).length = r from List.drop_left (l₁ := c :: u)]
theorem tokF_sign {c : Nat} {r : List Nat} (hc : c = 58 ∨ c = 44 ∨ c = 59) : tokF (c :: r) = (kSign, [c]) :: tokF r := by
  have h32 : c ≠ 32 := by omega
  rw [tokF_tok h32]
  have ht : tokAt c r = (kSign, [c]) := by
    unfold tokAt
    rw [if_neg (fun z => by simp at z; omega), if_neg (fun z => by simp at z; omega), if_pos (by rcases hc with rfl | rfl | rfl <;> decide)]
  rw [ht]; rfl
theorem small_num : ∀ n : Nat, n < 51 → kindD (TL.numL n) = kNum ∧ (∀ c ∈ TL.numL n, c ∈ DIG) ∧ TL.numL n ≠ [] ∧ (TL.numL n).length ≤ 2 := by decide +kernel
theorem num_val (n : Nat) : numV (TL.numL n) = (n : Int) := by unfold numV; rw [TL.numL_val]
theorem iCs_num (n : Nat) : iCs (n : Int) = TL.numL n := TL.tl_num n
theorem iCs_small {i : Int} (h : 0 ≤ i ∧ i ≤ 50) : kindD (iCs i) = kNum ∧ (∀ c ∈ iCs i, c ∈ DIG) ∧ iCs i ≠ [] ∧ (iCs i).length ≤ 2 ∧ numV (iCs i) = i := by
  obtain ⟨n, rfl⟩ := Int.eq_ofNat_of_zero_le h.1
  rw [iCs_num]
  obtain ⟨h1, h2, h3, h4⟩ := small_num n (by omega)
  exact ⟨h1, h2, h3, h4, num_val n⟩
end Mw.Tk
set_option maxHeartbeats 4000000
set_option Elab.async false
set_option linter.all false
set_option maxRecDepth 100000
set_option autoImplicit false
namespace Mw.Tk
open PySem PySem.Spec PyProof.Rows L2 Mw Mw.Dk
def Run (s : Ln) (ts : List Tok') (s' : Ln) : Prop := ∀ (rest : List Tok') (k : Nat), runL s (ts ++ rest) k = runL s' rest (k + ts.length)
theorem Run.nil (s : Ln) : Run s [] s := fun rest k => rfl
theorem Run.one {s s' : Ln} {t : Tok'} (h : takeL s t = (true, s')) : Run s [t] s' := fun rest k => by
  show (if (takeL s t).1 = true then runL (takeL s t).2 rest (k + 1) else .inl k) = _
  rw [h, if_pos rfl]; rfl
theorem Run.app {s s1 s2 : Ln} {a b : List Tok'} (h1 : Run s a s1) (h2 : Run s1 b s2) : Run s (a ++ b) s2 := fun rest k => by
  rw [List.append_assoc, h1, h2, List.length_append, Nat.add_assoc]
theorem Run.cons {s s1 s2 : Ln} {t : Tok'} {b : List Tok'} (h1 : takeL s t = (true, s1)) (h2 : Run s1 b s2) : Run s (t :: b) s2 := Run.app (a := [t]) (Run.one h1) h2
theorem Run.all {s s' : Ln} {ts : List Tok'} (h : Run s ts s') (k : Nat) : runL s ts k = .inr s' := by
  have := h [] k
  rw [List.append_nil] at this
  rw [this]; rfl
section
variable {w nm t : List Nat} {ps : List (List Nat × Int)} {q : Int} {ns : List Int}
theorem tk_name : takeL (sName, nm, ps, q, ns) (kName, w) = (true, (sColon, w, ps, q, ns)) := rfl
theorem tk_colon : takeL (sColon, nm, ps, q, ns) (kSign, [58]) = (true, (sFirst, nm, ps, q, ns)) := rfl
theorem tk_semi1 : takeL (sFirst, nm, ps, q, ns) (kSign, [59]) = (true, (sLead, nm, ps, q, ns)) := rfl
theorem tk_semi2 : takeL (sBehind, nm, ps, q, ns) (kSign, [59]) = (true, (sLead, nm, ps, q, ns)) := rfl
theorem tk_comma (h : ps.length < 4) : takeL (sBehind, nm, ps, q, ns) (kSign, [44]) = (true, (sPart, nm, ps, q, ns)) := by
  have e : partF (sBehind, nm, ps, q, ns) kSign [44] = (some sPart, (sBehind, nm, ps, q, ns)) := by
    unfold partF
    rw [if_neg (fun z => absurd z.1 (by decide : ¬ sBehind = sFirst)), if_neg (fun z => absurd z.2.2 (by decide)), if_pos ⟨rfl, rfl, rfl, h⟩]
  have e2 : stepF (sBehind, nm, ps, q, ns) (kSign, [44]) = partF (sBehind, nm, ps, q, ns) kSign [44] := rfl
  unfold takeL; rw [e2, e]
theorem tk_qty {st : List Nat} (hs : st = sFirst ∨ st = sPart) (h : 1 ≤ numV t ∧ numV t ≤ 20) : takeL (st, nm, ps, q, ns) (kNum, t) = (true, (sPName, nm, ps, numV t, ns)) := by
  rcases hs with rfl | rfl
  · have e : partF (sFirst, nm, ps, q, ns) kNum t = (some sPName, (sFirst, nm, ps, numV t, ns)) := by
      unfold partF
      rw [if_neg (fun z => absurd z.2.1 (by decide)), if_neg (fun z => absurd z.2.1 (by decide)), if_neg (fun z => absurd z.2.1 (by decide)), if_pos ⟨by simp, rfl, h.1, h.2⟩]
    have e2 : stepF (sFirst, nm, ps, q, ns) (kNum, t) = partF (sFirst, nm, ps, q, ns) kNum t := rfl
    unfold takeL; rw [e2, e]
  · have e : partF (sPart, nm, ps, q, ns) kNum t = (some sPName, (sPart, nm, ps, numV t, ns)) := by
      unfold partF
      rw [if_neg (fun z => absurd z.2.1 (by decide)), if_neg (fun z => absurd z.2.1 (by decide)), if_neg (fun z => absurd z.2.1 (by decide)), if_pos ⟨by simp, rfl, h.1, h.2⟩]
    have e2 : stepF (sPart, nm, ps, q, ns) (kNum, t) = partF (sPart, nm, ps, q, ns) kNum t := rfl
    unfold takeL; rw [e2, e]
theorem tk_part {st : List Nat} (hs : st = sFirst ∨ st = sPart ∨ st = sPName) : takeL (st, nm, ps, q, ns) (kName, t) = (true, (sBehind, nm, ps ++ [(t, q)], 1, ns)) := by
  rcases hs with rfl | rfl | rfl <;> rfl
theorem num_some {s : Ln} {lo hi : Int} {st : List Nat} (h : lo ≤ numV t ∧ numV t ≤ hi) : numF s t lo hi st = (some st, (s.1, s.2.1, s.2.2.1, s.2.2.2.1, s.2.2.2.2 ++ [numV t])) := by
  unfold numF; rw [if_neg (by omega)]
theorem tk_lead (h : 0 ≤ numV t ∧ numV t ≤ 10) : takeL (sLead, nm, ps, q, ns) (kNum, t) = (true, (sDays, nm, ps, q, ns ++ [numV t])) := by
  have e2 : stepF (sLead, nm, ps, q, ns) (kNum, t) = numF (sLead, nm, ps, q, ns) t 0 10 sDays := rfl
  unfold takeL; rw [e2, num_some h]
theorem tk_days : takeL (sDays, nm, ps, q, ns) (kName, [100, 97, 121, 115]) = (true, (sSemi, nm, ps, q, ns)) := rfl
theorem tk_semi3 : takeL (sSemi, nm, ps, q, ns) (kSign, [59]) = (true, (sLot, nm, ps, q, ns)) := rfl
theorem tk_lot (h : 1 ≤ numV t ∧ numV t ≤ 50) : takeL (sLot, nm, ps, q, ns) (kNum, t) = (true, (sYields, nm, ps, q, ns ++ [numV t])) := by
  have e2 : stepF (sLot, nm, ps, q, ns) (kNum, t) = numF (sLot, nm, ps, q, ns) t 1 50 sYields := rfl
  unfold takeL; rw [e2, num_some h]
theorem tk_yields : takeL (sYields, nm, ps, q, ns) (kName, [121, 105, 101, 108, 100, 115]) = (true, (sGood, nm, ps, q, ns)) := rfl
theorem tk_good (h : 1 ≤ numV t ∧ numV t ≤ ix ns 1) : takeL (sGood, nm, ps, q, ns) (kNum, t) = (true, (sWhole, nm, ps, q, ns ++ [numV t])) := by
  have e2 : stepF (sGood, nm, ps, q, ns) (kNum, t) = numF (sGood, nm, ps, q, ns) t 1 (ix ns 1) sWhole := rfl
  unfold takeL; rw [e2, num_some h]
end
def ptoks (b : List Item) (p : Int × Int) : List Tok' := (if p.2 = 1 then [] else [(kNum, iCs p.2)]) ++ [(kName, (ix b p.1).name)]
def jtoks : List (List Tok') → List Tok'
  | [] => []
  | [p] => p
  | p :: q :: r => p ++ (kSign, [44]) :: jtoks (q :: r)
def endT (x : Item) : List Tok' := [(kSign, [59]), (kNum, iCs x.lead), (kName, [100, 97, 121, 115]), (kSign, [59]), (kNum, iCs x.lot), (kName, [121, 105, 101, 108, 100, 115]), (kNum, iCs x.good)]
def toksOf (b : List Item) (x : Item) : List Tok' := (kName, x.name) :: (kSign, [58]) :: (jtoks (x.parts.map (ptoks b)) ++ endT x)
theorem run_part {b : List Item} {p : Int × Int} {nm : List Nat} {ps : List (List Nat × Int)} {st : List Nat} (hs : st = sFirst ∨ st = sPart) (hp : 1 ≤ p.2 ∧ p.2 ≤ 20) : Run (st, nm, ps, 1, []) (ptoks b p) (sBehind, nm, ps ++ [((ix b p.1).name, p.2)], 1, []) := by
  unfold ptoks
  by_cases h : p.2 = 1
  · rw [if_pos h, List.nil_append, h]
    exact Run.one (tk_part (hs.imp (fun z => z) fun z => .inl z))
  · rw [if_neg h]
    have hv := (iCs_small (i := p.2) (by omega)).2.2.2.2
    have h1 := tk_qty (nm := nm) (ps := ps) (q := 1) (ns := []) (t := iCs p.2) hs (by rw [hv]; exact hp)
    rw [hv] at h1
    exact Run.cons h1 (Run.one (tk_part (.inr (.inr rfl))))
theorem run_parts {b : List Item} {nm : List Nat} : ∀ (pl : List (Int × Int)) (ps : List (List Nat × Int)) (st : List Nat), pl ≠ [] → (st = sFirst ∨ st = sPart) → (∀ p ∈ pl, 1 ≤ p.2 ∧ p.2 ≤ 20) → ps.length + pl.length ≤ 4 →
    Run (st, nm, ps, 1, []) (jtoks (pl.map (ptoks b))) (sBehind, nm, ps ++ pl.map (fun p => ((ix b p.1).name, p.2)), 1, [])
  | [], _, _, h, _, _, _ => absurd rfl h
  | [p], ps, st, _, hs, hp, _ => run_part hs (hp p (by simp))
  | p :: q :: r, ps, st, _, hs, hp, hl => by
    show Run _ (ptoks b p ++ (kSign, [44]) :: jtoks ((q :: r).map (ptoks b))) _
    rw [List.length_cons, List.length_cons] at hl
    refine Run.app (run_part hs (hp p (by simp))) (Run.cons (tk_comma (by rw [List.length_append, List.length_singleton]; omega)) ?_)
    have := run_parts (b := b) (nm := nm) (q :: r) (ps ++ [((ix b p.1).name, p.2)]) sPart (by simp) (.inr rfl) (fun y hy => hp y (List.mem_cons_of_mem _ hy)) (by rw [List.length_append, List.length_singleton, List.length_cons]; omega)
    rw [List.append_assoc] at this
    exact this
theorem run_item {b : List Item} {x : Item} {n : Nat} (hx : ItOk n x) : Run L0 (toksOf b x) (lnOf b x) := by
  have hl := (iCs_small (i := x.lead) (by have := hx.lead; omega)).2.2.2.2
  have ho := (iCs_small (i := x.lot) (by have := hx.lot; omega)).2.2.2.2
  have hg := (iCs_small (i := x.good) (by have := hx.good; have := hx.lot; omega)).2.2.2.2
  have h1 := hx.lead
  have h2 := hx.lot
  have h3 := hx.good
  have he : ∀ ps, Run (sLead, x.name, ps, 1, []) ((endT x).drop 1) (sWhole, x.name, ps, 1, [x.lead, x.lot, x.good]) := fun ps => by
    have a1 := tk_lead (nm := x.name) (ps := ps) (q := 1) (ns := []) (t := iCs x.lead) (by rw [hl]; omega)
    have a2 := tk_lot (nm := x.name) (ps := ps) (q := 1) (ns := [x.lead]) (t := iCs x.lot) (by rw [ho]; omega)
    have a3 := tk_good (nm := x.name) (ps := ps) (q := 1) (ns := [x.lead, x.lot]) (t := iCs x.good) (by rw [hg]; exact h3)
    rw [hl] at a1; rw [ho] at a2; rw [hg] at a3
    exact Run.cons a1 (Run.cons tk_days (Run.cons tk_semi3 (Run.cons a2 (Run.cons tk_yields (Run.one a3)))))
  refine Run.cons tk_name (Run.cons tk_colon ?_)
  unfold lnOf
  cases hp : x.parts with
  | nil => exact Run.cons tk_semi1 (he [])
  | cons p r =>
    have h := run_parts (b := b) (nm := x.name) (p :: r) [] sFirst (by simp) (.inl rfl) (fun y hy => (hx.pt y (by rw [hp]; exact hy)).2) (by have := hx.pl; rw [hp] at this; simpa using this)
    rw [List.nil_append] at h
    exact Run.app h (Run.cons tk_semi2 (he _))
end Mw.Tk
set_option maxHeartbeats 4000000
set_option Elab.async false
set_option linter.all false
set_option maxRecDepth 100000
set_option autoImplicit false
namespace Mw.Tk
open PySem PySem.Spec PyProof.Rows L2 Mw Mw.Dk
def partTxt (b : List Item) (p : Int × Int) : List Nat := (if p.2 = 1 then [] else iCs p.2 ++ [32]) ++ (ix b p.1).name
abbrev dDays : List Nat := [100, 97, 121, 115]
abbrev dYields : List Nat := [121, 105, 101, 108, 100, 115]
def lineT (b : List Item) (x : Item) : List Nat := x.name ++ 58 :: 32 :: (TL.joinL [44, 32] (x.parts.map (partTxt b)) ++ 59 :: 32 :: (iCs x.lead ++ 32 :: (dDays ++ 59 :: 32 :: (iCs x.lot ++ 32 :: (dYields ++ 32 :: iCs x.good)))))
theorem nm_let {w : List Nat} (h : Nm w) : w ≠ [] ∧ (∀ c ∈ w, c ∈ LET) ∧ w.length ≤ 12 := ⟨h.ne, fun c hc => h.lt c hc, h.len⟩
theorem noL {c : Nat} {r : List Nat} (h : c ∉ LET) : NoHd LET (c :: r) := .inr ⟨c, r, rfl, decide_eq_false h⟩
theorem noD {c : Nat} {r : List Nat} (h : c ∉ DIG) : NoHd DIG (c :: r) := .inr ⟨c, r, rfl, decide_eq_false h⟩
theorem tok_part {b : List Item} {p : Int × Int} {c : Nat} {r : List Nat} (hn : Nm (ix b p.1).name) (hp : 1 ≤ p.2 ∧ p.2 ≤ 20) (hc : c ∉ LET) : tokF (partTxt b p ++ c :: r) = ptoks b p ++ tokF (c :: r) := by
  obtain ⟨n1, n2, n3⟩ := nm_let hn
  unfold partTxt ptoks
  by_cases h : p.2 = 1
  · rw [if_pos h, if_pos h, List.nil_append, List.nil_append, tokF_name n1 n2 n3 (noL hc)]; rfl
  · rw [if_neg h, if_neg h]
    obtain ⟨d1, d2, d3, _⟩ := iCs_small (i := p.2) (by omega)
    rw [List.append_assoc, List.append_assoc, List.singleton_append, tokF_num d3 d2 d1 (noD (by decide)), tokF_sp, tokF_name n1 n2 n3 (noL hc)]; rfl
theorem tok_parts {b : List Item} {r : List Nat} : ∀ pl : List (Int × Int), (∀ p ∈ pl, Nm (ix b p.1).name ∧ 1 ≤ p.2 ∧ p.2 ≤ 20) → tokF (TL.joinL [44, 32] (pl.map (partTxt b)) ++ 59 :: r) = jtoks (pl.map (ptoks b)) ++ tokF (59 :: r)
  | [], _ => rfl
  | [p], h => tok_part (h p (by simp)).1 (h p (by simp)).2 (by decide)
  | p :: q :: t, h => by
    have hp := h p (by simp)
    show tokF ((partTxt b p ++ ([44, 32] ++ TL.joinL [44, 32] ((q :: t).map (partTxt b)))) ++ 59 :: r) = (ptoks b p ++ (kSign, [44]) :: jtoks ((q :: t).map (ptoks b))) ++ tokF (59 :: r)
    rw [List.append_assoc, List.append_assoc]
    show tokF (partTxt b p ++ 44 :: 32 :: (TL.joinL [44, 32] ((q :: t).map (partTxt b)) ++ 59 :: r)) = _
    rw [tok_part hp.1 hp.2 (by decide), tokF_sign (by omega), tokF_sp, tok_parts (q :: t) fun y hy => h y (List.mem_cons_of_mem _ hy)]
    rw [List.append_assoc]; rfl
theorem tok_line {b : List Item} {x : Item} {n : Nat} (hx : ItOk n x) (hnm : Nm x.name) (hp : ∀ p ∈ x.parts, Nm (ix b p.1).name) : tokF (lineT b x) = toksOf b x := by
  obtain ⟨n1, n2, n3⟩ := nm_let hnm
  obtain ⟨l1, l2, l3, _⟩ := iCs_small (i := x.lead) (by have := hx.lead; omega)
  obtain ⟨o1, o2, o3, _⟩ := iCs_small (i := x.lot) (by have := hx.lot; omega)
  obtain ⟨g1, g2, g3, _⟩ := iCs_small (i := x.good) (by have := hx.good; have := hx.lot; omega)
  unfold lineT toksOf endT
  rw [tokF_name n1 n2 n3 (noL (by decide)), tokF_sign (by omega), tokF_sp, tok_parts x.parts fun p h => ⟨hp p h, (hx.pt p h).2⟩, tokF_sign (by omega), tokF_sp,
    tokF_num l3 l2 l1 (noD (by decide)), tokF_sp, tokF_name (w := dDays) (by decide) (by decide) (by decide) (noL (by decide)), tokF_sign (by omega), tokF_sp,
    tokF_num o3 o2 o1 (noD (by decide)), tokF_sp, tokF_name (w := dYields) (by decide) (by decide) (by decide) (noL (by decide)), tokF_sp]
  have := tokF_num (r := []) g3 g2 g1 (.inl rfl)
  rw [List.append_nil, tokF_nil] at this
  rw [this]
theorem let_lt {c : Nat} (h : c ∈ LET) : 97 ≤ c ∧ c ≤ 122 := by simp at h; omega
theorem mem_joinL {a : List Nat} {c : Nat} : ∀ {ss : List (List Nat)}, c ∈ TL.joinL a ss → c ∈ a ∨ ∃ s ∈ ss, c ∈ s
  | [], h => by cases h
  | [p], h => .inr ⟨p, by simp, h⟩
  | p :: q :: r, h => by
    have h : c ∈ p ++ (a ++ TL.joinL a (q :: r)) := h
    rcases List.mem_append.mp h with h | h
    · exact .inr ⟨p, by simp, h⟩
    · rcases List.mem_append.mp h with h | h
      · exact .inl h
      · rcases mem_joinL h with h | ⟨s, hs, h⟩
        · exact .inl h
        · exact .inr ⟨s, List.mem_cons_of_mem _ hs, h⟩
structure ItNm (b : List Item) (x : Item) : Prop where
  nm : Nm x.name
  pn : ∀ p ∈ x.parts, Nm (ix b p.1).name ∧ (ix b p.1).name ∈ b.map Item.name
theorem it_nm {b : List Item} (hb : BillOk b) (hm : BillNm b) {x : Item} (hx : x ∈ b) : ItNm b x := ⟨hm.nm x hx, fun p hp => by
  have hr := ((hb.it x hx).pt p hp).1
  have hmem : ix b p.1 ∈ b := ix_mem hr
  exact ⟨hm.nm _ hmem, List.mem_map_of_mem (f := Item.name) hmem⟩⟩
theorem part_len {b : List Item} {p : Int × Int} (hn : Nm (ix b p.1).name) (hp : 1 ≤ p.2 ∧ p.2 ≤ 20) : (partTxt b p).length ≤ 15 := by
  have h1 := hn.len
  have h2 := (iCs_small (i := p.2) (by omega)).2.2.2.1
  unfold partTxt
  split
  · rw [List.length_append]; simp; omega
  · rw [List.length_append, List.length_append, List.length_singleton]; omega
theorem sum_le {α : Type} (f : α → Nat) (m : Nat) : ∀ xs : List α, (∀ x ∈ xs, f x ≤ m) → (xs.map f).sum ≤ xs.length * m
  | [], _ => by simp
  | x :: xs, h => by
    have := sum_le f m xs fun y hy => h y (List.mem_cons_of_mem _ hy)
    have := h x (by simp)
    rw [List.map_cons, List.sum_cons, List.length_cons, Nat.add_mul, Nat.one_mul]; omega
theorem parts_len {b : List Item} {x : Item} {n : Nat} (hx : ItOk n x) (hn : ItNm b x) : ((x.parts.map (partTxt b)).map (·.length)).sum + (x.parts.map (partTxt b)).length * 2 ≤ 68 := by
  have h1 := sum_le (fun p => (partTxt b p).length) 15 x.parts fun p hp => part_len (hn.pn p hp).1 (hx.pt p hp).2
  have h2 := hx.pl
  rw [List.map_map, List.length_map]
  have h1 : ((x.parts.map ((fun s : List Nat => s.length) ∘ partTxt b)).sum) ≤ x.parts.length * 15 := h1
  omega
theorem line_len {b : List Item} {x : Item} {n : Nat} (hx : ItOk n x) (hn : ItNm b x) : (lineT b x).length ≤ 200 := by
  have h1 := parts_len hx hn
  have h2 := joinL_len [44, 32] (x.parts.map (partTxt b))
  have h3 := hn.nm.len
  have h4 := (iCs_small (i := x.lead) (by have := hx.lead; omega)).2.2.2.1
  have h5 := (iCs_small (i := x.lot) (by have := hx.lot; omega)).2.2.2.1
  have h6 := (iCs_small (i := x.good) (by have := hx.good; have := hx.lot; omega)).2.2.2.1
  have h2 : (TL.joinL [44, 32] (x.parts.map (partTxt b))).length ≤ ((x.parts.map (partTxt b)).map (·.length)).sum + (x.parts.map (partTxt b)).length * 2 := h2
  unfold lineT
  simp only [List.length_append, List.length_cons, List.length_nil]
  omega
theorem nm_c {w : List Nat} (h : Nm w) {c : Nat} (hc : c ∈ w) : 97 ≤ c ∧ c ≤ 122 := let_lt (h.lt c hc)
theorem ic_c {i : Int} (h : 0 ≤ i ∧ i ≤ 50) {c : Nat} (hc : c ∈ iCs i) : 48 ≤ c ∧ c ≤ 57 := dig_mem ((iCs_small h).2.1 c hc)
theorem part_c {b : List Item} {p : Int × Int} (hn : Nm (ix b p.1).name) (hp : 1 ≤ p.2 ∧ p.2 ≤ 20) {c : Nat} (hc : c ∈ partTxt b p) : 32 ≤ c ∧ c ≤ 122 := by
  unfold partTxt at hc
  rcases List.mem_append.mp hc with hc | hc
  · split at hc
    · cases hc
    · rcases List.mem_append.mp hc with hc | hc
      · have := ic_c (by omega) hc; omega
      · rw [List.mem_singleton.mp hc]; omega
  · have := nm_c hn hc; omega
theorem line_c {b : List Item} {x : Item} {n : Nat} (hx : ItOk n x) (hn : ItNm b x) {c : Nat} (hc : c ∈ lineT b x) : 32 ≤ c ∧ c ≤ 122 := by
  unfold lineT at hc
  simp only [List.mem_append, List.mem_cons, List.not_mem_nil, or_false] at hc
  have hl := hx.lead
  have ho := hx.lot
  have hg := hx.good
  rcases hc with h | h | h | h | h | h | h | h | h | h | h | h | h | h | h
  · have := nm_c hn.nm h; omega
  · omega
  · omega
  · rcases mem_joinL h with h | ⟨s, hs, h⟩
    · simp at h; omega
    · obtain ⟨p, hp, rfl⟩ := List.mem_map.mp hs
      exact part_c (hn.pn p hp).1 (hx.pt p hp).2 h
  · omega
  · omega
  · have := ic_c (i := x.lead) (by omega) h; omega
  · omega
  · omega
  · omega
  · omega
  · have := ic_c (i := x.lot) (by omega) h; omega
  · omega
  · omega
  · rcases h with h | h
    · omega
    · have := ic_c (i := x.good) (by omega) h; omega
end Mw.Tk
set_option maxHeartbeats 4000000
set_option Elab.async false
set_option linter.all false
set_option maxRecDepth 100000
set_option autoImplicit false
namespace Mw.Tk
open PySem PySem.Spec PyProof.Rows L2 Mw Mw.Dk
theorem mem_jtoks {b : List Item} {t : Tok'} : ∀ {pl : List (Int × Int)}, t ∈ jtoks (pl.map (ptoks b)) → t = (kSign, [44]) ∨ ∃ p ∈ pl, t ∈ ptoks b p
  | [], h => by cases h
  | [p], h => .inr ⟨p, by simp, h⟩
  | p :: q :: r, h => by
    have h : t ∈ ptoks b p ++ (kSign, [44]) :: jtoks ((q :: r).map (ptoks b)) := h
    rcases List.mem_append.mp h with h | h
    · exact .inr ⟨p, by simp, h⟩
    · rcases List.mem_cons.mp h with h | h
      · exact .inl h
      · rcases mem_jtoks h with h | ⟨s, hs, h⟩
        · exact .inl h
        · exact .inr ⟨s, List.mem_cons_of_mem _ hs, h⟩
theorem mem_ptoks {b : List Item} {p : Int × Int} {t : Tok'} (h : t ∈ ptoks b p) : (t = (kNum, iCs p.2) ∧ p.2 ≠ 1) ∨ t = (kName, (ix b p.1).name) := by
  unfold ptoks at h
  rcases List.mem_append.mp h with h | h
  · split at h
    · cases h
    · next hn => exact .inl ⟨List.mem_singleton.mp h, hn⟩
  · exact .inr (List.mem_singleton.mp h)
theorem cp_k : Cp kName ∧ Cp kNum ∧ Cp kSign ∧ Cp [44] ∧ Cp [58] ∧ Cp [59] ∧ Cp dDays ∧ Cp dYields := by
  refine ⟨?_, ?_, ?_, ?_, ?_, ?_, ?_, ?_⟩ <;> (intro c hc; simp at hc; omega)
theorem cp_nm {w : List Nat} (h : Nm w) : Cp w := fun c hc => by have := nm_c h hc; omega
theorem cp_ic {i : Int} (h : 0 ≤ i ∧ i ≤ 50) : Cp (iCs i) := fun c hc => by have := ic_c h hc; omega
theorem ts_item {b : List Item} {x : Item} {n : Nat} (hx : ItOk n x) (hn : ItNm b x) : TsOk (toksOf b x) := by
  obtain ⟨k1, k2, k3, k4, k5, k6, k7, k8⟩ := cp_k
  have hl := hx.lead
  have ho := hx.lot
  have hg := hx.good
  intro t ht
  unfold toksOf endT at ht
  rcases List.mem_cons.mp ht with rfl | ht
  · exact ⟨k1, cp_nm hn.nm⟩
  · rcases List.mem_cons.mp ht with rfl | ht
    · exact ⟨k3, k5⟩
    · rcases List.mem_append.mp ht with ht | ht
      · rcases mem_jtoks ht with rfl | ⟨p, hp, ht⟩
        · exact ⟨k3, k4⟩
        · rcases mem_ptoks ht with ⟨rfl, _⟩ | rfl
          · exact ⟨k2, cp_ic (by have := (hx.pt p hp).2; omega)⟩
          · exact ⟨k1, cp_nm (hn.pn p hp).1⟩
      · simp only [List.mem_cons, List.not_mem_nil, or_false] at ht
        rcases ht with rfl | rfl | rfl | rfl | rfl | rfl | rfl
        · exact ⟨k3, k6⟩
        · exact ⟨k2, cp_ic (by omega)⟩
        · exact ⟨k1, k7⟩
        · exact ⟨k3, k6⟩
        · exact ⟨k2, cp_ic (by omega)⟩
        · exact ⟨k1, k8⟩
        · exact ⟨k2, cp_ic (by omega)⟩
theorem idxOf_mid {α : Type} [BEq α] [LawfulBEq α] (y : α) (v : List α) : ∀ u : List α, (u ++ y :: v).idxOf y ≤ u.length
  | [] => by rw [List.nil_append, List.idxOf_cons]; simp
  | x :: u => by
    have := idxOf_mid y v u
    rw [List.cons_append, List.idxOf_cons, List.length_cons]
    cases x == y with
    | true => exact Nat.zero_le _
    | false => show (u ++ y :: v).idxOf y + 1 ≤ _; omega
theorem bad_item {b : List Item} {x : Item} {n : Nat} (hx : ItOk n x) (hn : ItNm b x) {j : Int} (hj : 2 ≤ j ∧ j < ((toksOf b x).idxOf sgn : Nat)) : badAt (b.map Item.name) (toksOf b x) j = false := by
  have hle : (toksOf b x).idxOf sgn ≤ 2 + (jtoks (x.parts.map (ptoks b))).length := by
    have := idxOf_mid sgn ((endT x).drop 1) ((kName, x.name) :: (kSign, [58]) :: jtoks (x.parts.map (ptoks b)))
    rw [List.length_cons, List.length_cons] at this
    have e : ((kName, x.name) :: (kSign, [58]) :: jtoks (x.parts.map (ptoks b))) ++ sgn :: (endT x).drop 1 = toksOf b x := rfl
    rw [e] at this; omega
  obtain ⟨m, rfl⟩ := Int.eq_ofNat_of_zero_le (show 0 ≤ j by omega)
  obtain ⟨m, rfl⟩ : ∃ k, m = k + 2 := ⟨m - 2, by omega⟩
  have hm : m < (jtoks (x.parts.map (ptoks b))).length := by omega
  have hix : ix (toksOf b x) ((m + 2 : Nat) : Int) = (jtoks (x.parts.map (ptoks b)))[m] := by
    refine ix_get ?_
    show (jtoks (x.parts.map (ptoks b)) ++ endT x)[m]? = _
    rw [List.getElem?_append_left hm, List.getElem?_eq_getElem hm]
  have hmem : (jtoks (x.parts.map (ptoks b)))[m] ∈ jtoks (x.parts.map (ptoks b)) := List.getElem_mem hm
  unfold badAt
  rw [hix]
  rcases mem_jtoks hmem with e | ⟨p, hp, e⟩
  · rw [e]; rfl
  · rcases mem_ptoks e with ⟨e, _⟩ | e
    · rw [e]; rfl
    · rw [e, decide_eq_true (show (kName, (ix b p.1).name).2 ∈ b.map Item.name from (hn.pn p hp).2)]; simp
def entOf (b : List Item) (p : Int × Item) : Ent := (p.1, toksOf b p.2, lnOf b p.2)
theorem read_item {b : List Item} {x : Item} {n : Nat} (hx : ItOk n x) (i : Int) : readL i (toksOf b x) = .inr (lnOf b x) := by
  unfold readL
  rw [(run_item hx).all 0]
  dsimp only
  rw [if_pos (show (lnOf b x).1 = sWhole from rfl)]
theorem reads_go {b : List Item} (hb : BillOk b) (hm : BillNm b) : ∀ (xs : List Item) (k : Nat) (f : List Ent), (∀ x ∈ xs, x ∈ b) → ((f.map (·.2.2.2.1)) ++ xs.map Item.name).Nodup → f.length + xs.length ≤ 8 →
    readLs (enumL k (xs.map (lineT b) ++ [[]])) f = .inr (f ++ (enumL k xs).map (entOf b))
  | [], k, f, _, _, _ => by
    have e : readLs (enumL k (([] : List Item).map (lineT b) ++ [[]])) f = readLs [] f := by
      show readLs [((k : Int), [])] f = _
      unfold readLs; rw [if_pos tokF_nil]; rfl
    rw [e]
    show Sum.inr f = Sum.inr (f ++ [])
    rw [List.append_nil]
  | x :: xs, k, f, hx, hnd, hl => by
    have hit := hb.it x (hx x (by simp))
    have hin := it_nm hb hm (hx x (by simp))
    rw [List.length_cons] at hl
    show (if tokF (lineT b x) = [] then readLs (enumL (k + 1) (xs.map (lineT b) ++ [[]])) f else match readL (k : Int) (tokF (lineT b x)) with
      | .inl e => Sum.inl e
      | .inr s => if s.2.1 ∈ f.map (fun e : Ent => e.2.2.2.1) then Sum.inl (fault wDouble 0 k) else if f.length = 8 then Sum.inl (fault wMany 0 k) else readLs (enumL (k + 1) (xs.map (lineT b) ++ [[]])) (f ++ [((k : Int), tokF (lineT b x), s)]) : Exc ⊕ List Ent) = _
    rw [tok_line hit hin.nm (fun p hp => (hin.pn p hp).1), if_neg (by unfold toksOf; simp), read_item hit]
    dsimp only
    rw [List.map_cons] at hnd
    have hnot : (lnOf b x).2.1 ∉ f.map (·.2.2.2.1) := fun z => (List.nodup_append.mp hnd).2.2 _ z x.name (by simp) rfl
    rw [if_neg hnot, if_neg (by omega), reads_go hb hm xs (k + 1) (f ++ [((k : Int), toksOf b x, lnOf b x)]) (fun y hy => hx y (List.mem_cons_of_mem _ hy)) ?_ (by rw [List.length_append, List.length_singleton]; omega)]
    · rw [List.append_assoc]; rfl
    · rw [List.map_append, List.append_assoc]; exact hnd
def textOf (b : List Item) : List Nat := TL.joinL [10] (b.map (lineT b) ++ [[]])
theorem lines_ok {b : List Item} (hb : BillOk b) (hm : BillNm b) : ∀ p ∈ b.map (lineT b) ++ [[]], 10 ∉ p ∧ p.length ≤ 200 := fun p hp => by
  rcases List.mem_append.mp hp with hp | hp
  · obtain ⟨x, hx, rfl⟩ := List.mem_map.mp hp
    have hit := hb.it x hx
    have hin := it_nm hb hm hx
    exact ⟨fun z => by have := line_c hit hin z; omega, line_len hit hin⟩
  · rw [List.mem_singleton.mp hp]; exact ⟨by simp, by simp⟩
theorem text_len {b : List Item} (hb : BillOk b) (hm : BillNm b) : (textOf b).length ≤ 2000 := by
  have h1 := joinL_len [10] (b.map (lineT b) ++ [[]])
  have h2 := sum_le (fun s : List Nat => s.length) 200 (b.map (lineT b) ++ [[]]) fun p hp => (lines_ok hb hm p hp).2
  have h3 : (b.map (lineT b) ++ [[]]).length ≤ 9 := by simp; exact hb.len
  have h1 : (textOf b).length ≤ ((b.map (lineT b) ++ [[]]).map (fun s : List Nat => s.length)).sum + (b.map (lineT b) ++ [[]]).length * 1 := h1
  have h2 : ((b.map (lineT b) ++ [[]]).map (fun s : List Nat => s.length)).sum ≤ (b.map (lineT b) ++ [[]]).length * 200 := h2
  omega
theorem reads_text {b : List Item} (hb : BillOk b) (hm : BillNm b) : Reads (textOf b) b ((enumL 0 b).map (entOf b)) := by
  have hne : b.map (lineT b) ++ [[]] ≠ [] := by simp
  have hp := lines_ok hb hm
  have h8 := hb.len
  have hnames : (((enumL 0 b).map (entOf b)).map (·.2.2.2.1)) = b.map Item.name := by
    rw [List.map_map]
    have := congrArg (List.map Item.name) (enum_snd b 0)
    rw [List.map_map] at this
    exact this
  refine ⟨txOk_of hne (fun p h => (hp p h).1) (by have := text_len hb hm; unfold textOf at this; omega) (by simp; omega) (fun p h => by have := (hp p h).2; omega), ?_, ?_, fun e he => ?_, fun e he j hj => ?_⟩
  · unfold textOf
    rw [splitL_of hne fun p h => (hp p h).1]
    have := reads_go hb hm b 0 [] (fun _ h => h) (by simpa using hm.nd) (by simpa using h8)
    rw [List.nil_append] at this
    exact this
  · rw [List.map_map]
    have := congrArg (List.map (lnOf b)) (enum_snd b 0)
    rw [List.map_map] at this
    exact this
  · obtain ⟨⟨i, x⟩, hx, rfl⟩ := List.mem_map.mp he
    obtain ⟨k, hk⟩ := List.mem_iff_getElem?.mp hx
    obtain ⟨y, hy, e⟩ := enumL_get hk
    cases e
    have hxb := List.mem_of_getElem? hy
    have hit := hb.it _ hxb
    have hin := it_nm hb hm hxb
    have hk' := (List.getElem?_eq_some_iff.mp hy).1
    have hlen : (toksOf b x).length ≤ 200 := by
      rw [← tok_line hit hin.nm (fun p hp => (hin.pn p hp).1)]
      have := (tokF_ok _ (lineT b x) (Nat.le_refl _)).2
      have := line_len hit hin
      omega
    refine ⟨?_, ts_item hit hin, ?_, ?_⟩
    · show sgn ∈ toksOf b x
      unfold toksOf endT
      exact List.mem_cons_of_mem _ (List.mem_cons_of_mem _ (List.mem_append_right _ (by simp)))
    · show (toksOf b x).length ≤ _
      omega
    · show 0 ≤ ((0 + k : Nat) : Int) ∧ ((0 + k : Nat) : Int) ≤ 1000000
      omega
  · rw [hnames]
    obtain ⟨⟨i, x⟩, hx, rfl⟩ := List.mem_map.mp he
    obtain ⟨k, hk⟩ := List.mem_iff_getElem?.mp hx
    obtain ⟨y, hy, e⟩ := enumL_get hk
    cases e
    have hxb := List.mem_of_getElem? hy
    exact bad_item (hb.it _ hxb) (it_nm hb hm hxb) hj
theorem gd_read_text {b : List Item} (hb : BillOk b) (hm : BillNm b) : Gd (t_read_bill (textOf b)) (· = .inr b) := gd_read_ok (reads_text hb hm) hb hm
end Mw.Tk
set_option maxHeartbeats 2000000
set_option Elab.async false
set_option linter.all false
set_option maxRecDepth 100000
set_option autoImplicit false
namespace Mw
open PySem PySem.Spec PyProof.Rows L2 Mw
noncomputable section
def b_law_k05 : MS := (mSeq (mKl [0] (mSet 1 (mLst [(mCall f__law_digits [.v (fz 0), .v (mC (.int 0)), .v (mC (.int 63))]), (mC (.int 0))])))
    (mSeq (mKl [1] (mSet 2 (mCall f__law_bill [.b 1, .v (mC (.int 8))])))
    (mSeq (mSet 3 (mCall f_write_bill [.v (fz 2)]))
    (mRt (mAndV (mCall f__law_same [.v (fz 3), .v (mCall f__law_text [.v (fz 2)])]) (mAndV (mCall f__law_same [.v (mCall f_read_bill [.v (fz 3)]), .v (fz 2)]) (mCall f__law_same [.v (mCall f_write_bill [.v (mTup [])]), .v (mC (.str []))])))))))
def f_law_k05 : Fn := hide (mkFn 4 b_law_k05)
theorem f_law_k05_eq : f_law_k05 = mkFn 4 b_law_k05 := hide_eq _
end
noncomputable def t_law_k05 (script' : (List Int)) : T (Exc ⊕ Bool) :=
  T.bind (T.bind (t__law_digits script' 0 63) fun p1 => T.ret (p1, (0 : Int))) fun s2 =>
    T.bind (T.bind (t__law_bill s2 8) fun p3 => T.ret p3.1) fun s4 =>
    T.bind (T.bind (t_write_bill s4) fun p5 => T.ret p5) fun s6 =>
    T.bind (t__law_text s4) fun p7 => T.req (Same (D.str s6) (D.str p7)) (T.bx (if true = true then t_read_bill s6 else T.ret (.inr default)) (fun xe => T.ret (Sum.inl xe)) fun p10 => T.req (true = true → Same (e_VItem p10) (e_VItem s4)) (T.req (true = true → (true = true → (t_write_bill ([] : (List Item))).ok)) (T.req (true = true → (true = true → Same (D.str ((t_write_bill ([] : (List Item))).val)) (D.str []))) (T.ret (Sum.inr (true && (true && true)))))))
abbrev q_law_k05 (script' : (List Int)) : (Exc ⊕ Bool) → Prop := fun z => f_law_k05 [.shr (e_Li script')] = ((fun (z : (Exc ⊕ Bool)) => match z with | Sum.inl x => FRes.ex x [.un] | Sum.inr v => FRes.ok (.d (D.bl v)) [.un] : (Exc ⊕ Bool) → FRes)) z
theorem v_law_k05 (script' : (List Int)) : J (t_law_k05 script') (q_law_k05 script') :=
  v_fn (as := [.shr (e_Li script')]) (R' := fun (z : (Exc ⊕ Bool)) => match z with | Sum.inl x => FRes.ex x [.un] | Sum.inr v => FRes.ok (.d (D.bl v)) [.un]) f_law_k05_eq rfl (js_seq (E := fun (s2 : ((List Int) × Int)) => [.un, .mu false (.lst [.d (e_Li s2.1), .d (D.int s2.2)]), .un, .un]) (js_bind (v__law_digits script' 0 63) fun p1 hp1 => (js_st (E := fun (s2 : ((List Int) × Int)) => [.un, .mu false (.lst [.d (e_Li s2.1), .d (D.int s2.2)]), .un, .un]) (st_kl (st_set (e_cast (r' := .own (.lst [.d (e_Li ((p1, (0 : Int)).1)), .d (D.int ((p1, (0 : Int)).2))])) (e_lst (e_args (e_call (e_argBv (e_fz_s rfl) (e_argBv e_C (e_argBv e_C e_argB0 rfl) rfl) rfl) (e_lendr rfl (e_lendr rfl (e_lendr rfl e_lend0))) hp1 rfl) (e_args e_C e_args0 rfl) rfl) (e_sts (R.st_own _) (e_sts rfl e_sts0)) (Nat.le_of_ble_eq_true rfl)) rfl) rfl rfl) (kl_eq rfl)) rfl)) fun s2 =>
    (js_seq (E := fun (s4 : (List Item)) => [.un, .un, .shr (e_VItem s4), .un]) (js_bind (v__law_bill s2 8) fun p3 hp3 => (js_st (E := fun (s4 : (List Item)) => [.un, .un, .shr (e_VItem s4), .un]) (st_kl (st_set (e_call (e_argBb (i := 1) rfl (e_argBv e_C e_argB0 rfl)) (e_lendm (i := 1) rfl (e_lendr rfl e_lend0)) hp3 rfl) rfl rfl) (kl_eq rfl)) rfl)) fun s4 =>
    (js_seq (E := fun (s6 : (List Nat)) => [.un, .un, .shr (e_VItem s4), .shr (D.str s6)]) (js_bind (v_write_bill s4) fun p5 hp5 => (js_st (E := fun (s6 : (List Nat)) => [.un, .un, .shr (e_VItem s4), .shr (D.str s6)]) (st_set (e_call (e_argBv (e_fz_s rfl) e_argB0 rfl) (e_lendr rfl e_lend0) hp5 rfl) rfl rfl) rfl)) fun s6 =>
    (js_bind (v__law_text s4) fun p7 hp7 => (js_req fun hc8 => (js_bxg (g := true = true) (v_read_bill s6) (fun xe g9 hxe => (js_x (sx_rt (e_andVX2 (e_call (e_argBv (e_fz_s rfl) (e_argBv (e_call (e_argBv (e_fz_s rfl) e_argB0 rfl) (e_lendr rfl e_lend0) hp7 rfl) e_argB0 rfl) rfl) (e_lendr rfl (e_lendr rfl e_lend0)) (same_ok hc8) rfl) g9 (e_andVX1 (e_callXa (e_argBX1 (e_callX (e_argBv (e_fz_s rfl) e_argB0 rfl) (e_lendr rfl e_lend0) hxe rfl)))))) rfl)) fun p10 hp10 => (js_req fun hc11 => (js_req fun hc13 => (js_req fun hc14 => (js_rt (e_andV (e_call (e_argBv (e_fz_s rfl) (e_argBv (e_call (e_argBv (e_fz_s rfl) e_argB0 rfl) (e_lendr rfl e_lend0) hp7 rfl) e_argB0 rfl) rfl) (e_lendr rfl (e_lendr rfl e_lend0)) (same_ok hc8) rfl) fun g9 => (e_andV (e_call (e_argBv (e_call (e_argBv (e_fz_s rfl) e_argB0 rfl) (e_lendr rfl e_lend0) (hp10 g9) rfl) (e_argBv (e_fz_s rfl) e_argB0 rfl) rfl) (e_lendr rfl (e_lendr rfl e_lend0)) (same_ok (hc11 g9)) rfl) fun g12 => (e_call (e_argBv (e_call (e_argBv (e_cast (r' := .d (e_VItem ([] : (List Item)))) (e_cast (r' := .d (e_T0 ())) (e_tup e_args0 e_sts0 (Nat.le_of_ble_eq_true rfl)) rfl) rfl) e_argB0 rfl) (e_lendr rfl e_lend0) ((v_write_bill ([] : (List Item))) (hc13 g9 g12)) rfl) (e_argBv e_C e_argB0 rfl) rfl) (e_lendr rfl (e_lendr rfl e_lend0)) (same_ok (hc14 g9 g12)) rfl))) rfl))))))))))
end Mw
set_option maxHeartbeats 4000000
set_option Elab.async false
set_option linter.all false
set_option maxRecDepth 100000
set_option autoImplicit false
namespace Mw.K05
open PySem PySem.Spec PyProof.Rows L2 Mw Mw.Dk Mw.Tk
theorem joinL_nil : ∀ ls : List (List Nat), TL.joinL [10] (ls ++ [[]]) = (ls.map fun l => l ++ [10]).flatten
  | [] => rfl
  | [l] => by show l ++ ([10] ++ TL.joinL [10] [[]]) = (l ++ [10]) ++ []; simp [TL.joinL]
  | l :: m :: ls => by
    have ih := joinL_nil (m :: ls)
    show l ++ ([10] ++ TL.joinL [10] ((m :: ls) ++ [[]])) = _
    rw [ih, List.map_cons (a := l), List.flatten_cons, List.append_assoc]
theorem joinL_flat : ∀ ss : List (List Nat), TL.joinL [] ss = ss.flatten
  | [] => rfl
  | [p] => by show p = p ++ []; rw [List.append_nil]
  | p :: q :: r => by
    show p ++ ([] ++ TL.joinL [] (q :: r)) = _
    rw [joinL_flat (q :: r), List.nil_append]; rfl
theorem text_flat (b : List Item) : textOf b = ((b.map (lineT b)).map fun l => l ++ [10]).flatten := joinL_nil _
theorem ix2 {u : List Nat} (q : Int) : ix [u, []] (b2i (decide (q = 1))) = if q = 1 then [] else u := by
  by_cases h : q = 1
  · rw [if_pos h, decide_eq_true h]; rfl
  · rw [if_neg h, decide_eq_false h]; rfl
section
variable {b : List Item} (hb : BillOk b) (hm : BillNm b)
include hb hm
theorem gd_part' {p : Int × Int} {x : Item} (hx : x ∈ b) (hp : p ∈ x.parts) : Gd (t__write_part b p) (· = partTxt b p) := by
  have hr := (hb.it x hx).pt p hp
  have hn := ((it_nm hb hm hx).pn p hp).1
  have hl := hn.len
  have hi := (iCs_small (i := p.2) (by omega)).2.2.2.1
  refine gd_eq (gd_req hr.1 (gd_ret rfl)) ?_
  unfold partTxt
  by_cases h : p.2 = 1
  · rw [if_pos (decide_eq_true h), if_pos h]; exact gd_ret rfl
  · rw [if_neg (fun z => h (of_decide_eq_true z)), if_neg h]
    exact gd_req (by omega) (gd_req (by simp; omega) (gd_req (by simp; omega) (gd_ret rfl)))
theorem gd_write : Gd (t_write_bill b) (· = textOf b) := by
  have h8 := hb.len
  refine gd_let (gd_eq (a := (b.map (lineT b)).map fun l => l ++ [10]) (gd_forL' (fun i s => s = ((b.take i).map (lineT b)).map fun l => l ++ [10]) rfl (fun i x s hx hs => ?_) fun s hs => by rw [hs, List.take_length]) ?_)
  · have hxm := List.mem_of_getElem? hx
    have hi := (List.getElem?_eq_some_iff.mp hx).1
    have hit := hb.it x hxm
    have hin := it_nm hb hm hxm
    have hpl := hit.pl
    have key := lcP_good (c := fun _ : Int × Int => T.ret true) (f := fun x4 : Int × Int => T.bind (t__write_part b x4) fun p6 => T.ret p6) x.parts (fun _ _ => trivial) (fun p hp _ => (gd_bind (gd_part' hb hm hxm hp) fun v hv => gd_ret (Q := fun _ => True) trivial).1)
    have hval : (T.lcP (fun _ : Int × Int => T.ret true) (fun x4 : Int × Int => T.bind (t__write_part b x4) fun p6 => T.ret p6) x.parts).val = x.parts.map (partTxt b) := by
      rw [key.1]
      refine Eq.trans (congrArg (List.map _) (List.filter_eq_self.mpr fun _ _ => rfl)) ?_
      exact List.map_congr_left fun p hp => (gd_part' hb hm hxm hp).2
    have pl := parts_len hit hin
    have hj := joinL_len [44, 32] (x.parts.map (partTxt b))
    have hj : (TL.joinL [44, 32] (x.parts.map (partTxt b))).length ≤ ((x.parts.map (partTxt b)).map (·.length)).sum + (x.parts.map (partTxt b)).length * 2 := hj
    have h3 := hin.nm.len
    have h4 := (iCs_small (i := x.lead) (by have := hit.lead; omega)).2.2.2.1
    have h5 := (iCs_small (i := x.lot) (by have := hit.lot; omega)).2.2.2.1
    have h6 := (iCs_small (i := x.good) (by have := hit.good; have := hit.lot; omega)).2.2.2.1
    have g1 := hit.lead
    have g2 := hit.lot
    have g3 := hit.good
    have hsl : s.length ≤ 8 := by rw [hs, List.length_map, List.length_map, List.length_take]; omega
    refine gd_eq (a := TL.joinL [44, 32] (x.parts.map (partTxt b))) (gd_req (by omega) (gd_req key.2 (gd_req (by rw [hval]; exact joinOk_of (by show _ + _ * 2 ≤ _; omega)) (gd_ret (by rw [hval, joinL_eq]))))) ?_
    generalize hJ : TL.joinL [44, 32] (x.parts.map (partTxt b)) = J at hj
    refine gd_eq (a := s ++ [lineT b x ++ [10]]) ?_ (gd_ret (by rw [take_snoc hx, List.map_append, List.map_append, ← hs]; rfl))
    have hL : lineT b x ++ [10] = ((((((((((([] : List Nat) ++ x.name) ++ [58, 32]) ++ J) ++ [59, 32]) ++ (iCs x.lead)) ++ [32, 100, 97, 121, 115, 59, 32]) ++ (iCs x.lot)) ++ [32, 121, 105, 101, 108, 100, 115, 32]) ++ (iCs x.good)) ++ [10]) := by
      unfold lineT; rw [hJ]; simp [List.append_assoc]
    rw [hL]
    generalize iCs x.lead = A at *
    generalize iCs x.lot = B at *
    generalize iCs x.good = C at *
    iterate 13 refine gd_req (by first | omega | (simp only [List.length_append, List.length_cons, List.length_nil]; omega)) ?_
    exact gd_req (by omega) (gd_ret rfl)
  · have hne : ((b.map (lineT b)).map fun l => l ++ [10]).length = b.length := by simp
    have h2 := Mw.Tk.sum_le (fun s : List Nat => s.length) 201 ((b.map (lineT b)).map fun l => l ++ [10]) fun l hl => by
      obtain ⟨m, hm', rfl⟩ := List.mem_map.mp hl
      have := (lines_ok hb hm m (List.mem_append_left _ hm')).2
      rw [List.length_append, List.length_singleton]; omega
    refine gd_req (joinOk_of (a := []) ?_) (gd_ret (by rw [joinL_eq, joinL_flat, text_flat]))
    have h2 : (((b.map (lineT b)).map fun l => l ++ [10]).map (·.length)).sum ≤ ((b.map (lineT b)).map fun l => l ++ [10]).length * 201 := h2
    rw [List.length_nil, Nat.mul_zero]
    omega
theorem gd_text : Gd (t__law_text b) (· = textOf b) := by
  have h8 := hb.len
  rw [text_flat]
  refine gd_let (gd_eq (a := ((b.map (lineT b)).map fun l => l ++ [10]).flatten) (gd_forL' (fun i s => s = (((b.take i).map (lineT b)).map fun l => l ++ [10]).flatten ∧ s.length ≤ i * 201) ⟨rfl, by simp⟩ (fun i x s hx hs => ?_) fun s hs => by rw [hs.1, List.take_length]) (gd_ret rfl))
  obtain ⟨hs, hsl⟩ := hs
  have hxm := List.mem_of_getElem? hx
  have hi := (List.getElem?_eq_some_iff.mp hx).1
  have hit := hb.it x hxm
  have hin := it_nm hb hm hxm
  have hpl := hit.pl
  refine gd_let (gd_eq (a := x.parts.map (partTxt b)) (gd_forL' (fun k l => l = (x.parts.take k).map (partTxt b)) rfl (fun k p l hp hl => ?_) fun l hl => by rw [hl, List.take_length]) ?_)
  · have hpm := List.mem_of_getElem? hp
    have hr := hit.pt p hpm
    have hn := (hin.pn p hpm).1
    have hl12 := hn.len
    have hic := (iCs_small (i := p.2) (by omega)).2.2.2.1
    have hk := (List.getElem?_eq_some_iff.mp hp).1
    refine gd_eq (a := l ++ [partTxt b p]) (gd_req (by omega) (gd_req (by simp; omega) (gd_req ?_ (gd_req hr.1 (gd_req ?_ (gd_req (by rw [hl, List.length_map, List.length_take]; omega) (gd_ret (by rw [ix2]; rfl)))))))) (gd_ret (by rw [take_snoc hp, List.map_append, ← hl]; rfl))
    · have : b2i (decide (p.2 = 1)) = 0 ∨ b2i (decide (p.2 = 1)) = 1 := by
        by_cases h : p.2 = 1
        · rw [decide_eq_true h]; exact .inr rfl
        · rw [decide_eq_false h]; exact .inl rfl
      show 0 ≤ _ ∧ _ < ((2 : Nat) : Int)
      omega
    · rw [ix2]
      split
      · simp; omega
      · simp; omega
  · have pl := parts_len hit hin
    have hj := joinL_len [44, 32] (x.parts.map (partTxt b))
    have hj : (TL.joinL [44, 32] (x.parts.map (partTxt b))).length ≤ ((x.parts.map (partTxt b)).map (·.length)).sum + (x.parts.map (partTxt b)).length * 2 := hj
    have h3 := hin.nm.len
    have h4 := (iCs_small (i := x.lead) (by have := hit.lead; omega)).2.2.2.1
    have h5 := (iCs_small (i := x.lot) (by have := hit.lot; omega)).2.2.2.1
    have h6 := (iCs_small (i := x.good) (by have := hit.good; have := hit.lot; omega)).2.2.2.1
    have g1 := hit.lead
    have g2 := hit.lot
    have g3 := hit.good
    have hll := line_len hit hin
    have hi9 : i * 201 ≤ 1608 := by have : i ≤ 8 := by omega
                                    omega
    refine gd_eq (a := s ++ (lineT b x ++ [10])) ?_ (gd_ret ⟨by rw [take_snoc hx, List.map_append, List.map_append, List.flatten_append, ← hs]; simp, by simp only [List.length_append, List.length_singleton]; omega⟩)
    have hjo : joinOk [44, 32] (x.parts.map (partTxt b)) = true := joinOk_of (by show _ + _ * 2 ≤ _; omega)
    have hL : s ++ (lineT b x ++ [10]) = ((((((((((s ++ x.name) ++ [58, 32]) ++ TL.joinL [44, 32] (x.parts.map (partTxt b))) ++ [59, 32]) ++ (iCs x.lead)) ++ [32, 100, 97, 121, 115, 59, 32]) ++ (iCs x.lot)) ++ [32, 121, 105, 101, 108, 100, 115, 32]) ++ (iCs x.good)) ++ [10]) := by
      unfold lineT; simp [List.append_assoc]
    rw [hL, joinL_eq]
    generalize TL.joinL [44, 32] (x.parts.map (partTxt b)) = J at *
    generalize iCs x.lead = A at *
    generalize iCs x.lot = B at *
    generalize iCs x.good = C at *
    iterate 14 refine gd_req (by first | exact hjo | omega | (simp only [List.length_append, List.length_cons, List.length_nil]; omega)) ?_
    exact gd_ret rfl
end
theorem okn_T2 (n : Nat) (p : Int × Int) : D.ok (n + 2) (e_T2ii p) := ⟨by simp, fun y hy => by
  rcases List.mem_cons.mp hy with rfl | hy
  · trivial
  · rw [List.mem_singleton.mp hy]; trivial⟩
theorem okn_bill {b : List Item} (hb : BillOk b) (n : Nat) : D.ok (n + 5) (e_VItem b) := ⟨by rw [List.length_map]; have := hb.len; omega, fun y hy => by
  obtain ⟨x, hx, rfl⟩ := List.mem_map.mp hy
  have hit := hb.it x hx
  refine ⟨by simp, fun z hz => ?_⟩
  rcases List.mem_cons.mp hz with rfl | hz
  · trivial
  · rcases List.mem_cons.mp hz with rfl | hz
    · refine ⟨by rw [List.length_map]; have := hit.pl; omega, fun w hw => ?_⟩
      obtain ⟨p, hp, rfl⟩ := List.mem_map.mp hw
      exact okn_T2 n p
    · simp only [List.mem_cons, List.not_mem_nil, or_false] at hz
      rcases hz with rfl | rfl | rfl <;> trivial⟩
theorem gd_write_nil : Gd (t_write_bill ([] : List Item)) (· = []) := by
  refine gd_let (gd_eq (a := []) (gd_forL' (fun i s => s = []) rfl (fun i x s hx _ => by cases hx) fun s hs => hs) ?_)
  exact gd_req (joinOk_of (by decide)) (gd_ret (by rw [joinL_eq]; rfl))
theorem gd_law (ns : List Int) : Gd (t_law_k05 ns) (· = .inr true) := by
  refine gd_bind (P := fun s => BxOk s) (gd_bind (gd_digits ns (by omega) (by omega)) fun p _ => gd_ret (show (0 : Int) ≤ 0 from Int.le_refl _)) fun s hs => ?_
  refine gd_bind (P := fun b => BillOk b ∧ BillNm b) (gd_bind (gd_bill hs (by omega)) fun p hp => gd_ret ⟨hp.1.1, hp.1.2.1⟩) fun b hb => ?_
  obtain ⟨hb, hm⟩ := hb
  refine gd_eq (gd_eq (gd_write hb hm) (gd_ret rfl)) (gd_eq (gd_text hb hm) (gd_req ⟨rfl, trivial⟩ ?_))
  have gn := gd_write_nil
  refine gd_bx (P := fun r => r = .inr b) (by rw [if_pos rfl]; exact gd_read_text hb hm) (fun e he => by cases he) fun v hv => ?_
  cases hv
  exact gd_req (fun _ => ⟨rfl, okn_bill hb 55⟩) (gd_req (fun _ _ => gn.1) (gd_req (fun _ _ => by rw [gn.2]; exact ⟨rfl, trivial⟩) (gd_ret rfl)))
theorem law_true (ns : List Int) (h : ns.length ≤ 63) : ∃ as, f_law_k05 [.shr (.lst (ns.map D.int))] = .ok (.d (.bl true)) as := by
  have g := gd_law ns
  have v := v_law_k05 ns g.1
  rw [g.2] at v
  exact ⟨_, v⟩
end Mw.K05
set_option maxHeartbeats 2000000
set_option Elab.async false
set_option linter.all false
set_option maxRecDepth 100000
set_option autoImplicit false
namespace Mw.K05
open PySem PySem.Spec PyProof.Rows L2 Mw
def topS (i : Nat) : Stmt := PySem.Challenge.pw_latestart_k05_written_bills.main.body.getD i (.Pass ⟨0, 0, 0, 0⟩)
structure Tp (P : Program) (K : PySem.W.Frag) (mg : Str → Option Value) : Prop where
  n_bool : mg "bool" = none
  n_enumerate : mg "enumerate" = none
  n_int : mg "int" = none
  n_isinstance : mg "isinstance" = none
  n_len : mg "len" = none
  n_list : mg "list" = none
  n_range : mg "range" = none
  n_str : mg "str" = none
  n_super : mg "super" = none
  n_tuple : mg "tuple" = none
  c_DIGITS : Cst K mg "DIGITS" (.str [48, 49, 50, 51, 52, 53, 54, 55, 56, 57])
  c_LETTERS : Cst K mg "LETTERS" (.str [97, 98, 99, 100, 101, 102, 103, 104, 105, 106, 107, 108, 109, 110, 111, 112, 113, 114, 115, 116, 117, 118, 119, 120, 121, 122])
  c_MOST_ITEMS : Cst K mg "MOST_ITEMS" (.int 8)
  c_MOST_LEAD : Cst K mg "MOST_LEAD" (.int 10)
  c_MOST_LOT : Cst K mg "MOST_LOT" (.int 50)
  c_MOST_PARTS : Cst K mg "MOST_PARTS" (.int 4)
  c_MOST_QUANTITY : Cst K mg "MOST_QUANTITY" (.int 20)
  c_NAME_LENGTH : Cst K mg "NAME_LENGTH" (.int 12)
  c_NUMBER_LENGTH : Cst K mg "NUMBER_LENGTH" (.int 4)
  c_SIGNS : Cst K mg "SIGNS" (.str [58, 44, 59])
  o_Line : ClO K mg "Line" ["state", "name", "parts", "quantity", "numbers"]
  x_BillFault : ClsX P K mg "BillFault" ["line", "place", "word"]
abbrev i_BillFault : Stmt := (clsBody (topS 5)).getD 0 (.Pass ⟨0, 0, 0, 0⟩)
theorem sh_BillFault : XShape PySem.Challenge.pw_latestart_k05_written_bills i_BillFault ["line", "place", "word"] ((["line", "place", "word"] : List Str).zip (["line", "place", "word"] : List Str)) :=
  ⟨⟨_, _, _, _, _, _, _, _, _, _, rfl, MParts.all (.cons (.nm (by decide +kernel)) (.cons (.txt (by decide +kernel)) (.cons (.nm (by decide +kernel)) .nil))), by decide, (.cons (.cons (.cons .nil))), fun _ => rfl, fun _ => ⟨_, rfl⟩⟩, rfl, rfl, rfl, by decide +kernel, rfl, rfl, rfl, by decide +kernel, by decide +kernel, rfl, by decide +kernel, by decide, by decide, fun _ _ _ _ _ _ _ _ us hl => match us, hl with | [_, _, _, _], _ => rfl, by decide +kernel⟩
abbrev s__law_cell : Stmt := topS 28
theorem sc__law_cell : FnScope ["_law_script", "_law_k"] ["_law_script", "_law_k"] (defScope s__law_cell) := ⟨rfl, rfl, rfl, by decide +kernel, rfl, by decide +kernel, by decide +kernel⟩
abbrev s__law_digits : Stmt := topS 29
theorem sc__law_digits : FnScope ["_law_script", "_law_first", "_law_last", "_law_digits_here", "_law_k", "_law_cell_here", "_law_turn", "_law_seed"] ["_law_script", "_law_first", "_law_last"] (defScope s__law_digits) := ⟨rfl, rfl, rfl, by decide +kernel, rfl, by decide +kernel, by decide +kernel⟩
abbrev s__law_draw : Stmt := topS 30
theorem sc__law_draw : FnScope ["_law_box", "_law_many", "_law_at"] ["_law_box", "_law_many"] (defScope s__law_draw) := ⟨rfl, rfl, rfl, by decide +kernel, rfl, by decide +kernel, by decide +kernel⟩
abbrev s__law_run : Stmt := topS 32
theorem sc__law_run : FnScope ["_law_box", "_law_many", "_law_chars", "_law_text_here", "_law_k"] ["_law_box", "_law_many", "_law_chars"] (defScope s__law_run) := ⟨rfl, rfl, rfl, by decide +kernel, rfl, by decide +kernel, by decide +kernel⟩
abbrev s__law_name : Stmt := topS 33
theorem sc__law_name : FnScope ["_law_box", "_law_taken", "_law_name_here", "_law_turn"] ["_law_box", "_law_taken"] (defScope s__law_name) := ⟨rfl, rfl, rfl, by decide +kernel, rfl, by decide +kernel, by decide +kernel⟩
abbrev s__law_bill : Stmt := topS 34
theorem sc__law_bill : FnScope ["_law_box", "_law_most", "_law_count", "_law_names", "_law_k", "_law_ranks", "_law_at", "_law_items", "_law_below", "_law_parts", "_law_turn", "_law_quantity", "_law_lead", "_law_lot"] ["_law_box", "_law_most"] (defScope s__law_bill) := ⟨rfl, rfl, rfl, by decide +kernel, rfl, by decide +kernel, by decide +kernel⟩
abbrev s__write_part : Stmt := topS 1
theorem sc__write_part : FnScope ["bill", "part", "name"] ["bill", "part"] (defScope s__write_part) := ⟨rfl, rfl, rfl, by decide +kernel, rfl, by decide +kernel, by decide +kernel⟩
abbrev s_write_bill : Stmt := topS 2
theorem sc_write_bill : FnScope ["bill", "lines", "name", "parts", "lead", "lot", "good", "uses", "part"] ["bill"] (defScope s_write_bill) := ⟨rfl, rfl, rfl, by decide +kernel, rfl, by decide +kernel, by decide +kernel⟩
abbrev s__law_text : Stmt := topS 35
theorem sc__law_text : FnScope ["_law_bill_here", "_law_text_here", "_law_name_here", "_law_parts", "_law_lead", "_law_lot", "_law_good", "_law_uses", "_law_part"] ["_law_bill_here"] (defScope s__law_text) := ⟨rfl, rfl, rfl, by decide +kernel, rfl, by decide +kernel, by decide +kernel⟩
abbrev s__law_same : Stmt := topS 31
theorem sc__law_same : FnScope ["_law_actual", "_law_due", "_law_k"] ["_law_actual", "_law_due"] (defScope s__law_same) := ⟨rfl, rfl, rfl, by decide +kernel, rfl, by decide +kernel, by decide +kernel⟩
abbrev s__run_end : Stmt := topS 12
theorem sc__run_end : FnScope ["line", "at", "chars", "end"] ["line", "at", "chars"] (defScope s__run_end) := ⟨rfl, rfl, rfl, by decide +kernel, rfl, by decide +kernel, by decide +kernel⟩
abbrev s__token : Stmt := topS 13
theorem sc__token : FnScope ["line", "at", "char", "run"] ["line", "at"] (defScope s__token) := ⟨rfl, rfl, rfl, by decide +kernel, rfl, by decide +kernel, by decide +kernel⟩
abbrev s_tokens : Stmt := topS 14
theorem sc_tokens : FnScope ["line", "found", "at", "token"] ["line"] (defScope s_tokens) := ⟨rfl, rfl, rfl, by decide +kernel, rfl, by decide +kernel, by decide +kernel⟩
abbrev s_Line___init__ : Stmt := (clsBody (topS 21)).getD 0 (.Pass ⟨0, 0, 0, 0⟩)
theorem sc_Line___init__ : FnScope ["self"] ["self"] (defScope s_Line___init__) := ⟨rfl, rfl, rfl, by decide +kernel, rfl, by decide +kernel, by decide +kernel⟩
abbrev s_Line__head : Stmt := (clsBody (topS 21)).getD 1 (.Pass ⟨0, 0, 0, 0⟩)
theorem sc_Line__head : FnScope ["self", "kind", "text"] ["self", "kind", "text"] (defScope s_Line__head) := ⟨rfl, rfl, rfl, by decide +kernel, rfl, by decide +kernel, by decide +kernel⟩
abbrev s_Line__part : Stmt := (clsBody (topS 21)).getD 2 (.Pass ⟨0, 0, 0, 0⟩)
theorem sc_Line__part : FnScope ["self", "kind", "text"] ["self", "kind", "text"] (defScope s_Line__part) := ⟨rfl, rfl, rfl, by decide +kernel, rfl, by decide +kernel, by decide +kernel⟩
abbrev s_Line__number : Stmt := (clsBody (topS 21)).getD 3 (.Pass ⟨0, 0, 0, 0⟩)
theorem sc_Line__number : FnScope ["self", "text", "least", "most", "state"] ["self", "text", "least", "most", "state"] (defScope s_Line__number) := ⟨rfl, rfl, rfl, by decide +kernel, rfl, by decide +kernel, by decide +kernel⟩
abbrev s_Line__tail : Stmt := (clsBody (topS 21)).getD 4 (.Pass ⟨0, 0, 0, 0⟩)
theorem sc_Line__tail : FnScope ["self", "kind", "text"] ["self", "kind", "text"] (defScope s_Line__tail) := ⟨rfl, rfl, rfl, by decide +kernel, rfl, by decide +kernel, by decide +kernel⟩
abbrev s_Line_take : Stmt := (clsBody (topS 21)).getD 5 (.Pass ⟨0, 0, 0, 0⟩)
theorem sc_Line_take : FnScope ["self", "token", "state"] ["self", "token"] (defScope s_Line_take) := ⟨rfl, rfl, rfl, by decide +kernel, rfl, by decide +kernel, by decide +kernel⟩
abbrev s__read_line : Stmt := topS 22
theorem sc__read_line : FnScope ["line", "parts", "read", "place", "token"] ["line", "parts"] (defScope s__read_line) := ⟨rfl, rfl, rfl, by decide +kernel, rfl, by decide +kernel, by decide +kernel⟩
abbrev s__read_lines : Stmt := topS 23
theorem sc__read_lines : FnScope ["text", "found", "known", "number", "line", "parts", "read"] ["text"] (defScope s__read_lines) := ⟨rfl, rfl, rfl, by decide +kernel, rfl, by decide +kernel, by decide +kernel⟩
abbrev s__check_names : Stmt := topS 24
theorem sc__check_names : FnScope ["lines", "known", "number", "parts", "read", "end", "place"] ["lines"] (defScope s__check_names) := ⟨rfl, rfl, rfl, by decide +kernel, rfl, by decide +kernel, by decide +kernel⟩
abbrev s__reaches : Stmt := topS 25
theorem sc__reaches : FnScope ["items", "first", "reached", "at", "part"] ["items", "first"] (defScope s__reaches) := ⟨rfl, rfl, rfl, by decide +kernel, rfl, by decide +kernel, by decide +kernel⟩
abbrev s_read_bill : Stmt := topS 26
theorem sc_read_bill : FnScope ["text", "lines", "places", "at", "entry", "items", "number", "parts", "read", "uses", "name", "quantity"] ["text"] (defScope s_read_bill) := ⟨rfl, rfl, rfl, by decide +kernel, rfl, by decide +kernel, by decide +kernel⟩
abbrev s_law : Stmt := topS 36
theorem sc_law : FnScope ["_law_script", "_law_box", "_law_bill_here", "_law_text_here"] ["_law_script"] (defScope s_law) := ⟨rfl, rfl, rfl, by decide +kernel, rfl, by decide +kernel, by decide +kernel⟩
section
variable {P : Program} {w : World} {K : PySem.W.Frag} {mg : Str → Option Value} {base : Heap}
theorem ok__law_cell (T : Tp P K mg) {fa : Addr} {fd : FuncData} (F : L2.Fun K "_law_cell" "_law_cell" s__law_cell fa fd) : FnOk P w K mg base (L2N.CX P w) (0 + 1) fa fd ["_law_script", "_law_k"] (spF (.m K mg) 2 f__law_cell) := by
  rw [f__law_cell_eq]; exact fn_ok F sc__law_cell fun cdv A outer s H E hr =>
    (ss_cons (ss_if (st_cmp cb_lt (s_nm (i := 1) rfl (.inl rfl)) (s_len rfl T.n_len (s_nm (i := 0) rfl (.inl rfl))) (nomark _)) (ss_one (ss_ret (s_at (s_nm (i := 0) rfl (.inl rfl)) (s_nm (i := 1) rfl (.inl rfl))))) ss_nil)
    (ss_one (ss_ret s_int)))
theorem ok__law_digits (T : Tp P K mg) (H__law_cell : Kp P w K mg base 1 "_law_cell" 2 f__law_cell) {fa : Addr} {fd : FuncData} (F : L2.Fun K "_law_digits" "_law_digits" s__law_digits fa fd) : FnOk P w K mg base (L2N.CX P w) (1 + 1) fa fd ["_law_script", "_law_first", "_law_last"] (spF (.m K mg) 3 f__law_digits) := by
  rw [f__law_digits_eq]; exact fn_ok F sc__law_digits fun cdv A outer s H E hr =>
    (ss_cons (ss_set (i := 3) sc__law_digits.nd rfl (.inl rfl) (s_lst a_nil))
    (ss_cons (ss_kl (ss_for (passes_of rfl) rfl (si_rg2 rfl T.n_range (s_nm (i := 1) rfl (.inl rfl)) (s_nm (i := 2) rfl (.inl rfl))) (sg_nm (i := 4) sc__law_digits.nd rfl (.inl rfl)) (ss_cons (ss_set (i := 5) sc__law_digits.nd rfl (.inl rfl) (s_call (H__law_cell.mono (by decide)) hr rfl (L2N.takes_of rfl rfl rfl rfl) (b_v (s_fz (i := 0) rfl (.inl rfl)) (b_v (s_fz (i := 4) rfl (.inl rfl)) b_nil))))
    (ss_cons (ss_if (st_cmp cb_lt (s_nm (i := 5) rfl (.inl rfl)) s_int (nomark _)) (ss_one (ss_set (i := 5) sc__law_digits.nd rfl (.inl rfl) (s_sub s_int (s_mul s_int (s_nm (i := 5) rfl (.inl rfl)))))) ss_nil)
    (ss_one (ss_if (st_cmp cb_ge (s_nm (i := 5) rfl (.inl rfl)) (s_pow s_int s_int) (nomark _)) (ss_one (ss_kl (ss_for (passes_of rfl) rfl (si_rg1 rfl T.n_range s_int) (sg_nm (i := 6) sc__law_digits.nd rfl (.inl rfl)) (ss_one (ss_if (st_cmp cb_gt (s_nm (i := 5) rfl (.inl rfl)) s_int (nomark _)) (ss_cons (ss_kl (ss_expr (s_append (i := 3) rfl (.inl rfl) (s_mod (s_int1 rfl T.n_int (s_nm (i := 5) rfl (.inl rfl))) s_int))))
    (ss_one (ss_set (i := 5) sc__law_digits.nd rfl (.inl rfl) (s_div (s_nm (i := 5) rfl (.inl rfl)) s_int)))) (sss_kl ss_nil)))))) (ss_cons (ss_kl (ss_set (i := 7) sc__law_digits.nd rfl (.inl rfl) (s_mod (s_int1 rfl T.n_int (s_add (s_add (s_mul (s_nm (i := 5) rfl (.inl rfl)) s_int) (s_mul (s_nm (i := 4) rfl (.inl rfl)) s_int)) s_int)) s_int)))
    (ss_one (ss_kl (ss_for (passes_of rfl) rfl (si_rg1 rfl T.n_range s_int) (sg_nm (i := 6) sc__law_digits.nd rfl (.inl rfl)) (ss_cons (ss_kl (ss_set (i := 7) sc__law_digits.nd rfl (.inl rfl) (s_mod (s_int1 rfl T.n_int (s_add (s_add (s_mul (s_nm (i := 7) rfl (.inl rfl)) s_int) (s_mul s_int (s_nm (i := 6) rfl (.inl rfl)))) s_int)) s_int)))
    (ss_one (ss_expr (s_append (i := 3) rfl (.inl rfl) (s_mod (s_int1 rfl T.n_int (s_div (s_nm (i := 7) rfl (.inl rfl)) s_int)) s_int)))))))))))))))
    (ss_one (ss_ret (s_mv (i := 3) rfl (.inl rfl))))))
theorem ok__law_draw (T : Tp P K mg) {fa : Addr} {fd : FuncData} (F : L2.Fun K "_law_draw" "_law_draw" s__law_draw fa fd) : FnOk P w K mg base (L2N.CX P w) (0 + 1) fa fd ["_law_box", "_law_many"] (spF (.m K mg) 2 f__law_draw) := by
  rw [f__law_draw_eq]; exact fn_ok F sc__law_draw fun cdv A outer s H E hr =>
    (ss_cons (ss_set (i := 2) sc__law_draw.nd rfl (.inl rfl) (s_at (s_nm (i := 0) rfl (.inl rfl)) s_int))
    (ss_cons (ss_put (i := 0) rfl (.inl rfl) (s_add (s_nm (i := 2) rfl (.inl rfl)) s_int) s_int)
    (ss_cons (ss_if (st_cmp cb_lt (s_nm (i := 2) rfl (.inl rfl)) (s_len rfl T.n_len (s_at (s_nm (i := 0) rfl (.inl rfl)) s_int)) (nomark _)) (ss_one (ss_ret (s_mod (s_int1 rfl T.n_int (s_at (s_at (s_nm (i := 0) rfl (.inl rfl)) s_int) (s_nm (i := 2) rfl (.inl rfl)))) (s_nm (i := 1) rfl (.inl rfl))))) ss_nil)
    (ss_one (ss_ret s_int)))))
theorem ok__law_run (T : Tp P K mg) (H__law_draw : Kp P w K mg base 1 "_law_draw" 2 f__law_draw) {fa : Addr} {fd : FuncData} (F : L2.Fun K "_law_run" "_law_run" s__law_run fa fd) : FnOk P w K mg base (L2N.CX P w) (1 + 1) fa fd ["_law_box", "_law_many", "_law_chars"] (spF (.m K mg) 3 f__law_run) := by
  rw [f__law_run_eq]; exact fn_ok F sc__law_run fun cdv A outer s H E hr =>
    (ss_cons (ss_set (i := 3) sc__law_run.nd rfl (.inl rfl) (s_str (by decide +kernel) (by decide +kernel)))
    (ss_cons (ss_kl (ss_for (passes_of rfl) rfl (si_rg1 rfl T.n_range (s_nm (i := 1) rfl (.inl rfl))) (sg_nm (i := 4) sc__law_run.nd rfl (.inl rfl)) (ss_one (ss_kl (ss_set (i := 3) sc__law_run.nd rfl (.inl rfl) (s_add (s_nm (i := 3) rfl (.inl rfl)) (s_at (s_fz (i := 2) rfl (.inl rfl)) (s_call (H__law_draw.mono (by decide)) hr rfl (L2N.takes_of rfl rfl rfl rfl) (b_b (i := 0) rfl (.inl rfl) (b_v (s_len rfl T.n_len (s_nm (i := 2) rfl (.inl rfl))) b_nil))))))))))
    (ss_one (ss_ret (s_mv (i := 3) rfl (.inl rfl))))))
theorem ok__law_name (T : Tp P K mg) (H__law_draw : Kp P w K mg base 1 "_law_draw" 2 f__law_draw) (H__law_run : Kp P w K mg base 2 "_law_run" 3 f__law_run) {fa : Addr} {fd : FuncData} (F : L2.Fun K "_law_name" "_law_name" s__law_name fa fd) : FnOk P w K mg base (L2N.CX P w) (2 + 1) fa fd ["_law_box", "_law_taken"] (spF (.m K mg) 2 f__law_name) := by
  rw [f__law_name_eq]; exact fn_ok F sc__law_name fun cdv A outer s H E hr =>
    (ss_cons (ss_set (i := 2) sc__law_name.nd rfl (.inl rfl) (s_at (s_lst (a_cons (s_str (by decide +kernel) (by decide +kernel)) (a_cons (s_str (by decide +kernel) (by decide +kernel)) (a_cons (s_str (by decide +kernel) (by decide +kernel)) (a_cons (s_str (by decide +kernel) (by decide +kernel)) (a_cons (s_str (by decide +kernel) (by decide +kernel)) (a_cons (s_str (by decide +kernel) (by decide +kernel)) (a_cons (s_str (by decide +kernel) (by decide +kernel)) (a_cons (s_str (by decide +kernel) (by decide +kernel)) a_nil))))))))) (s_call (H__law_draw.mono (by decide)) hr rfl (L2N.takes_of rfl rfl rfl rfl) (b_b (i := 0) rfl (.inl rfl) (b_v s_int b_nil)))))
    (ss_cons (ss_if (st_cmp (cb_eq hr.units) (s_call (H__law_draw.mono (by decide)) hr rfl (L2N.takes_of rfl rfl rfl rfl) (b_b (i := 0) rfl (.inl rfl) (b_v s_int b_nil))) s_int (nomark _)) (ss_one (ss_set (i := 2) sc__law_name.nd rfl (.inl rfl) (s_call (H__law_run.mono (by decide)) hr rfl (L2N.takes_of rfl rfl rfl rfl) (b_b (i := 0) rfl (.inl rfl) (b_v (s_add s_int (s_call (H__law_draw.mono (by decide)) hr rfl (L2N.takes_of rfl rfl rfl rfl) (b_b (i := 0) rfl (.inl rfl) (b_v (s_at (s_lst (a_cons s_int (a_cons s_int a_nil))) (s_call (H__law_draw.mono (by decide)) hr rfl (L2N.takes_of rfl rfl rfl rfl) (b_b (i := 0) rfl (.inl rfl) (b_v s_int b_nil)))) b_nil)))) (b_v (s_str (by decide +kernel) (by decide +kernel)) b_nil)))))) ss_nil)
    (ss_cons (ss_for (passes_of rfl) rfl (si_rg1 rfl T.n_range s_int) (sg_nm (i := 3) sc__law_name.nd rfl (.inl rfl)) (ss_one (ss_if (st_cmp (cb_in (hu65 hr)) (s_nm (i := 2) rfl (.inl rfl)) (s_nm (i := 1) rfl (.inl rfl)) rfl) (ss_one (ss_kl (ss_set (i := 2) sc__law_name.nd rfl (.inl rfl) (s_add (s_sl01 (s_nm (i := 2) rfl (.inl rfl)) s_int) (s_at (s_str (by decide +kernel) (by decide +kernel)) (s_nm (i := 3) rfl (.inl rfl))))))) (sss_kl ss_nil))))
    (ss_one (ss_ret (s_mv (i := 2) rfl (.inl rfl)))))))
theorem ok__law_bill (T : Tp P K mg) (H__law_draw : Kp P w K mg base 1 "_law_draw" 2 f__law_draw) (H__law_name : Kp P w K mg base 3 "_law_name" 2 f__law_name) {fa : Addr} {fd : FuncData} (F : L2.Fun K "_law_bill" "_law_bill" s__law_bill fa fd) : FnOk P w K mg base (L2N.CX P w) (3 + 1) fa fd ["_law_box", "_law_most"] (spF (.m K mg) 2 f__law_bill) := by
  rw [f__law_bill_eq]; exact fn_ok F sc__law_bill fun cdv A outer s H E hr =>
    (ss_cons (ss_kl (ss_set (i := 2) sc__law_bill.nd rfl (.inl rfl) (s_add s_int (s_call (H__law_draw.mono (by decide)) hr rfl (L2N.takes_of rfl rfl rfl rfl) (b_b (i := 0) rfl (.inl rfl) (b_v (s_fz (i := 1) rfl (.inl rfl)) b_nil))))))
    (ss_cons (ss_set (i := 3) sc__law_bill.nd rfl (.inl rfl) (s_lst a_nil))
    (ss_cons (ss_for (passes_of rfl) rfl (si_rg1 rfl T.n_range (s_nm (i := 2) rfl (.inl rfl))) (sg_nm (i := 4) sc__law_bill.nd rfl (.inl rfl)) (ss_one (ss_kl (ss_expr (s_append (i := 3) rfl (.inl rfl) (s_call (H__law_name.mono (by decide)) hr rfl (L2N.takes_of rfl rfl rfl rfl) (b_b (i := 0) rfl (.inl rfl) (b_b (i := 3) rfl (.inl rfl) b_nil))))))))
    (ss_cons (ss_set (i := 5) sc__law_bill.nd rfl (.inl rfl) (s_lst a_nil))
    (ss_cons (ss_for (passes_of rfl) rfl (si_rg1 rfl T.n_range (s_nm (i := 2) rfl (.inl rfl))) (sg_nm (i := 4) sc__law_bill.nd rfl (.inl rfl)) (ss_cons (ss_set (i := 6) sc__law_bill.nd rfl (.inl rfl) (s_call (H__law_draw.mono (by decide)) hr rfl (L2N.takes_of rfl rfl rfl rfl) (b_b (i := 0) rfl (.inl rfl) (b_v (s_add (s_len rfl T.n_len (s_nm (i := 5) rfl (.inl rfl))) s_int) b_nil))))
    (ss_one (ss_kl (ss_set (i := 5) sc__law_bill.nd rfl (.inl rfl) (s_add (s_add (s_sl01 (s_nm (i := 5) rfl (.inl rfl)) (s_nm (i := 6) rfl (.inl rfl))) (s_lst (a_cons (s_fz (i := 4) rfl (.inl rfl)) a_nil))) (s_sl10 (s_nm (i := 5) rfl (.inl rfl)) (s_nm (i := 6) rfl (.inl rfl)))))))))
    (ss_cons (ss_set (i := 7) sc__law_bill.nd rfl (.inl rfl) (s_lst a_nil))
    (ss_cons (ss_kl (ss_for (passes_of rfl) rfl (si_rg1 rfl T.n_range (s_nm (i := 2) rfl (.inl rfl))) (sg_nm (i := 4) sc__law_bill.nd rfl (.inl rfl)) (ss_cons (ss_set (i := 8) sc__law_bill.nd rfl (.inl rfl) (s_sl01 (s_nm (i := 5) rfl (.inl rfl)) (s_index (s_nm (i := 5) rfl (.inl rfl)) (s_nm (i := 4) rfl (.inl rfl)))))
    (ss_cons (ss_set (i := 9) sc__law_bill.nd rfl (.inl rfl) (s_lst a_nil))
    (sss_fz (i := 8) (ss_cons (ss_kl (ss_for (passes_of rfl) rfl (si_rg1 rfl T.n_range (s_call (H__law_draw.mono (by decide)) hr rfl (L2N.takes_of rfl rfl rfl rfl) (b_b (i := 0) rfl (.inl rfl) (b_v s_int b_nil)))) (sg_nm (i := 10) sc__law_bill.nd rfl (.inl rfl)) (ss_one (ss_if (st_cmp cb_gt (s_len rfl T.n_len (s_nm (i := 8) rfl (.inl rfl))) s_int (nomark _)) (ss_cons (ss_kl (ss_set (i := 11) sc__law_bill.nd rfl (.inl rfl) (s_add s_int (s_call (H__law_draw.mono (by decide)) hr rfl (L2N.takes_of rfl rfl rfl rfl) (b_b (i := 0) rfl (.inl rfl) (b_v s_int b_nil))))))
    (ss_cons (ss_if (st_cmp (cb_eq hr.units) (s_call (H__law_draw.mono (by decide)) hr rfl (L2N.takes_of rfl rfl rfl rfl) (b_b (i := 0) rfl (.inl rfl) (b_v s_int b_nil))) s_int (nomark _)) (ss_one (ss_set (i := 11) sc__law_bill.nd rfl (.inl rfl) s_int)) ss_nil)
    (ss_one (ss_kl (ss_expr (s_append (i := 9) rfl (.inl rfl) (s_tup (a_cons (s_at (s_fz (i := 8) rfl (.inl rfl)) (s_call (H__law_draw.mono (by decide)) hr rfl (L2N.takes_of rfl rfl rfl rfl) (b_b (i := 0) rfl (.inl rfl) (b_v (s_len rfl T.n_len (s_nm (i := 8) rfl (.inl rfl))) b_nil)))) (a_cons (s_fz (i := 11) rfl (.inl rfl)) a_nil))))))))) (sss_kl ss_nil)))))
    (ss_cons (ss_set (i := 12) sc__law_bill.nd rfl (.inl rfl) (s_at (s_lst (a_cons (s_call (H__law_draw.mono (by decide)) hr rfl (L2N.takes_of rfl rfl rfl rfl) (b_b (i := 0) rfl (.inl rfl) (b_v s_int b_nil))) (a_cons (s_call (H__law_draw.mono (by decide)) hr rfl (L2N.takes_of rfl rfl rfl rfl) (b_b (i := 0) rfl (.inl rfl) (b_v s_int b_nil))) a_nil))) (s_div (s_call (H__law_draw.mono (by decide)) hr rfl (L2N.takes_of rfl rfl rfl rfl) (b_b (i := 0) rfl (.inl rfl) (b_v s_int b_nil))) s_int)))
    (ss_cons (ss_set (i := 13) sc__law_bill.nd rfl (.inl rfl) (s_at (s_lst (a_cons (s_add s_int (s_call (H__law_draw.mono (by decide)) hr rfl (L2N.takes_of rfl rfl rfl rfl) (b_b (i := 0) rfl (.inl rfl) (b_v s_int b_nil)))) (a_cons (s_add s_int (s_call (H__law_draw.mono (by decide)) hr rfl (L2N.takes_of rfl rfl rfl rfl) (b_b (i := 0) rfl (.inl rfl) (b_v s_int b_nil)))) a_nil))) (s_div (s_call (H__law_draw.mono (by decide)) hr rfl (L2N.takes_of rfl rfl rfl rfl) (b_b (i := 0) rfl (.inl rfl) (b_v s_int b_nil))) s_int)))
    (ss_one (ss_kl (ss_expr (s_append (i := 7) rfl (.inl rfl) (s_tup (a_cons (s_at (s_nm (i := 3) rfl (.inl rfl)) (s_nm (i := 4) rfl (.inl rfl))) (a_cons (s_tuple rfl T.n_tuple (s_nm (i := 9) rfl (.inl rfl))) (a_cons (s_fz (i := 12) rfl (.inl rfl)) (a_cons (s_fz (i := 13) rfl (.inl rfl)) (a_cons (s_add s_int (s_call (H__law_draw.mono (by decide)) hr rfl (L2N.takes_of rfl rfl rfl rfl) (b_b (i := 0) rfl (.inl rfl) (b_v (s_fz (i := 13) rfl (.inl rfl)) b_nil)))) a_nil))))))))))))))))))
    (ss_one (ss_ret (s_tuple rfl T.n_tuple (s_nm (i := 7) rfl (.inl rfl))))))))))))
theorem ok__write_part (T : Tp P K mg) {fa : Addr} {fd : FuncData} (F : L2.Fun K "_write_part" "_write_part" s__write_part fa fd) : FnOk P w K mg base (L2N.CX P w) (0 + 1) fa fd ["bill", "part"] (spF (.m K mg) 2 f__write_part) := by
  rw [f__write_part_eq]; exact fn_ok F sc__write_part fun cdv A outer s H E hr =>
    (ss_cons (ss_kl (ss_set (i := 2) sc__write_part.nd rfl (.inl rfl) (s_at (s_at (s_nm (i := 0) rfl (.inl rfl)) (s_at (s_nm (i := 1) rfl (.inl rfl)) s_int)) s_int)))
    (ss_cons (ss_if (st_cmp (cb_eq hr.units) (s_at (s_nm (i := 1) rfl (.inl rfl)) s_int) s_int (nomark _)) (ss_one (ss_ret (s_mv (i := 2) rfl (.inl rfl)))) ss_nil)
    (ss_one (ss_ret (s_add (s_add (s_strI rfl T.n_str (s_at (s_nm (i := 1) rfl (.inl rfl)) s_int)) (s_str (by decide +kernel) (by decide +kernel))) (s_nm (i := 2) rfl (.inl rfl)))))))
theorem ok_write_bill (T : Tp P K mg) (H__write_part : Kp P w K mg base 1 "_write_part" 2 f__write_part) {fa : Addr} {fd : FuncData} (F : L2.Fun K "write_bill" "write_bill" s_write_bill fa fd) : FnOk P w K mg base (L2N.CX P w) (1 + 1) fa fd ["bill"] (spF (.m K mg) 1 f_write_bill) := by
  rw [f_write_bill_eq]; exact fn_ok F sc_write_bill fun cdv A outer s H E hr =>
    (ss_cons (ss_set (i := 1) sc_write_bill.nd rfl (.inl rfl) (s_lst a_nil))
    (ss_cons (ss_kl (ss_for (passes_of rfl) rfl (si_seq (s_fz (i := 0) rfl (.inr (.inl rfl)))) (sg_tup rfl (sgs_cons (sg_nm (i := 2) sc_write_bill.nd rfl (.inl rfl)) (sgs_cons (sg_nm (i := 3) sc_write_bill.nd rfl (.inl rfl)) (sgs_cons (sg_nm (i := 4) sc_write_bill.nd rfl (.inl rfl)) (sgs_cons (sg_nm (i := 5) sc_write_bill.nd rfl (.inl rfl)) (sgs_cons (sg_nm (i := 6) sc_write_bill.nd rfl (.inl rfl)) sgs_nil)))))) (ss_cons (ss_kl (ss_set (i := 7) sc_write_bill.nd rfl (.inl rfl) (s_join (s_str (by decide +kernel) (by decide +kernel)) (s_lc (own := [("part", 8)]) rfl sc_write_bill.nd (blkOk_by (N := ["bill", "lines", "name", "parts", "lead", "lot", "good", "uses", "part"]) (sc := (defScope s_write_bill)) (own := [("part", 8)]) (by decide +kernel)) (si_seq (s_fz (i := 3) rfl (.inl rfl))) (fun _ _ _ _ _ => (sg_nm (i := 8) sc_write_bill.nd rfl (.inl rfl))) (fun _ _ _ _ _ => sf_nil) (fun _ _ _ _ _ => (s_call (H__write_part.mono (by decide)) hr rfl tk0 (b_v (s_fz (i := 0) rfl (.inr (.inl rfl))) (b_v (s_fz (i := 8) rfl (.inl rfl)) b_nil))))))))
    (ss_one (ss_kl (ss_expr (s_append (i := 1) rfl (.inl rfl) (s_fs (sj_cons (s_fmt (s_nm (i := 2) rfl (.inl rfl))) (sj_cons (s_str (by decide +kernel) (by decide +kernel)) (sj_cons (s_fmt (s_nm (i := 7) rfl (.inl rfl))) (sj_cons (s_str (by decide +kernel) (by decide +kernel)) (sj_cons (s_fmt (s_nm (i := 4) rfl (.inl rfl))) (sj_cons (s_str (by decide +kernel) (by decide +kernel)) (sj_cons (s_fmt (s_nm (i := 5) rfl (.inl rfl))) (sj_cons (s_str (by decide +kernel) (by decide +kernel)) (sj_cons (s_fmt (s_nm (i := 6) rfl (.inl rfl))) (sj_cons (s_str (by decide +kernel) (by decide +kernel)) sj_nil))))))))))))))))))
    (ss_one (ss_ret (s_join (s_str (by decide +kernel) (by decide +kernel)) (s_nm (i := 1) rfl (.inl rfl)))))))
theorem ok__law_text (T : Tp P K mg) {fa : Addr} {fd : FuncData} (F : L2.Fun K "_law_text" "_law_text" s__law_text fa fd) : FnOk P w K mg base (L2N.CX P w) (0 + 1) fa fd ["_law_bill_here"] (spF (.m K mg) 1 f__law_text) := by
  rw [f__law_text_eq]; exact fn_ok F sc__law_text fun cdv A outer s H E hr =>
    (ss_cons (ss_set (i := 1) sc__law_text.nd rfl (.inl rfl) (s_str (by decide +kernel) (by decide +kernel)))
    (ss_cons (ss_kl (ss_for (passes_of rfl) rfl (si_seq (s_fz (i := 0) rfl (.inl rfl))) (sg_tup rfl (sgs_cons (sg_nm (i := 2) sc__law_text.nd rfl (.inl rfl)) (sgs_cons (sg_nm (i := 3) sc__law_text.nd rfl (.inl rfl)) (sgs_cons (sg_nm (i := 4) sc__law_text.nd rfl (.inl rfl)) (sgs_cons (sg_nm (i := 5) sc__law_text.nd rfl (.inl rfl)) (sgs_cons (sg_nm (i := 6) sc__law_text.nd rfl (.inl rfl)) sgs_nil)))))) (ss_cons (ss_set (i := 7) sc__law_text.nd rfl (.inl rfl) (s_lst a_nil))
    (ss_cons (ss_kl (ss_for (passes_of rfl) rfl (si_seq (s_fz (i := 3) rfl (.inl rfl))) (sg_nm (i := 8) sc__law_text.nd rfl (.inl rfl)) (ss_one (ss_kl (ss_expr (s_append (i := 7) rfl (.inl rfl) (s_add (s_at (s_lst (a_cons (s_add (s_strI rfl T.n_str (s_at (s_nm (i := 8) rfl (.inl rfl)) s_int)) (s_str (by decide +kernel) (by decide +kernel))) (a_cons (s_str (by decide +kernel) (by decide +kernel)) a_nil))) (s_int1 rfl T.n_int (s_eq hr.units (s_at (s_nm (i := 8) rfl (.inl rfl)) s_int) s_int))) (s_at (s_at (s_nm (i := 0) rfl (.inl rfl)) (s_at (s_nm (i := 8) rfl (.inl rfl)) s_int)) s_int))))))))
    (ss_one (ss_kl (ss_set (i := 1) sc__law_text.nd rfl (.inl rfl) (s_add (s_add (s_add (s_add (s_add (s_add (s_add (s_add (s_add (s_add (s_nm (i := 1) rfl (.inl rfl)) (s_nm (i := 2) rfl (.inl rfl))) (s_str (by decide +kernel) (by decide +kernel))) (s_join (s_str (by decide +kernel) (by decide +kernel)) (s_nm (i := 7) rfl (.inl rfl)))) (s_str (by decide +kernel) (by decide +kernel))) (s_strI rfl T.n_str (s_nm (i := 4) rfl (.inl rfl)))) (s_str (by decide +kernel) (by decide +kernel))) (s_strI rfl T.n_str (s_nm (i := 5) rfl (.inl rfl)))) (s_str (by decide +kernel) (by decide +kernel))) (s_strI rfl T.n_str (s_nm (i := 6) rfl (.inl rfl)))) (s_str (by decide +kernel) (by decide +kernel))))))))))
    (ss_one (ss_ret (s_mv (i := 1) rfl (.inl rfl))))))
theorem okk__law_same (T : Tp P K mg) {fa : Addr} {fd : FuncData} (F : L2.Fun K "_law_same" "_law_same" s__law_same fa fd) (bb : Binds K fd ["_law_actual", "_law_due"] []) (ga : mg "_law_same" = some (.ref fa)) : ∀ n : Nat, FnOk P w K mg base (L2N.CX P w) (0 + n) fa fd ["_law_actual", "_law_due"] (spF (.m K mg) 2 (k__law_same n))
  | 0 => fn_no
  | n + 1 =>
    have G__law_same : Kp P w K mg base (0 + n) "_law_same" 2 (k__law_same n) := ⟨_, _, _, okk__law_same T  F bb ga n, bb, ga, F.kp⟩
    fn_ok F sc__law_same fun cdv A outer s H E hr =>
    (ss_cons (ss_if (st_pw (sw_or (st_val (s_isi (T := "list") (by decide) rfl T.n_isinstance rfl T.n_list (by decide +kernel) (s_nm (i := 1) rfl (.inl rfl)))) (sw_or1 (st_val (s_isi (T := "tuple") (by decide) rfl T.n_isinstance rfl T.n_tuple (by decide +kernel) (s_nm (i := 1) rfl (.inl rfl))))))) (ss_cons (ss_if (st_pw (sw_or (st_cmp (cb_ne hr.units) (s_isi (T := "list") (by decide) rfl T.n_isinstance rfl T.n_list (by decide +kernel) (s_nm (i := 1) rfl (.inl rfl))) (s_isi (T := "list") (by decide) rfl T.n_isinstance rfl T.n_list (by decide +kernel) (s_nm (i := 0) rfl (.inl rfl))) (nomark _)) (sw_or1 (st_cmp (cb_ne hr.units) (s_isi (T := "tuple") (by decide) rfl T.n_isinstance rfl T.n_tuple (by decide +kernel) (s_nm (i := 1) rfl (.inl rfl))) (s_isi (T := "tuple") (by decide) rfl T.n_isinstance rfl T.n_tuple (by decide +kernel) (s_nm (i := 0) rfl (.inl rfl))) (nomark _))))) (ss_one (ss_ret s_bl)) ss_nil)
    (ss_cons (ss_if (st_cmp (cb_ne hr.units) (s_len rfl T.n_len (s_nm (i := 0) rfl (.inl rfl))) (s_len rfl T.n_len (s_nm (i := 1) rfl (.inl rfl))) (nomark _)) (ss_one (ss_ret s_bl)) ss_nil)
    (ss_cons (ss_for (passes_of rfl) rfl (si_rg1 rfl T.n_range (s_len rfl T.n_len (s_nm (i := 1) rfl (.inl rfl)))) (sg_nm (i := 2) sc__law_same.nd rfl (.inl rfl)) (ss_one (ss_if (st_not (st_val (s_call G__law_same hr rfl (L2N.takes_of rfl rfl rfl rfl) (b_v (s_at (s_nm (i := 0) rfl (.inl rfl)) (s_nm (i := 2) rfl (.inl rfl))) (b_v (s_at (s_nm (i := 1) rfl (.inl rfl)) (s_nm (i := 2) rfl (.inl rfl))) b_nil))))) (ss_one (ss_ret s_bl)) ss_nil)))
    (ss_one (ss_ret s_bl))))) ss_nil)
    (ss_cons (ss_if (st_cmp cb_isN (s_nm (i := 1) rfl (.inl rfl)) s_non (nomark _)) (ss_one (ss_ret (s_isN (s_nm (i := 0) rfl (.inl rfl)) s_non))) ss_nil)
    (ss_cons (ss_if (st_val (s_isi (T := "bool") (by decide) rfl T.n_isinstance rfl T.n_bool (by decide +kernel) (s_nm (i := 1) rfl (.inl rfl)))) (ss_one (ss_ret (s_and (s_isi (T := "bool") (by decide) rfl T.n_isinstance rfl T.n_bool (by decide +kernel) (s_nm (i := 0) rfl (.inl rfl))) (s_and1 (s_eq hr.units (s_nm (i := 0) rfl (.inl rfl)) (s_nm (i := 1) rfl (.inl rfl))))))) ss_nil)
    (ss_cons (ss_if (st_val (s_isi (T := "str") (by decide) rfl T.n_isinstance rfl T.n_str (by decide +kernel) (s_nm (i := 1) rfl (.inl rfl)))) (ss_one (ss_ret (s_and (s_isi (T := "str") (by decide) rfl T.n_isinstance rfl T.n_str (by decide +kernel) (s_nm (i := 0) rfl (.inl rfl))) (s_and1 (s_eq hr.units (s_nm (i := 0) rfl (.inl rfl)) (s_nm (i := 1) rfl (.inl rfl))))))) ss_nil)
    (ss_one (ss_ret (s_and (s_isi (T := "int") (by decide) rfl T.n_isinstance rfl T.n_int (by decide +kernel) (s_nm (i := 0) rfl (.inl rfl))) (s_and (s_not (s_isi (T := "bool") (by decide) rfl T.n_isinstance rfl T.n_bool (by decide +kernel) (s_nm (i := 0) rfl (.inl rfl)))) (s_and1 (s_eq hr.units (s_nm (i := 0) rfl (.inl rfl)) (s_nm (i := 1) rfl (.inl rfl))))))))))))
theorem ok__run_end (T : Tp P K mg) {fa : Addr} {fd : FuncData} (F : L2.Fun K "_run_end" "_run_end" s__run_end fa fd) : FnOk P w K mg base (L2N.CX P w) (0 + 1) fa fd ["line", "at", "chars"] (spF (.m K mg) 3 f__run_end) := by
  rw [f__run_end_eq]; exact fn_ok F sc__run_end fun cdv A outer s H E hr =>
    (ss_cons (ss_kl (ss_set (i := 3) sc__run_end.nd rfl (.inl rfl) (s_fz (i := 1) rfl (.inl rfl))))
    (ss_cons (ss_kl (ss_while (passes_of rfl) (st_pw (sw_and (st_cmp cb_lt (s_nm (i := 3) rfl (.inl rfl)) (s_len rfl T.n_len (s_nm (i := 0) rfl (.inl rfl))) (nomark _)) (sw_and1 (st_cmp (cb_in (hu65 hr)) (s_at (s_nm (i := 0) rfl (.inl rfl)) (s_nm (i := 3) rfl (.inl rfl))) (s_nm (i := 2) rfl (.inl rfl)) rfl)))) (ss_one (ss_aug (i := 3) sc__run_end.nd rfl (.inl rfl) s_int))))
    (ss_one (ss_ret (s_mv (i := 3) rfl (.inl rfl))))))
theorem ok__token (T : Tp P K mg) (H__run_end : Kp P w K mg base 1 "_run_end" 3 f__run_end) {fa : Addr} {fd : FuncData} (F : L2.Fun K "_token" "_token" s__token fa fd) : FnOk P w K mg base (L2N.CX P w) (1 + 1) fa fd ["line", "at"] (spF (.m K mg) 2 f__token) := by
  rw [f__token_eq]; exact fn_ok F sc__token fun cdv A outer s H E hr =>
    (ss_cons (ss_set (i := 2) sc__token.nd rfl (.inl rfl) (s_at (s_nm (i := 0) rfl (.inl rfl)) (s_nm (i := 1) rfl (.inl rfl))))
    (ss_cons (ss_if (st_cmp (cb_in (hu65 hr)) (s_nm (i := 2) rfl (.inl rfl)) (s_cst rfl T.c_LETTERS) rfl) (ss_cons (ss_kl (ss_set (i := 3) sc__token.nd rfl (.inl rfl) (s_sl11 (s_nm (i := 0) rfl (.inl rfl)) (s_nm (i := 1) rfl (.inl rfl)) (s_call (H__run_end.mono (by decide)) hr rfl (L2N.takes_of rfl rfl rfl rfl) (b_v (s_fz (i := 0) rfl (.inl rfl)) (b_v (s_fz (i := 1) rfl (.inl rfl)) (b_v (s_cst rfl T.c_LETTERS) b_nil)))))))
    (ss_cons (ss_if (st_cmp cb_gt (s_len rfl T.n_len (s_nm (i := 3) rfl (.inl rfl))) (s_cst rfl T.c_NAME_LENGTH) (nomark _)) (ss_one (ss_ret (s_tup (a_cons (s_str (by decide +kernel) (by decide +kernel)) (a_cons (s_fz (i := 3) rfl (.inl rfl)) a_nil))))) ss_nil)
    (ss_one (ss_ret (s_tup (a_cons (s_str (by decide +kernel) (by decide +kernel)) (a_cons (s_fz (i := 3) rfl (.inl rfl)) a_nil))))))) ss_nil)
    (ss_cons (ss_if (st_cmp (cb_in (hu65 hr)) (s_nm (i := 2) rfl (.inl rfl)) (s_cst rfl T.c_DIGITS) rfl) (ss_cons (ss_kl (ss_set (i := 3) sc__token.nd rfl (.inl rfl) (s_sl11 (s_nm (i := 0) rfl (.inl rfl)) (s_nm (i := 1) rfl (.inl rfl)) (s_call (H__run_end.mono (by decide)) hr rfl (L2N.takes_of rfl rfl rfl rfl) (b_v (s_fz (i := 0) rfl (.inl rfl)) (b_v (s_fz (i := 1) rfl (.inl rfl)) (b_v (s_cst rfl T.c_DIGITS) b_nil)))))))
    (ss_cons (ss_if (st_pw (sw_or (st_cmp cb_gt (s_len rfl T.n_len (s_nm (i := 3) rfl (.inl rfl))) (s_cst rfl T.c_NUMBER_LENGTH) (nomark _)) (sw_or1 (st_pw (sw_and (st_cmp cb_gt (s_len rfl T.n_len (s_nm (i := 3) rfl (.inl rfl))) s_int (nomark _)) (sw_and1 (st_cmp (cb_eq hr.units) (s_at (s_nm (i := 3) rfl (.inl rfl)) s_int) (s_str (by decide +kernel) (by decide +kernel)) (nomark _)))))))) (ss_one (ss_ret (s_tup (a_cons (s_str (by decide +kernel) (by decide +kernel)) (a_cons (s_fz (i := 3) rfl (.inl rfl)) a_nil))))) ss_nil)
    (ss_one (ss_ret (s_tup (a_cons (s_str (by decide +kernel) (by decide +kernel)) (a_cons (s_fz (i := 3) rfl (.inl rfl)) a_nil))))))) ss_nil)
    (ss_cons (ss_if (st_cmp (cb_in (hu65 hr)) (s_nm (i := 2) rfl (.inl rfl)) (s_cst rfl T.c_SIGNS) rfl) (ss_one (ss_ret (s_tup (a_cons (s_str (by decide +kernel) (by decide +kernel)) (a_cons (s_fz (i := 2) rfl (.inl rfl)) a_nil))))) ss_nil)
    (ss_one (ss_ret (s_tup (a_cons (s_str (by decide +kernel) (by decide +kernel)) (a_cons (s_fz (i := 2) rfl (.inl rfl)) a_nil)))))))))
theorem ok_tokens (T : Tp P K mg) (H__token : Kp P w K mg base 2 "_token" 2 f__token) {fa : Addr} {fd : FuncData} (F : L2.Fun K "tokens" "tokens" s_tokens fa fd) : FnOk P w K mg base (L2N.CX P w) (2 + 1) fa fd ["line"] (spF (.m K mg) 1 f_tokens) := by
  rw [f_tokens_eq]; exact fn_ok F sc_tokens fun cdv A outer s H E hr =>
    (ss_cons (ss_set (i := 1) sc_tokens.nd rfl (.inl rfl) (s_lst a_nil))
    (ss_cons (ss_set (i := 2) sc_tokens.nd rfl (.inl rfl) s_int)
    (ss_cons (ss_kl (ss_while (passes_of rfl) (st_cmp cb_lt (s_nm (i := 2) rfl (.inl rfl)) (s_len rfl T.n_len (s_nm (i := 0) rfl (.inl rfl))) (nomark _)) (ss_one (ss_if (st_cmp (cb_eq hr.units) (s_at (s_nm (i := 0) rfl (.inl rfl)) (s_nm (i := 2) rfl (.inl rfl))) (s_str (by decide +kernel) (by decide +kernel)) (nomark _)) (ss_one (ss_aug (i := 2) sc_tokens.nd rfl (.inl rfl) s_int)) (ss_cons (ss_set (i := 3) sc_tokens.nd rfl (.inl rfl) (s_call (H__token.mono (by decide)) hr rfl (L2N.takes_of rfl rfl rfl rfl) (b_v (s_fz (i := 0) rfl (.inl rfl)) (b_v (s_fz (i := 2) rfl (.inl rfl)) b_nil))))
    (ss_cons (ss_expr (s_append (i := 1) rfl (.inl rfl) (s_fz (i := 3) rfl (.inl rfl))))
    (ss_one (ss_kl (ss_aug (i := 2) sc_tokens.nd rfl (.inl rfl) (s_len rfl T.n_len (s_at (s_nm (i := 3) rfl (.inl rfl)) s_int)))))))))))
    (ss_one (ss_ret (s_mv (i := 1) rfl (.inl rfl)))))))
theorem ok_Line___init__ (T : Tp P K mg) {fa : Addr} {fd : FuncData} (F : L2.Fun K "__init__" "Line.__init__" s_Line___init__ fa fd) : FnOk P w K mg base (L2N.CX P w) (0 + 1) fa fd ["self"] (spF (.m K mg) 1 f_Line___init__) := by
  rw [f_Line___init___eq]; exact fn_ok F sc_Line___init__ fun cdv A outer s H E hr =>
    (ss_cons (ss_fput (i := 0) T.o_Line rfl (.inl rfl) (s_str (by decide +kernel) (by decide +kernel)) (by decide +kernel))
    (ss_cons (ss_fput (i := 0) T.o_Line rfl (.inl rfl) (s_str (by decide +kernel) (by decide +kernel)) (by decide +kernel))
    (ss_cons (ss_fput (i := 0) T.o_Line rfl (.inl rfl) (s_lst a_nil) (by decide +kernel))
    (ss_cons (ss_fput (i := 0) T.o_Line rfl (.inl rfl) s_int (by decide +kernel))
    (ss_one (ss_fput (i := 0) T.o_Line rfl (.inl rfl) (s_lst a_nil) (by decide +kernel)))))))
theorem ok_Line__head (T : Tp P K mg) {fa : Addr} {fd : FuncData} (F : L2.Fun K "_head" "Line._head" s_Line__head fa fd) : FnOk P w K mg base (L2N.CX P w) (0 + 1) fa fd ["self", "kind", "text"] (spF (.m K mg) 3 f_Line__head) := by
  rw [f_Line__head_eq]; exact fn_ok F sc_Line__head fun cdv A outer s H E hr =>
    (ss_cons (ss_if (st_pw (sw_and (st_cmp (cb_eq hr.units) (s_fld T.o_Line (s_nm (i := 0) rfl (.inl rfl))) (s_str (by decide +kernel) (by decide +kernel)) (nomark _)) (sw_and1 (st_cmp (cb_eq hr.units) (s_nm (i := 1) rfl (.inl rfl)) (s_str (by decide +kernel) (by decide +kernel)) (nomark _))))) (ss_cons (ss_kl (ss_fput (i := 0) T.o_Line rfl (.inl rfl) (s_fz (i := 2) rfl (.inl rfl)) (by decide +kernel)))
    (ss_one (ss_ret (s_str (by decide +kernel) (by decide +kernel))))) ss_nil)
    (ss_cons (ss_if (st_pw (sw_and (st_cmp (cb_eq hr.units) (s_fld T.o_Line (s_nm (i := 0) rfl (.inl rfl))) (s_str (by decide +kernel) (by decide +kernel)) (nomark _)) (sw_and (st_cmp (cb_eq hr.units) (s_nm (i := 1) rfl (.inl rfl)) (s_str (by decide +kernel) (by decide +kernel)) (nomark _)) (sw_and1 (st_cmp (cb_eq hr.units) (s_nm (i := 2) rfl (.inl rfl)) (s_str (by decide +kernel) (by decide +kernel)) (nomark _)))))) (ss_one (ss_ret (s_str (by decide +kernel) (by decide +kernel)))) ss_nil)
    (ss_one (ss_ret s_non))))
theorem ok_Line__part (T : Tp P K mg) {fa : Addr} {fd : FuncData} (F : L2.Fun K "_part" "Line._part" s_Line__part fa fd) : FnOk P w K mg base (L2N.CX P w) (0 + 1) fa fd ["self", "kind", "text"] (spF (.m K mg) 3 f_Line__part) := by
  rw [f_Line__part_eq]; exact fn_ok F sc_Line__part fun cdv A outer s H E hr =>
    (ss_cons (ss_if (st_pw (sw_and (st_cmp (cb_eq hr.units) (s_fld T.o_Line (s_nm (i := 0) rfl (.inl rfl))) (s_str (by decide +kernel) (by decide +kernel)) (nomark _)) (sw_and (st_cmp (cb_eq hr.units) (s_nm (i := 1) rfl (.inl rfl)) (s_str (by decide +kernel) (by decide +kernel)) (nomark _)) (sw_and1 (st_cmp (cb_eq hr.units) (s_nm (i := 2) rfl (.inl rfl)) (s_str (by decide +kernel) (by decide +kernel)) (nomark _)))))) (ss_one (ss_ret (s_str (by decide +kernel) (by decide +kernel)))) ss_nil)
    (ss_cons (ss_if (st_pw (sw_and (st_cmp (cb_eq hr.units) (s_fld T.o_Line (s_nm (i := 0) rfl (.inl rfl))) (s_str (by decide +kernel) (by decide +kernel)) (nomark _)) (sw_and (st_cmp (cb_eq hr.units) (s_nm (i := 1) rfl (.inl rfl)) (s_str (by decide +kernel) (by decide +kernel)) (nomark _)) (sw_and1 (st_cmp (cb_eq hr.units) (s_nm (i := 2) rfl (.inl rfl)) (s_str (by decide +kernel) (by decide +kernel)) (nomark _)))))) (ss_one (ss_ret (s_str (by decide +kernel) (by decide +kernel)))) ss_nil)
    (ss_cons (ss_if (st_pw (sw_and (st_cmp (cb_eq hr.units) (s_fld T.o_Line (s_nm (i := 0) rfl (.inl rfl))) (s_str (by decide +kernel) (by decide +kernel)) (nomark _)) (sw_and (st_cmp (cb_eq hr.units) (s_nm (i := 1) rfl (.inl rfl)) (s_str (by decide +kernel) (by decide +kernel)) (nomark _)) (sw_and (st_cmp (cb_eq hr.units) (s_nm (i := 2) rfl (.inl rfl)) (s_str (by decide +kernel) (by decide +kernel)) (nomark _)) (sw_and1 (st_cmp cb_lt (s_len rfl T.n_len (s_fld T.o_Line (s_nm (i := 0) rfl (.inl rfl)))) (s_cst rfl T.c_MOST_PARTS) (nomark _))))))) (ss_one (ss_ret (s_str (by decide +kernel) (by decide +kernel)))) ss_nil)
    (ss_cons (ss_if (st_pw (sw_and (st_cmp (cb_in (hu65 hr)) (s_fld T.o_Line (s_nm (i := 0) rfl (.inl rfl))) (s_tup (a_cons (s_str (by decide +kernel) (by decide +kernel)) (a_cons (s_str (by decide +kernel) (by decide +kernel)) a_nil))) rfl) (sw_and (st_cmp (cb_eq hr.units) (s_nm (i := 1) rfl (.inl rfl)) (s_str (by decide +kernel) (by decide +kernel)) (nomark _)) (sw_and (st_cmp cb_le s_int (s_intS rfl T.n_int (s_nm (i := 2) rfl (.inl rfl))) (nomark _)) (sw_and1 (st_cmp cb_le (s_intS rfl T.n_int (s_nm (i := 2) rfl (.inl rfl))) (s_cst rfl T.c_MOST_QUANTITY) (nomark _))))))) (ss_cons (ss_kl (ss_fput (i := 0) T.o_Line rfl (.inl rfl) (s_intS rfl T.n_int (s_nm (i := 2) rfl (.inl rfl))) (by decide +kernel)))
    (ss_one (ss_ret (s_str (by decide +kernel) (by decide +kernel))))) ss_nil)
    (ss_cons (ss_if (st_pw (sw_and (st_cmp (cb_in (hu65 hr)) (s_fld T.o_Line (s_nm (i := 0) rfl (.inl rfl))) (s_tup (a_cons (s_str (by decide +kernel) (by decide +kernel)) (a_cons (s_str (by decide +kernel) (by decide +kernel)) (a_cons (s_str (by decide +kernel) (by decide +kernel)) a_nil)))) rfl) (sw_and1 (st_cmp (cb_eq hr.units) (s_nm (i := 1) rfl (.inl rfl)) (s_str (by decide +kernel) (by decide +kernel)) (nomark _))))) (ss_cons (ss_kl (ss_expr (s_fapp (i := 0) T.o_Line rfl (.inl rfl) (s_tup (a_cons (s_fz (i := 2) rfl (.inl rfl)) (a_cons (s_fld T.o_Line (s_nm (i := 0) rfl (.inl rfl))) a_nil))))))
    (ss_cons (ss_fput (i := 0) T.o_Line rfl (.inl rfl) s_int (by decide +kernel))
    (ss_one (ss_ret (s_str (by decide +kernel) (by decide +kernel)))))) ss_nil)
    (ss_one (ss_ret s_non)))))))
theorem ok_Line__number (T : Tp P K mg) {fa : Addr} {fd : FuncData} (F : L2.Fun K "_number" "Line._number" s_Line__number fa fd) : FnOk P w K mg base (L2N.CX P w) (0 + 1) fa fd ["self", "text", "least", "most", "state"] (spF (.m K mg) 5 f_Line__number) := by
  rw [f_Line__number_eq]; exact fn_ok F sc_Line__number fun cdv A outer s H E hr =>
    (ss_cons (ss_if (st_pw (sw_or (st_cmp cb_lt (s_intS rfl T.n_int (s_nm (i := 1) rfl (.inl rfl))) (s_nm (i := 2) rfl (.inl rfl)) (nomark _)) (sw_or1 (st_cmp cb_gt (s_intS rfl T.n_int (s_nm (i := 1) rfl (.inl rfl))) (s_nm (i := 3) rfl (.inl rfl)) (nomark _))))) (ss_one (ss_ret s_non)) ss_nil)
    (ss_cons (ss_kl (ss_expr (s_fapp (i := 0) T.o_Line rfl (.inl rfl) (s_intS rfl T.n_int (s_nm (i := 1) rfl (.inl rfl))))))
    (ss_one (ss_ret (s_mv (i := 4) rfl (.inl rfl))))))
theorem ok_Line__tail (T : Tp P K mg) (H_Line__number : KpM P w K mg base 1 "Line" "_number" 5 f_Line__number) {fa : Addr} {fd : FuncData} (F : L2.Fun K "_tail" "Line._tail" s_Line__tail fa fd) : FnOk P w K mg base (L2N.CX P w) (1 + 1) fa fd ["self", "kind", "text"] (spF (.m K mg) 3 f_Line__tail) := by
  rw [f_Line__tail_eq]; exact fn_ok F sc_Line__tail fun cdv A outer s H E hr =>
    (ss_cons (ss_if (st_pw (sw_and (st_cmp (cb_eq hr.units) (s_fld T.o_Line (s_nm (i := 0) rfl (.inl rfl))) (s_str (by decide +kernel) (by decide +kernel)) (nomark _)) (sw_and1 (st_cmp (cb_eq hr.units) (s_nm (i := 1) rfl (.inl rfl)) (s_str (by decide +kernel) (by decide +kernel)) (nomark _))))) (ss_one (ss_ret (s_meth (H_Line__number.mono (by decide)) hr (L2N.takes_of rfl rfl rfl rfl) rfl (.inl rfl) (b_v (s_fz (i := 2) rfl (.inl rfl)) (b_v s_int (b_v (s_cst rfl T.c_MOST_LEAD) (b_v (s_str (by decide +kernel) (by decide +kernel)) b_nil))))))) ss_nil)
    (ss_cons (ss_if (st_pw (sw_and (st_cmp (cb_eq hr.units) (s_fld T.o_Line (s_nm (i := 0) rfl (.inl rfl))) (s_str (by decide +kernel) (by decide +kernel)) (nomark _)) (sw_and (st_cmp (cb_eq hr.units) (s_nm (i := 1) rfl (.inl rfl)) (s_str (by decide +kernel) (by decide +kernel)) (nomark _)) (sw_and1 (st_cmp (cb_eq hr.units) (s_nm (i := 2) rfl (.inl rfl)) (s_str (by decide +kernel) (by decide +kernel)) (nomark _)))))) (ss_one (ss_ret (s_str (by decide +kernel) (by decide +kernel)))) ss_nil)
    (ss_cons (ss_if (st_pw (sw_and (st_cmp (cb_eq hr.units) (s_fld T.o_Line (s_nm (i := 0) rfl (.inl rfl))) (s_str (by decide +kernel) (by decide +kernel)) (nomark _)) (sw_and (st_cmp (cb_eq hr.units) (s_nm (i := 1) rfl (.inl rfl)) (s_str (by decide +kernel) (by decide +kernel)) (nomark _)) (sw_and1 (st_cmp (cb_eq hr.units) (s_nm (i := 2) rfl (.inl rfl)) (s_str (by decide +kernel) (by decide +kernel)) (nomark _)))))) (ss_one (ss_ret (s_str (by decide +kernel) (by decide +kernel)))) ss_nil)
    (ss_cons (ss_if (st_pw (sw_and (st_cmp (cb_eq hr.units) (s_fld T.o_Line (s_nm (i := 0) rfl (.inl rfl))) (s_str (by decide +kernel) (by decide +kernel)) (nomark _)) (sw_and1 (st_cmp (cb_eq hr.units) (s_nm (i := 1) rfl (.inl rfl)) (s_str (by decide +kernel) (by decide +kernel)) (nomark _))))) (ss_one (ss_ret (s_meth (H_Line__number.mono (by decide)) hr (L2N.takes_of rfl rfl rfl rfl) rfl (.inl rfl) (b_v (s_fz (i := 2) rfl (.inl rfl)) (b_v s_int (b_v (s_cst rfl T.c_MOST_LOT) (b_v (s_str (by decide +kernel) (by decide +kernel)) b_nil))))))) ss_nil)
    (ss_cons (ss_if (st_pw (sw_and (st_cmp (cb_eq hr.units) (s_fld T.o_Line (s_nm (i := 0) rfl (.inl rfl))) (s_str (by decide +kernel) (by decide +kernel)) (nomark _)) (sw_and (st_cmp (cb_eq hr.units) (s_nm (i := 1) rfl (.inl rfl)) (s_str (by decide +kernel) (by decide +kernel)) (nomark _)) (sw_and1 (st_cmp (cb_eq hr.units) (s_nm (i := 2) rfl (.inl rfl)) (s_str (by decide +kernel) (by decide +kernel)) (nomark _)))))) (ss_one (ss_ret (s_str (by decide +kernel) (by decide +kernel)))) ss_nil)
    (ss_cons (ss_if (st_pw (sw_and (st_cmp (cb_eq hr.units) (s_fld T.o_Line (s_nm (i := 0) rfl (.inl rfl))) (s_str (by decide +kernel) (by decide +kernel)) (nomark _)) (sw_and1 (st_cmp (cb_eq hr.units) (s_nm (i := 1) rfl (.inl rfl)) (s_str (by decide +kernel) (by decide +kernel)) (nomark _))))) (ss_one (ss_ret (s_meth (H_Line__number.mono (by decide)) hr (L2N.takes_of rfl rfl rfl rfl) rfl (.inl rfl) (b_v (s_fz (i := 2) rfl (.inl rfl)) (b_v s_int (b_v (s_at (s_fld T.o_Line (s_nm (i := 0) rfl (.inl rfl))) s_int) (b_v (s_str (by decide +kernel) (by decide +kernel)) b_nil))))))) ss_nil)
    (ss_one (ss_ret s_non))))))))
theorem ok_Line_take (T : Tp P K mg) (H_Line__head : KpM P w K mg base 1 "Line" "_head" 3 f_Line__head) (H_Line__part : KpM P w K mg base 1 "Line" "_part" 3 f_Line__part) (H_Line__tail : KpM P w K mg base 2 "Line" "_tail" 3 f_Line__tail) {fa : Addr} {fd : FuncData} (F : L2.Fun K "take" "Line.take" s_Line_take fa fd) : FnOk P w K mg base (L2N.CX P w) (2 + 1) fa fd ["self", "token"] (spF (.m K mg) 2 f_Line_take) := by
  rw [f_Line_take_eq]; exact fn_ok F sc_Line_take fun cdv A outer s H E hr =>
    (ss_cons (ss_kl (ss_set (i := 2) sc_Line_take.nd rfl (.inl rfl) s_non))
    (ss_cons (ss_if (st_cmp (cb_in (hu65 hr)) (s_fld T.o_Line (s_nm (i := 0) rfl (.inl rfl))) (s_tup (a_cons (s_str (by decide +kernel) (by decide +kernel)) (a_cons (s_str (by decide +kernel) (by decide +kernel)) a_nil))) rfl) (ss_one (ss_kl (ss_set (i := 2) sc_Line_take.nd rfl (.inl rfl) (s_meth (H_Line__head.mono (by decide)) hr (L2N.takes_of rfl rfl rfl rfl) rfl (.inl rfl) (b_v (s_at (s_nm (i := 1) rfl (.inl rfl)) s_int) (b_v (s_at (s_nm (i := 1) rfl (.inl rfl)) s_int) b_nil)))))) (ss_one (ss_if (st_cmp (cb_in (hu65 hr)) (s_fld T.o_Line (s_nm (i := 0) rfl (.inl rfl))) (s_tup (a_cons (s_str (by decide +kernel) (by decide +kernel)) (a_cons (s_str (by decide +kernel) (by decide +kernel)) (a_cons (s_str (by decide +kernel) (by decide +kernel)) (a_cons (s_str (by decide +kernel) (by decide +kernel)) a_nil))))) rfl) (ss_one (ss_kl (ss_set (i := 2) sc_Line_take.nd rfl (.inl rfl) (s_meth (H_Line__part.mono (by decide)) hr (L2N.takes_of rfl rfl rfl rfl) rfl (.inl rfl) (b_v (s_at (s_nm (i := 1) rfl (.inl rfl)) s_int) (b_v (s_at (s_nm (i := 1) rfl (.inl rfl)) s_int) b_nil)))))) (ss_one (ss_kl (ss_set (i := 2) sc_Line_take.nd rfl (.inl rfl) (s_meth (H_Line__tail.mono (by decide)) hr (L2N.takes_of rfl rfl rfl rfl) rfl (.inl rfl) (b_v (s_at (s_nm (i := 1) rfl (.inl rfl)) s_int) (b_v (s_at (s_nm (i := 1) rfl (.inl rfl)) s_int) b_nil)))))))))
    (ss_cons (ss_if (st_cmp cb_isN (s_nm (i := 2) rfl (.inl rfl)) s_non (nomark _)) (ss_one (ss_ret s_bl)) ss_nil)
    (ss_cons (ss_kl (ss_fput (i := 0) T.o_Line rfl (.inl rfl) (s_fz (i := 2) rfl (.inl rfl)) (by decide +kernel)))
    (ss_one (ss_ret s_bl))))))
theorem ok__read_line (T : Tp P K mg) (H_Line___init__ : KpI P w K mg base 1 "Line" 1 f_Line___init__) (H_Line_take : KpM P w K mg base 3 "Line" "take" 2 f_Line_take) {fa : Addr} {fd : FuncData} (F : L2.Fun K "_read_line" "_read_line" s__read_line fa fd) : FnOk P w K mg base (L2N.CX P w) (3 + 1) fa fd ["line", "parts"] (spF (.m K mg) 2 f__read_line) := by
  rw [f__read_line_eq]; exact fn_ok F sc__read_line fun cdv A outer s H E hr =>
    (ss_cons (ss_set (i := 2) sc__read_line.nd rfl (.inl rfl) (s_make0 (H_Line___init__.mono (by decide)) hr rfl (L2N.takes_of rfl rfl rfl rfl)))
    (ss_cons (ss_for (passes_of rfl) rfl (si_en rfl T.n_enumerate (s_fz (i := 1) rfl (.inl rfl))) (sg_tup rfl (sgs_cons (sg_nm (i := 3) sc__read_line.nd rfl (.inl rfl)) (sgs_cons (sg_nm (i := 4) sc__read_line.nd rfl (.inl rfl)) sgs_nil))) (ss_one (ss_if (st_not (st_val (s_meth (H_Line_take.mono (by decide)) hr (L2N.takes_of rfl rfl rfl rfl) rfl (.inl rfl) (b_v (s_fz (i := 4) rfl (.inl rfl)) b_nil)))) (ss_one (ss_raiseA T.x_BillFault rfl (L2N.takes_of rfl rfl rfl rfl) hr rfl (a_cons (s_nm (i := 0) rfl (.inl rfl)) (a_cons (s_nm (i := 3) rfl (.inl rfl)) (a_cons (s_str (by decide +kernel) (by decide +kernel)) a_nil))))) (sss_kl ss_nil))))
    (ss_cons (ss_if (st_cmp (cb_ne hr.units) (s_fld T.o_Line (s_nm (i := 2) rfl (.inl rfl))) (s_str (by decide +kernel) (by decide +kernel)) (nomark _)) (ss_one (ss_raiseA T.x_BillFault rfl (L2N.takes_of rfl rfl rfl rfl) hr rfl (a_cons (s_nm (i := 0) rfl (.inl rfl)) (a_cons (s_len rfl T.n_len (s_nm (i := 1) rfl (.inl rfl))) (a_cons (s_str (by decide +kernel) (by decide +kernel)) a_nil))))) ss_nil)
    (ss_one (ss_ret (s_mv (i := 2) rfl (.inl rfl)))))))
theorem ok__read_lines (T : Tp P K mg) (H_tokens : Kp P w K mg base 3 "tokens" 1 f_tokens) (H__read_line : Kp P w K mg base 4 "_read_line" 2 f__read_line) {fa : Addr} {fd : FuncData} (F : L2.Fun K "_read_lines" "_read_lines" s__read_lines fa fd) : FnOk P w K mg base (L2N.CX P w) (4 + 1) fa fd ["text"] (spF (.m K mg) 1 f__read_lines) := by
  rw [f__read_lines_eq]; exact fn_ok F sc__read_lines fun cdv A outer s H E hr =>
    (ss_cons (ss_set (i := 1) sc__read_lines.nd rfl (.inl rfl) (s_lst a_nil))
    (ss_cons (ss_set (i := 2) sc__read_lines.nd rfl (.inl rfl) (s_lst a_nil))
    (ss_cons (ss_kl (ss_for (passes_of rfl) rfl (si_en rfl T.n_enumerate (s_frz (s_split (s_nm (i := 0) rfl (.inl rfl)) (s_str (by decide +kernel) (by decide +kernel))))) (sg_tup rfl (sgs_cons (sg_nm (i := 3) sc__read_lines.nd rfl (.inl rfl)) (sgs_cons (sg_nm (i := 4) sc__read_lines.nd rfl (.inl rfl)) sgs_nil))) (ss_cons (ss_kl (ss_set (i := 5) sc__read_lines.nd rfl (.inl rfl) (s_call (H_tokens.mono (by decide)) hr rfl (L2N.takes_of rfl rfl rfl rfl) (b_v (s_fz (i := 4) rfl (.inl rfl)) b_nil))))
    (ss_one (ss_if (st_cmp cb_gt (s_len rfl T.n_len (s_nm (i := 5) rfl (.inl rfl))) s_int (nomark _)) (ss_cons (ss_set (i := 6) sc__read_lines.nd rfl (.inl rfl) (s_call (H__read_line.mono (by decide)) hr rfl (L2N.takes_of rfl rfl rfl rfl) (b_v (s_fz (i := 3) rfl (.inl rfl)) (b_v (s_fz (i := 5) rfl (.inl rfl)) b_nil))))
    (ss_cons (ss_if (st_cmp (cb_in (hu65 hr)) (s_fld T.o_Line (s_nm (i := 6) rfl (.inl rfl))) (s_nm (i := 2) rfl (.inl rfl)) rfl) (ss_one (ss_raiseA T.x_BillFault rfl (L2N.takes_of rfl rfl rfl rfl) hr rfl (a_cons (s_nm (i := 3) rfl (.inl rfl)) (a_cons s_int (a_cons (s_str (by decide +kernel) (by decide +kernel)) a_nil))))) ss_nil)
    (ss_cons (ss_if (st_cmp (cb_eq hr.units) (s_len rfl T.n_len (s_nm (i := 1) rfl (.inl rfl))) (s_cst rfl T.c_MOST_ITEMS) (nomark _)) (ss_one (ss_raiseA T.x_BillFault rfl (L2N.takes_of rfl rfl rfl rfl) hr rfl (a_cons (s_nm (i := 3) rfl (.inl rfl)) (a_cons s_int (a_cons (s_str (by decide +kernel) (by decide +kernel)) a_nil))))) ss_nil)
    (ss_cons (ss_kl (ss_expr (s_append (i := 1) rfl (.inl rfl) (s_tup (a_cons (s_fz (i := 3) rfl (.inl rfl)) (a_cons (s_fz (i := 5) rfl (.inl rfl)) (a_cons (s_fz (i := 6) rfl (.inl rfl)) a_nil)))))))
    (ss_one (ss_kl (ss_expr (s_append (i := 2) rfl (.inl rfl) (s_fld T.o_Line (s_nm (i := 6) rfl (.inl rfl))))))))))) (sss_kl ss_nil))))))
    (ss_one (ss_ret (s_mv (i := 1) rfl (.inl rfl)))))))
theorem ok__check_names (T : Tp P K mg) {fa : Addr} {fd : FuncData} (F : L2.Fun K "_check_names" "_check_names" s__check_names fa fd) : FnOk P w K mg base (L2N.CX P w) (1 + 1) fa fd ["lines"] (spF (.m K mg) 1 f__check_names) := by
  rw [f__check_names_eq]; exact fn_ok F sc__check_names fun cdv A outer s H E hr =>
    (ss_cons (ss_setlc (i := 1) (own := [("number", 2), ("parts", 3), ("read", 4)]) rfl sc__check_names.nd rfl rfl (sw_true rfl rfl rfl (by decide +kernel)) (blkOk_by (N := ["lines", "known", "number", "parts", "read", "end", "place"]) (sc := (defScope s__check_names)) (own := [("number", 2), ("parts", 3), ("read", 4)]) (by decide +kernel)) (si_seq (s_fz (i := 0) rfl (.inl rfl))) (fun _ _ _ _ _ => (sg_tup rfl (sgs_cons (sg_nm (i := 2) sc__check_names.nd rfl (.inl rfl)) (sgs_cons (sg_nm (i := 3) sc__check_names.nd rfl (.inl rfl)) (sgs_cons (sg_nm (i := 4) sc__check_names.nd rfl (.inl rfl)) sgs_nil))))) (fun _ _ _ _ _ => sf_nil) (fun _ _ _ _ _ => (s_fld T.o_Line (s_nm (i := 4) rfl (.inl rfl)))))
    (ss_one (ss_kl (ss_for (passes_of rfl) rfl (si_seq (s_fz (i := 0) rfl (.inl rfl))) (sg_tup rfl (sgs_cons (sg_nm (i := 2) sc__check_names.nd rfl (.inl rfl)) (sgs_cons (sg_nm (i := 3) sc__check_names.nd rfl (.inl rfl)) (sgs_cons (sg_nm (i := 4) sc__check_names.nd rfl (.inl rfl)) sgs_nil)))) (ss_cons (ss_kl (ss_set (i := 5) sc__check_names.nd rfl (.inl rfl) (s_indexX (hu65 hr) (s_nm (i := 3) rfl (.inl rfl)) (s_tup (a_cons (s_str (by decide +kernel) (by decide +kernel)) (a_cons (s_str (by decide +kernel) (by decide +kernel)) a_nil))))))
    (ss_one (ss_kl (ss_for (passes_of rfl) rfl (si_rg2 rfl T.n_range s_int (s_nm (i := 5) rfl (.inl rfl))) (sg_nm (i := 6) sc__check_names.nd rfl (.inl rfl)) (ss_one (ss_if (st_pw (sw_and (st_cmp (cb_eq hr.units) (s_at (s_at (s_nm (i := 3) rfl (.inl rfl)) (s_nm (i := 6) rfl (.inl rfl))) s_int) (s_str (by decide +kernel) (by decide +kernel)) (nomark _)) (sw_and1 (st_cmp (cb_notin (hu65 hr)) (s_at (s_at (s_nm (i := 3) rfl (.inl rfl)) (s_nm (i := 6) rfl (.inl rfl))) s_int) (s_nm (i := 1) rfl (.inl rfl)) rfl)))) (ss_one (ss_raiseA T.x_BillFault rfl (L2N.takes_of rfl rfl rfl rfl) hr rfl (a_cons (s_nm (i := 2) rfl (.inl rfl)) (a_cons (s_nm (i := 6) rfl (.inl rfl)) (a_cons (s_str (by decide +kernel) (by decide +kernel)) a_nil))))) (sss_kl ss_nil)))))))))))
theorem ok__reaches (T : Tp P K mg) {fa : Addr} {fd : FuncData} (F : L2.Fun K "_reaches" "_reaches" s__reaches fa fd) : FnOk P w K mg base (L2N.CX P w) (0 + 1) fa fd ["items", "first"] (spF (.m K mg) 2 f__reaches) := by
  rw [f__reaches_eq]; exact fn_ok F sc__reaches fun cdv A outer s H E hr =>
    (ss_cons (ss_setlc (i := 2) (own := [("part", 4)]) rfl sc__reaches.nd rfl rfl (sw_true rfl rfl rfl (by decide +kernel)) (blkOk_by (N := ["items", "first", "reached", "at", "part"]) (sc := (defScope s__reaches)) (own := [("part", 4)]) (by decide +kernel)) (si_seq (s_at (s_at (s_nm (i := 0) rfl (.inl rfl)) (s_nm (i := 1) rfl (.inl rfl))) s_int)) (fun _ _ _ _ _ => (sg_nm (i := 4) sc__reaches.nd rfl (.inl rfl))) (fun _ _ _ _ _ => sf_nil) (fun _ _ _ _ _ => (s_at (s_nm (i := 4) rfl (.inl rfl)) s_int)))
    (ss_cons (ss_set (i := 3) sc__reaches.nd rfl (.inl rfl) s_int)
    (ss_cons (ss_kl (ss_while (passes_of rfl) (st_cmp cb_lt (s_nm (i := 3) rfl (.inl rfl)) (s_len rfl T.n_len (s_nm (i := 2) rfl (.inl rfl))) (nomark _)) (ss_cons (ss_for (passes_of rfl) rfl (si_seq (s_at (s_at (s_nm (i := 0) rfl (.inl rfl)) (s_at (s_nm (i := 2) rfl (.inl rfl)) (s_nm (i := 3) rfl (.inl rfl)))) s_int)) (sg_nm (i := 4) sc__reaches.nd rfl (.inl rfl)) (ss_one (ss_if (st_cmp (cb_notin (hu65 hr)) (s_at (s_nm (i := 4) rfl (.inl rfl)) s_int) (s_nm (i := 2) rfl (.inl rfl)) rfl) (ss_one (ss_kl (ss_expr (s_append (i := 2) rfl (.inl rfl) (s_at (s_nm (i := 4) rfl (.inl rfl)) s_int))))) (sss_kl ss_nil))))
    (ss_one (ss_aug (i := 3) sc__reaches.nd rfl (.inl rfl) s_int)))))
    (ss_one (ss_ret (s_in (hu65 hr) (s_nm (i := 1) rfl (.inl rfl)) (s_nm (i := 2) rfl (.inl rfl)) rfl))))))
theorem ok_read_bill (T : Tp P K mg) (H__read_lines : Kp P w K mg base 5 "_read_lines" 1 f__read_lines) (H__check_names : Kp P w K mg base 2 "_check_names" 1 f__check_names) (H__reaches : Kp P w K mg base 1 "_reaches" 2 f__reaches) {fa : Addr} {fd : FuncData} (F : L2.Fun K "read_bill" "read_bill" s_read_bill fa fd) : FnOk P w K mg base (L2N.CX P w) (5 + 1) fa fd ["text"] (spF (.m K mg) 1 f_read_bill) := by
  rw [f_read_bill_eq]; exact fn_ok F sc_read_bill fun cdv A outer s H E hr =>
    (ss_cons (ss_kl (ss_set (i := 1) sc_read_bill.nd rfl (.inl rfl) (s_call (H__read_lines.mono (by decide)) hr rfl (L2N.takes_of rfl rfl rfl rfl) (b_v (s_fz (i := 0) rfl (.inl rfl)) b_nil))))
    (ss_cons (ss_expr (s_call (H__check_names.mono (by decide)) hr rfl (L2N.takes_of rfl rfl rfl rfl) (b_v (s_fz (i := 1) rfl (.inl rfl)) b_nil)))
    (ss_cons (ss_set (i := 2) sc_read_bill.nd rfl (.inr rfl) s_dnewK)
    (ss_cons (ss_for (passes_of rfl) rfl (si_en rfl T.n_enumerate (s_fz (i := 1) rfl (.inl rfl))) (sg_tup rfl (sgs_cons (sg_nm (i := 3) sc_read_bill.nd rfl (.inl rfl)) (sgs_cons (sg_nm (i := 4) sc_read_bill.nd rfl (.inl rfl)) sgs_nil))) (ss_one (ss_kl (ss_dputS (i := 2) (hu65 hr) rfl (.inr (.inl rfl)) (s_fz (i := 3) rfl (.inl rfl)) (s_fld T.o_Line (s_at (s_nm (i := 4) rfl (.inl rfl)) s_int))))))
    (ss_cons (ss_set (i := 5) sc_read_bill.nd rfl (.inl rfl) (s_lst a_nil))
    (ss_cons (ss_kl (ss_for (passes_of rfl) rfl (si_seq (s_fz (i := 1) rfl (.inl rfl))) (sg_tup rfl (sgs_cons (sg_nm (i := 6) sc_read_bill.nd rfl (.inl rfl)) (sgs_cons (sg_nm (i := 7) sc_read_bill.nd rfl (.inl rfl)) (sgs_cons (sg_nm (i := 8) sc_read_bill.nd rfl (.inl rfl)) sgs_nil)))) (ss_cons (ss_kl (ss_set (i := 9) sc_read_bill.nd rfl (.inl rfl) (s_tuple rfl T.n_tuple (s_lc (own := [("name", 10), ("quantity", 11)]) rfl sc_read_bill.nd (blkOk_by (N := ["text", "lines", "places", "at", "entry", "items", "number", "parts", "read", "uses", "name", "quantity"]) (sc := (defScope s_read_bill)) (own := [("name", 10), ("quantity", 11)]) (by decide +kernel)) (si_seq (s_fld T.o_Line (s_nm (i := 8) rfl (.inl rfl)))) (fun _ _ _ _ _ => (sg_tup rfl (sgs_cons (sg_nm (i := 10) sc_read_bill.nd rfl (.inl rfl)) (sgs_cons (sg_nm (i := 11) sc_read_bill.nd rfl (.inl rfl)) sgs_nil)))) (fun _ _ _ _ _ => sf_nil) (fun _ _ _ _ _ => (s_tup (a_cons (s_dgetS (hu65 hr) (s_nm (i := 2) rfl (.inr (.inl rfl))) (s_nm (i := 10) rfl (.inl rfl))) (a_cons (s_fz (i := 11) rfl (.inl rfl)) a_nil))))))))
    (ss_one (ss_kl (ss_expr (s_append (i := 5) rfl (.inl rfl) (s_tup (a_cons (s_fld T.o_Line (s_nm (i := 8) rfl (.inl rfl))) (a_cons (s_fz (i := 9) rfl (.inl rfl)) (a_cons (s_at (s_fld T.o_Line (s_nm (i := 8) rfl (.inl rfl))) s_int) (a_cons (s_at (s_fld T.o_Line (s_nm (i := 8) rfl (.inl rfl))) s_int) (a_cons (s_at (s_fld T.o_Line (s_nm (i := 8) rfl (.inl rfl))) s_int) a_nil)))))))))))))
    (ss_cons (ss_kl (ss_for (passes_of rfl) rfl (si_en rfl T.n_enumerate (s_fz (i := 1) rfl (.inl rfl))) (sg_tup rfl (sgs_cons (sg_nm (i := 3) sc_read_bill.nd rfl (.inl rfl)) (sgs_cons (sg_nm (i := 4) sc_read_bill.nd rfl (.inl rfl)) sgs_nil))) (ss_one (ss_if (st_val (s_call (H__reaches.mono (by decide)) hr rfl (L2N.takes_of rfl rfl rfl rfl) (b_b (i := 5) rfl (.inl rfl) (b_v (s_fz (i := 3) rfl (.inl rfl)) b_nil)))) (ss_one (ss_raiseA T.x_BillFault rfl (L2N.takes_of rfl rfl rfl rfl) hr rfl (a_cons (s_at (s_nm (i := 4) rfl (.inl rfl)) s_int) (a_cons s_int (a_cons (s_str (by decide +kernel) (by decide +kernel)) a_nil))))) (sss_kl ss_nil)))))
    (ss_one (ss_ret (s_tuple rfl T.n_tuple (s_nm (i := 5) rfl (.inl rfl))))))))))))
theorem ok_law_k05 (T : Tp P K mg) (H__law_digits : Kp P w K mg base 2 "_law_digits" 3 f__law_digits) (H__law_bill : Kp P w K mg base 4 "_law_bill" 2 f__law_bill) (H_write_bill : Kp P w K mg base 2 "write_bill" 1 f_write_bill) (H__law_text : Kp P w K mg base 1 "_law_text" 1 f__law_text) (H__law_same : Kp P w K mg base 60 "_law_same" 2 f__law_same) (H_read_bill : Kp P w K mg base 6 "read_bill" 1 f_read_bill) {fa : Addr} {fd : FuncData} (F : L2.Fun K "law" "law" s_law fa fd) : FnOk P w K mg base (L2N.CX P w) (60 + 1) fa fd ["_law_script"] (spF (.m K mg) 1 f_law_k05) := by
  rw [f_law_k05_eq]; exact fn_ok F sc_law fun cdv A outer s H E hr =>
    (ss_cons (ss_kl (ss_set (i := 1) sc_law.nd rfl (.inl rfl) (s_lst (a_cons (s_call (H__law_digits.mono (by decide)) hr rfl (L2N.takes_of rfl rfl rfl rfl) (b_v (s_fz (i := 0) rfl (.inl rfl)) (b_v s_int (b_v s_int b_nil)))) (a_cons s_int a_nil)))))
    (ss_cons (ss_kl (ss_set (i := 2) sc_law.nd rfl (.inl rfl) (s_call (H__law_bill.mono (by decide)) hr rfl (L2N.takes_of rfl rfl rfl rfl) (b_b (i := 1) rfl (.inl rfl) (b_v s_int b_nil)))))
    (ss_cons (ss_set (i := 3) sc_law.nd rfl (.inl rfl) (s_call (H_write_bill.mono (by decide)) hr rfl (L2N.takes_of rfl rfl rfl rfl) (b_v (s_fz (i := 2) rfl (.inl rfl)) b_nil)))
    (ss_one (ss_ret (s_and (s_call (H__law_same.mono (by decide)) hr rfl (L2N.takes_of rfl rfl rfl rfl) (b_v (s_fz (i := 3) rfl (.inl rfl)) (b_v (s_call (H__law_text.mono (by decide)) hr rfl (L2N.takes_of rfl rfl rfl rfl) (b_v (s_fz (i := 2) rfl (.inl rfl)) b_nil)) b_nil))) (s_and (s_call (H__law_same.mono (by decide)) hr rfl (L2N.takes_of rfl rfl rfl rfl) (b_v (s_call (H_read_bill.mono (by decide)) hr rfl (L2N.takes_of rfl rfl rfl rfl) (b_v (s_fz (i := 3) rfl (.inl rfl)) b_nil)) (b_v (s_fz (i := 2) rfl (.inl rfl)) b_nil))) (s_and1 (s_call (H__law_same.mono (by decide)) hr rfl (L2N.takes_of rfl rfl rfl rfl) (b_v (s_call (H_write_bill.mono (by decide)) hr rfl (L2N.takes_of rfl rfl rfl rfl) (b_v (s_tup a_nil) b_nil)) (b_v (s_str (by decide +kernel) (by decide +kernel)) b_nil)))))))))))
end
set_option maxHeartbeats 0 in
theorem all_mk {w : World} {K : PySem.W.Frag} {h : Heap} {mg : Str → Option Value} {fa : Addr} (X : K.In h) (G : h.Ns mainGlobals mg) (hfa : mg "law" = some (.ref fa))
    {O_Line : Addr} (oa_Line : PySem.W.nsIn K mainGlobals "Line" = some (some (.ref O_Line))) (opg_Line : PySem.W.plainGet K O_Line Str.empty = true) (ohd_Line : PySem.W.hasDictIn K O_Line = true) (opo_Line : PySem.W.plainOver K O_Line = true) (osa_Line : PySem.W.findIn K (.ref O_Line) "__setattr__" = some (some (.builtin "object.__setattr__"))) (omk_Line : PySem.W.makesIn K O_Line = true) (okc_Line : PySem.W.keepIn K (.ref O_Line) = true) (on_state_Line : PySem.W.findIn K (.ref O_Line) "state" = some none) (on_name_Line : PySem.W.findIn K (.ref O_Line) "name" = some none) (on_parts_Line : PySem.W.findIn K (.ref O_Line) "parts" = some none) (on_quantity_Line : PySem.W.findIn K (.ref O_Line) "quantity" = some none) (on_numbers_Line : PySem.W.findIn K (.ref O_Line) "numbers" = some none)
    {f0 : Addr} {od0 an0 : Option Addr} {sl0 : Array (Option Value)} {oc0 kV0 dc0 pm0 cd0 ct0 : Value} (a0 : PySem.W.nsIn K mainGlobals "_law_cell" = some (some (.ref f0))) (l0 : K.lookup f0 = some ⟨oc0, od0, .func (PySem.W.fnOf "_law_cell" "_law_cell" (defArgs s__law_cell) (defBody s__law_cell) (defScope s__law_cell) .none kV0 dc0 pm0 an0 cd0 ct0), sl0⟩) (c0 : PySem.W.codeIn K cd0 "_law_cell" = true) (k0 : PySem.W.keepIn K (.ref f0) = true)
    {f1 : Addr} {od1 an1 : Option Addr} {sl1 : Array (Option Value)} {oc1 kV1 dc1 pm1 cd1 ct1 : Value} (a1 : PySem.W.nsIn K mainGlobals "_law_digits" = some (some (.ref f1))) (l1 : K.lookup f1 = some ⟨oc1, od1, .func (PySem.W.fnOf "_law_digits" "_law_digits" (defArgs s__law_digits) (defBody s__law_digits) (defScope s__law_digits) .none kV1 dc1 pm1 an1 cd1 ct1), sl1⟩) (c1 : PySem.W.codeIn K cd1 "_law_digits" = true) (k1 : PySem.W.keepIn K (.ref f1) = true)
    {f2 : Addr} {od2 an2 : Option Addr} {sl2 : Array (Option Value)} {oc2 kV2 dc2 pm2 cd2 ct2 : Value} (a2 : PySem.W.nsIn K mainGlobals "_law_draw" = some (some (.ref f2))) (l2 : K.lookup f2 = some ⟨oc2, od2, .func (PySem.W.fnOf "_law_draw" "_law_draw" (defArgs s__law_draw) (defBody s__law_draw) (defScope s__law_draw) .none kV2 dc2 pm2 an2 cd2 ct2), sl2⟩) (c2 : PySem.W.codeIn K cd2 "_law_draw" = true) (k2 : PySem.W.keepIn K (.ref f2) = true)
    {f3 : Addr} {od3 an3 : Option Addr} {sl3 : Array (Option Value)} {oc3 kV3 dc3 pm3 cd3 ct3 : Value} (a3 : PySem.W.nsIn K mainGlobals "_law_run" = some (some (.ref f3))) (l3 : K.lookup f3 = some ⟨oc3, od3, .func (PySem.W.fnOf "_law_run" "_law_run" (defArgs s__law_run) (defBody s__law_run) (defScope s__law_run) .none kV3 dc3 pm3 an3 cd3 ct3), sl3⟩) (c3 : PySem.W.codeIn K cd3 "_law_run" = true) (k3 : PySem.W.keepIn K (.ref f3) = true)
    {f4 : Addr} {od4 an4 : Option Addr} {sl4 : Array (Option Value)} {oc4 kV4 dc4 pm4 cd4 ct4 : Value} (a4 : PySem.W.nsIn K mainGlobals "_law_name" = some (some (.ref f4))) (l4 : K.lookup f4 = some ⟨oc4, od4, .func (PySem.W.fnOf "_law_name" "_law_name" (defArgs s__law_name) (defBody s__law_name) (defScope s__law_name) .none kV4 dc4 pm4 an4 cd4 ct4), sl4⟩) (c4 : PySem.W.codeIn K cd4 "_law_name" = true) (k4 : PySem.W.keepIn K (.ref f4) = true)
    {f5 : Addr} {od5 an5 : Option Addr} {sl5 : Array (Option Value)} {oc5 kV5 dc5 pm5 cd5 ct5 : Value} (a5 : PySem.W.nsIn K mainGlobals "_law_bill" = some (some (.ref f5))) (l5 : K.lookup f5 = some ⟨oc5, od5, .func (PySem.W.fnOf "_law_bill" "_law_bill" (defArgs s__law_bill) (defBody s__law_bill) (defScope s__law_bill) .none kV5 dc5 pm5 an5 cd5 ct5), sl5⟩) (c5 : PySem.W.codeIn K cd5 "_law_bill" = true) (k5 : PySem.W.keepIn K (.ref f5) = true)
    {f6 : Addr} {od6 an6 : Option Addr} {sl6 : Array (Option Value)} {oc6 kV6 dc6 pm6 cd6 ct6 : Value} (a6 : PySem.W.nsIn K mainGlobals "_write_part" = some (some (.ref f6))) (l6 : K.lookup f6 = some ⟨oc6, od6, .func (PySem.W.fnOf "_write_part" "_write_part" (defArgs s__write_part) (defBody s__write_part) (defScope s__write_part) .none kV6 dc6 pm6 an6 cd6 ct6), sl6⟩) (c6 : PySem.W.codeIn K cd6 "_write_part" = true) (k6 : PySem.W.keepIn K (.ref f6) = true)
    {f7 : Addr} {od7 an7 : Option Addr} {sl7 : Array (Option Value)} {oc7 kV7 dc7 pm7 cd7 ct7 : Value} (a7 : PySem.W.nsIn K mainGlobals "write_bill" = some (some (.ref f7))) (l7 : K.lookup f7 = some ⟨oc7, od7, .func (PySem.W.fnOf "write_bill" "write_bill" (defArgs s_write_bill) (defBody s_write_bill) (defScope s_write_bill) .none kV7 dc7 pm7 an7 cd7 ct7), sl7⟩) (c7 : PySem.W.codeIn K cd7 "write_bill" = true) (k7 : PySem.W.keepIn K (.ref f7) = true)
    {f8 : Addr} {od8 an8 : Option Addr} {sl8 : Array (Option Value)} {oc8 kV8 dc8 pm8 cd8 ct8 : Value} (a8 : PySem.W.nsIn K mainGlobals "_law_text" = some (some (.ref f8))) (l8 : K.lookup f8 = some ⟨oc8, od8, .func (PySem.W.fnOf "_law_text" "_law_text" (defArgs s__law_text) (defBody s__law_text) (defScope s__law_text) .none kV8 dc8 pm8 an8 cd8 ct8), sl8⟩) (c8 : PySem.W.codeIn K cd8 "_law_text" = true) (k8 : PySem.W.keepIn K (.ref f8) = true)
    {f9 : Addr} {od9 an9 : Option Addr} {sl9 : Array (Option Value)} {oc9 kV9 dc9 pm9 cd9 ct9 : Value} (a9 : PySem.W.nsIn K mainGlobals "_law_same" = some (some (.ref f9))) (l9 : K.lookup f9 = some ⟨oc9, od9, .func (PySem.W.fnOf "_law_same" "_law_same" (defArgs s__law_same) (defBody s__law_same) (defScope s__law_same) .none kV9 dc9 pm9 an9 cd9 ct9), sl9⟩) (c9 : PySem.W.codeIn K cd9 "_law_same" = true) (k9 : PySem.W.keepIn K (.ref f9) = true)
    {f10 : Addr} {od10 an10 : Option Addr} {sl10 : Array (Option Value)} {oc10 kV10 dc10 pm10 cd10 ct10 : Value} (a10 : PySem.W.nsIn K mainGlobals "_run_end" = some (some (.ref f10))) (l10 : K.lookup f10 = some ⟨oc10, od10, .func (PySem.W.fnOf "_run_end" "_run_end" (defArgs s__run_end) (defBody s__run_end) (defScope s__run_end) .none kV10 dc10 pm10 an10 cd10 ct10), sl10⟩) (c10 : PySem.W.codeIn K cd10 "_run_end" = true) (k10 : PySem.W.keepIn K (.ref f10) = true)
    {f11 : Addr} {od11 an11 : Option Addr} {sl11 : Array (Option Value)} {oc11 kV11 dc11 pm11 cd11 ct11 : Value} (a11 : PySem.W.nsIn K mainGlobals "_token" = some (some (.ref f11))) (l11 : K.lookup f11 = some ⟨oc11, od11, .func (PySem.W.fnOf "_token" "_token" (defArgs s__token) (defBody s__token) (defScope s__token) .none kV11 dc11 pm11 an11 cd11 ct11), sl11⟩) (c11 : PySem.W.codeIn K cd11 "_token" = true) (k11 : PySem.W.keepIn K (.ref f11) = true)
    {f12 : Addr} {od12 an12 : Option Addr} {sl12 : Array (Option Value)} {oc12 kV12 dc12 pm12 cd12 ct12 : Value} (a12 : PySem.W.nsIn K mainGlobals "tokens" = some (some (.ref f12))) (l12 : K.lookup f12 = some ⟨oc12, od12, .func (PySem.W.fnOf "tokens" "tokens" (defArgs s_tokens) (defBody s_tokens) (defScope s_tokens) .none kV12 dc12 pm12 an12 cd12 ct12), sl12⟩) (c12 : PySem.W.codeIn K cd12 "tokens" = true) (k12 : PySem.W.keepIn K (.ref f12) = true)
    {f13 : Addr} {od13 an13 : Option Addr} {sl13 : Array (Option Value)} {oc13 kV13 dc13 pm13 cd13 ct13 : Value} (a13 : PySem.W.findIn K (.ref O_Line) "__init__" = some (some (.ref f13))) (i13 : PySem.W.isFn K (.ref f13) = true) (l13 : K.lookup f13 = some ⟨oc13, od13, .func (PySem.W.fnOf "__init__" "Line.__init__" (defArgs s_Line___init__) (defBody s_Line___init__) (defScope s_Line___init__) .none kV13 dc13 pm13 an13 cd13 ct13), sl13⟩) (c13 : PySem.W.codeIn K cd13 "Line.__init__" = true) (k13 : PySem.W.keepIn K (.ref f13) = true)
    {f14 : Addr} {od14 an14 : Option Addr} {sl14 : Array (Option Value)} {oc14 kV14 dc14 pm14 cd14 ct14 : Value} (a14 : PySem.W.findIn K (.ref O_Line) "_head" = some (some (.ref f14))) (i14 : PySem.W.isFn K (.ref f14) = true) (l14 : K.lookup f14 = some ⟨oc14, od14, .func (PySem.W.fnOf "_head" "Line._head" (defArgs s_Line__head) (defBody s_Line__head) (defScope s_Line__head) .none kV14 dc14 pm14 an14 cd14 ct14), sl14⟩) (c14 : PySem.W.codeIn K cd14 "Line._head" = true) (k14 : PySem.W.keepIn K (.ref f14) = true)
    {f15 : Addr} {od15 an15 : Option Addr} {sl15 : Array (Option Value)} {oc15 kV15 dc15 pm15 cd15 ct15 : Value} (a15 : PySem.W.findIn K (.ref O_Line) "_part" = some (some (.ref f15))) (i15 : PySem.W.isFn K (.ref f15) = true) (l15 : K.lookup f15 = some ⟨oc15, od15, .func (PySem.W.fnOf "_part" "Line._part" (defArgs s_Line__part) (defBody s_Line__part) (defScope s_Line__part) .none kV15 dc15 pm15 an15 cd15 ct15), sl15⟩) (c15 : PySem.W.codeIn K cd15 "Line._part" = true) (k15 : PySem.W.keepIn K (.ref f15) = true)
    {f16 : Addr} {od16 an16 : Option Addr} {sl16 : Array (Option Value)} {oc16 kV16 dc16 pm16 cd16 ct16 : Value} (a16 : PySem.W.findIn K (.ref O_Line) "_number" = some (some (.ref f16))) (i16 : PySem.W.isFn K (.ref f16) = true) (l16 : K.lookup f16 = some ⟨oc16, od16, .func (PySem.W.fnOf "_number" "Line._number" (defArgs s_Line__number) (defBody s_Line__number) (defScope s_Line__number) .none kV16 dc16 pm16 an16 cd16 ct16), sl16⟩) (c16 : PySem.W.codeIn K cd16 "Line._number" = true) (k16 : PySem.W.keepIn K (.ref f16) = true)
    {f17 : Addr} {od17 an17 : Option Addr} {sl17 : Array (Option Value)} {oc17 kV17 dc17 pm17 cd17 ct17 : Value} (a17 : PySem.W.findIn K (.ref O_Line) "_tail" = some (some (.ref f17))) (i17 : PySem.W.isFn K (.ref f17) = true) (l17 : K.lookup f17 = some ⟨oc17, od17, .func (PySem.W.fnOf "_tail" "Line._tail" (defArgs s_Line__tail) (defBody s_Line__tail) (defScope s_Line__tail) .none kV17 dc17 pm17 an17 cd17 ct17), sl17⟩) (c17 : PySem.W.codeIn K cd17 "Line._tail" = true) (k17 : PySem.W.keepIn K (.ref f17) = true)
    {f18 : Addr} {od18 an18 : Option Addr} {sl18 : Array (Option Value)} {oc18 kV18 dc18 pm18 cd18 ct18 : Value} (a18 : PySem.W.findIn K (.ref O_Line) "take" = some (some (.ref f18))) (i18 : PySem.W.isFn K (.ref f18) = true) (l18 : K.lookup f18 = some ⟨oc18, od18, .func (PySem.W.fnOf "take" "Line.take" (defArgs s_Line_take) (defBody s_Line_take) (defScope s_Line_take) .none kV18 dc18 pm18 an18 cd18 ct18), sl18⟩) (c18 : PySem.W.codeIn K cd18 "Line.take" = true) (k18 : PySem.W.keepIn K (.ref f18) = true)
    {f19 : Addr} {od19 an19 : Option Addr} {sl19 : Array (Option Value)} {oc19 kV19 dc19 pm19 cd19 ct19 : Value} (a19 : PySem.W.nsIn K mainGlobals "_read_line" = some (some (.ref f19))) (l19 : K.lookup f19 = some ⟨oc19, od19, .func (PySem.W.fnOf "_read_line" "_read_line" (defArgs s__read_line) (defBody s__read_line) (defScope s__read_line) .none kV19 dc19 pm19 an19 cd19 ct19), sl19⟩) (c19 : PySem.W.codeIn K cd19 "_read_line" = true) (k19 : PySem.W.keepIn K (.ref f19) = true)
    {f20 : Addr} {od20 an20 : Option Addr} {sl20 : Array (Option Value)} {oc20 kV20 dc20 pm20 cd20 ct20 : Value} (a20 : PySem.W.nsIn K mainGlobals "_read_lines" = some (some (.ref f20))) (l20 : K.lookup f20 = some ⟨oc20, od20, .func (PySem.W.fnOf "_read_lines" "_read_lines" (defArgs s__read_lines) (defBody s__read_lines) (defScope s__read_lines) .none kV20 dc20 pm20 an20 cd20 ct20), sl20⟩) (c20 : PySem.W.codeIn K cd20 "_read_lines" = true) (k20 : PySem.W.keepIn K (.ref f20) = true)
    {f21 : Addr} {od21 an21 : Option Addr} {sl21 : Array (Option Value)} {oc21 kV21 dc21 pm21 cd21 ct21 : Value} (a21 : PySem.W.nsIn K mainGlobals "_check_names" = some (some (.ref f21))) (l21 : K.lookup f21 = some ⟨oc21, od21, .func (PySem.W.fnOf "_check_names" "_check_names" (defArgs s__check_names) (defBody s__check_names) (defScope s__check_names) .none kV21 dc21 pm21 an21 cd21 ct21), sl21⟩) (c21 : PySem.W.codeIn K cd21 "_check_names" = true) (k21 : PySem.W.keepIn K (.ref f21) = true)
    {f22 : Addr} {od22 an22 : Option Addr} {sl22 : Array (Option Value)} {oc22 kV22 dc22 pm22 cd22 ct22 : Value} (a22 : PySem.W.nsIn K mainGlobals "_reaches" = some (some (.ref f22))) (l22 : K.lookup f22 = some ⟨oc22, od22, .func (PySem.W.fnOf "_reaches" "_reaches" (defArgs s__reaches) (defBody s__reaches) (defScope s__reaches) .none kV22 dc22 pm22 an22 cd22 ct22), sl22⟩) (c22 : PySem.W.codeIn K cd22 "_reaches" = true) (k22 : PySem.W.keepIn K (.ref f22) = true)
    {f23 : Addr} {od23 an23 : Option Addr} {sl23 : Array (Option Value)} {oc23 kV23 dc23 pm23 cd23 ct23 : Value} (a23 : PySem.W.nsIn K mainGlobals "read_bill" = some (some (.ref f23))) (l23 : K.lookup f23 = some ⟨oc23, od23, .func (PySem.W.fnOf "read_bill" "read_bill" (defArgs s_read_bill) (defBody s_read_bill) (defScope s_read_bill) .none kV23 dc23 pm23 an23 cd23 ct23), sl23⟩) (c23 : PySem.W.codeIn K cd23 "read_bill" = true) (k23 : PySem.W.keepIn K (.ref f23) = true)
    {f24 : Addr} {od24 an24 : Option Addr} {sl24 : Array (Option Value)} {oc24 kV24 dc24 pm24 cd24 ct24 : Value} (a24 : PySem.W.nsIn K mainGlobals "law" = some (some (.ref f24))) (l24 : K.lookup f24 = some ⟨oc24, od24, .func (PySem.W.fnOf "law" "law" (defArgs s_law) (defBody s_law) (defScope s_law) .none kV24 dc24 pm24 an24 cd24 ct24), sl24⟩) (c24 : PySem.W.codeIn K cd24 "law" = true) (k24 : PySem.W.keepIn K (.ref f24) = true)
    (z_bool : PySem.W.nsIn K mainGlobals "bool" = some none)
    (z_enumerate : PySem.W.nsIn K mainGlobals "enumerate" = some none)
    (z_int : PySem.W.nsIn K mainGlobals "int" = some none)
    (z_isinstance : PySem.W.nsIn K mainGlobals "isinstance" = some none)
    (z_len : PySem.W.nsIn K mainGlobals "len" = some none)
    (z_list : PySem.W.nsIn K mainGlobals "list" = some none)
    (z_range : PySem.W.nsIn K mainGlobals "range" = some none)
    (z_str : PySem.W.nsIn K mainGlobals "str" = some none)
    (z_super : PySem.W.nsIn K mainGlobals "super" = some none)
    (z_tuple : PySem.W.nsIn K mainGlobals "tuple" = some none)
    {t_DIGITS : Tok} (y_DIGITS : PySem.W.nsIn K mainGlobals "DIGITS" = some (some (.str ("0123456789" : Str) t_DIGITS)))
    {t_LETTERS : Tok} (y_LETTERS : PySem.W.nsIn K mainGlobals "LETTERS" = some (some (.str ("abcdefghijklmnopqrstuvwxyz" : Str) t_LETTERS)))
    {t_MOST_ITEMS : Tok} (y_MOST_ITEMS : PySem.W.nsIn K mainGlobals "MOST_ITEMS" = some (some (.int 8 t_MOST_ITEMS)))
    {t_MOST_LEAD : Tok} (y_MOST_LEAD : PySem.W.nsIn K mainGlobals "MOST_LEAD" = some (some (.int 10 t_MOST_LEAD)))
    {t_MOST_LOT : Tok} (y_MOST_LOT : PySem.W.nsIn K mainGlobals "MOST_LOT" = some (some (.int 50 t_MOST_LOT)))
    {t_MOST_PARTS : Tok} (y_MOST_PARTS : PySem.W.nsIn K mainGlobals "MOST_PARTS" = some (some (.int 4 t_MOST_PARTS)))
    {t_MOST_QUANTITY : Tok} (y_MOST_QUANTITY : PySem.W.nsIn K mainGlobals "MOST_QUANTITY" = some (some (.int 20 t_MOST_QUANTITY)))
    {t_NAME_LENGTH : Tok} (y_NAME_LENGTH : PySem.W.nsIn K mainGlobals "NAME_LENGTH" = some (some (.int 12 t_NAME_LENGTH)))
    {t_NUMBER_LENGTH : Tok} (y_NUMBER_LENGTH : PySem.W.nsIn K mainGlobals "NUMBER_LENGTH" = some (some (.int 4 t_NUMBER_LENGTH)))
    {t_SIGNS : Tok} (y_SIGNS : PySem.W.nsIn K mainGlobals "SIGNS" = some (some (.str (":,;" : Str) t_SIGNS)))
    {C_BillFault N_BillFault PE_BillFault fI_BillFault cda_BillFault cc_BillFault : Addr} {nm_BillFault q_BillFault qual_BillFault file_BillFault : Str} {bs_BillFault sub_BillFault : List Value} {sn_BillFault : List Str} {ab_BillFault : Bool} {col_BillFault : Option Bool} {dd_BillFault od_BillFault an_BillFault cdd_BillFault cld_BillFault : Option Addr} {m0_BillFault m1_BillFault m2_BillFault m3_BillFault m5_BillFault : Option Value} {oc_BillFault kV_BillFault dc_BillFault pm_BillFault ct_BillFault ccl_BillFault cl_BillFault : Value} {osl_BillFault ccs_BillFault csl_BillFault : Array (Option Value)} {vs_BillFault : Array Value} {tf_BillFault : Tok} (ea_BillFault : PySem.W.nsIn K mainGlobals "BillFault" = some (some (.ref C_BillFault))) (xl_BillFault : K.lookup C_BillFault = some (excClassObj nm_BillFault q_BillFault C_BillFault N_BillFault bs_BillFault [.ref PE_BillFault, .type "ValueError", .type "Exception", .type "BaseException", .type "object"] true sn_BillFault sub_BillFault ab_BillFault col_BillFault dd_BillFault m0_BillFault m1_BillFault m2_BillFault m3_BillFault m5_BillFault "ValueError.__new__")) (xsa_BillFault : PySem.W.findIn K (.ref C_BillFault) "__setattr__" = some (some (.builtin "object.__setattr__"))) (eb_BillFault : PySem.W.subIn K (.ref C_BillFault) (.type "BaseException") = some true) (et_BillFault : PySem.W.typeIn K (.ref C_BillFault) = some (.type "type")) (ek_BillFault : PySem.W.keepIn K (.ref C_BillFault) = true) (ed_BillFault : PySem.W.hasDictIn K C_BillFault = true) (xi_BillFault : PySem.W.findIn K (.ref C_BillFault) "__init__" = some (some (.ref fI_BillFault))) (xt_BillFault : PySem.W.typeIn K (.ref fI_BillFault) = some (.type "function")) (xf_BillFault : K.lookup fI_BillFault = some ⟨oc_BillFault, od_BillFault, .func (PySem.W.ksFn "__init__" qual_BillFault (defArgs i_BillFault) (defBody i_BillFault) (defScope i_BillFault) .none kV_BillFault dc_BillFault pm_BillFault an_BillFault (.ref cda_BillFault) ct_BillFault cc_BillFault), osl_BillFault⟩) (xc_BillFault : PySem.W.codeIn K (.ref cda_BillFault) qual_BillFault = true) (xd_BillFault : K.lookup cda_BillFault = some ⟨ccl_BillFault, cdd_BillFault, .fields vs_BillFault, ccs_BillFault⟩) (xv_BillFault : vs_BillFault[2]? = some (.str file_BillFault tf_BillFault)) (xp_BillFault : ((PySem.Challenge.pw_latestart_k05_written_bills.main.file : Str) == file_BillFault) = true) (xe_BillFault : K.lookup cc_BillFault = some ⟨cl_BillFault, cld_BillFault, .cell (some (.ref C_BillFault)), csl_BillFault⟩) (xu_BillFault : PySem.W.ks_superIn K C_BillFault C_BillFault "__init__" = some (some (.builtin "ValueError.__init__"))) (xw_BillFault : PySem.W.subIn K (.ref C_BillFault) (.type "ValueError") = some true) (xm_BillFault : PySem.W.mroIn K C_BillFault (.ref C_BillFault) = some true) (xo_BillFault : PySem.W.nsIn K cStatics "thirdparty.any" = some none) (xn_line_BillFault : PySem.W.findIn K (.ref C_BillFault) "line" = some none) (xn_place_BillFault : PySem.W.findIn K (.ref C_BillFault) "place" = some none) (xn_word_BillFault : PySem.W.findIn K (.ref C_BillFault) "word" = some none)
    (law : ∀ ns : List Int, ns.length ≤ 63 → ∃ as, f_law_k05 [.shr (.lst (ns.map D.int))] = .ok (.d (.bl true)) as) :
    ∃ fd : FuncData, (∀ (s : Shared) (v : Value), BindsTo s fd ⟨[v], []⟩ [("_law_script", v)]) ∧ ∀ base : Heap, K.In base → base.Ns mainGlobals mg → FnOk PySem.Challenge.pw_latestart_k05_written_bills w K mg base (L2N.CX PySem.Challenge.pw_latestart_k05_written_bills w) 61 fa fd ["_law_script"] (spLaw K) := by
  have e := hfa.symm.trans (PySem.W.mg_of X G a24)
  cases e
  have T : Tp PySem.Challenge.pw_latestart_k05_written_bills K mg := ⟨PySem.W.mg_none_of X G z_bool, PySem.W.mg_none_of X G z_enumerate, PySem.W.mg_none_of X G z_int, PySem.W.mg_none_of X G z_isinstance, PySem.W.mg_none_of X G z_len, PySem.W.mg_none_of X G z_list, PySem.W.mg_none_of X G z_range, PySem.W.mg_none_of X G z_str, PySem.W.mg_none_of X G z_super, PySem.W.mg_none_of X G z_tuple, Cst.str (PySem.W.mg_of X G y_DIGITS) (by decide +kernel) (by decide +kernel), Cst.str (PySem.W.mg_of X G y_LETTERS) (by decide +kernel) (by decide +kernel), Cst.int (PySem.W.mg_of X G y_MOST_ITEMS), Cst.int (PySem.W.mg_of X G y_MOST_LEAD), Cst.int (PySem.W.mg_of X G y_MOST_LOT), Cst.int (PySem.W.mg_of X G y_MOST_PARTS), Cst.int (PySem.W.mg_of X G y_MOST_QUANTITY), Cst.int (PySem.W.mg_of X G y_NAME_LENGTH), Cst.int (PySem.W.mg_of X G y_NUMBER_LENGTH), Cst.str (PySem.W.mg_of X G y_SIGNS) (by decide +kernel) (by decide +kernel), ⟨⟨_, PySem.W.mg_of X G oa_Line, ⟨opg_Line, ohd_Line, opo_Line, osa_Line⟩, (fun p hp => by rcases List.mem_cons.mp hp with rfl | hp; (exact on_state_Line); rcases List.mem_cons.mp hp with rfl | hp; (exact on_name_Line); rcases List.mem_cons.mp hp with rfl | hp; (exact on_parts_Line); rcases List.mem_cons.mp hp with rfl | hp; (exact on_quantity_Line); rcases List.mem_cons.mp hp with rfl | hp; (exact on_numbers_Line); cases hp)⟩⟩, ⟨⟨_, i_BillFault, PySem.W.mg_of X G ea_BillFault, ⟨⟨⟨_, _, _, _, _, _, _, _, _, _, _, _, _, _, _, xl_BillFault, refs1 _⟩, xsa_BillFault, eb_BillFault, et_BillFault, ek_BillFault⟩, ⟨_, _, _, _, _, _, _, _, _, _, _, _, _, _, _, _, _, _, _, _, _, xi_BillFault, xt_BillFault, xf_BillFault, xc_BillFault, xd_BillFault, xv_BillFault, xp_BillFault, xe_BillFault⟩, xu_BillFault, xw_BillFault, xm_BillFault, xo_BillFault⟩, sh_BillFault, (fun p hp => by rcases List.mem_cons.mp hp with rfl | hp; (exact xn_line_BillFault); rcases List.mem_cons.mp hp with rfl | hp; (exact xn_place_BillFault); rcases List.mem_cons.mp hp with rfl | hp; (exact xn_word_BillFault); cases hp), PySem.W.mg_none_of X G z_super⟩⟩⟩
  have F0 := fun_mk (st := s__law_cell) l0 c0 k0
  have b0 := F0.binds (ps := ["_law_script", "_law_k"]) fun _ _ _ _ _ _ us hl => match us, hl with | [_, _], _ => rfl
  have F1 := fun_mk (st := s__law_digits) l1 c1 k1
  have b1 := F1.binds (ps := ["_law_script", "_law_first", "_law_last"]) fun _ _ _ _ _ _ us hl => match us, hl with | [_, _, _], _ => rfl
  have F2 := fun_mk (st := s__law_draw) l2 c2 k2
  have b2 := F2.binds (ps := ["_law_box", "_law_many"]) fun _ _ _ _ _ _ us hl => match us, hl with | [_, _], _ => rfl
  have F3 := fun_mk (st := s__law_run) l3 c3 k3
  have b3 := F3.binds (ps := ["_law_box", "_law_many", "_law_chars"]) fun _ _ _ _ _ _ us hl => match us, hl with | [_, _, _], _ => rfl
  have F4 := fun_mk (st := s__law_name) l4 c4 k4
  have b4 := F4.binds (ps := ["_law_box", "_law_taken"]) fun _ _ _ _ _ _ us hl => match us, hl with | [_, _], _ => rfl
  have F5 := fun_mk (st := s__law_bill) l5 c5 k5
  have b5 := F5.binds (ps := ["_law_box", "_law_most"]) fun _ _ _ _ _ _ us hl => match us, hl with | [_, _], _ => rfl
  have F6 := fun_mk (st := s__write_part) l6 c6 k6
  have b6 := F6.binds (ps := ["bill", "part"]) fun _ _ _ _ _ _ us hl => match us, hl with | [_, _], _ => rfl
  have F7 := fun_mk (st := s_write_bill) l7 c7 k7
  have b7 := F7.binds (ps := ["bill"]) fun _ _ _ _ _ _ us hl => match us, hl with | [_], _ => rfl
  have F8 := fun_mk (st := s__law_text) l8 c8 k8
  have b8 := F8.binds (ps := ["_law_bill_here"]) fun _ _ _ _ _ _ us hl => match us, hl with | [_], _ => rfl
  have F9 := fun_mk (st := s__law_same) l9 c9 k9
  have b9 := F9.binds (ps := ["_law_actual", "_law_due"]) fun _ _ _ _ _ _ us hl => match us, hl with | [_, _], _ => rfl
  have F10 := fun_mk (st := s__run_end) l10 c10 k10
  have b10 := F10.binds (ps := ["line", "at", "chars"]) fun _ _ _ _ _ _ us hl => match us, hl with | [_, _, _], _ => rfl
  have F11 := fun_mk (st := s__token) l11 c11 k11
  have b11 := F11.binds (ps := ["line", "at"]) fun _ _ _ _ _ _ us hl => match us, hl with | [_, _], _ => rfl
  have F12 := fun_mk (st := s_tokens) l12 c12 k12
  have b12 := F12.binds (ps := ["line"]) fun _ _ _ _ _ _ us hl => match us, hl with | [_], _ => rfl
  have F13 := fun_mk (st := s_Line___init__) l13 c13 k13
  have b13 := F13.binds (ps := ["self"]) fun _ _ _ _ _ _ us hl => match us, hl with | [_], _ => rfl
  have F14 := fun_mk (st := s_Line__head) l14 c14 k14
  have b14 := F14.binds (ps := ["self", "kind", "text"]) fun _ _ _ _ _ _ us hl => match us, hl with | [_, _, _], _ => rfl
  have F15 := fun_mk (st := s_Line__part) l15 c15 k15
  have b15 := F15.binds (ps := ["self", "kind", "text"]) fun _ _ _ _ _ _ us hl => match us, hl with | [_, _, _], _ => rfl
  have F16 := fun_mk (st := s_Line__number) l16 c16 k16
  have b16 := F16.binds (ps := ["self", "text", "least", "most", "state"]) fun _ _ _ _ _ _ us hl => match us, hl with | [_, _, _, _, _], _ => rfl
  have F17 := fun_mk (st := s_Line__tail) l17 c17 k17
  have b17 := F17.binds (ps := ["self", "kind", "text"]) fun _ _ _ _ _ _ us hl => match us, hl with | [_, _, _], _ => rfl
  have F18 := fun_mk (st := s_Line_take) l18 c18 k18
  have b18 := F18.binds (ps := ["self", "token"]) fun _ _ _ _ _ _ us hl => match us, hl with | [_, _], _ => rfl
  have F19 := fun_mk (st := s__read_line) l19 c19 k19
  have b19 := F19.binds (ps := ["line", "parts"]) fun _ _ _ _ _ _ us hl => match us, hl with | [_, _], _ => rfl
  have F20 := fun_mk (st := s__read_lines) l20 c20 k20
  have b20 := F20.binds (ps := ["text"]) fun _ _ _ _ _ _ us hl => match us, hl with | [_], _ => rfl
  have F21 := fun_mk (st := s__check_names) l21 c21 k21
  have b21 := F21.binds (ps := ["lines"]) fun _ _ _ _ _ _ us hl => match us, hl with | [_], _ => rfl
  have F22 := fun_mk (st := s__reaches) l22 c22 k22
  have b22 := F22.binds (ps := ["items", "first"]) fun _ _ _ _ _ _ us hl => match us, hl with | [_, _], _ => rfl
  have F23 := fun_mk (st := s_read_bill) l23 c23 k23
  have b23 := F23.binds (ps := ["text"]) fun _ _ _ _ _ _ us hl => match us, hl with | [_], _ => rfl
  have F24 := fun_mk (st := s_law) l24 c24 k24
  have b24 := F24.binds (ps := ["_law_script"]) fun _ _ _ _ _ _ us hl => match us, hl with | [_], _ => rfl
  refine ⟨PySem.W.fnOf "law" "law" (defArgs s_law) (defBody s_law) (defScope s_law) .none kV24 dc24 pm24 an24 cd24 ct24, fun s v => .of_eq rfl, fun base _ _ => ?_⟩
  have H__law_cell : Kp PySem.Challenge.pw_latestart_k05_written_bills w K mg base 1 "_law_cell" 2 f__law_cell := ⟨_, _, _, (ok__law_cell T  F0), b0, PySem.W.mg_of X G a0, k0⟩
  have H__law_digits : Kp PySem.Challenge.pw_latestart_k05_written_bills w K mg base 2 "_law_digits" 3 f__law_digits := ⟨_, _, _, (ok__law_digits T H__law_cell F1), b1, PySem.W.mg_of X G a1, k1⟩
  have H__law_draw : Kp PySem.Challenge.pw_latestart_k05_written_bills w K mg base 1 "_law_draw" 2 f__law_draw := ⟨_, _, _, (ok__law_draw T  F2), b2, PySem.W.mg_of X G a2, k2⟩
  have H__law_run : Kp PySem.Challenge.pw_latestart_k05_written_bills w K mg base 2 "_law_run" 3 f__law_run := ⟨_, _, _, (ok__law_run T H__law_draw F3), b3, PySem.W.mg_of X G a3, k3⟩
  have H__law_name : Kp PySem.Challenge.pw_latestart_k05_written_bills w K mg base 3 "_law_name" 2 f__law_name := ⟨_, _, _, (ok__law_name T H__law_draw H__law_run F4), b4, PySem.W.mg_of X G a4, k4⟩
  have H__law_bill : Kp PySem.Challenge.pw_latestart_k05_written_bills w K mg base 4 "_law_bill" 2 f__law_bill := ⟨_, _, _, (ok__law_bill T H__law_draw H__law_name F5), b5, PySem.W.mg_of X G a5, k5⟩
  have H__write_part : Kp PySem.Challenge.pw_latestart_k05_written_bills w K mg base 1 "_write_part" 2 f__write_part := ⟨_, _, _, (ok__write_part T  F6), b6, PySem.W.mg_of X G a6, k6⟩
  have H_write_bill : Kp PySem.Challenge.pw_latestart_k05_written_bills w K mg base 2 "write_bill" 1 f_write_bill := ⟨_, _, _, (ok_write_bill T H__write_part F7), b7, PySem.W.mg_of X G a7, k7⟩
  have H__law_text : Kp PySem.Challenge.pw_latestart_k05_written_bills w K mg base 1 "_law_text" 1 f__law_text := ⟨_, _, _, (ok__law_text T  F8), b8, PySem.W.mg_of X G a8, k8⟩
  have H__law_same : Kp PySem.Challenge.pw_latestart_k05_written_bills w K mg base 60 "_law_same" 2 f__law_same := ⟨_, _, _, (by rw [f__law_same_eq]; exact okk__law_same T  F9 b9 (PySem.W.mg_of X G a9) 60), b9, PySem.W.mg_of X G a9, k9⟩
  have H__run_end : Kp PySem.Challenge.pw_latestart_k05_written_bills w K mg base 1 "_run_end" 3 f__run_end := ⟨_, _, _, (ok__run_end T  F10), b10, PySem.W.mg_of X G a10, k10⟩
  have H__token : Kp PySem.Challenge.pw_latestart_k05_written_bills w K mg base 2 "_token" 2 f__token := ⟨_, _, _, (ok__token T H__run_end F11), b11, PySem.W.mg_of X G a11, k11⟩
  have H_tokens : Kp PySem.Challenge.pw_latestart_k05_written_bills w K mg base 3 "tokens" 1 f_tokens := ⟨_, _, _, (ok_tokens T H__token F12), b12, PySem.W.mg_of X G a12, k12⟩
  have H_Line___init__ : KpI PySem.Challenge.pw_latestart_k05_written_bills w K mg base 1 "Line" 1 f_Line___init__ := ⟨_, _, _, _, PySem.W.mg_of X G oa_Line, ⟨omk_Line, a13, i13, okc_Line⟩, (ok_Line___init__ T  F13), b13⟩
  have H_Line__head : KpM PySem.Challenge.pw_latestart_k05_written_bills w K mg base 1 "Line" "_head" 3 f_Line__head := ⟨_, _, _, _, PySem.W.mg_of X G oa_Line, ⟨opg_Line, ohd_Line, opo_Line, osa_Line⟩, ⟨a14, i14, k14⟩, (ok_Line__head T  F14), b14⟩
  have H_Line__part : KpM PySem.Challenge.pw_latestart_k05_written_bills w K mg base 1 "Line" "_part" 3 f_Line__part := ⟨_, _, _, _, PySem.W.mg_of X G oa_Line, ⟨opg_Line, ohd_Line, opo_Line, osa_Line⟩, ⟨a15, i15, k15⟩, (ok_Line__part T  F15), b15⟩
  have H_Line__number : KpM PySem.Challenge.pw_latestart_k05_written_bills w K mg base 1 "Line" "_number" 5 f_Line__number := ⟨_, _, _, _, PySem.W.mg_of X G oa_Line, ⟨opg_Line, ohd_Line, opo_Line, osa_Line⟩, ⟨a16, i16, k16⟩, (ok_Line__number T  F16), b16⟩
  have H_Line__tail : KpM PySem.Challenge.pw_latestart_k05_written_bills w K mg base 2 "Line" "_tail" 3 f_Line__tail := ⟨_, _, _, _, PySem.W.mg_of X G oa_Line, ⟨opg_Line, ohd_Line, opo_Line, osa_Line⟩, ⟨a17, i17, k17⟩, (ok_Line__tail T H_Line__number F17), b17⟩
  have H_Line_take : KpM PySem.Challenge.pw_latestart_k05_written_bills w K mg base 3 "Line" "take" 2 f_Line_take := ⟨_, _, _, _, PySem.W.mg_of X G oa_Line, ⟨opg_Line, ohd_Line, opo_Line, osa_Line⟩, ⟨a18, i18, k18⟩, (ok_Line_take T H_Line__head H_Line__part H_Line__tail F18), b18⟩
  have H__read_line : Kp PySem.Challenge.pw_latestart_k05_written_bills w K mg base 4 "_read_line" 2 f__read_line := ⟨_, _, _, (ok__read_line T H_Line___init__ H_Line_take F19), b19, PySem.W.mg_of X G a19, k19⟩
  have H__read_lines : Kp PySem.Challenge.pw_latestart_k05_written_bills w K mg base 5 "_read_lines" 1 f__read_lines := ⟨_, _, _, (ok__read_lines T H_tokens H__read_line F20), b20, PySem.W.mg_of X G a20, k20⟩
  have H__check_names : Kp PySem.Challenge.pw_latestart_k05_written_bills w K mg base 2 "_check_names" 1 f__check_names := ⟨_, _, _, (ok__check_names T  F21), b21, PySem.W.mg_of X G a21, k21⟩
  have H__reaches : Kp PySem.Challenge.pw_latestart_k05_written_bills w K mg base 1 "_reaches" 2 f__reaches := ⟨_, _, _, (ok__reaches T  F22), b22, PySem.W.mg_of X G a22, k22⟩
  have H_read_bill : Kp PySem.Challenge.pw_latestart_k05_written_bills w K mg base 6 "read_bill" 1 f_read_bill := ⟨_, _, _, (ok_read_bill T H__read_lines H__check_names H__reaches F23), b23, PySem.W.mg_of X G a23, k23⟩
  exact fn_law (ok_law_k05 T H__law_digits H__law_bill H_write_bill H__law_text H__law_same H_read_bill F24) law
end Mw.K05
open PySem PySem.W PyProof.Rows
set_option maxHeartbeats 0 in
theorem PySem.Challenge.cw_latestart_k05_written_bills_holds : PySem.Challenge.rw_latestart_k05_written_bills.Holds := by
  w_on; o_law; k_head; (case hw => w_witness2)
  k_fill
  refine L2.walk_of (l := PySem.Challenge.rw_latestart_k05_written_bills) (n := 63) (k := 61) (x := "_law_script") (CX := fun w => L2N.CX PySem.Challenge.rw_latestart_k05_written_bills.prog w) (sp := fun w => Mw.spLaw _) rfl (by decide) rfl ⟨rfl, by decide, by decide⟩ (fun w h Y => PySem.W.kIn_of Y) ?F (fun _ _ a ns hl _ hS => ⟨a, ns, rfl, hS, hl, fun _ => rfl⟩) (fun _ _ _ _ _ h => by obtain ⟨_, _, _, _, _, _, _, _, _, _, _, _, z⟩ := h; exact z)
  case F =>
    intro w mg fa h KX G hmg
    refine' Mw.K05.all_mk KX G hmg ?oa_Line ?opg_Line ?ohd_Line ?opo_Line ?osa_Line ?omk_Line ?okc_Line ?on_state_Line ?on_name_Line ?on_parts_Line ?on_quantity_Line ?on_numbers_Line ?a0 ?l0 ?c0 ?k0 ?a1 ?l1 ?c1 ?k1 ?a2 ?l2 ?c2 ?k2 ?a3 ?l3 ?c3 ?k3 ?a4 ?l4 ?c4 ?k4 ?a5 ?l5 ?c5 ?k5 ?a6 ?l6 ?c6 ?k6 ?a7 ?l7 ?c7 ?k7 ?a8 ?l8 ?c8 ?k8 ?a9 ?l9 ?c9 ?k9 ?a10 ?l10 ?c10 ?k10 ?a11 ?l11 ?c11 ?k11 ?a12 ?l12 ?c12 ?k12 ?a13 ?i13 ?l13 ?c13 ?k13 ?a14 ?i14 ?l14 ?c14 ?k14 ?a15 ?i15 ?l15 ?c15 ?k15 ?a16 ?i16 ?l16 ?c16 ?k16 ?a17 ?i17 ?l17 ?c17 ?k17 ?a18 ?i18 ?l18 ?c18 ?k18 ?a19 ?l19 ?c19 ?k19 ?a20 ?l20 ?c20 ?k20 ?a21 ?l21 ?c21 ?k21 ?a22 ?l22 ?c22 ?k22 ?a23 ?l23 ?c23 ?k23 ?a24 ?l24 ?c24 ?k24 ?z_bool ?z_enumerate ?z_int ?z_isinstance ?z_len ?z_list ?z_range ?z_str ?z_super ?z_tuple ?y_DIGITS ?y_LETTERS ?y_MOST_ITEMS ?y_MOST_LEAD ?y_MOST_LOT ?y_MOST_PARTS ?y_MOST_QUANTITY ?y_NAME_LENGTH ?y_NUMBER_LENGTH ?y_SIGNS ?ea_BillFault ?xl_BillFault ?xsa_BillFault ?eb_BillFault ?et_BillFault ?ek_BillFault ?ed_BillFault ?xi_BillFault ?xt_BillFault ?xf_BillFault ?xc_BillFault ?xd_BillFault ?xv_BillFault ?xp_BillFault ?xe_BillFault ?xu_BillFault ?xw_BillFault ?xm_BillFault ?xo_BillFault ?xn_line_BillFault ?xn_place_BillFault ?xn_word_BillFault Mw.K05.law_true
    (case oa_Line => k_is)
    (case opg_Line => k_is)
    (case ohd_Line => k_is)
    (case opo_Line => k_is)
    (case osa_Line => k_is)
    (case omk_Line => k_is)
    (case okc_Line => k_is)
    (case on_state_Line => k_is)
    (case on_name_Line => k_is)
    (case on_parts_Line => k_is)
    (case on_quantity_Line => k_is)
    (case on_numbers_Line => k_is)
    (case a0 => k_is)
    (case l0 => k_is)
    (case c0 => k_is)
    (case k0 => k_is)
    (case a1 => k_is)
    (case l1 => k_is)
    (case c1 => k_is)
    (case k1 => k_is)
    (case a2 => k_is)
    (case l2 => k_is)
    (case c2 => k_is)
    (case k2 => k_is)
    (case a3 => k_is)
    (case l3 => k_is)
    (case c3 => k_is)
    (case k3 => k_is)
    (case a4 => k_is)
    (case l4 => k_is)
    (case c4 => k_is)
    (case k4 => k_is)
    (case a5 => k_is)
    (case l5 => k_is)
    (case c5 => k_is)
    (case k5 => k_is)
    (case a6 => k_is)
    (case l6 => k_is)
    (case c6 => k_is)
    (case k6 => k_is)
    (case a7 => k_is)
    (case l7 => k_is)
    (case c7 => k_is)
    (case k7 => k_is)
    (case a8 => k_is)
    (case l8 => k_is)
    (case c8 => k_is)
    (case k8 => k_is)
    (case a9 => k_is)
    (case l9 => k_is)
    (case c9 => k_is)
    (case k9 => k_is)
    (case a10 => k_is)
    (case l10 => k_is)
    (case c10 => k_is)
    (case k10 => k_is)
    (case a11 => k_is)
    (case l11 => k_is)
    (case c11 => k_is)
    (case k11 => k_is)
    (case a12 => k_is)
    (case l12 => k_is)
    (case c12 => k_is)
    (case k12 => k_is)
    (case a13 => k_is)
    (case i13 => k_is)
    (case l13 => k_is)
    (case c13 => k_is)
    (case k13 => k_is)
    (case a14 => k_is)
    (case i14 => k_is)
    (case l14 => k_is)
    (case c14 => k_is)
    (case k14 => k_is)
    (case a15 => k_is)
    (case i15 => k_is)
    (case l15 => k_is)
    (case c15 => k_is)
    (case k15 => k_is)
    (case a16 => k_is)
    (case i16 => k_is)
    (case l16 => k_is)
    (case c16 => k_is)
    (case k16 => k_is)
    (case a17 => k_is)
    (case i17 => k_is)
    (case l17 => k_is)
    (case c17 => k_is)
    (case k17 => k_is)
    (case a18 => k_is)
    (case i18 => k_is)
    (case l18 => k_is)
    (case c18 => k_is)
    (case k18 => k_is)
    (case a19 => k_is)
    (case l19 => k_is)
    (case c19 => k_is)
    (case k19 => k_is)
    (case a20 => k_is)
    (case l20 => k_is)
    (case c20 => k_is)
    (case k20 => k_is)
    (case a21 => k_is)
    (case l21 => k_is)
    (case c21 => k_is)
    (case k21 => k_is)
    (case a22 => k_is)
    (case l22 => k_is)
    (case c22 => k_is)
    (case k22 => k_is)
    (case a23 => k_is)
    (case l23 => k_is)
    (case c23 => k_is)
    (case k23 => k_is)
    (case a24 => k_is)
    (case l24 => k_is)
    (case c24 => k_is)
    (case k24 => k_is)
    (case z_bool => k_is)
    (case z_enumerate => k_is)
    (case z_int => k_is)
    (case z_isinstance => k_is)
    (case z_len => k_is)
    (case z_list => k_is)
    (case z_range => k_is)
    (case z_str => k_is)
    (case z_super => k_is)
    (case z_tuple => k_is)
    (case y_DIGITS => k_is)
    (case y_LETTERS => k_is)
    (case y_MOST_ITEMS => k_is)
    (case y_MOST_LEAD => k_is)
    (case y_MOST_LOT => k_is)
    (case y_MOST_PARTS => k_is)
    (case y_MOST_QUANTITY => k_is)
    (case y_NAME_LENGTH => k_is)
    (case y_NUMBER_LENGTH => k_is)
    (case y_SIGNS => k_is)
    (case ea_BillFault => k_is)
    (case xl_BillFault => k_is)
    (case xsa_BillFault => k_is)
    (case eb_BillFault => k_is)
    (case et_BillFault => k_is)
    (case ek_BillFault => k_is)
    (case ed_BillFault => k_is)
    (case xi_BillFault => k_is)
    (case xt_BillFault => k_is)
    (case xf_BillFault => k_is)
    (case xc_BillFault => k_is)
    (case xd_BillFault => k_is)
    (case xv_BillFault => rfl)
    (case xp_BillFault => first | rfl | decide +kernel)
    (case xe_BillFault => k_is)
    (case xu_BillFault => ks_is)
    (case xw_BillFault => k_is)
    (case xm_BillFault => k_is)
    (case xo_BillFault => k_is)
    (case xn_line_BillFault => k_is)
    (case xn_place_BillFault => k_is)
    (case xn_word_BillFault => k_is)
