import PyProof.Rows.All
import Wide.All
import OpenK.AllK
import Wide.FinOn
import HandS.ForMost
import HandS.TupAny
import HandS.Deep
import HandS.Wide
import HandS.SortInts
import HandS.Style
import HandS.More
import HandS.TupSets
import KE.KeyNested
import HandS.SetKeys
import HandS.SetFor
import KE.SortData
import HandS.DictComp
import HandS.SetBool
import KE.KDictCopyH
import HandS.IsInst
import HandS.RaiseMore
import KE.BitLaws
import PySem.Challenge.RW_setnests_k32_whole_likeness
set_option Elab.async false
set_option linter.all false
set_option maxRecDepth 100000
set_option maxHeartbeats 4000000
/-! DL1: values as data, the store of what changes, the lift of the hand layer's readings to both. -/
namespace DL
open PySem PySem.Spec PyProof.Rows L2

/-- data: what is known by its value alone; ref: an object that is known by its place -/
inductive D where
  | non | bl (b : Bool) | int (i : Int) | str (x : Str) | ref (a : Addr)
  | lst (xs : List D) | rl (xs : List D) | tup (xs : List D)
  | dK (kvs : List (Key × D))
  | obj (C : Addr) (fs : List (Str × D))
  | ext (p : PySem.W.Frag → Hp → Addr → Prop)
instance : Inhabited D := ⟨.non⟩

/-- what stands at a place that may change -/
inductive MO where
  | lst (xs : List D)
  | dK (kvs : List (Key × D))
  | dT (kvs : List (List Key × D))
  | ins (C : Addr) (fs : List (Str × D))
abbrev MS := Addr → Option MO
def mupd (M : MS) (a : Addr) (o : MO) : MS := fun b => if b = a then some o else M b
def mdel (M : MS) (a : Addr) : MS := fun b => if b = a then none else M b
theorem mupd_same {M : MS} {a : Addr} {o : MO} : mupd M a o a = some o := if_pos rfl
theorem mupd_ne {M : MS} {a b : Addr} {o : MO} (h : b ≠ a) : mupd M a o b = M b := if_neg h
theorem mdel_same {M : MS} {a : Addr} : mdel M a a = none := if_pos rfl
theorem mdel_ne {M : MS} {a b : Addr} (h : b ≠ a) : mdel M a b = M b := if_neg h
theorem mupd_mupd {M : MS} {a : Addr} {o u : MO} : mupd (mupd M a o) a u = mupd M a u := by
  funext b; unfold mupd; split <;> rfl
theorem mdel_mupd {M : MS} {a : Addr} {o : MO} (h : M a = none) : mdel (mupd M a o) a = M := by
  funext b; unfold mdel mupd
  by_cases e : b = a
  · subst e; simp [h]
  · simp [e]
theorem mupd_comm {M : MS} {a b : Addr} {o u : MO} (h : a ≠ b) : mupd (mupd M a o) b u = mupd (mupd M b u) a o := by
  funext c; unfold mupd
  by_cases e : c = b
  · subst e; simp [Ne.symm h]
  · simp [e]
theorem mupd_id {M : MS} {a : Addr} {o : MO} (h : M a = some o) : mupd M a o = M := by
  funext b; unfold mupd
  by_cases e : b = a
  · subst e; simp [h]
  · simp [e]
theorem ne_ms {M : MS} {a b : Addr} {o : MO} (h : M a = some o) (h' : M b = none) : a ≠ b := fun e => by
  subst e; rw [h] at h'; cases h'

section
variable (K : PySem.W.Frag) (F : Hp)
mutual
inductive Dt : V → D → Prop
  | non : Dt .non .non
  | bl (b : Bool) : Dt (.bl b) (.bl b)
  | int (i : Int) : Dt (.int i) (.int i)
  | str (x : Str) : Dt (.str x) (.str x)
  | ref (a : Addr) : Dt (.ref a) (.ref a)
  | lst {a : Addr} {vs : List V} {ds : List D} : F a = some (.lst vs) → DtAll vs ds → Dt (.ref a) (.lst ds)
  | rl {a : Addr} {vs : List V} {ds : List D} : SqL K F a vs → DtAll vs ds → Dt (.ref a) (.rl ds)
  | tup {a : Addr} {vs : List V} {ds : List D} : SqT K F a vs → DtAll vs ds → Dt (.ref a) (.tup ds)
  | dK {a : Addr} {kvs : List (Key × V)} {kds : List (Key × D)} : Rd F a (.dK kvs) → kvs.map Prod.fst = kds.map Prod.fst → DtAll (kvs.map Prod.snd) (kds.map Prod.snd) → Dt (.ref a) (.dK kds)
  | obj {a C dx : Addr} {fs : List (Str × V)} {ds : List (Str × D)} : F a = some (.ins C dx fs) → F dx = some (.own a) → fs.map Prod.fst = ds.map Prod.fst → DtAll (fs.map Prod.snd) (ds.map Prod.snd) → Dt (.ref a) (.obj C ds)
  | ext {a : Addr} {p : PySem.W.Frag → Hp → Addr → Prop} : (∀ F', Same F F' → p K F' a) → Dt (.ref a) (.ext p)
inductive DtAll : List V → List D → Prop
  | nil : DtAll [] []
  | cons {v : V} {d : D} {vs : List V} {ds : List D} : Dt v d → DtAll vs ds → DtAll (v :: vs) (d :: ds)
end
end
section
variable {K : PySem.W.Frag} {F F' : Hp}
theorem same_tup {a : Addr} {xs : List V} (e : Same F F') (h : SqT K F a xs) : SqT K F' a xs := by
  rcases h with (h | ⟨o, h⟩) | h
  · exact .inl (.inl (e _ _ h))
  · exact .inl (.inr ⟨o, e _ _ h⟩)
  · exact .inr h
theorem same_rd {a : Addr} {u : HO} (e : Same F F') (h : Rd F a u) : Rd F' a u := by
  rcases h with h | ⟨o, h⟩
  · exact .inl (e _ _ h)
  · exact .inr ⟨o, e _ _ h⟩
mutual
theorem Dt.mono (h : Same F F') : ∀ {v : V} {d : D}, Dt K F v d → Dt K F' v d
  | _, _, .non => .non
  | _, _, .bl b => .bl b
  | _, _, .int i => .int i
  | _, _, .str x => .str x
  | _, _, .ref a => .ref a
  | _, _, .lst s a => .lst (h _ _ s) (DtAll.mono h a)
  | _, _, .rl s a => .rl (h.seq s) (DtAll.mono h a)
  | _, _, .tup s a => .tup (same_tup h s) (DtAll.mono h a)
  | _, _, .dK r e a => .dK (same_rd h r) e (DtAll.mono h a)
  | _, _, .obj r o e a => .obj (h _ _ r) (h _ _ o) e (DtAll.mono h a)
  | _, _, .ext q => .ext fun F'' s => q F'' (h.trans s)
theorem DtAll.mono (h : Same F F') : ∀ {vs : List V} {ds : List D}, DtAll K F vs ds → DtAll K F' vs ds
  | _, _, .nil => .nil
  | _, _, .cons a b => .cons (Dt.mono h a) (DtAll.mono h b)
end
theorem DtAll.length : ∀ {vs : List V} {ds : List D}, DtAll K F vs ds → vs.length = ds.length
  | _, _, .nil => rfl
  | _, _, .cons _ b => congrArg (· + 1) (DtAll.length b)
theorem DtAll.get : ∀ {vs : List V} {ds : List D} {i : Nat} {v : V}, DtAll K F vs ds → vs[i]? = some v → ∃ d, ds[i]? = some d ∧ Dt K F v d
  | _, _, _, _, .nil, e => by simp at e
  | _, _, 0, _, .cons a _, e => by simp at e; subst e; exact ⟨_, rfl, a⟩
  | _, _, i + 1, _, .cons _ b, e => by simpa using DtAll.get (i := i) b (by simpa using e)
theorem DtAll.get' : ∀ {vs : List V} {ds : List D} {i : Nat} {d : D}, DtAll K F vs ds → ds[i]? = some d → ∃ v, vs[i]? = some v ∧ Dt K F v d
  | _, _, _, _, .nil, e => by simp at e
  | _, _, 0, _, .cons a _, e => by simp at e; subst e; exact ⟨_, rfl, a⟩
  | _, _, i + 1, _, .cons _ b, e => by simpa using DtAll.get' (i := i) b (by simpa using e)
theorem DtAll.append : ∀ {vs us : List V} {ds es : List D}, DtAll K F vs ds → DtAll K F us es → DtAll K F (vs ++ us) (ds ++ es)
  | _, _, _, _, .nil, s => s
  | _, _, _, _, .cons a b, s => .cons a (DtAll.append b s)
theorem DtAll.set {v : V} {d : D} (a : Dt K F v d) : ∀ {vs : List V} {ds : List D} (i : Nat), DtAll K F vs ds → DtAll K F (vs.set i v) (ds.set i d)
  | _, _, _, .nil => .nil
  | _, _, 0, .cons _ b => .cons a b
  | _, _, i + 1, .cons x b => .cons x (DtAll.set a i b)
theorem DtAll.take : ∀ {vs : List V} {ds : List D} (n : Nat), DtAll K F vs ds → DtAll K F (vs.take n) (ds.take n)
  | _, _, 0, _ => .nil
  | _, _, _ + 1, .nil => .nil
  | _, _, n + 1, .cons x b => .cons x (DtAll.take n b)
theorem DtAll.drop : ∀ {vs : List V} {ds : List D} (n : Nat), DtAll K F vs ds → DtAll K F (vs.drop n) (ds.drop n)
  | _, _, 0, h => h
  | _, _, _ + 1, .nil => .nil
  | _, _, n + 1, .cons _ b => DtAll.drop n b
theorem DtAll.reverse {vs : List V} {ds : List D} (h : DtAll K F vs ds) : DtAll K F vs.reverse ds.reverse := by
  induction h using DtAll.rec (motive_1 := fun _ _ _ => True) with
  | nil => exact .nil
  | cons a b _ ih => rw [List.reverse_cons, List.reverse_cons]; exact ih.append (.cons a .nil)
  | _ => trivial
theorem dt_int {v : V} {i : Int} (h : Dt K F v (.int i)) : v = .int i := by cases h; rfl
theorem dt_bl {v : V} {b : Bool} (h : Dt K F v (.bl b)) : v = .bl b := by cases h; rfl
theorem dt_str {v : V} {x : Str} (h : Dt K F v (.str x)) : v = .str x := by cases h; rfl
theorem dt_ref {v : V} {a : Addr} (h : Dt K F v (.ref a)) : v = .ref a := by cases h; rfl
theorem dt_non {v : V} (h : Dt K F v .non) : v = .non := by cases h; rfl
theorem dt_lst {v : V} {ds : List D} (h : Dt K F v (.lst ds)) : ∃ a vs, v = .ref a ∧ F a = some (.lst vs) ∧ DtAll K F vs ds := by cases h with | lst s r => exact ⟨_, _, rfl, s, r⟩
theorem dt_tup {v : V} {ds : List D} (h : Dt K F v (.tup ds)) : ∃ a vs, v = .ref a ∧ SqT K F a vs ∧ DtAll K F vs ds := by cases h with | tup s r => exact ⟨_, _, rfl, s, r⟩
theorem dtAll_ints : ∀ {vs : List V} {ns : List Int}, DtAll K F vs (ns.map D.int) → vs = ns.map V.int
  | [], [], _ => rfl
  | _ :: _, [], h => by cases h
  | [], _ :: _, h => by cases h
  | v :: vs, n :: ns, h => by
    cases h with
    | cons a b => rw [dt_int a, dtAll_ints b]; rfl
theorem dtAll_of_ints : ∀ (ns : List Int), DtAll K F (ns.map V.int) (ns.map D.int)
  | [] => .nil
  | n :: ns => .cons (.int n) (dtAll_of_ints ns)
theorem dtAll_strs : ∀ {vs : List V} {ns : List Str}, DtAll K F vs (ns.map D.str) → vs = ns.map V.str
  | [], [], _ => rfl
  | _ :: _, [], h => by cases h
  | [], _ :: _, h => by cases h
  | v :: vs, n :: ns, h => by
    cases h with
    | cons a b => rw [dt_str a, dtAll_strs b]; rfl
theorem dtAll_of_strs : ∀ (ns : List Str), DtAll K F (ns.map V.str) (ns.map D.str)
  | [] => .nil
  | n :: ns => .cons (.str n) (dtAll_of_strs ns)
end

/-! ### the state: frozen F, changing M, the rest G -/
def KDs {κ : Type} (K : PySem.W.Frag) (F : Hp) (xs : List (κ × V)) (ys : List (κ × D)) : Prop := xs.map Prod.fst = ys.map Prod.fst ∧ DtAll K F (xs.map Prod.snd) (ys.map Prod.snd)
def MOk (K : PySem.W.Frag) (F H : Hp) (a : Addr) : MO → Prop
  | .lst ds => ∃ vs, H a = some (.lst vs) ∧ DtAll K F vs ds
  | .dK kds => ∃ kvs, H a = some (.dK kvs) ∧ KDs K F kvs kds
  | .dT kds => ∃ kvs, H a = some (.dT kvs) ∧ KDs K F kvs kds
  | .ins C fs => ∃ dx us, H a = some (.ins C dx us) ∧ H dx = some (.own a) ∧ F dx = none ∧ KDs K F us fs
structure Wf (K : PySem.W.Frag) (F : Hp) (M : MS) (G : Hp) (H : Hp) : Prop where
  fz : Same F H
  mu : ∀ a o, M a = some o → F a = none ∧ G a = none ∧ MOk K F H a o
  fr : ∀ a u, G a = some u → H a = some u ∧ F a = none
abbrev DEnv := List (Option D)
def Sl (K : PySem.W.Frag) (F : Hp) : DEnv → L2.St → Prop := Paired fun (d : Option D) (v : Option V) => ∀ x, d = some x → ∃ y, v = some y ∧ Dt K F y x
theorem Sl.mono {K : PySem.W.Frag} {F F' : Hp} (h : Same F F') : ∀ {ρ : DEnv} {σ : L2.St}, Sl K F ρ σ → Sl K F' ρ σ
  | _, _, .nil => .nil
  | _, _, .cons a b => .cons (fun x e => let ⟨y, p, q⟩ := a x e; ⟨y, p, q.mono h⟩) (Sl.mono h b)
theorem Sl.get {K : PySem.W.Frag} {F : Hp} : ∀ {ρ : DEnv} {σ : L2.St} {i : Nat} {x : D}, Sl K F ρ σ → ρ[i]? = some (some x) → ∃ y, σ[i]? = some (some y) ∧ Dt K F y x
  | _, _, _, _, .nil, e => by simp at e
  | _, _, 0, x, .cons a _, e => by
    simp at e
    obtain ⟨y, p, q⟩ := a x e
    exact ⟨y, by simp [p], q⟩
  | _, _, i + 1, x, .cons _ b, e => by
    obtain ⟨y, p, q⟩ := Sl.get (i := i) (x := x) b (by simpa using e)
    exact ⟨y, by simpa using p, q⟩
theorem Sl.set {K : PySem.W.Frag} {F : Hp} {x : D} {y : V} (h : Dt K F y x) : ∀ {ρ : DEnv} {σ : L2.St} (i : Nat), Sl K F ρ σ → Sl K F (ρ.set i (some x)) (σ.set i (some y))
  | _, _, _, .nil => .nil
  | _, _, 0, .cons _ b => .cons (fun z e => by cases e; exact ⟨y, rfl, h⟩) b
  | _, _, i + 1, .cons a b => .cons a (Sl.set h i b)
theorem Sl.unset {K : PySem.W.Frag} {F : Hp} {w : Option V} : ∀ {ρ : DEnv} {σ : L2.St} (i : Nat), Sl K F ρ σ → Sl K F (ρ.set i none) (σ.set i w)
  | _, _, _, .nil => .nil
  | _, _, 0, .cons _ b => .cons (fun z e => by cases e) b
  | _, _, i + 1, .cons a b => .cons a (Sl.unset i b)
theorem Sl.length {K : PySem.W.Frag} {F : Hp} {ρ : DEnv} {σ : L2.St} (h : Sl K F ρ σ) : ρ.length = σ.length := Paired.length h

section
variable {K : PySem.W.Frag} {F F' : Hp} {M : MS} {G H : Hp}
theorem MOk.keep {H' : Hp} (e : Same F F') {a : Addr} {o : MO} (m : MOk K F H a o) (k : ∀ b u, (b = a ∨ H b = some (.own a)) → H b = some u → H' b = some u) (kf : ∀ b, H b = some (.own a) → F b = none → F' b = none) : MOk K F' H' a o := by
  cases o with
  | lst ds => obtain ⟨vs, p, q⟩ := m; exact ⟨vs, k _ _ (.inl rfl) p, q.mono e⟩
  | dK ds => obtain ⟨vs, p, q1, q2⟩ := m; exact ⟨vs, k _ _ (.inl rfl) p, q1, q2.mono e⟩
  | dT ds => obtain ⟨vs, p, q1, q2⟩ := m; exact ⟨vs, k _ _ (.inl rfl) p, q1, q2.mono e⟩
  | ins C fs => obtain ⟨dx, us, p, p2, pf, q1, q2⟩ := m; exact ⟨dx, us, k _ _ (.inl rfl) p, k _ _ (.inr p2) p2, kf _ p2 pf, q1, q2.mono e⟩
theorem MOk.some {a : Addr} {o : MO} (m : MOk K F H a o) : ∃ u, H a = some u := by
  cases o with
  | lst ds => obtain ⟨vs, p, q⟩ := m; exact ⟨_, p⟩
  | dK ds => obtain ⟨vs, p, q1, q2⟩ := m; exact ⟨_, p⟩
  | dT ds => obtain ⟨vs, p, q1, q2⟩ := m; exact ⟨_, p⟩
  | ins C fs => obtain ⟨dx, us, p, p2, q1, q2⟩ := m; exact ⟨_, p⟩
theorem Wf.fnone (w : Wf K F M G H) {p : Addr} (h : H p = none) : F p = none := w.fz.free h
theorem Wf.mnone (w : Wf K F M G H) {p : Addr} (h : H p = none) : M p = none := by
  cases e : M p with
  | none => rfl
  | some o =>
    obtain ⟨_, _, m⟩ := w.mu _ _ e
    obtain ⟨u, e'⟩ := m.some
    rw [h] at e'; cases e'
theorem Wf.gnone (w : Wf K F M G H) {p : Addr} (h : H p = none) : G p = none := by
  cases e : G p with
  | none => rfl
  | some u => have e' := (w.fr _ _ e).1; rw [h] at e'; cases e'
theorem same_up {p : Addr} {o : HO} (h : F p = none) : Same F (upd F p o) := fun b x e => by
  rw [upd_ne (ne_of_none e h)]; exact e
/-- a new thing, frozen from its birth -/
theorem Wf.newF (w : Wf K F M G H) {p : Addr} {o : HO} (h : H p = none) : Wf K (upd F p o) M G (upd H p o) := by
  have hf := w.fnone h
  refine ⟨fun b x e => ?_, fun a m e => ?_, fun a u e => ?_⟩
  · by_cases hb : b = p
    · subst hb; rw [upd_same] at e ⊢; exact e
    · rw [upd_ne hb] at e ⊢; exact w.fz _ _ e
  · obtain ⟨a1, a2, a3⟩ := w.mu _ _ e
    have ne : a ≠ p := fun z => by subst z; rw [w.mnone h] at e; cases e
    refine ⟨by rw [upd_ne ne]; exact a1, a2, a3.keep (same_up hf) (fun b u _ q => by rw [upd_ne (ne_of_none q h)]; exact q) fun b q z => by rw [upd_ne (ne_of_none q h)]; exact z⟩
  · obtain ⟨b1, b2⟩ := w.fr _ _ e
    have ne : a ≠ p := ne_of_none b1 h
    exact ⟨by rw [upd_ne ne]; exact b1, by rw [upd_ne ne]; exact b2⟩
/-- a new list that may change -/
theorem Wf.newM (w : Wf K F M G H) {p : Addr} {vs : List V} {ds : List D} (h : H p = none) (a : DtAll K F vs ds) : Wf K F (mupd M p (.lst ds)) G (upd H p (.lst vs)) := by
  refine ⟨fun b x e => by rw [upd_ne (ne_of_none (w.fz _ _ e) h)]; exact w.fz _ _ e, fun b m e => ?_, fun b u e => ?_⟩
  · by_cases hb : b = p
    · subst hb; rw [mupd_same] at e; cases e
      exact ⟨w.fnone h, w.gnone h, vs, upd_same, a⟩
    · rw [mupd_ne hb] at e
      obtain ⟨a1, a2, a3⟩ := w.mu _ _ e
      exact ⟨a1, a2, a3.keep (Same.refl F) (fun c u _ q => by rw [upd_ne (ne_of_none q h)]; exact q) fun _ _ z => z⟩
  · obtain ⟨b1, b2⟩ := w.fr _ _ e
    exact ⟨by rw [upd_ne (ne_of_none b1 h)]; exact b1, b2⟩
/-- a list that changes -/
theorem Wf.setM (w : Wf K F M G H) {p : Addr} {us : List V} {ds es : List D} (h : M p = some (.lst ds)) (a : DtAll K F us es) : Wf K F (mupd M p (.lst es)) G (upd H p (.lst us)) := by
  obtain ⟨f1, f2, vs', hv, _⟩ := w.mu _ _ h
  have nown : ∀ b c, H b = some (.own c) → b ≠ p := fun b c q z => by subst z; rw [hv] at q; cases q
  refine ⟨fun b x e => by rw [upd_ne (ne_of_none e f1)]; exact w.fz _ _ e, fun b m e => ?_, fun b u e => ?_⟩
  · by_cases hb : b = p
    · subst hb; rw [mupd_same] at e; cases e
      exact ⟨f1, f2, us, upd_same, a⟩
    · rw [mupd_ne hb] at e
      obtain ⟨a1, a2, a3⟩ := w.mu _ _ e
      refine ⟨a1, a2, a3.keep (Same.refl F) (fun c u hc q => ?_) fun _ _ z => z⟩
      have : c ≠ p := by
        rcases hc with z | z
        · rw [z]; exact hb
        · exact nown _ _ z
      rw [upd_ne this]; exact q
  · obtain ⟨b1, b2⟩ := w.fr _ _ e
    exact ⟨by rw [upd_ne (ne_of_none e f2)]; exact b1, b2⟩
/-- a list frozen -/
theorem Wf.freeze (w : Wf K F M G H) {p : Addr} {ds : List D} (h : M p = some (.lst ds)) : ∃ F', Same F F' ∧ Wf K F' (mdel M p) G H ∧ Dt K F' (.ref p) (.lst ds) := by
  obtain ⟨f1, f2, vs, hv, a⟩ := w.mu _ _ h
  have sm : Same F (upd F p (.lst vs)) := same_up f1
  refine ⟨upd F p (.lst vs), sm, ⟨fun b x e => ?_, fun b m e => ?_, fun b u e => ?_⟩, .lst upd_same (a.mono sm)⟩
  · by_cases hb : b = p
    · subst hb; rw [upd_same] at e; cases e; exact hv
    · rw [upd_ne hb] at e; exact w.fz _ _ e
  · by_cases hb : b = p
    · subst hb; rw [mdel_same] at e; cases e
    · rw [mdel_ne hb] at e
      obtain ⟨a1, a2, a3⟩ := w.mu _ _ e
      exact ⟨by rw [upd_ne hb]; exact a1, a2, a3.keep sm (fun _ _ _ q => q) fun c q z => by
        rw [upd_ne fun y => by subst y; rw [hv] at q; cases q]; exact z⟩
  · obtain ⟨b1, b2⟩ := w.fr _ _ e
    exact ⟨b1, by rw [upd_ne (ne_of_none e f2)]; exact b2⟩
/-- what is no longer wanted -/
theorem Wf.forget {M' : MS} (w : Wf K F M G H) (h : ∀ a o, M' a = some o → M a = some o) : Wf K F M' G H := ⟨w.fz, fun a o e => w.mu _ _ (h _ _ e), w.fr⟩
end

/-! ### readings over data -/
abbrev TDE := DEnv → MS → (D → MS → Prop) → Prop
abbrev TDT := DEnv → MS → (Bool → MS → Prop) → Prop
abbrev TDA := DEnv → MS → (List D → MS → Prop) → Prop
structure DEnds where
  nx : DEnv → MS → Prop
  rt : D → MS → Prop
  bk : DEnv → MS → Prop := fun _ _ => False
  ct : DEnv → MS → Prop := fun _ _ => False
abbrev TDS := DEnds → DEnv → MS → Prop

/-- what is wanted of a value, in both readings -/
def Cont (K : PySem.W.Frag) (F G : Hp) (R : D → MS → Prop) (Q : VK) : Prop := ∀ d M' F' H' v, R d M' → Same F F' → Wf K F' M' G H' → Dt K F' v d → Q v H'
def ContT (K : PySem.W.Frag) (F G : Hp) (R : Bool → MS → Prop) (Q : Bool → Hp → Prop) : Prop := ∀ b M' F' H', R b M' → Same F F' → Wf K F' M' G H' → Q b H'
def ContA (K : PySem.W.Frag) (F G : Hp) (R : List D → MS → Prop) (Q : List V → Hp → Prop) : Prop := ∀ ds M' F' H' vs, R ds M' → Same F F' → Wf K F' M' G H' → DtAll K F' vs ds → Q vs H'
def ContS (K : PySem.W.Frag) (F G : Hp) (R : DEnv → MS → Prop) (Q : L2.St → Hp → Prop) : Prop := ∀ ρ M' F' H' σ, R ρ M' → Same F F' → Wf K F' M' G H' → Sl K F' ρ σ → Q σ H'
theorem Cont.mono {K : PySem.W.Frag} {F F1 G : Hp} {R : D → MS → Prop} {Q : VK} (c : Cont K F G R Q) (h : Same F F1) : Cont K F1 G R Q := fun d M' F' H' v a b => c d M' F' H' v a (h.trans b)
theorem ContT.mono {K : PySem.W.Frag} {F F1 G : Hp} {R : Bool → MS → Prop} {Q : Bool → Hp → Prop} (c : ContT K F G R Q) (h : Same F F1) : ContT K F1 G R Q := fun d M' F' H' a b => c d M' F' H' a (h.trans b)
theorem ContA.mono {K : PySem.W.Frag} {F F1 G : Hp} {R : List D → MS → Prop} {Q : List V → Hp → Prop} (c : ContA K F G R Q) (h : Same F F1) : ContA K F1 G R Q := fun d M' F' H' v a b => c d M' F' H' v a (h.trans b)
theorem ContS.mono {K : PySem.W.Frag} {F F1 G : Hp} {R : DEnv → MS → Prop} {Q : L2.St → Hp → Prop} (c : ContS K F G R Q) (h : Same F F1) : ContS K F1 G R Q := fun d M' F' H' v a b => c d M' F' H' v a (h.trans b)
structure ContD (K : PySem.W.Frag) (F G : Hp) (R : DEnds) (Q : Ends) : Prop where
  nx : ContS K F G R.nx Q.nx
  rt : Cont K F G R.rt Q.rt
  bk : ContS K F G R.bk Q.bk
  ct : ContS K F G R.ct Q.ct
theorem ContD.mono {K : PySem.W.Frag} {F F1 G : Hp} {R : DEnds} {Q : Ends} (c : ContD K F G R Q) (h : Same F F1) : ContD K F1 G R Q := ⟨c.nx.mono h, c.rt.mono h, c.bk.mono h, c.ct.mono h⟩

def up (K : PySem.W.Frag) (t : TDE) : TE := fun σ H Q => ∃ F M G ρ R, Wf K F M G H ∧ Sl K F ρ σ ∧ t ρ M R ∧ Cont K F G R Q
def upT (K : PySem.W.Frag) (t : TDT) : TT := fun σ H Q => ∃ F M G ρ R, Wf K F M G H ∧ Sl K F ρ σ ∧ t ρ M R ∧ ContT K F G R Q
def upA (K : PySem.W.Frag) (t : TDA) : TA := fun σ H Q => ∃ F M G ρ R, Wf K F M G H ∧ Sl K F ρ σ ∧ t ρ M R ∧ ContA K F G R Q
def upS (K : PySem.W.Frag) (t : TDS) : TS := fun D σ H => ∃ F M G ρ R, Wf K F M G H ∧ Sl K F ρ σ ∧ t R ρ M ∧ ContD K F G R D

abbrev DE (X : Cx) (e : Expr) (t : TDE) : Prop := PE X e (up X.K t)
abbrev DT (X : Cx) (e : Expr) (t : TDT) : Prop := PT X e (upT X.K t)
abbrev DW (X : Cx) (e : Expr) (t : TDT) : Prop := PW X e (upT X.K t)
abbrev DA (X : Cx) (es : List Expr) (t : TDA) : Prop := PA X es (upA X.K t)
abbrev DS (X : Cx) (st : Stmt) (t : TDS) : Prop := PS X st (upS X.K t)
abbrev DSs (X : Cx) (st : List Stmt) (t : TDS) : Prop := PSs X st (upS X.K t)

theorem pe_mono {X : Cx} {e : Expr} {t u : TE} (h : PE X e t) (w : ∀ σ H Q, u σ H Q → t σ H Q) : PE X e u := ⟨fun pins s σ H Q I q => h.run pins s σ H Q I (w _ _ _ q)⟩
theorem pt_mono {X : Cx} {e : Expr} {t u : TT} (h : PT X e t) (w : ∀ σ H Q, u σ H Q → t σ H Q) : PT X e u := ⟨fun pins s σ H Q I q => h.run pins s σ H Q I (w _ _ _ q)⟩
theorem pw_mono {X : Cx} {e : Expr} {t u : TT} (h : PW X e t) (w : ∀ σ H Q, u σ H Q → t σ H Q) : PW X e u := ⟨fun wh pins s σ H Q I q => h.run wh pins s σ H Q I (w _ _ _ q)⟩
theorem pa_mono {X : Cx} {e : List Expr} {t u : TA} (h : PA X e t) (w : ∀ σ H Q, u σ H Q → t σ H Q) : PA X e u := ⟨fun p pins s σ H Q I q => h.run p pins s σ H Q I (w _ _ _ q)⟩
theorem ps_mono {X : Cx} {e : Stmt} {t u : TS} (h : PS X e t) (w : ∀ D σ H, u D σ H → t D σ H) : PS X e u := ⟨fun pins s σ H D I q => h.run pins s σ H D I (w _ _ _ q)⟩
theorem pss_mono {X : Cx} {e : List Stmt} {t u : TS} (h : PSs X e t) (w : ∀ D σ H, u D σ H → t D σ H) : PSs X e u := ⟨fun pins s σ H D I q => h.run pins s σ H D I (w _ _ _ q)⟩
end DL

/-! DL2: expressions over data. -/
namespace DL
open PySem PySem.Spec PyProof.Rows L2

/-! ### names, constants -/
def dVar (i : Nat) : TDE := fun ρ M R => ∃ d, ρ[i]? = some (some d) ∧ R d M
def dC (d : D) : TDE := fun _ M R => R d M
section
variable {X : Cx} {e : Expr} {pos : Pos}
theorem d_var {i : Nat} (h : PE X e (tVar i)) : DE X e (dVar i) := pe_mono h fun σ H Q ⟨F, M, G, ρ, R, w, s, ⟨d, e, r⟩, c⟩ => by
  obtain ⟨v, e', hd⟩ := s.get e
  exact ⟨v, e', c d M F H v r (Same.refl F) w hd⟩
theorem dv (i : Nat) {x : Str} {pos : Pos} (hN : X.N[i]? = some x := by rfl) (hv : Vis X.env.scope x := by first | exact Or.inl rfl | exact Or.inr (Or.inl rfl) | exact Or.inr (Or.inr rfl)) (hd : (x == ("__debug__" : Str)) = false := by decide)
    (hcd : (x == ("__classdict__" : Str)) = false := by decide) : DE X (.Name x pos) (dVar i) := d_var (pe_var hN hv hd hcd)
theorem d_con {v : V} {d : D} (h : PE X e (tC v)) (r : ∀ F, Dt X.K F v d) : DE X e (dC d) := pe_mono h fun σ H Q ⟨F, M, G, ρ, R, w, s, t, c⟩ => c d M F H v t (Same.refl F) w (r F)
theorem d_int {i : Int} {j pos} : DE X (.Constant (.int i) j pos) (dC (.int i)) := d_con pe_int fun _ => .int i
theorem d_bl {b : Bool} {j pos} : DE X (.Constant (.bool b) j pos) (dC (.bl b)) := d_con pe_bl fun _ => .bl b
theorem d_non {j pos} : DE X (.Constant .none j pos) (dC .non) := d_con pe_non fun _ => .non
theorem d_str {x : Str} {j pos} : DE X (.Constant (.str x) j pos) (dC (.str x)) := d_con pe_str fun _ => .str x
end

/-! ### resolving -/
def lsOf (M : MS) : D → Option (List D)
  | .lst xs => some xs
  | .ref a => match M a with
    | some (.lst xs) => some xs
    | _ => none
  | _ => none
def sqOf (M : MS) : D → Option (List D)
  | .lst xs => some xs
  | .rl xs => some xs
  | .tup xs => some xs
  | .ref a => match M a with
    | some (.lst xs) => some xs
    | _ => none
  | _ => none
section
variable {K : PySem.W.Frag} {F G H : Hp} {M : MS} {d : D} {v : V} {xs : List D}
theorem ls_ref {a : Addr} (e : lsOf M (.ref a) = some xs) : M a = some (.lst xs) := by
  simp only [lsOf] at e
  cases q : M a with
  | none => rw [q] at e; cases e
  | some o =>
    rw [q] at e
    cases o with
    | lst ys => cases e; rfl
    | dK _ => cases e
    | dT _ => cases e
    | ins _ _ => cases e
theorem sq_ref {a : Addr} (e : sqOf M (.ref a) = some xs) : M a = some (.lst xs) := by
  simp only [sqOf] at e
  cases q : M a with
  | none => rw [q] at e; cases e
  | some o =>
    rw [q] at e
    cases o with
    | lst ys => cases e; rfl
    | dK _ => cases e
    | dT _ => cases e
    | ins _ _ => cases e
theorem ls_at (w : Wf K F M G H) (r : Dt K F v d) (e : lsOf M d = some xs) : ∃ a vs, v = .ref a ∧ H a = some (.lst vs) ∧ DtAll K F vs xs := by
  cases d with
  | lst ys =>
    cases e
    obtain ⟨a, vs, rfl, p, q⟩ := dt_lst r
    exact ⟨a, vs, rfl, w.fz _ _ p, q⟩
  | ref a =>
    cases dt_ref r
    obtain ⟨_, _, vs, p, q⟩ := w.mu _ _ (ls_ref e)
    exact ⟨a, vs, rfl, p, q⟩
  | non => cases e
  | bl _ => cases e
  | int _ => cases e
  | str _ => cases e
  | rl _ => cases e
  | tup _ => cases e
  | dK _ => cases e
  | obj _ _ => cases e
  | ext _ => cases e
theorem sq_at (w : Wf K F M G H) (r : Dt K F v d) (e : sqOf M d = some xs) : ∃ a vs, v = .ref a ∧ (SqL K H a vs ∨ SqT K H a vs) ∧ DtAll K F vs xs := by
  cases d with
  | lst ys =>
    cases e
    obtain ⟨a, vs, rfl, p, q⟩ := dt_lst r
    exact ⟨a, vs, rfl, .inl (.of (w.fz _ _ p)), q⟩
  | rl ys =>
    cases e
    cases r with
    | rl s q => exact ⟨_, _, rfl, .inl (w.fz.seq s), q⟩
  | tup ys =>
    cases e
    obtain ⟨a, vs, rfl, p, q⟩ := dt_tup r
    exact ⟨a, vs, rfl, .inr (same_tup w.fz p), q⟩
  | ref a =>
    cases dt_ref r
    obtain ⟨_, _, vs, p, q⟩ := w.mu _ _ (sq_ref e)
    exact ⟨a, vs, rfl, .inl (.of p), q⟩
  | non => cases e
  | bl _ => cases e
  | int _ => cases e
  | str _ => cases e
  | dK _ => cases e
  | obj _ _ => cases e
  | ext _ => cases e
end

/-! ### lifts of rules by values -/
abbrev D1 := D → MS → (D → MS → Prop) → Prop
abbrev D2 := D → D → MS → (D → MS → Prop) → Prop
abbrev DL := List D → MS → (D → MS → Prop) → Prop
abbrev DM := D → List D → MS → (D → MS → Prop) → Prop
def Lf1 (K : PySem.W.Frag) (r : V → Hp → VK → Prop) (d : D1) : Prop := ∀ (F : Hp) (M : MS) (G H : Hp) (x : D) (v : V) (R : D → MS → Prop) (Q : VK), Wf K F M G H → Dt K F v x → d x M R → Cont K F G R Q → r v H Q
def Lf2 (K : PySem.W.Frag) (r : R2) (d : D2) : Prop := ∀ (F : Hp) (M : MS) (G H : Hp) (x y : D) (v u : V) (R : D → MS → Prop) (Q : VK), Wf K F M G H → Dt K F v x → Dt K F u y → d x y M R → Cont K F G R Q → r v u H Q
def LfL (K : PySem.W.Frag) (r : List V → Hp → VK → Prop) (d : DL) : Prop := ∀ (F : Hp) (M : MS) (G H : Hp) (xs : List D) (vs : List V) (R : D → MS → Prop) (Q : VK), Wf K F M G H → DtAll K F vs xs → d xs M R → Cont K F G R Q → r vs H Q
def LfM (K : PySem.W.Frag) (r : V → List V → Hp → VK → Prop) (d : DM) : Prop := ∀ (F : Hp) (M : MS) (G H : Hp) (x : D) (v : V) (xs : List D) (vs : List V) (R : D → MS → Prop) (Q : VK), Wf K F M G H → Dt K F v x → DtAll K F vs xs → d x xs M R → Cont K F G R Q → r v vs H Q
def dUn (r : D1) (ta : TDE) : TDE := fun ρ M R => ta ρ M fun x M1 => r x M1 R
def dOp (r : D2) (ta tb : TDE) : TDE := fun ρ M R => ta ρ M fun x M1 => tb ρ M1 fun y M2 => r x y M2 R
def dCB (r : DL) (t : TDA) : TDE := fun ρ M R => t ρ M fun xs M1 => r xs M1 R
theorem Cont.here {K : PySem.W.Frag} {F G H : Hp} {M : MS} {R : D → MS → Prop} {Q : VK} {d : D} {v : V} (c : Cont K F G R Q) (w : Wf K F M G H) (r : R d M) (h : Dt K F v d) : Q v H := c d M F H v r (Same.refl F) w h
section
variable {X : Cx} {a b e : Expr} {es : List Expr} {ta tb : TDE} {t : TDA} {pos p : Pos}
theorem up_un {K : PySem.W.Frag} {r : V → Hp → VK → Prop} {d : D1} (l : Lf1 K r d) (σ : L2.St) (H : Hp) (Q : VK) (h : up K (dUn d ta) σ H Q) : tUn r (up K ta) σ H Q := by
  obtain ⟨F, M, G, ρ, R, w, s, h, c⟩ := h
  refine ⟨F, M, G, ρ, fun x M1 => d x M1 R, w, s, h, fun x M1 F1 H1 v h1 s1 w1 d1 => ?_⟩
  exact l F1 M1 G H1 x v R Q w1 d1 h1 (c.mono s1)
theorem up_op {K : PySem.W.Frag} {r : R2} {d : D2} (l : Lf2 K r d) (σ : L2.St) (H : Hp) (Q : VK) (h : up K (dOp d ta tb) σ H Q) : tOp r (up K ta) (up K tb) σ H Q := by
  obtain ⟨F, M, G, ρ, R, w, s, h, c⟩ := h
  refine ⟨F, M, G, ρ, fun x M1 => tb ρ M1 fun y M2 => d x y M2 R, w, s, h, fun x M1 F1 H1 v h1 s1 w1 d1 => ?_⟩
  refine ⟨F1, M1, G, ρ, fun y M2 => d x y M2 R, w1, s.mono s1, h1, fun y M2 F2 H2 u h2 s2 w2 d2 => ?_⟩
  exact l F2 M2 G H2 x y v u R Q w2 (d1.mono s2) d2 h2 (c.mono (s1.trans s2))
theorem up_cb {K : PySem.W.Frag} {r : List V → Hp → VK → Prop} {d : DL} (l : LfL K r d) (σ : L2.St) (H : Hp) (Q : VK) (h : up K (dCB d t) σ H Q) : tCB r (upA K t) σ H Q := by
  obtain ⟨F, M, G, ρ, R, w, s, h, c⟩ := h
  refine ⟨F, M, G, ρ, fun x M1 => d x M1 R, w, s, h, fun x M1 F1 H1 v h1 s1 w1 d1 => ?_⟩
  exact l F1 M1 G H1 x v R Q w1 d1 h1 (c.mono s1)
theorem d_op {op : Operator} {r : R2} {d : D2} (ho : OpR X (binaryOp op) r) (l : Lf2 X.K r d) (ha : DE X a ta) (hb : DE X b tb) : DE X (.BinOp a op b pos) (dOp d ta tb) := pe_mono (pe_op ho ha hb) (up_op l)
theorem d_cmp {op : CmpOp} {r : R2} {d : D2} (ho : OpR X (compareOp op) r) (l : Lf2 X.K r d) (ha : DE X a ta) (hb : DE X b tb) (hm : behindInMarks op b = false := by first | exact nomark _ | with_unfolding_all rfl) : DE X (.Compare a [op] [b] pos) (dOp d ta tb) := pe_mono (pe_cmpR ho ha hb hm) (up_op l)
theorem d_un {op : UnaryOp} {r : V → Hp → VK → Prop} {d : D1} (ho : UnR X (unaryOp op) r) (l : Lf1 X.K r d) (ha : DE X a ta) : DE X (.UnaryOp op a pos) (dUn d ta) := pe_mono (pe_un ho ha) (up_un l)
theorem d_ix {r : R2} {d : D2} (hr : IxR X r) (l : Lf2 X.K r d) (ha : DE X a ta) (hb : DE X b tb) (hs : PlainIx b := by exact fun _ _ => rfl) : DE X (.Subscript a b pos) (dOp d ta tb) := pe_mono (pe_ix hr ha hb hs) (up_op l)
end

/-! ### operators -/
def dI (g : Int → Int → D) : D2 := fun x y M R => match x, y with
  | .int i, .int j => R (g i j) M
  | _, _ => False
def dIc (C : Int → Int → Prop) (g : Int → Int → D) : D2 := fun x y M R => match x, y with
  | .int i, .int j => C i j ∧ R (g i j) M
  | _, _ => False
theorem dI_out {g : Int → Int → D} {x y : D} {M : MS} {R : D → MS → Prop} (h : dI g x y M R) : ∃ i j, x = .int i ∧ y = .int j ∧ R (g i j) M := by
  unfold dI at h
  split at h
  · exact ⟨_, _, rfl, rfl, h⟩
  · cases h
theorem dIc_out {C : Int → Int → Prop} {g : Int → Int → D} {x y : D} {M : MS} {R : D → MS → Prop} (h : dIc C g x y M R) : ∃ i j, x = .int i ∧ y = .int j ∧ C i j ∧ R (g i j) M := by
  unfold dIc at h
  split at h
  · exact ⟨_, _, rfl, rfl, h.1, h.2⟩
  · cases h
section
variable {K : PySem.W.Frag}
theorem lf_I {g : Int → Int → V} {g' : Int → Int → D} (e : ∀ i j F, Dt K F (g i j) (g' i j)) : Lf2 K (rI0 g) (dI g') := fun F M G H x y v u R Q w dx dy h c => by
  obtain ⟨i, j, rfl, rfl, r⟩ := dI_out h
  exact ⟨i, j, dt_int dx, dt_int dy, c.here w r (e i j F)⟩
theorem lf_Ic {C : Int → Int → Prop} {g : Int → Int → V} {g' : Int → Int → D} (e : ∀ i j F, Dt K F (g i j) (g' i j)) : Lf2 K (rI C g) (dIc C g') := fun F M G H x y v u R Q w dx dy h c => by
  obtain ⟨i, j, rfl, rfl, q, r⟩ := dIc_out h
  exact ⟨i, j, dt_int dx, dt_int dy, q, c.here w r (e i j F)⟩
theorem lf_int {f : Int → Int → Int} : Lf2 K (rI0 fun i j => .int (f i j)) (dI fun i j => .int (f i j)) := lf_I fun _ _ _ => .int _
theorem lf_intc {C : Int → Int → Prop} {f : Int → Int → Int} : Lf2 K (rI C fun i j => .int (f i j)) (dIc C fun i j => .int (f i j)) := lf_Ic fun _ _ _ => .int _
theorem lf_bl {f : Int → Int → Bool} : Lf2 K (rI0 fun i j => .bl (f i j)) (dI fun i j => .bl (f i j)) := lf_I fun _ _ _ => .bl _
theorem Lf2.or1 {r r' : R2} {d : D2} (h : Lf2 K r d) : Lf2 K (fun x y H Q => r x y H Q ∨ r' x y H Q) d := fun F M G H x y v u R Q w dx dy q c => .inl (h F M G H x y v u R Q w dx dy q c)
end
abbrev dSub : D2 := dI fun i j => .int (i - j)
abbrev dMod : D2 := dIc (fun _ j => 0 < j) fun i j => .int (i % j)
abbrev dFdiv : D2 := dIc CDivW fun i j => .int (i / j)
abbrev dPow : D2 := dIc CPow fun i j => .int (i ^ j.toNat)
abbrev dShl : D2 := dIc CPow fun i j => .int (i * 2 ^ j.toNat)
abbrev dShr : D2 := dIc (fun _ j => 0 ≤ j) fun i j => .int (i / 2 ^ j.toNat)
abbrev dAnd : D2 := dI fun i j => .int (Builtin.bitAnd i j)
abbrev dOr : D2 := dI fun i j => .int (Builtin.bitOr i j)
abbrev dXor : D2 := dI fun i j => .int (Builtin.bitXor i j)
abbrev dLt : D2 := dI fun i j => .bl (decide (i < j))
abbrev dLe : D2 := dI fun i j => .bl (decide (i ≤ j))
abbrev dGt : D2 := dI fun i j => .bl (decide (j < i))
abbrev dGe : D2 := dI fun i j => .bl (decide (j ≤ i))
/-- a + b -/
def dAdd : D2 := fun x y M R => match x with
  | .int i => (match y with | .int j => R (.int (i + j)) M | _ => False)
  | .str i => (match y with | .str j => i.length + j.length ≤ sizeLine ∧ R (.str (i ++ j)) M | _ => False)
  | .tup xs => (match y with | .tup ys => xs.length + ys.length ≤ sizeLine ∧ R (.tup (xs ++ ys)) M | _ => False)
  | x => ∃ xs ys, lsOf M x = some xs ∧ lsOf M y = some ys ∧ xs.length + ys.length ≤ sizeLine ∧ R (.lst (xs ++ ys)) M
/-- a * b -/
def dRep : D2 := fun x y M R => ∃ k xs, y = .int k ∧ lsOf M x = some xs ∧ k < 2 ^ 63 ∧ -(2 ^ 63) ≤ k ∧ xs.length * k.toNat ≤ sizeLine ∧ R (.lst (List.replicate k.toNat xs).flatten) M
def dMul : D2 := fun x y M R => match x with
  | .int i => (match y with | .int j => CMul i j ∧ R (.int (i * j)) M | _ => False)
  | x => dRep x y M R
section
variable {X : Cx} {a b : Expr} {ta tb : TDE} {pos : Pos}
theorem dtAll_flat {K : PySem.W.Frag} {F : Hp} {vs : List V} {ds : List D} (h : DtAll K F vs ds) : ∀ n : Nat, DtAll K F (List.replicate n vs).flatten (List.replicate n ds).flatten
  | 0 => .nil
  | n + 1 => by
    rw [List.replicate_succ, List.replicate_succ, List.flatten_cons, List.flatten_cons]
    exact h.append (dtAll_flat h n)
/-- a new list, frozen at once -/
theorem Cont.newL {K : PySem.W.Frag} {F G H : Hp} {M : MS} {R : D → MS → Prop} {Q : VK} {ds : List D} {vs : List V} (c : Cont K F G R Q) (w : Wf K F M G H) (r : R (.lst ds) M) (h : DtAll K F vs ds) : ∀ p, H p = none → Q (.ref p) (upd H p (.lst vs)) := fun p hp =>
  have sm := same_up (o := .lst vs) (w.fnone hp)
  c (.lst ds) M (upd F p (.lst vs)) _ _ r sm (w.newF hp) (.lst upd_same (h.mono sm))
theorem Cont.newT {K : PySem.W.Frag} {F G H : Hp} {M : MS} {R : D → MS → Prop} {Q : VK} {ds : List D} {vs : List V} (c : Cont K F G R Q) (w : Wf K F M G H) (r : R (.tup ds) M) (h : DtAll K F vs ds) : ∀ p, H p = none → Q (.ref p) (upd H p (.tup vs)) := fun p hp =>
  have sm := same_up (o := .tup vs) (w.fnone hp)
  c (.tup ds) M (upd F p (.tup vs)) _ _ r sm (w.newF hp) (.tup (.of upd_same) (h.mono sm))
/-- a new list that may change -/
theorem Cont.newLM {K : PySem.W.Frag} {F G H : Hp} {M : MS} {R : D → MS → Prop} {Q : VK} {ds : List D} {vs : List V} (c : Cont K F G R Q) (w : Wf K F M G H) (r : ∀ p, M p = none → R (.ref p) (mupd M p (.lst ds))) (h : DtAll K F vs ds) : ∀ p, H p = none → Q (.ref p) (upd H p (.lst vs)) := fun p hp =>
  c (.ref p) _ F _ _ (r p (w.mnone hp)) (Same.refl F) (w.newM hp h) (.ref p)
theorem len_eq_nil {K : PySem.W.Frag} {F : Hp} {vs : List V} {ds : List D} (h : DtAll K F vs ds) (e : vs = []) : ds = [] := by subst e; cases h; rfl
theorem d_add (ha : DE X a ta) (hb : DE X b tb) : DE X (.BinOp a .Add b pos) (dOp dAdd ta tb) := by
  refine d_op (op_add.or (op_add_str.or (op_catA.or op_cat))) (fun F M G H x y v u R Q w dx dy h c => ?_) ha hb
  have lists : (∃ xs ys, lsOf M x = some xs ∧ lsOf M y = some ys ∧ xs.length + ys.length ≤ sizeLine ∧ R (.lst (xs ++ ys)) M) → rCat v u H Q := fun ⟨xs, ys, e1, e2, hl, r⟩ => by
    obtain ⟨a1, vs, rfl, h1, q1⟩ := ls_at w dx e1
    obtain ⟨a2, us, rfl, h2, q2⟩ := ls_at w dy e2
    exact ⟨a1, a2, vs, us, rfl, rfl, h1, h2, by rw [q1.length, q2.length]; exact hl, c.newL w r (q1.append q2)⟩
  cases x with
  | int i =>
    cases y with
    | int j => exact .inl ⟨i, j, dt_int dx, dt_int dy, c.here w h (.int _)⟩
    | _ => cases h
  | str i =>
    cases y with
    | str j => exact .inr (.inl ⟨i, j, dt_str dx, dt_str dy, h.1, c.here w h.2 (.str _)⟩)
    | _ => cases h
  | tup xs =>
    cases y with
    | tup ys =>
      obtain ⟨a1, vs, rfl, h1, q1⟩ := dt_tup dx
      obtain ⟨a2, us, rfl, h2, q2⟩ := dt_tup dy
      refine .inr (.inr (.inl ⟨a1, a2, vs, us, rfl, rfl, same_tup w.fz h1, same_tup w.fz h2, by rw [q1.length, q2.length]; exact h.1, fun e => ?_, fun e e2 => ?_, fun e e2 => c.newT w h.2 (q1.append q2)⟩))
      · have z := len_eq_nil q1 e
        subst z
        exact c.here w h.2 dy
      · have z := len_eq_nil q2 e2
        subst z
        exact c.here w h.2 (by rw [List.append_nil]; exact dx)
    | _ => cases h
  | lst xs => exact .inr (.inr (.inr (lists h)))
  | ref a => exact .inr (.inr (.inr (lists h)))
  | rl xs => exact .inr (.inr (.inr (lists h)))
  | non => exact .inr (.inr (.inr (lists h)))
  | bl b => exact .inr (.inr (.inr (lists h)))
  | dK b => exact .inr (.inr (.inr (lists h)))
  | obj c fs => exact .inr (.inr (.inr (lists h)))
  | ext _ => exact .inr (.inr (.inr (lists h)))
theorem d_mul (ha : DE X a ta) (hb : DE X b tb) : DE X (.BinOp a .Mult b pos) (dOp dMul ta tb) := by
  refine d_op (op_mul.or op_rep) (fun F M G H x y v u R Q w dx dy h c => ?_) ha hb
  have lists : dRep x y M R → rRep v u H Q := fun ⟨k, xs, ek, e1, k1, k2, k3, r⟩ => by
    subst ek
    obtain ⟨a1, vs, rfl, h1, q1⟩ := ls_at w dx e1
    exact ⟨a1, k, vs, rfl, dt_int dy, h1, k2, k1, by rw [q1.length]; exact k3, c.newL w r (dtAll_flat q1 _)⟩
  cases x with
  | int i =>
    cases y with
    | int j => exact .inl ⟨i, j, dt_int dx, dt_int dy, h.1, c.here w h.2 (.int _)⟩
    | _ => cases h
  | lst xs => exact .inr (lists h)
  | ref a => exact .inr (lists h)
  | rl xs => exact .inr (lists h)
  | non => exact .inr (lists h)
  | bl b => exact .inr (lists h)
  | str b => exact .inr (lists h)
  | tup b => exact .inr (lists h)
  | dK b => exact .inr (lists h)
  | obj c fs => exact .inr (lists h)
  | ext _ => exact .inr (lists h)
theorem d_sub (ha : DE X a ta) (hb : DE X b tb) : DE X (.BinOp a .Sub b pos) (dOp dSub ta tb) := d_op op_sub lf_int ha hb
theorem d_mod (ha : DE X a ta) (hb : DE X b tb) : DE X (.BinOp a .Mod b pos) (dOp dMod ta tb) := d_op op_mod lf_intc ha hb
theorem d_fdiv (ha : DE X a ta) (hb : DE X b tb) : DE X (.BinOp a .FloorDiv b pos) (dOp dFdiv ta tb) := d_op op_fdivW lf_intc ha hb
theorem d_pow (ha : DE X a ta) (hb : DE X b tb) : DE X (.BinOp a .Pow b pos) (dOp dPow ta tb) := d_op op_pow lf_intc ha hb
theorem d_shl (ha : DE X a ta) (hb : DE X b tb) : DE X (.BinOp a .LShift b pos) (dOp dShl ta tb) := d_op op_shl lf_intc ha hb
theorem d_shr (ha : DE X a ta) (hb : DE X b tb) : DE X (.BinOp a .RShift b pos) (dOp dShr ta tb) := d_op op_shr lf_intc ha hb
theorem d_and2 (ha : DE X a ta) (hb : DE X b tb) : DE X (.BinOp a .BitAnd b pos) (dOp dAnd ta tb) := d_op op_and lf_int ha hb
theorem d_or2 (ha : DE X a ta) (hb : DE X b tb) : DE X (.BinOp a .BitOr b pos) (dOp dOr ta tb) := d_op op_or lf_int ha hb
theorem d_xor2 (ha : DE X a ta) (hb : DE X b tb) : DE X (.BinOp a .BitXor b pos) (dOp dXor ta tb) := d_op op_xor lf_int ha hb
theorem d_lt (ha : DE X a ta) (hb : DE X b tb) : DE X (.Compare a [.Lt] [b] pos) (dOp dLt ta tb) := d_cmp op_lt lf_bl ha hb
theorem d_le (ha : DE X a ta) (hb : DE X b tb) : DE X (.Compare a [.LtE] [b] pos) (dOp dLe ta tb) := d_cmp op_le lf_bl ha hb
theorem d_gt (ha : DE X a ta) (hb : DE X b tb) : DE X (.Compare a [.Gt] [b] pos) (dOp dGt ta tb) := d_cmp op_gt lf_bl ha hb
theorem d_ge (ha : DE X a ta) (hb : DE X b tb) : DE X (.Compare a [.GtE] [b] pos) (dOp dGe ta tb) := d_cmp op_ge lf_bl ha hb
theorem d_neg (ha : DE X a ta) : DE X (.UnaryOp .USub a pos) (dUn (fun x M R => match x with | .int i => R (.int (-i)) M | _ => False) ta) := by
  refine d_un un_neg (fun F M G H x v R Q w dx h c => ?_) ha
  cases x with
  | int i => exact ⟨i, dt_int dx, c.here w h (.int _)⟩
  | _ => cases h
end
end DL

/-! DL3: equality, membership, subscripts, displays, tests, calls. -/
namespace DL
open PySem PySem.Spec PyProof.Rows L2

/-! ### data as PyData -/
mutual
def py : D → PyData
  | .non => .none
  | .bl b => .bool b
  | .int i => .int i
  | .str x => .str x
  | .lst xs => .list (pyAll xs)
  | .rl xs => .list (pyAll xs)
  | .tup xs => .tuple (pyAll xs)
  | .ref _ => .dict []
  | .dK _ => .dict []
  | .obj _ _ => .dict []
  | .ext _ => .dict []
def pyAll : List D → List PyData
  | [] => []
  | x :: xs => py x :: pyAll xs
end
theorem pyAll_map : ∀ xs : List D, pyAll xs = xs.map py
  | [] => rfl
  | x :: xs => by unfold pyAll; rw [pyAll_map xs]; rfl
section
variable {K : PySem.W.Frag} {F H : Hp}
mutual
theorem Dt.dp (sm : Same F H) : ∀ {v : V} {d : D}, Dt K F v d → (py d).canLay0 = true → Dp K H v (py d)
  | _, _, .non, _ => by unfold py; exact .non
  | _, _, .bl b, _ => by unfold py; exact .bl b
  | _, _, .int i, _ => by unfold py; exact .int i
  | _, _, .str x, _ => by unfold py; exact .str x
  | _, _, .ref a, h => by unfold py at h; cases h
  | _, _, .lst s a, h => by
    unfold py at h ⊢
    exact .lst (.of (sm _ _ s)) (DtAll.dp sm a (by simpa [PyData.canLay0] using h))
  | _, _, .rl s a, h => by
    unfold py at h ⊢
    exact .lst (sm.seq s) (DtAll.dp sm a (by simpa [PyData.canLay0] using h))
  | _, _, .tup s a, h => by
    unfold py at h ⊢
    exact .tup (same_tup sm s) (DtAll.dp sm a (by simpa [PyData.canLay0] using h))
  | _, _, .dK _ _ _, h => by unfold py at h; cases h
  | _, _, .obj _ _ _ _, h => by unfold py at h; cases h
  | _, _, .ext _, h => by unfold py at h; cases h
theorem DtAll.dp (sm : Same F H) : ∀ {vs : List V} {ds : List D}, DtAll K F vs ds → PyData.canLayAll0 (pyAll ds) = true → DpAll K H vs (pyAll ds)
  | _, _, .nil, _ => by unfold pyAll; exact .nil
  | _, _, .cons a b, h => by
    unfold pyAll at h ⊢
    simp only [PyData.canLayAll0, Bool.and_eq_true] at h
    exact .cons (Dt.dp sm a h.1) (DtAll.dp sm b h.2)
end
end
def rs (M : MS) (d : D) : D := match lsOf M d with
  | some xs => .lst xs
  | none => d
theorem rs_int {M : MS} {i : Int} : rs M (.int i) = .int i := rfl
theorem rs_lst {M : MS} {xs : List D} : rs M (.lst xs) = .lst xs := rfl
theorem rs_ref {M : MS} {a : Addr} {xs : List D} (h : M a = some (.lst xs)) : rs M (.ref a) = .lst xs := by
  simp only [rs, lsOf, h]
theorem rs_at {K : PySem.W.Frag} {F G H : Hp} {M : MS} {d : D} {v : V} (w : Wf K F M G H) (r : Dt K F v d) (h : SeqAt.shaped (py (rs M d)) = true) : Dp K H v (py (rs M d)) := by
  unfold rs at h ⊢
  cases e : lsOf M d with
  | none =>
    rw [e] at h
    exact r.dp w.fz (SeqAt.canLay_of_shaped h)
  | some xs =>
    rw [e] at h
    obtain ⟨a, vs, rfl, p, q⟩ := ls_at w r e
    dsimp only at h ⊢
    unfold py at h ⊢
    exact .lst (.of p) (q.dp w.fz (by have := SeqAt.canLay_of_shaped h; simpa [PyData.canLay0] using this))

/-! ### == -/
def scD : D → D → Option Bool
  | .int i, .int j => some (decide (i = j))
  | .str i, .str j => some (decide (i = j))
  | .bl i, .bl j => some (decide (i = j))
  | .non, .non => some true
  | .non, .int _ => some false
  | .int _, .non => some false
  | .non, .bl _ => some false
  | .bl _, .non => some false
  | .non, .str _ => some false
  | .str _, .non => some false
  | .int _, .str _ => some false
  | .str _, .int _ => some false
  | _, _ => none
def dEqv (f : Bool → Bool) : D2 := fun x y M R => match scD x y with
  | some b => R (.bl (f b)) M
  | none => SeqAt.shaped (py (rs M x)) = true ∧ SeqAt.shaped (py (rs M y)) = true ∧ R (.bl (f (PyData.eqv (py (rs M x)) (py (rs M y))))) M
abbrev dEq : D2 := dEqv id
abbrev dNe : D2 := dEqv not
theorem sc_at {K : PySem.W.Frag} {F : Hp} {x y : D} {v u : V} {b : Bool} (h : scD x y = some b) (dx : Dt K F v x) (dy : Dt K F u y) : scal v u = true ∧ decide (v = u) = b := by
  unfold scD at h
  split at h <;> first | (cases h; done) | skip
  all_goals (cases dx; cases dy; cases h)
  all_goals first | exact ⟨rfl, rfl⟩ | (refine ⟨rfl, ?_⟩; simp)
section
variable {X : Cx} {a b c : Expr} {ta tb tc : TDE} {pos : Pos} {k : Nat}
theorem lf_eq {K : PySem.W.Frag} : Lf2 K (fun x y H Q => rEq x y H Q ∨ rEqD K x y H Q) dEq := fun F M G H x y v u R Q w dx dy h c => by
  unfold dEq dEqv at h
  cases e : scD x y with
  | some b =>
    rw [e] at h
    obtain ⟨h1, h2⟩ := sc_at e dx dy
    exact .inl ⟨h1, by rw [h2]; exact c.here w h (.bl _)⟩
  | none =>
    rw [e] at h
    obtain ⟨h1, h2, h3⟩ := h
    exact .inr ⟨_, _, rs_at w dx h1, rs_at w dy h2, h1, h2, c.here w h3 (.bl _)⟩
theorem lf_ne {K : PySem.W.Frag} : Lf2 K (fun x y H Q => rNe x y H Q ∨ rNeD K x y H Q) dNe := fun F M G H x y v u R Q w dx dy h c => by
  unfold dNe dEqv at h
  cases e : scD x y with
  | some b =>
    rw [e] at h
    obtain ⟨h1, h2⟩ := sc_at e dx dy
    exact .inl ⟨h1, by rw [h2]; exact c.here w h (.bl _)⟩
  | none =>
    rw [e] at h
    obtain ⟨h1, h2, h3⟩ := h
    exact .inr ⟨_, _, rs_at w dx h1, rs_at w dy h2, h1, h2, c.here w h3 (.bl _)⟩
theorem d_eq (hr : Room k X.A) (ha : DE X a ta) (hb : DE X b tb) : DE X (.Compare a [.Eq] [b] pos) (dOp dEq ta tb) := d_cmp (op_eq.or (op_eqD hr.units)) lf_eq ha hb
theorem d_ne (hr : Room k X.A) (ha : DE X a ta) (hb : DE X b tb) : DE X (.Compare a [.NotEq] [b] pos) (dOp dNe ta tb) := d_cmp (op_ne.or (op_neD hr.units)) lf_ne ha hb
/-- is None -/
def isN : D → Bool
  | .non => true
  | _ => false
theorem isN_at {K : PySem.W.Frag} {F : Hp} {x : D} {v : V} (h : Dt K F v x) : decide (v = .non) = isN x := by
  cases h <;> first | rfl | (simp [isN])
theorem d_isN {j pos'} (ha : DE X a ta) : DE X (.Compare a [.Is] [.Constant .none j pos'] pos) (dUn (fun x M R => R (.bl (isN x)) M) ta) := by
  refine pe_mono (pe_cmp (pc_isN ha) (nomark _)) fun σ H Q ⟨F, M, G, ρ, R, w, s, h, c⟩ => ⟨F, M, G, ρ, _, w, s, h, fun x M1 F1 H1 v h1 s1 w1 d1 => ?_⟩
  show Q (V.bl (decide (v = V.non))) H1
  rw [isN_at d1]
  exact c (.bl (isN x)) M1 F1 H1 (.bl (isN x)) h1 s1 w1 (.bl _)
theorem d_notN {j pos'} (ha : DE X a ta) : DE X (.Compare a [.IsNot] [.Constant .none j pos'] pos) (dUn (fun x M R => R (.bl (!isN x)) M) ta) := by
  refine pe_mono (pe_cmp (pc_notN ha) (nomark _)) fun σ H Q ⟨F, M, G, ρ, R, w, s, h, c⟩ => ⟨F, M, G, ρ, _, w, s, h, fun x M1 F1 H1 v h1 s1 w1 d1 => ?_⟩
  show Q (V.bl (!decide (v = V.non))) H1
  rw [isN_at d1]
  exact c (.bl (!isN x)) M1 F1 H1 (.bl (!isN x)) h1 s1 w1 (.bl _)

/-! ### in -/
def flat : D → Bool
  | .non => true
  | .bl _ => true
  | .int _ => true
  | .str _ => true
  | _ => false
theorem flat_at {K : PySem.W.Frag} {F : Hp} {x : D} {v : V} (h : Dt K F v x) (f : flat x = true) : flatV v = true := by
  cases h <;> first | rfl | cases f
theorem flat_eq {K : PySem.W.Frag} {F : Hp} {x y : D} {v u : V} (h : Dt K F v x) (h' : Dt K F u y) (f : flat x = true) (f' : flat y = true) : eqV v u = PyData.eqv (py x) (py y) := by
  cases h <;> first | cases f | skip
  all_goals (cases h' <;> first | cases f' | skip)
  all_goals (unfold py eqV PyData.eqv; rfl)
def inD (x : D) (ds : List D) : Bool := ds.any fun d => PyData.eqv (py d) (py x)
theorem flats_in {K : PySem.W.Frag} {F : Hp} {x : D} {v : V} (h : Dt K F v x) (f : flat x = true) : ∀ {vs : List V} {ds : List D}, DtAll K F vs ds → ds.all flat = true → vs.all flatV = true ∧ inV v vs = inD x ds
  | _, _, .nil, _ => ⟨rfl, rfl⟩
  | _, _, .cons a b, q => by
    simp only [List.all_cons, Bool.and_eq_true] at q
    obtain ⟨i1, i2⟩ := flats_in h f b q.2
    refine ⟨by simp only [List.all_cons, Bool.and_eq_true]; exact ⟨flat_at a q.1, i1⟩, ?_⟩
    unfold inV inD at i2 ⊢
    simp only [List.any_cons]
    rw [i2, flat_eq a h q.1 f]
def okIn (M : MS) (x y : D) (ds : List D) : Prop := (flat x && ds.all flat) = true ∨ (SeqAt.shaped (py (rs M x)) = true ∧ rs M x = x ∧ SeqAt.shaped (py (.lst ds)) = true ∧ lsOf M y = some ds)
def dInv (f : Bool → Bool) : D2 := fun x y M R => ∃ ds, sqOf M y = some ds ∧ okIn M x y ds ∧ R (.bl (f (inD x ds))) M
abbrev dIn : D2 := dInv id
abbrev dNotIn : D2 := dInv not
theorem any_py (x : D) (ds : List D) : ((pyAll ds).any fun z => PyData.eqv z (py x)) = inD x ds := by
  unfold inD
  rw [pyAll_map, List.any_map]
  rfl
theorem lf_in {K : PySem.W.Frag} : Lf2 K (fun x y H Q => rIn K false x y H Q ∨ rInD K x y H Q) dIn := fun F M G H x y v u R Q w dx dy h c => by
  obtain ⟨ds, e, ok, r⟩ := h
  rcases ok with ok | ⟨s1, s2, s3, s4⟩
  · simp only [Bool.and_eq_true] at ok
    obtain ⟨a1, vs, rfl, h1, q1⟩ := sq_at w dy e
    obtain ⟨i1, i2⟩ := flats_in dx ok.1 q1 ok.2
    refine .inl ⟨a1, vs, rfl, h1, flat_at dx ok.1, i1, ?_⟩
    rw [if_neg Bool.false_ne_true, i2]
    exact c.here w r (.bl _)
  · have e1 : py (.lst ds) = .list (pyAll ds) := by unfold py; rfl
    have q : rs M y = .lst ds := by unfold rs; rw [s4]
    have p2 := rs_at (d := y) w dy (by rw [q]; exact s3)
    rw [q, e1] at p2
    have p1 := rs_at (d := x) w dx s1
    rw [s2] at p1 s1
    refine .inr ⟨py x, pyAll ds, p1, p2, s1, by rw [← e1]; exact s3, ?_⟩
    rw [any_py]
    exact c.here w r (.bl _)
theorem lf_notIn {K : PySem.W.Frag} : Lf2 K (fun x y H Q => rIn K true x y H Q ∨ rNotInD K x y H Q) dNotIn := fun F M G H x y v u R Q w dx dy h c => by
  obtain ⟨ds, e, ok, r⟩ := h
  rcases ok with ok | ⟨s1, s2, s3, s4⟩
  · simp only [Bool.and_eq_true] at ok
    obtain ⟨a1, vs, rfl, h1, q1⟩ := sq_at w dy e
    obtain ⟨i1, i2⟩ := flats_in dx ok.1 q1 ok.2
    refine .inl ⟨a1, vs, rfl, h1, flat_at dx ok.1, i1, ?_⟩
    rw [if_pos rfl, i2]
    exact c.here w r (.bl _)
  · have e1 : py (.lst ds) = .list (pyAll ds) := by unfold py; rfl
    have q : rs M y = .lst ds := by unfold rs; rw [s4]
    have p2 := rs_at (d := y) w dy (by rw [q]; exact s3)
    rw [q, e1] at p2
    have p1 := rs_at (d := x) w dx s1
    rw [s2] at p1 s1
    refine .inr ⟨py x, pyAll ds, p1, p2, s1, by rw [← e1]; exact s3, ?_⟩
    rw [any_py]
    exact c.here w r (.bl _)

theorem d_in (hr : Room k X.A) (ha : DE X a ta) (hb : DE X b tb) (hm : behindInMarks .In b = false := by with_unfolding_all rfl) : DE X (.Compare a [.In] [b] pos) (dOp dIn ta tb) := d_cmp (op_in_seq.or (op_inD (by have := hr.un; omega))) lf_in ha hb hm
theorem d_notIn (hr : Room k X.A) (ha : DE X a ta) (hb : DE X b tb) (hm : behindInMarks .NotIn b = false := by with_unfolding_all rfl) : DE X (.Compare a [.NotIn] [b] pos) (dOp dNotIn ta tb) := d_cmp (op_notIn_seq.or (op_notInD (by have := hr.un; omega))) lf_notIn ha hb hm
/-! ### subscripts -/
def dIx : D2 := fun x y M R => match x with
  | .str z => z.length ≤ sizeLine ∧ ∃ i c, y = .int i ∧ atI z.cps.toList i = some c ∧ R (.str ⟨#[c]⟩) M
  | x => ∃ i xs d, y = .int i ∧ sqOf M x = some xs ∧ atI xs i = some d ∧ R d M
theorem atI_len {α β : Type} {xs : List α} {ys : List β} {i : Int} {y : β} (h : xs.length = ys.length) (e : atI ys i = some y) : ∃ j, ixN xs.length i = some j ∧ ys[j]? = some y := by
  unfold atI at e
  rw [← h] at e
  cases q : ixN xs.length i with
  | none => rw [q] at e; cases e
  | some j => rw [q] at e; exact ⟨j, rfl, e⟩
theorem dtAll_at {K : PySem.W.Frag} {F : Hp} {vs : List V} {ds : List D} {i : Int} {d : D} (h : DtAll K F vs ds) (e : atI ds i = some d) : ∃ v, atI vs i = some v ∧ Dt K F v d := by
  obtain ⟨j, h1, h2⟩ := atI_len h.length e
  obtain ⟨v, h3, h4⟩ := h.get' h2
  exact ⟨v, by unfold atI; rw [h1]; exact h3, h4⟩
theorem d_sub_ix (ha : DE X a ta) (hb : DE X b tb) (hs : PlainIx b := by exact fun _ _ => rfl) : DE X (.Subscript a b pos) (dOp dIx ta tb) := by
  refine d_ix ix_seq (fun F M G H x y v u R Q w dx dy h c => ?_) ha hb hs
  have seqs : (∃ i xs d, y = .int i ∧ sqOf M x = some xs ∧ atI xs i = some d ∧ R d M) → rIx X.K v u H Q := fun ⟨i, xs, d, e1, e2, e3, r⟩ => by
    subst e1
    obtain ⟨p, vs, rfl, h1, q1⟩ := sq_at w dx e2
    obtain ⟨z, h2, q2⟩ := dtAll_at q1 e3
    rcases h1 with h1 | h1
    · exact .inl ⟨p, vs, i, z, rfl, dt_int dy, h1, h2, c.here w r q2⟩
    · exact .inr (.inl ⟨p, vs, i, z, rfl, dt_int dy, h1, h2, c.here w r q2⟩)
  cases x with
  | str z =>
    obtain ⟨hl, i, cc, e, h1, r⟩ := h
    subst e
    exact .inr (.inr ⟨z, i, cc, dt_str dx, dt_int dy, hl, h1, c.here w r (.str _)⟩)
  | lst _ => exact seqs h
  | rl _ => exact seqs h
  | tup _ => exact seqs h
  | ref _ => exact seqs h
  | non => exact seqs h
  | bl _ => exact seqs h
  | int _ => exact seqs h
  | dK _ => exact seqs h
  | obj _ _ => exact seqs h
  | ext _ => exact seqs h
end

/-! ### argument lists, displays -/
def dNil : TDA := fun _ M R => R [] M
def dCons (te : TDE) (t : TDA) : TDA := fun ρ M R => te ρ M fun x M1 => t ρ M1 fun xs M2 => R (x :: xs) M2
def dTup (t : TDA) : TDE := fun ρ M R => t ρ M fun xs M1 => xs.length ≤ sizeLine ∧ R (.tup xs) M1
def dLst (t : TDA) : TDE := fun ρ M R => t ρ M fun xs M1 => xs.length ≤ sizeLine ∧ R (.lst xs) M1
def dLstM (t : TDA) : TDE := fun ρ M R => t ρ M fun xs M1 => xs.length ≤ sizeLine ∧ ∀ p, M1 p = none → R (.ref p) (mupd M1 p (.lst xs))
section
variable {X : Cx} {e : Expr} {es : List Expr} {te : TDE} {t : TDA} {pos : Pos}
theorem da_nil : DA X [] dNil := pa_mono pa_nil fun σ H Q ⟨F, M, G, ρ, R, w, s, h, c⟩ => c [] M F H [] h (Same.refl F) w .nil
theorem da_cons (ha : DE X e te) (hr : DA X es t) (hs : starEach (e :: es) X.env = (false, eval e X.env) :: starEach es X.env := by rfl) : DA X (e :: es) (dCons te t) :=
  pa_mono (pa_cons ha hr hs) fun σ H Q ⟨F, M, G, ρ, R, w, s, h, c⟩ => ⟨F, M, G, ρ, _, w, s, h, fun x M1 F1 H1 v h1 s1 w1 d1 =>
    ⟨F1, M1, G, ρ, _, w1, s.mono s1, h1, fun xs M2 F2 H2 vs h2 s2 w2 d2 => c (x :: xs) M2 F2 H2 (v :: vs) h2 (s1.trans s2) w2 (.cons (d1.mono s2) d2)⟩⟩
theorem d_tup {x1} (h : DA X es t) : DE X (.Tuple es x1 pos) (dTup t) := pe_mono (pe_tup h) fun σ H Q ⟨F, M, G, ρ, R, w, s, h, c⟩ => ⟨F, M, G, ρ, _, w, s, h, fun xs M1 F1 H1 vs h1 s1 w1 d1 =>
  ⟨by rw [d1.length]; exact h1.1, (c.mono s1).newT w1 h1.2 d1⟩⟩
theorem d_lst (h : DA X es t) : DE X (.List es pos) (dLst t) := pe_mono (pe_lst h) fun σ H Q ⟨F, M, G, ρ, R, w, s, h, c⟩ => ⟨F, M, G, ρ, _, w, s, h, fun xs M1 F1 H1 vs h1 s1 w1 d1 =>
  ⟨by rw [d1.length]; exact h1.1, (c.mono s1).newL w1 h1.2 d1⟩⟩
theorem d_lstM (h : DA X es t) : DE X (.List es pos) (dLstM t) := pe_mono (pe_lst h) fun σ H Q ⟨F, M, G, ρ, R, w, s, h, c⟩ => ⟨F, M, G, ρ, _, w, s, h, fun xs M1 F1 H1 vs h1 s1 w1 d1 =>
  ⟨by rw [d1.length]; exact h1.1, (c.mono s1).newLM w1 h1.2 d1⟩⟩
/-- the value is frozen -/
def dFrz (t : TDE) : TDE := fun ρ M R => t ρ M fun d M1 => (match d with
  | .ref a => ∃ xs, M1 a = some (.lst xs) ∧ R (.lst xs) (mdel M1 a)
  | _ => False)
theorem d_frz (h : DE X e te) : DE X e (dFrz te) := pe_mono h fun σ H Q ⟨F, M, G, ρ, R, w, s, h, c⟩ => ⟨F, M, G, ρ, _, w, s, h, fun d M1 F1 H1 v h1 s1 w1 d1 => by
  cases d with
  | ref a =>
    obtain ⟨xs, e, r⟩ := h1
    cases dt_ref d1
    obtain ⟨F2, s2, w2, d2⟩ := w1.freeze e
    exact c _ _ F2 H1 _ r (s1.trans s2) w2 d2
  | _ => cases h1⟩
end

/-! ### tests -/
def dB (t : TDE) : TDT := fun ρ M R => t ρ M fun d M1 => ∃ b, d = .bl b ∧ R b M1
def dAndT (t u : TDT) : TDT := fun ρ M R => t ρ M fun c M1 => if c = true then u ρ M1 R else R false M1
def dOrT (t u : TDT) : TDT := fun ρ M R => t ρ M fun c M1 => if c = true then R true M1 else u ρ M1 R
def dNotT (t : TDT) : TDT := fun ρ M R => t ρ M fun c M1 => R (!c) M1
def dAndV (ta tb : TDE) : TDE := fun ρ M R => ta ρ M fun x M1 => ∃ c, x = .bl c ∧ if c = true then tb ρ M1 R else R (.bl false) M1
def dOrV (ta tb : TDE) : TDE := fun ρ M R => ta ρ M fun x M1 => ∃ c, x = .bl c ∧ if c = true then R (.bl true) M1 else tb ρ M1 R
def dNotV (ta : TDE) : TDE := fun ρ M R => ta ρ M fun x M1 => ∃ c, x = .bl c ∧ R (.bl (!c)) M1
def dIfE (t : TDT) (ta tb : TDE) : TDE := fun ρ M R => t ρ M fun c M1 => if c = true then ta ρ M1 R else tb ρ M1 R
def truD (M : MS) : D → Option Bool
  | .non => some false
  | .bl b => some b
  | .int i => some (i != 0)
  | .lst xs => some !xs.isEmpty
  | .tup xs => some !xs.isEmpty
  | .ref a => match M a with
    | some (.lst xs) => some !xs.isEmpty
    | _ => none
  | _ => none
def dTru (t : TDE) : TDT := fun ρ M R => t ρ M fun d M1 => ∃ b, truD M1 d = some b ∧ R b M1
section
variable {X : Cx} {a b c e : Expr} {rest : List Expr} {ta tb te : TDE} {t u : TDT} {pos : Pos}
theorem dt_val (h : DE X e te) (he : ∀ whole, isTrue e X.env whole = (do let v ← whole; standAt e.pos; holding [v] (truthy v)) := by intro _; rfl) : DT X e (dB te) :=
  pt_mono (pt_val h he) fun σ H Q ⟨F, M, G, ρ, R, w, s, h, c⟩ => ⟨F, M, G, ρ, _, w, s, h, fun d M1 F1 H1 v ⟨b, e, r⟩ s1 w1 d1 => by
    subst e
    exact ⟨b, dt_bl d1, c b M1 F1 H1 r s1 w1⟩⟩
theorem up_test {K : PySem.W.Frag} (σ : L2.St) (H : Hp) (Q : Bool → Hp → Prop) (h : upT K (dB te) σ H Q) : tTest (up K te) σ H Q := by
  obtain ⟨F, M, G, ρ, R, w, s, h, c⟩ := h
  refine ⟨F, M, G, ρ, _, w, s, h, fun d M1 F1 H1 v ⟨b, e, r⟩ s1 w1 d1 => ?_⟩
  subst e
  exact ⟨b, dt_bl d1, c b M1 F1 H1 r s1 w1⟩
theorem tTest_mono {t u : TE} (w : ∀ σ H Q, u σ H Q → t σ H Q) (σ : L2.St) (H : Hp) (Q : Bool → Hp → Prop) (h : tTest u σ H Q) : tTest t σ H Q := w _ _ _ h
theorem dt_cmp {op : CmpOp} {r : R2} {d : D2} (ho : OpR X (compareOp op) r) (l : Lf2 X.K r d) (ha : DE X a ta) (hb : DE X b tb) (hm : behindInMarks op b = false := by first | exact nomark _ | with_unfolding_all rfl) : DT X (.Compare a [op] [b] pos) (dB (dOp d ta tb)) :=
  pt_mono (pt_cmpR ho ha hb hm) fun σ H Q h => tTest_mono (up_op l) σ H Q (up_test σ H Q h)
theorem dt_lt (ha : DE X a ta) (hb : DE X b tb) : DT X (.Compare a [.Lt] [b] pos) (dB (dOp dLt ta tb)) := dt_cmp op_lt lf_bl ha hb
theorem dt_le (ha : DE X a ta) (hb : DE X b tb) : DT X (.Compare a [.LtE] [b] pos) (dB (dOp dLe ta tb)) := dt_cmp op_le lf_bl ha hb
theorem dt_gt (ha : DE X a ta) (hb : DE X b tb) : DT X (.Compare a [.Gt] [b] pos) (dB (dOp dGt ta tb)) := dt_cmp op_gt lf_bl ha hb
theorem dt_ge (ha : DE X a ta) (hb : DE X b tb) : DT X (.Compare a [.GtE] [b] pos) (dB (dOp dGe ta tb)) := dt_cmp op_ge lf_bl ha hb
theorem dt_eq {k : Nat} (hr : Room k X.A) (ha : DE X a ta) (hb : DE X b tb) : DT X (.Compare a [.Eq] [b] pos) (dB (dOp dEq ta tb)) := dt_cmp (op_eq.or (op_eqD hr.units)) lf_eq ha hb
theorem dt_ne {k : Nat} (hr : Room k X.A) (ha : DE X a ta) (hb : DE X b tb) : DT X (.Compare a [.NotEq] [b] pos) (dB (dOp dNe ta tb)) := dt_cmp (op_ne.or (op_neD hr.units)) lf_ne ha hb
theorem dt_in {k : Nat} (hr : Room k X.A) (ha : DE X a ta) (hb : DE X b tb) (hm : behindInMarks .In b = false := by with_unfolding_all rfl) : DT X (.Compare a [.In] [b] pos) (dB (dOp dIn ta tb)) := dt_cmp (op_in_seq.or (op_inD (by have := hr.un; omega))) lf_in ha hb hm
theorem dt_notIn {k : Nat} (hr : Room k X.A) (ha : DE X a ta) (hb : DE X b tb) (hm : behindInMarks .NotIn b = false := by with_unfolding_all rfl) : DT X (.Compare a [.NotIn] [b] pos) (dB (dOp dNotIn ta tb)) := dt_cmp (op_notIn_seq.or (op_notInD (by have := hr.un; omega))) lf_notIn ha hb hm
theorem dt_isN {j pos'} (ha : DE X a ta) : DT X (.Compare a [.Is] [.Constant .none j pos'] pos) (dB (dUn (fun x M R => R (.bl (isN x)) M) ta)) :=
  pt_mono (pt_cmp (pc_isN ha) (nomark _)) fun σ H Q ⟨F, M, G, ρ, R, w, s, h, c⟩ => ⟨F, M, G, ρ, _, w, s, h, fun x M1 F1 H1 v h1 s1 w1 d1 => by
    obtain ⟨b, e, r⟩ := h1
    cases e
    exact ⟨_, rfl, by rw [isN_at d1]; exact c _ M1 F1 H1 r s1 w1⟩⟩
theorem dt_notN {j pos'} (ha : DE X a ta) : DT X (.Compare a [.IsNot] [.Constant .none j pos'] pos) (dB (dUn (fun x M R => R (.bl (!isN x)) M) ta)) :=
  pt_mono (pt_cmp (pc_notN ha) (nomark _)) fun σ H Q ⟨F, M, G, ρ, R, w, s, h, c⟩ => ⟨F, M, G, ρ, _, w, s, h, fun x M1 F1 H1 v h1 s1 w1 d1 => by
    obtain ⟨b, e, r⟩ := h1
    cases e
    exact ⟨_, rfl, by rw [isN_at d1]; exact c _ M1 F1 H1 r s1 w1⟩⟩
theorem isEmpty_len {K : PySem.W.Frag} {F : Hp} {vs : List V} {ds : List D} (h : DtAll K F vs ds) : vs.isEmpty = ds.isEmpty := by cases h <;> rfl
theorem dt_tru (h : DE X e te) (he : ∀ whole, isTrue e X.env whole = (do let v ← whole; standAt e.pos; holding [v] (truthy v)) := by intro _; rfl) : DT X e (dTru te) :=
  pt_mono (pt_truth h he) fun σ H Q ⟨F, M, G, ρ, R, w, s, h, c⟩ => ⟨F, M, G, ρ, _, w, s, h, fun d M1 F1 H1 v ⟨b, e, r⟩ s1 w1 d1 => by
    refine ⟨b, ?_, c b M1 F1 H1 r s1 w1⟩
    cases d with
    | non => cases dt_non d1; cases e; rfl
    | bl x => cases dt_bl d1; cases e; rfl
    | int i => cases dt_int d1; cases e; rfl
    | str _ => cases e
    | rl _ => cases e
    | dK _ => cases e
    | obj _ _ => cases e
    | ext _ => cases e
    | lst xs =>
      obtain ⟨p, vs, rfl, h1, q1⟩ := dt_lst d1
      cases e
      refine .inl ⟨vs, .of (w1.fz _ _ h1), ?_⟩
      rw [isEmpty_len q1]
    | tup xs =>
      obtain ⟨p, vs, rfl, h1, q1⟩ := dt_tup d1
      cases e
      refine .inr (.inl ⟨vs, same_tup w1.fz h1, ?_⟩)
      rw [isEmpty_len q1]
    | ref p =>
      cases dt_ref d1
      simp only [truD] at e
      cases q : M1 p with
      | none => rw [q] at e; cases e
      | some o =>
        rw [q] at e
        cases o with
        | lst xs =>
          cases e
          obtain ⟨_, _, vs, h1, q1⟩ := w1.mu _ _ q
          refine .inl ⟨vs, .of h1, ?_⟩
          rw [isEmpty_len q1]
        | dK _ => cases e
        | dT _ => cases e
        | ins _ _ => cases e⟩
theorem dw_and1 (ha : DT X a t) : DW X (.BoolOp .And [a] pos) t := pw_and1 ha
theorem dw_or1 (ha : DT X a t) : DW X (.BoolOp .Or [a] pos) t := pw_or1 ha
theorem dw_and (ha : DT X a t) (hb : DW X (.BoolOp .And (b :: rest) pos) u) : DW X (.BoolOp .And (a :: b :: rest) pos) (dAndT t u) :=
  pw_mono (pw_and ha hb) fun σ H Q ⟨F, M, G, ρ, R, w, s, h, c⟩ => ⟨F, M, G, ρ, _, w, s, h, fun b M1 F1 H1 h1 s1 w1 => by
    cases b with
    | true => exact iteT ⟨F1, M1, G, ρ, R, w1, s.mono s1, (if_pos (c := true = true) rfl).mp h1, c.mono s1⟩
    | false => exact iteF (c false M1 F1 H1 ((if_neg Bool.false_ne_true).mp h1) s1 w1)⟩
theorem dw_or (ha : DT X a t) (hb : DW X (.BoolOp .Or (b :: rest) pos) u) : DW X (.BoolOp .Or (a :: b :: rest) pos) (dOrT t u) :=
  pw_mono (pw_or ha hb) fun σ H Q ⟨F, M, G, ρ, R, w, s, h, c⟩ => ⟨F, M, G, ρ, _, w, s, h, fun b M1 F1 H1 h1 s1 w1 => by
    cases b with
    | true => exact iteT (c true M1 F1 H1 ((if_pos (c := true = true) rfl).mp h1) s1 w1)
    | false => exact iteF ⟨F1, M1, G, ρ, R, w1, s.mono s1, (if_neg Bool.false_ne_true).mp h1, c.mono s1⟩⟩
theorem dt_w (h : DW X e t) : DT X e t := h.pt
theorem dt_not (ha : DT X a t) : DT X (.UnaryOp .Not a pos) (dNotT t) :=
  pt_mono (pt_not ha) fun σ H Q ⟨F, M, G, ρ, R, w, s, h, c⟩ => ⟨F, M, G, ρ, _, w, s, h, fun b M1 F1 H1 h1 s1 w1 => c _ M1 F1 H1 h1 s1 w1⟩
theorem d_one {op} (h : DE X a ta) : DE X (.BoolOp op [a] pos) ta := pe_one h
theorem d_andV (ha : DE X a ta) (hb : DE X (.BoolOp .And (b :: rest) pos) tb) : DE X (.BoolOp .And (a :: b :: rest) pos) (dAndV ta tb) :=
  pe_mono (pe_and ha hb) fun σ H Q ⟨F, M, G, ρ, R, w, s, h, c⟩ => ⟨F, M, G, ρ, _, w, s, h, fun d M1 F1 H1 v ⟨b, e, h1⟩ s1 w1 d1 => by
    subst e
    refine ⟨b, dt_bl d1, ?_⟩
    cases b with
    | true => exact iteT ⟨F1, M1, G, ρ, R, w1, s.mono s1, (if_pos (c := true = true) rfl).mp h1, c.mono s1⟩
    | false => exact iteF ((c.mono s1).here w1 ((if_neg Bool.false_ne_true).mp h1) (.bl _))⟩
theorem d_orV (ha : DE X a ta) (hb : DE X (.BoolOp .Or (b :: rest) pos) tb) : DE X (.BoolOp .Or (a :: b :: rest) pos) (dOrV ta tb) :=
  pe_mono (pe_or ha hb) fun σ H Q ⟨F, M, G, ρ, R, w, s, h, c⟩ => ⟨F, M, G, ρ, _, w, s, h, fun d M1 F1 H1 v ⟨b, e, h1⟩ s1 w1 d1 => by
    subst e
    refine ⟨b, dt_bl d1, ?_⟩
    cases b with
    | true => exact iteT ((c.mono s1).here w1 ((if_pos (c := true = true) rfl).mp h1) (.bl _))
    | false => exact iteF ⟨F1, M1, G, ρ, R, w1, s.mono s1, (if_neg Bool.false_ne_true).mp h1, c.mono s1⟩⟩
theorem d_notV (ha : DE X a ta) : DE X (.UnaryOp .Not a pos) (dNotV ta) :=
  pe_mono (pe_not ha) fun σ H Q ⟨F, M, G, ρ, R, w, s, h, c⟩ => ⟨F, M, G, ρ, _, w, s, h, fun d M1 F1 H1 v ⟨b, e, h1⟩ s1 w1 d1 => by
    subst e
    exact ⟨b, dt_bl d1, (c.mono s1).here w1 h1 (.bl _)⟩⟩
theorem d_ifE (hc : DT X c t) (ha : DE X a ta) (hb : DE X b tb) : DE X (.IfExp c a b pos) (dIfE t ta tb) :=
  pe_mono (pe_ifExp hc ha hb) fun σ H Q ⟨F, M, G, ρ, R, w, s, h, c⟩ => ⟨F, M, G, ρ, _, w, s, h, fun b M1 F1 H1 h1 s1 w1 => by
    cases b with
    | true => exact iteT ⟨F1, M1, G, ρ, R, w1, s.mono s1, (if_pos (c := true = true) rfl).mp h1, c.mono s1⟩
    | false => exact iteF ⟨F1, M1, G, ρ, R, w1, s.mono s1, (if_neg Bool.false_ne_true).mp h1, c.mono s1⟩⟩
end
end DL

/-! DL4: calls, methods, targets, statements, loops, comprehensions. -/
namespace DL
open PySem PySem.Spec PyProof.Rows L2

/-! ### a def's promise over data -/
def spOf (K : PySem.W.Frag) (dsp : DL) : Sp := fun vs H Q _ => ∃ F M G ds R, Wf K F M G H ∧ DtAll K F vs ds ∧ dsp ds M R ∧ Cont K F G R Q
theorem LfL.sp {K : PySem.W.Frag} {dsp : DL} {E : XK} : LfL K (fun vs H Q => spOf K dsp vs H Q E) dsp := fun F M G H xs vs R Q w d h c => ⟨F, M, G, xs, R, w, d, h, c⟩
section
variable {X : Cx} {k : Nat} {f : Addr} {fd : FuncData} {ps : List Str} {dsp : DL} {x : Str} {p pos : Pos} {e : Expr} {es : List Expr} {t : TDA}
theorem d_call (F : FnOk X.prog X.w X.K X.mg X.base CX0 k f fd ps (spOf X.K dsp)) (hr : Room k X.A) (hg : Gl X x) (hm : X.mg x = some (.ref f)) (hk : PySem.W.keepIn X.K (.ref f) = true) (hb : Binds X.K fd ps [])
    (ha : DA X (e :: es) t) (hdb : (x == ("__debug__" : Str)) = false := by decide) (he : starEach (e :: es) X.env = (false, eval e X.env) :: starEach es X.env := by rfl) (hpl : (backTo pos (starEach es X.env)).any (·.1) = false := by rfl) :
    DE X (.Call (.Name x p) (e :: es) [] pos) (dCB dsp t) :=
  pe_mono (pe_call F hr hg hm hk hb .nil pass0 ha hdb he hpl) fun σ H Q h => by
    have h2 := up_cb (LfL.sp (E := E0)) σ H Q h
    show upA X.K t σ H fun vs H1 => spOf X.K dsp (vs ++ []) H1 Q E0
    simp only [List.append_nil]
    exact h2
/-- with defaults dd behind the written arguments -/
theorem d_callD {dvs : List V} {ds : List Value} {dd : List D} (F : FnOk X.prog X.w X.K X.mg X.base CX0 k f fd ps (spOf X.K dsp)) (hr : Room k X.A) (hg : Gl X x) (hm : X.mg x = some (.ref f)) (hk : PySem.W.keepIn X.K (.ref f) = true) (hb : Binds X.K fd ps ds)
    (hd : Vals dvs ds) (hdd : ∀ F, DtAll X.K F dvs dd)
    (ha : DA X (e :: es) t) (hdb : (x == ("__debug__" : Str)) = false := by decide) (he : starEach (e :: es) X.env = (false, eval e X.env) :: starEach es X.env := by rfl) (hpl : (backTo pos (starEach es X.env)).any (·.1) = false := by rfl) :
    DE X (.Call (.Name x p) (e :: es) [] pos) (dCB (fun xs M R => dsp (xs ++ dd) M R) t) :=
  pe_mono (pe_call F hr hg hm hk hb hd pass0 ha hdb he hpl) (up_cb (r := fun vs H1 Q => spOf X.K dsp (vs ++ dvs) H1 Q E0) fun F M G H xs vs R Q w d h c => ⟨F, M, G, xs ++ dd, R, w, d.append (hdd F), h, c⟩)
theorem d_callB {id : String} {r : List V → Hp → VK → Prop} {d : DL} (hc : CallR X (.builtin id) r) (l : LfL X.K r d) (hg : Gl X x) (hm : X.mg x = none) (hv : bootBuiltins x = some (.builtin id)) (ha : DA X (e :: es) t) (hn : x ≠ "__name__" := by decide)
    (hdb : (x == ("__debug__" : Str)) = false := by decide) (he : starEach (e :: es) X.env = (false, eval e X.env) :: starEach es X.env := by rfl) (hpl : (backTo pos (starEach es X.env)).any (·.1) = false := by rfl) :
    DE X (.Call (.Name x p) (e :: es) [] pos) (dCB d t) := pe_mono (pe_callB hc hg hm hv ha hn hdb he hpl) (up_cb l)
theorem d_callTy {T : String} {r : List V → Hp → VK → Prop} {d : DL} (hc : CallR X (.type T) r) (l : LfL X.K r d) (hg : Gl X x) (hm : X.mg x = none) (hv : bootBuiltins x = some (.type T)) (ha : DA X (e :: es) t) (hn : x ≠ "__name__" := by decide)
    (hdb : (x == ("__debug__" : Str)) = false := by decide) (he : starEach (e :: es) X.env = (false, eval e X.env) :: starEach es X.env := by rfl) (hpl : (backTo pos (starEach es X.env)).any (·.1) = false := by rfl) :
    DE X (.Call (.Name x p) (e :: es) [] pos) (dCB d t) := pe_mono (pe_callTy hc hg hm hv ha hn hdb he hpl) (up_cb l)
end

/-! ### built-in functions by values -/
section
variable {K : PySem.W.Frag} {F G H : Hp} {M : MS}
theorem dtAll_one {vs : List V} {d : D} (h : DtAll K F vs [d]) : ∃ v, vs = [v] ∧ Dt K F v d := by
  cases h with
  | cons a b => cases b; exact ⟨_, rfl, a⟩
theorem dtAll_two {vs : List V} {d e : D} (h : DtAll K F vs [d, e]) : ∃ v u, vs = [v, u] ∧ Dt K F v d ∧ Dt K F u e := by
  cases h with
  | cons a b =>
    obtain ⟨u, rfl, c⟩ := dtAll_one b
    exact ⟨_, _, rfl, a, c⟩
theorem dtAll_nil {vs : List V} (h : DtAll K F vs []) : vs = [] := by cases h; rfl
end
def dLen : DL := fun xs M R => match xs with
  | [.str z] => z.length ≤ sizeLine ∧ R (.int z.length) M
  | [x] => ∃ ys, sqOf M x = some ys ∧ R (.int ys.length) M
  | _ => False
def dAbs : DL := fun xs M R => match xs with
  | [.int i] => R (.int (if i < 0 then -i else i)) M
  | _ => False
def dInt : DL := fun xs M R => match xs with
  | [.int i] => R (.int i) M
  | [.bl b] => R (.int (if b then 1 else 0)) M
  | _ => False
def dStr : DL := fun xs M R => match xs with
  | [.int i] => i.natAbs.log2 < 1920 ∧ R (.str (toString i)) M
  | _ => False
def dMax : DL := fun xs M R => ∃ (x : D) (ns : List Int), xs = [x] ∧ lsOf M x = some (ns.map D.int) ∧ 0 < ns.length ∧ ∀ m, m ∈ ns → (∀ y, y ∈ ns → y ≤ m) → R (.int m) M
def dMin2 : DL := fun xs M R => match xs with
  | [.int i, .int j] => R (.int (if j < i then j else i)) M
  | _ => False
def dMax2 : DL := fun xs M R => match xs with
  | [.int i, .int j] => R (.int (if j > i then j else i)) M
  | _ => False
def dSum : DL := fun xs M R => ∃ (x : D) (ns : List Int), xs = [x] ∧ lsOf M x = some (ns.map D.int) ∧ R (.int ns.sum) M
def dAny : DL := fun xs M R => ∃ (x : D) (bs : List Bool), xs = [x] ∧ lsOf M x = some (bs.map D.bl) ∧ R (.bl (bs.any id)) M
def dAll : DL := fun xs M R => ∃ (x : D) (bs : List Bool), xs = [x] ∧ lsOf M x = some (bs.map D.bl) ∧ R (.bl (bs.all id)) M
def dSorted : DL := fun xs M R => ∃ (x : D) (ns : List Int), xs = [x] ∧ lsOf M x = some (ns.map D.int) ∧ ∀ ns' : List Int, ns'.Perm ns → ns'.Pairwise (· ≤ ·) → R (.lst (ns'.map D.int)) M
def dList : DL := fun xs M R => ∃ x ys, xs = [x] ∧ sqOf M x = some ys ∧ R (.lst ys) M
def dListM : DL := fun xs M R => ∃ x ys, xs = [x] ∧ sqOf M x = some ys ∧ ∀ p, M p = none → R (.ref p) (mupd M p (.lst ys))
def dTuple : DL := fun xs M R => ∃ x ys, xs = [x] ∧ sqOf M x = some ys ∧ R (.tup ys) M
section
variable {K : PySem.W.Frag}
theorem dtAll_bls {F : Hp} : ∀ {vs : List V} {ns : List Bool}, DtAll K F vs (ns.map D.bl) → vs = ns.map V.bl
  | [], [], _ => rfl
  | _ :: _, [], h => by cases h
  | [], _ :: _, h => by cases h
  | v :: vs, n :: ns, h => by
    cases h with
    | cons a b => rw [dt_bl a, dtAll_bls b]; rfl
theorem lf_len : LfL K (fun xs H Q => (∃ p ys, xs = [V.ref p] ∧ (SqL K H p ys ∨ SqT K H p ys) ∧ Q (.int ys.length) H) ∨ ∃ z, xs = [V.str z] ∧ z.length ≤ sizeLine ∧ Q (.int z.length) H) dLen := fun F M G H xs vs R Q w d h c => by
  have seqs : ∀ x, DtAll K F vs [x] → (∃ ys, sqOf M x = some ys ∧ R (.int ys.length) M) → (∃ p ys, vs = [V.ref p] ∧ (SqL K H p ys ∨ SqT K H p ys) ∧ Q (.int ys.length) H) := fun x d ⟨ys, e, r⟩ => by
    obtain ⟨v, rfl, d1⟩ := dtAll_one d
    obtain ⟨p, us, rfl, h1, q1⟩ := sq_at w d1 e
    exact ⟨p, us, rfl, h1, c.here w r (by rw [q1.length]; exact .int _)⟩
  match xs, d, h with
  | [.str z], d, h =>
    obtain ⟨v, rfl, d1⟩ := dtAll_one d
    exact .inr ⟨z, by rw [dt_str d1], h.1, c.here w h.2 (.int _)⟩
  | [.lst y], d, h => exact .inl (seqs _ d h)
  | [.rl y], d, h => exact .inl (seqs _ d h)
  | [.tup y], d, h => exact .inl (seqs _ d h)
  | [.ref y], d, h => exact .inl (seqs _ d h)
  | [.non], d, h => exact .inl (seqs _ d h)
  | [.bl _], d, h => exact .inl (seqs _ d h)
  | [.int _], d, h => exact .inl (seqs _ d h)
  | [.dK _], d, h => exact .inl (seqs _ d h)
  | [.obj _ _], d, h => exact .inl (seqs _ d h)
  | [.ext _], d, h => exact .inl (seqs _ d h)
theorem lf_abs : LfL K (fun xs H Q => ∃ i, xs = [V.int i] ∧ Q (.int (if i < 0 then -i else i)) H) dAbs := fun F M G H xs vs R Q w d h c => by
  unfold dAbs at h
  split at h
  · obtain ⟨v, rfl, d1⟩ := dtAll_one d
    exact ⟨_, by rw [dt_int d1], c.here w h (.int _)⟩
  · cases h
theorem lf_int1 : LfL K (fun xs H Q => (∃ i, xs = [V.int i] ∧ Q (.int i) H) ∨ ∃ k, xs = [V.bl k] ∧ Q (.int (if k then 1 else 0)) H) dInt := fun F M G H xs vs R Q w d h c => by
  unfold dInt at h
  split at h
  · obtain ⟨v, rfl, d1⟩ := dtAll_one d
    exact .inl ⟨_, by rw [dt_int d1], c.here w h (.int _)⟩
  · obtain ⟨v, rfl, d1⟩ := dtAll_one d
    exact .inr ⟨_, by rw [dt_bl d1], c.here w h (.int _)⟩
  · cases h
theorem lf_str : LfL K (fun xs H Q => ∃ i, xs = [V.int i] ∧ i.natAbs.log2 < 1920 ∧ Q (.str (toString i)) H) dStr := fun F M G H xs vs R Q w d h c => by
  unfold dStr at h
  split at h
  · obtain ⟨v, rfl, d1⟩ := dtAll_one d
    exact ⟨_, by rw [dt_int d1], h.1, c.here w h.2 (.str _)⟩
  · cases h
theorem lf_max : LfL K (rMax K) dMax := fun F M G H xs vs R Q w d h c => by
  obtain ⟨x, ns, rfl, e, hp, h⟩ := h
  obtain ⟨v, rfl, d1⟩ := dtAll_one d
  obtain ⟨a, us, rfl, h1, q1⟩ := ls_at w d1 e
  rw [dtAll_ints q1] at h1
  exact ⟨a, ns, rfl, .of h1, hp, fun m h2 h3 => c.here w (h m h2 h3) (.int _)⟩
theorem lf_sum : LfL K (rSum K) dSum := fun F M G H xs vs R Q w d h c => by
  obtain ⟨x, ns, rfl, e, h⟩ := h
  obtain ⟨v, rfl, d1⟩ := dtAll_one d
  obtain ⟨a, us, rfl, h1, q1⟩ := ls_at w d1 e
  rw [dtAll_ints q1] at h1
  exact ⟨a, ns, rfl, .of h1, c.here w h (.int _)⟩
theorem lf_any : LfL K (rAny K) dAny := fun F M G H xs vs R Q w d h c => by
  obtain ⟨x, ns, rfl, e, h⟩ := h
  obtain ⟨v, rfl, d1⟩ := dtAll_one d
  obtain ⟨a, us, rfl, h1, q1⟩ := ls_at w d1 e
  rw [dtAll_bls q1] at h1
  exact ⟨a, ns, rfl, .of h1, c.here w h (.bl _)⟩
theorem lf_all : LfL K (rAll K) dAll := fun F M G H xs vs R Q w d h c => by
  obtain ⟨x, ns, rfl, e, h⟩ := h
  obtain ⟨v, rfl, d1⟩ := dtAll_one d
  obtain ⟨a, us, rfl, h1, q1⟩ := ls_at w d1 e
  rw [dtAll_bls q1] at h1
  exact ⟨a, ns, rfl, .of h1, c.here w h (.bl _)⟩
theorem lf_sorted : LfL K (rSortedI K) dSorted := fun F M G H xs vs R Q w d h c => by
  obtain ⟨x, ns, rfl, e, h⟩ := h
  obtain ⟨v, rfl, d1⟩ := dtAll_one d
  obtain ⟨a, us, rfl, h1, q1⟩ := ls_at w d1 e
  rw [dtAll_ints q1] at h1
  exact ⟨a, ns, rfl, .of h1, fun ns' p h2 h3 hp => c.newL w (h ns' h2 h3) (dtAll_of_ints ns') p hp⟩
theorem lf_list : LfL K (fun xs H Q => ∃ p ys, xs = [V.ref p] ∧ (SqL K H p ys ∨ SqT K H p ys) ∧ ∀ l, H l = none → Q (.ref l) (upd H l (.lst ys))) dList := fun F M G H xs vs R Q w d h c => by
  obtain ⟨x, ys, rfl, e, r⟩ := h
  obtain ⟨v, rfl, d1⟩ := dtAll_one d
  obtain ⟨p, us, rfl, h1, q1⟩ := sq_at w d1 e
  exact ⟨p, us, rfl, h1, c.newL w r q1⟩
theorem lf_listM : LfL K (fun xs H Q => ∃ p ys, xs = [V.ref p] ∧ (SqL K H p ys ∨ SqT K H p ys) ∧ ∀ l, H l = none → Q (.ref l) (upd H l (.lst ys))) dListM := fun F M G H xs vs R Q w d h c => by
  obtain ⟨x, ys, rfl, e, r⟩ := h
  obtain ⟨v, rfl, d1⟩ := dtAll_one d
  obtain ⟨p, us, rfl, h1, q1⟩ := sq_at w d1 e
  exact ⟨p, us, rfl, h1, c.newLM w r q1⟩
theorem lf_tuple : LfL K (fun xs H Q => ∃ p ys, xs = [V.ref p] ∧ ((SqL K H p ys ∧ ∀ l, H l = none → Q (.ref l) (upd H l (.tup ys))) ∨ (SqT K H p ys ∧ Q (.ref p) H))) dTuple := fun F M G H xs vs R Q w d h c => by
  obtain ⟨x, ys, rfl, e, r⟩ := h
  obtain ⟨v, rfl, d1⟩ := dtAll_one d
  cases x with
  | tup zs =>
    cases e
    obtain ⟨p, us, rfl, h1, q1⟩ := dt_tup d1
    exact ⟨p, us, rfl, .inr ⟨same_tup w.fz h1, c.here w r d1⟩⟩
  | lst zs =>
    cases e
    obtain ⟨p, us, rfl, h1, q1⟩ := dt_lst d1
    exact ⟨p, us, rfl, .inl ⟨.of (w.fz _ _ h1), c.newT w r q1⟩⟩
  | rl zs =>
    cases e
    cases d1 with
    | rl s q => exact ⟨_, _, rfl, .inl ⟨w.fz.seq s, c.newT w r q⟩⟩
  | ref a =>
    cases dt_ref d1
    obtain ⟨_, _, us, h1, q1⟩ := w.mu _ _ (sq_ref e)
    exact ⟨a, us, rfl, .inl ⟨.of h1, c.newT w r q1⟩⟩
  | non => cases e
  | bl _ => cases e
  | int _ => cases e
  | str _ => cases e
  | dK _ => cases e
  | obj _ _ => cases e
  | ext _ => cases e
end
section
variable {X : Cx} {p pos : Pos} {e : Expr} {es : List Expr} {t : TDA}
theorem d_len (hg : Gl X "len") (hm : X.mg "len" = none) (ha : DA X [e] t) (he : starEach [e] X.env = (false, eval e X.env) :: starEach [] X.env := by rfl) : DE X (.Call (.Name "len" p) [e] [] pos) (dCB dLen t) :=
  d_callB (call_len_seq.or call_len_str) lf_len hg hm PySem.boot_len ha (he := he)
theorem d_abs (hg : Gl X "abs") (hm : X.mg "abs" = none) (ha : DA X [e] t) (he : starEach [e] X.env = (false, eval e X.env) :: starEach [] X.env := by rfl) : DE X (.Call (.Name "abs" p) [e] [] pos) (dCB dAbs t) :=
  d_callB call_abs lf_abs hg hm (by decide +kernel) ha (he := he)
theorem d_intC (hg : Gl X "int") (hm : X.mg "int" = none) (ha : DA X [e] t) (he : starEach [e] X.env = (false, eval e X.env) :: starEach [] X.env := by rfl) : DE X (.Call (.Name "int" p) [e] [] pos) (dCB dInt t) :=
  d_callTy call_int1 lf_int1 hg hm (by decide +kernel) ha (he := he)
theorem d_strC (hg : Gl X "str") (hm : X.mg "str" = none) (ha : DA X [e] t) (he : starEach [e] X.env = (false, eval e X.env) :: starEach [] X.env := by rfl) : DE X (.Call (.Name "str" p) [e] [] pos) (dCB dStr t) :=
  d_callTy call_str_int lf_str hg hm (by decide +kernel) ha (he := he)
theorem d_max (hc : X.calm = true) (hg : Gl X "max") (hm : X.mg "max" = none) (ha : DA X [e] t) (he : starEach [e] X.env = (false, eval e X.env) :: starEach [] X.env := by rfl) : DE X (.Call (.Name "max" p) [e] [] pos) (dCB dMax t) :=
  d_callB (cr_max hc) lf_max hg hm (by decide +kernel) ha (he := he)
theorem d_sum (hc : X.calm = true) (hg : Gl X "sum") (hm : X.mg "sum" = none) (ha : DA X [e] t) (he : starEach [e] X.env = (false, eval e X.env) :: starEach [] X.env := by rfl) : DE X (.Call (.Name "sum" p) [e] [] pos) (dCB dSum t) :=
  d_callB (cr_sum hc) lf_sum hg hm (by decide +kernel) ha (he := he)
theorem d_any (hc : X.calm = true) (hg : Gl X "any") (hm : X.mg "any" = none) (ha : DA X [e] t) (he : starEach [e] X.env = (false, eval e X.env) :: starEach [] X.env := by rfl) : DE X (.Call (.Name "any" p) [e] [] pos) (dCB dAny t) :=
  d_callB (cr_any hc) lf_any hg hm (by decide +kernel) ha (he := he)
theorem d_all (hc : X.calm = true) (hg : Gl X "all") (hm : X.mg "all" = none) (ha : DA X [e] t) (he : starEach [e] X.env = (false, eval e X.env) :: starEach [] X.env := by rfl) : DE X (.Call (.Name "all" p) [e] [] pos) (dCB dAll t) :=
  d_callB (cr_all hc) lf_all hg hm (by decide +kernel) ha (he := he)
theorem d_sorted (hg : Gl X "sorted") (hm : X.mg "sorted" = none) (ha : DA X [e] t) (he : starEach [e] X.env = (false, eval e X.env) :: starEach [] X.env := by rfl) : DE X (.Call (.Name "sorted" p) [e] [] pos) (dCB dSorted t) :=
  d_callB cr_sortedI lf_sorted hg hm (by decide +kernel) ha (he := he)
theorem d_list (hg : Gl X "list") (hm : X.mg "list" = none) (ha : DA X [e] t) (he : starEach [e] X.env = (false, eval e X.env) :: starEach [] X.env := by rfl) : DE X (.Call (.Name "list" p) [e] [] pos) (dCB dList t) :=
  d_callTy call_list_of lf_list hg hm (by decide +kernel) ha (he := he)
theorem d_listM (hg : Gl X "list") (hm : X.mg "list" = none) (ha : DA X [e] t) (he : starEach [e] X.env = (false, eval e X.env) :: starEach [] X.env := by rfl) : DE X (.Call (.Name "list" p) [e] [] pos) (dCB dListM t) :=
  d_callTy call_list_of lf_listM hg hm (by decide +kernel) ha (he := he)
theorem d_tuple (hg : Gl X "tuple") (hm : X.mg "tuple" = none) (ha : DA X [e] t) (he : starEach [e] X.env = (false, eval e X.env) :: starEach [] X.env := by rfl) : DE X (.Call (.Name "tuple" p) [e] [] pos) (dCB dTuple t) :=
  d_callTy call_tuple_of lf_tuple hg hm (by decide +kernel) ha (he := he)
end

/-! ### slices -/
abbrev TDO := DEnv → MS → (Option Int → MS → Prop) → Prop
def upO (K : PySem.W.Frag) (t : TDO) : TO := fun σ H Q => ∃ F M G ρ R, Wf K F M G H ∧ Sl K F ρ σ ∧ t ρ M R ∧ ∀ o M' F' H', R o M' → Same F F' → Wf K F' M' G H' → Q o H'
def dNoPart : TDO := fun _ M R => R none M
def dPart (t : TDE) : TDO := fun ρ M R => t ρ M fun d M1 => ∃ i, d = .int i ∧ R (some i) M1
def cutD {α : Type} (xs : List α) (lo hi : Option Int) : List α := (xs.drop (HT.sIx xs.length 0 lo)).take (HT.sIx xs.length xs.length hi - HT.sIx xs.length 0 lo)
theorem cutD_whole {α : Type} {xs : List α} {l u : Option Int} (h : HT.sIx xs.length 0 l = 0 ∧ HT.sIx xs.length xs.length u = xs.length) : cutD xs l u = xs := by
  unfold cutD
  rw [h.1, h.2, List.drop_zero, Nat.sub_zero]
  exact List.take_length
def dSlV (x : D) (lo hi : Option Int) (M : MS) (R : D → MS → Prop) : Prop := match x with
  | .str z => z.length ≤ sizeLine ∧ R (.str (cutS z lo hi)) M
  | .tup xs => R (.tup (cutD xs lo hi)) M
  | .lst xs => R (.lst (cutD xs lo hi)) M
  | .ref a => ∃ xs, M a = some (.lst xs) ∧ R (.lst (cutD xs lo hi)) M
  | _ => False
def dSl (te : TDE) (tl th : TDO) : TDE := fun ρ M R => te ρ M fun x M1 => tl ρ M1 fun l M2 => th ρ M2 fun u M3 => dSlV x l u M3 R
theorem cut_dt {K : PySem.W.Frag} {F : Hp} {vs : List V} {ds : List D} (h : DtAll K F vs ds) (lo hi : Option Int) : DtAll K F (cutV vs lo hi) (cutD ds lo hi) := by
  unfold cutV cutD
  rw [h.length]
  exact (h.drop _).take _
theorem po_mono {X : Cx} {e : Option Expr} {t u : TO} (h : PO X e t) (w : ∀ σ H Q, u σ H Q → t σ H Q) : PO X e u := ⟨fun pins s σ H Q I q => h.run pins s σ H Q I (w _ _ _ q)⟩
section
variable {X : Cx} {e : Expr} {lo hi : Option Expr} {te : TDE} {tl th : TDO} {pos p2 : Pos}
theorem do_none : PO X none (upO X.K dNoPart) := po_mono po_none fun σ H Q ⟨F, M, G, ρ, R, w, s, h, c⟩ => c none M F H h (Same.refl F) w
theorem do_some (h : DE X e te) : PO X (some e) (upO X.K (dPart te)) := po_mono (po_some h) fun σ H Q ⟨F, M, G, ρ, R, w, s, h, c⟩ => ⟨F, M, G, ρ, _, w, s, h, fun d M1 F1 H1 v ⟨i, e, r⟩ s1 w1 d1 => by
  subst e
  exact ⟨i, dt_int d1, c (some i) M1 F1 H1 r s1 w1⟩⟩
theorem d_slice (he : DE X e te) (hl : PO X lo (upO X.K tl)) (hu : PO X hi (upO X.K th)) : DE X (.Subscript e (.Slice lo hi none p2) pos) (dSl te tl th) := by
  refine pe_mono (pe_slice (sl_list.or (sl_str.or sl_tupA)) he hl hu) fun σ H Q ⟨F, M, G, ρ, R, w, s, h, c⟩ => ⟨F, M, G, ρ, _, w, s, h, fun x M1 F1 H1 v h1 s1 w1 d1 =>
    ⟨F1, M1, G, ρ, _, w1, s.mono s1, h1, fun l M2 F2 H2 h2 s2 w2 => ⟨F2, M2, G, ρ, _, w2, (s.mono s1).mono s2, h2, fun u M3 F3 H3 h3 s3 w3 => ?_⟩⟩⟩
  have d3 := (d1.mono s2).mono s3
  have c3 := c.mono (s1.trans (s2.trans s3))
  unfold dSlV at h3
  split at h3
  · exact .inr (.inl ⟨_, dt_str d3, h3.1, c3.here w3 h3.2 (.str _)⟩)
  · obtain ⟨a, vs, rfl, e1, q1⟩ := dt_tup d3
    refine .inr (.inr ⟨a, vs, rfl, same_tup w3.fz e1, fun e2 => ?_, fun e2 => c3.newT w3 h3 (cut_dt q1 l u)⟩)
    refine c3.here w3 h3 ?_
    rw [cutD_whole (by rw [← q1.length]; exact e2)]
    exact d3
  · obtain ⟨a, vs, rfl, e1, q1⟩ := dt_lst d3
    exact .inl ⟨a, vs, rfl, .of (w3.fz _ _ e1), c3.newL w3 h3 (cut_dt q1 l u)⟩
  · obtain ⟨xs, e1, r⟩ := h3
    cases dt_ref d3
    obtain ⟨_, _, vs, e2, q1⟩ := w3.mu _ _ e1
    exact .inl ⟨_, vs, rfl, .of e2, c3.newL w3 r (cut_dt q1 l u)⟩
  · cases h3
end

/-! ### methods of built-in types -/
def dTy (T : String) (M : MS) : D → Prop
  | .str _ => T = "str"
  | .lst _ => T = "list"
  | .rl _ => T = "list"
  | .ref a => T = "list" ∧ ∃ xs, M a = some (.lst xs)
  | _ => False
def dBM (T : String) (d : DM) (to : TDE) (t : TDA) : TDE := fun ρ M R => to ρ M fun x M1 => dTy T M1 x ∧ t ρ M1 fun xs M2 => d x xs M2 R
def dBM0 (T : String) (d : DM) (to : TDE) : TDE := fun ρ M R => to ρ M fun x M1 => dTy T M1 x ∧ d x [] M1 R
theorem dTy_at {K : PySem.W.Frag} {F G H : Hp} {M : MS} {T : String} {x : D} {v : V} (w : Wf K F M G H) (d : Dt K F v x) (h : dTy T M x) : tyV K T v H := by
  cases x with
  | str z => cases dt_str d; exact h
  | lst xs =>
    obtain ⟨a, vs, rfl, p, q⟩ := dt_lst d
    exact .inl ⟨h, vs, .of (w.fz _ _ p)⟩
  | rl xs => cases d with | rl s q => exact .inl ⟨h, _, w.fz.seq s⟩
  | ref a =>
    cases dt_ref d
    obtain ⟨e, xs, hx⟩ := h
    obtain ⟨_, _, vs, p, q⟩ := w.mu _ _ hx
    exact .inl ⟨e, vs, .of p⟩
  | _ => cases h
section
variable {X : Cx} {o e : Expr} {es : List Expr} {to : TDE} {t : TDA} {name : Str} {apos cpos : Pos} {T id : String} {r : V → List V → Hp → VK → Prop} {d : DM}
theorem d_bm (pa : PlainAttrs T) (slot : Slot T name id) (hty : typeOf (.builtin id) = pure (.type "method_descriptor")) (hm : MtR X id r) (l : LfM X.K r d) (ho : DE X o to) (ha : DA X (e :: es) t)
    (hbase : attributeBase o name X.env (eval o X.env) = eval o X.env := by rfl)
    (hfew : ((backTo cpos (starEach (e :: es) X.env)).all (fun x => !x.1) && (backToKw cpos (keywordEach [] X.env)).all (fun x => x.1.isSome)
      && decide ((e :: es).length + ([] : List Keyword).length + (if ([] : List Keyword).isEmpty then 0 else 1) < 30)) = true := by rfl)
    (hline : (apos.endLine == cpos.line) = true := by rfl) (hs : starEach (e :: es) X.env = (false, eval e X.env) :: starEach es X.env := by rfl) (hplain : (backTo cpos (starEach es X.env)).any (·.1) = false := by rfl) :
    DE X (.Call (.Attribute o name apos) (e :: es) [] cpos) (dBM T d to t) :=
  pe_mono (pe_bm pa slot hty hm ho ha hbase hfew hline hs hplain) fun σ H Q ⟨F, M, G, ρ, R, w, s, h, c⟩ => ⟨F, M, G, ρ, _, w, s, h, fun x M1 F1 H1 v ⟨ty, h1⟩ s1 w1 d1 =>
    ⟨dTy_at w1 d1 ty, F1, M1, G, ρ, _, w1, s.mono s1, h1, fun xs M2 F2 H2 vs h2 s2 w2 d2 => l F2 M2 G H2 x v xs vs R Q w2 (d1.mono s2) d2 h2 (c.mono (s1.trans s2))⟩⟩
theorem d_bm0 (pa : PlainAttrs T) (slot : Slot T name id) (hty : typeOf (.builtin id) = pure (.type "method_descriptor")) (hm : MtR X id r) (l : LfM X.K r d) (ho : DE X o to)
    (hbase : attributeBase o name X.env (eval o X.env) = eval o X.env := by rfl) (hline : (apos.endLine == cpos.line) = true := by rfl) : DE X (.Call (.Attribute o name apos) [] [] cpos) (dBM0 T d to) :=
  pe_mono (pe_bm0 pa slot hty hm ho hbase hline) fun σ H Q ⟨F, M, G, ρ, R, w, s, h, c⟩ => ⟨F, M, G, ρ, _, w, s, h, fun x M1 F1 H1 v ⟨ty, h1⟩ s1 w1 d1 =>
    ⟨dTy_at w1 d1 ty, l F1 M1 G H1 x v [] [] R Q w1 d1 .nil h1 (c.mono s1)⟩⟩
end
def dAppend : DM := fun x xs M R => ∃ a y zs, x = .ref a ∧ xs = [y] ∧ M a = some (.lst zs) ∧ zs.length < sizeLine ∧ R .non (mupd M a (.lst (zs ++ [y])))
def dExtend : DM := fun x xs M R => ∃ a y zs us, x = .ref a ∧ xs = [y] ∧ M a = some (.lst zs) ∧ lsOf M y = some us ∧ zs.length + us.length ≤ sizeLine ∧ R .non (mupd M a (.lst (zs ++ us)))
def dInsert : DM := fun x xs M R => ∃ a i y zs, x = .ref a ∧ xs = [.int i, y] ∧ M a = some (.lst zs) ∧ zs.length < sizeLine ∧ 0 ≤ i ∧ i < 2 ^ 63 ∧ R .non (mupd M a (.lst (zs.take i.toNat ++ [y] ++ zs.drop i.toNat)))
def dPop : DM := fun x xs M R => ∃ a y zs, x = .ref a ∧ xs = [] ∧ M a = some (.lst zs) ∧ zs[zs.length - 1]? = some y ∧ R y (mupd M a (.lst zs.dropLast))
def dIndex : DM := fun x xs M R => ∃ y ys j z, xs = [y] ∧ lsOf M x = some ys ∧ (flat y && ys.all flat) = true ∧ ys[j]? = some z ∧ PyData.eqv (py z) (py y) = true ∧ (∀ (m : Nat) z', m < j → ys[m]? = some z' → PyData.eqv (py z') (py y) = false) ∧ R (.int (j : Nat)) M
def dIndexD : DM := fun x xs M R => ∃ y ys j z, xs = [y] ∧ lsOf M x = some ys ∧ (SeqAt.shaped (py (.lst ys)) = true ∧ SeqAt.shaped (py (rs M y)) = true ∧ rs M y = y) ∧ ys[j]? = some z ∧ PyData.eqv (py z) (py y) = true ∧ (∀ (m : Nat) z', m < j → ys[m]? = some z' → PyData.eqv (py z') (py y) = false) ∧ R (.int (j : Nat)) M
def dJoin : DM := fun x xs M R => ∃ (a : Str) (y : D) (ys : List Str), x = .str a ∧ xs = [y] ∧ sqOf M y = some (ys.map D.str) ∧ (ys.map (·.length)).sum + ys.length * a.length ≤ 16777216 ∧ R (.str (Txt.join a ys)) M
section
variable {K : PySem.W.Frag}
theorem dropLast_dt {F : Hp} {vs : List V} {ds : List D} (h : DtAll K F vs ds) : DtAll K F vs.dropLast ds.dropLast := by
  rw [List.dropLast_eq_take, List.dropLast_eq_take, h.length]
  exact h.take _
theorem lf_append : LfM K rAppend dAppend := fun F M G H x v xs vs R Q w dx d h c => by
  obtain ⟨a, y, zs, rfl, rfl, e, hl, r⟩ := h
  cases dt_ref dx
  obtain ⟨u, rfl, du⟩ := dtAll_one d
  obtain ⟨_, _, us, e2, q1⟩ := w.mu _ _ e
  exact ⟨a, us, u, rfl, rfl, e2, by rw [q1.length]; exact hl, c _ _ F _ _ r (Same.refl F) (w.setM e (q1.append (.cons du .nil))) .non⟩
theorem lf_extend : LfM K rExtend dExtend := fun F M G H x v xs vs R Q w dx d h c => by
  obtain ⟨a, y, zs, us, rfl, rfl, e, e3, hl, r⟩ := h
  cases dt_ref dx
  obtain ⟨u, rfl, du⟩ := dtAll_one d
  obtain ⟨_, _, ws, e2, q1⟩ := w.mu _ _ e
  obtain ⟨b, bs, rfl, e4, q2⟩ := ls_at w du e3
  exact ⟨a, b, ws, bs, rfl, rfl, e2, e4, by rw [q1.length, q2.length]; exact hl, c _ _ F _ _ r (Same.refl F) (w.setM e (q1.append q2)) .non⟩
theorem lf_insert : LfM K (fun x vs H Q => ∃ (l : Addr) (xs : List V) (i : Int) (y : V), x = .ref l ∧ vs = [.int i, y] ∧ H l = some (.lst xs) ∧ xs.length < sizeLine ∧ 0 ≤ i ∧ i < 2 ^ 63 ∧ Q .non (upd H l (.lst (xs.take i.toNat ++ [y] ++ xs.drop i.toNat)))) dInsert := fun F M G H x v xs vs R Q w dx d h c => by
  obtain ⟨a, i, y, zs, rfl, rfl, e, hl, h1, h2, r⟩ := h
  cases dt_ref dx
  obtain ⟨u, z, rfl, du, dz⟩ := dtAll_two d
  cases dt_int du
  obtain ⟨_, _, ws, e2, q1⟩ := w.mu _ _ e
  exact ⟨a, ws, i, z, rfl, rfl, e2, by rw [q1.length]; exact hl, h1, h2, c _ _ F _ _ r (Same.refl F) (w.setM e (((q1.take _).append (.cons dz .nil)).append (q1.drop _))) .non⟩
theorem lf_pop : LfM K rPop dPop := fun F M G H x v xs vs R Q w dx d h c => by
  obtain ⟨a, y, zs, rfl, rfl, e, hy, r⟩ := h
  cases dt_ref dx
  obtain rfl := dtAll_nil d
  obtain ⟨_, _, ws, e2, q1⟩ := w.mu _ _ e
  obtain ⟨u, h1, h2⟩ := q1.get' hy
  exact ⟨a, ws, u, rfl, rfl, e2, by rw [q1.length]; exact h1, c _ _ F _ _ r (Same.refl F) (w.setM e (dropLast_dt q1)) h2⟩
theorem lf_index : LfM K (rIndex K) dIndex := fun F M G H x v xs vs R Q w dx d h c => by
  obtain ⟨y, ys, j, z, rfl, e, fl, hj, he, hn, r⟩ := h
  obtain ⟨u, rfl, du⟩ := dtAll_one d
  obtain ⟨a, ws, rfl, e2, q1⟩ := ls_at w dx e
  simp only [Bool.and_eq_true] at fl
  obtain ⟨i1, i2⟩ := flats_in du fl.1 q1 fl.2
  obtain ⟨vj, h1, h2⟩ := q1.get' hj
  have fz : ∀ (m : Nat) d, ys[m]? = some d → flat d = true := fun m d hm => List.all_eq_true.mp fl.2 d (List.mem_of_getElem? hm)
  refine ⟨a, ws, u, j, vj, rfl, rfl, .of e2, flat_at du fl.1, i1, h1, ?_, fun m z' hm hz => ?_, c.here w r (.int _)⟩
  · rw [flat_eq h2 du (fz j z hj) fl.1]; exact he
  · obtain ⟨d', h3, h4⟩ := q1.get hz
    rw [flat_eq h4 du (fz m d' h3) fl.1]
    exact hn m d' hm h3
theorem lf_join : LfM K (fun x xs H Q => ∃ a p, ∃ ys : List Str, x = V.str a ∧ xs = [V.ref p] ∧ (SqL K H p (ys.map V.str) ∨ SqT K H p (ys.map V.str)) ∧ (ys.map (·.length)).sum + ys.length * a.length ≤ 16777216 ∧ Q (.str (Txt.join a ys)) H) dJoin := fun F M G H x v xs vs R Q w dx d h c => by
  obtain ⟨a, y, ys, rfl, rfl, e, hl, r⟩ := h
  obtain ⟨u, rfl, du⟩ := dtAll_one d
  obtain ⟨p, ws, rfl, h1, q1⟩ := sq_at w du e
  rw [dtAll_strs q1] at h1
  exact ⟨a, p, ys, dt_str dx, rfl, h1, hl, c.here w r (.str _)⟩
end
section
variable {X : Cx} {o e e2 : Expr} {to : TDE} {t : TDA} {apos cpos : Pos}
theorem d_append (ho : DE X o to) (ha : DA X [e] t) (hbase : attributeBase o "append" X.env (eval o X.env) = eval o X.env := by rfl)
    (hfew : ((backTo cpos (starEach [e] X.env)).all (fun x => !x.1) && (backToKw cpos (keywordEach [] X.env)).all (fun x => x.1.isSome)
      && decide ([e].length + ([] : List Keyword).length + (if ([] : List Keyword).isEmpty then 0 else 1) < 30)) = true := by rfl)
    (hline : (apos.endLine == cpos.line) = true := by rfl) (hs : starEach [e] X.env = (false, eval e X.env) :: starEach [] X.env := by rfl) : DE X (.Call (.Attribute o "append" apos) [e] [] cpos) (dBM "list" dAppend to t) :=
  d_bm PySem.F.plainAttrs_list PySem.F.slot_list_append PySem.F.type_list_append mt_append lf_append ho ha hbase hfew hline hs
theorem d_extend (ho : DE X o to) (ha : DA X [e] t) (hbase : attributeBase o "extend" X.env (eval o X.env) = eval o X.env := by rfl)
    (hfew : ((backTo cpos (starEach [e] X.env)).all (fun x => !x.1) && (backToKw cpos (keywordEach [] X.env)).all (fun x => x.1.isSome)
      && decide ([e].length + ([] : List Keyword).length + (if ([] : List Keyword).isEmpty then 0 else 1) < 30)) = true := by rfl)
    (hline : (apos.endLine == cpos.line) = true := by rfl) (hs : starEach [e] X.env = (false, eval e X.env) :: starEach [] X.env := by rfl) : DE X (.Call (.Attribute o "extend" apos) [e] [] cpos) (dBM "list" dExtend to t) :=
  d_bm PySem.F.plainAttrs_list PySem.F.slot_list_extend PySem.F.type_list_extend mt_extend lf_extend ho ha hbase hfew hline hs
theorem d_insert (ho : DE X o to) (ha : DA X [e, e2] t) (hbase : attributeBase o "insert" X.env (eval o X.env) = eval o X.env := by rfl)
    (hfew : ((backTo cpos (starEach [e, e2] X.env)).all (fun x => !x.1) && (backToKw cpos (keywordEach [] X.env)).all (fun x => x.1.isSome)
      && decide ([e, e2].length + ([] : List Keyword).length + (if ([] : List Keyword).isEmpty then 0 else 1) < 30)) = true := by rfl)
    (hline : (apos.endLine == cpos.line) = true := by rfl) (hs : starEach [e, e2] X.env = (false, eval e X.env) :: starEach [e2] X.env := by rfl) (hpl : (backTo cpos (starEach [e2] X.env)).any (·.1) = false := by rfl) : DE X (.Call (.Attribute o "insert" apos) [e, e2] [] cpos) (dBM "list" dInsert to t) :=
  d_bm PySem.F.plainAttrs_list PySem.F.slot_list_insert PySem.F.type_list_insert mt_insert lf_insert ho ha hbase hfew hline hs hpl
theorem d_pop (ho : DE X o to) (hbase : attributeBase o "pop" X.env (eval o X.env) = eval o X.env := by rfl) (hline : (apos.endLine == cpos.line) = true := by rfl) : DE X (.Call (.Attribute o "pop" apos) [] [] cpos) (dBM0 "list" dPop to) :=
  d_bm0 PySem.F.plainAttrs_list PySem.F.slot_list_pop PySem.F.type_list_pop mt_pop lf_pop ho hbase hline
theorem d_index (ho : DE X o to) (ha : DA X [e] t) (hbase : attributeBase o "index" X.env (eval o X.env) = eval o X.env := by rfl)
    (hfew : ((backTo cpos (starEach [e] X.env)).all (fun x => !x.1) && (backToKw cpos (keywordEach [] X.env)).all (fun x => x.1.isSome)
      && decide ([e].length + ([] : List Keyword).length + (if ([] : List Keyword).isEmpty then 0 else 1) < 30)) = true := by rfl)
    (hline : (apos.endLine == cpos.line) = true := by rfl) (hs : starEach [e] X.env = (false, eval e X.env) :: starEach [] X.env := by rfl) : DE X (.Call (.Attribute o "index" apos) [e] [] cpos) (dBM "list" dIndex to t) :=
  d_bm PySem.F.plainAttrs_list PySem.F.slot_list_index PySem.F.type_list_index mt_index lf_index ho ha hbase hfew hline hs
theorem d_join (ho : DE X o to) (ha : DA X [e] t) (hbase : attributeBase o "join" X.env (eval o X.env) = eval o X.env := by rfl)
    (hfew : ((backTo cpos (starEach [e] X.env)).all (fun x => !x.1) && (backToKw cpos (keywordEach [] X.env)).all (fun x => x.1.isSome)
      && decide ([e].length + ([] : List Keyword).length + (if ([] : List Keyword).isEmpty then 0 else 1) < 30)) = true := by rfl)
    (hline : (apos.endLine == cpos.line) = true := by rfl) (hs : starEach [e] X.env = (false, eval e X.env) :: starEach [] X.env := by rfl) : DE X (.Call (.Attribute o "join" apos) [e] [] cpos) (dBM "str" dJoin to t) :=
  d_bm PySem.F.plainAttrs_str PySem.F.slot_str_join PySem.F.type_str_join mt_join lf_join ho ha hbase hfew hline hs
end
end DL

/-! DL5: targets, statements, loops, comprehensions, defs. -/
namespace DL
open PySem PySem.Spec PyProof.Rows L2

/-! ### targets -/
abbrev TDG := D → DEnv → MS → (DEnv → MS → Prop) → Prop
abbrev TDGs := List D → DEnv → MS → (DEnv → MS → Prop) → Prop
def upG (K : PySem.W.Frag) (g : TDG) : TG := fun v σ H Q => ∃ F M G ρ R d, Wf K F M G H ∧ Sl K F ρ σ ∧ Dt K F v d ∧ g d ρ M R ∧ ContS K F G R Q
def upGs (K : PySem.W.Frag) (g : TDGs) : TGs := fun vs σ H Q => ∃ F M G ρ R ds, Wf K F M G H ∧ Sl K F ρ σ ∧ DtAll K F vs ds ∧ g ds ρ M R ∧ ContS K F G R Q
abbrev DG (X : Cx) (tg : Expr) (g : TDG) : Prop := PG X tg (upG X.K g)
abbrev DGs (X : Cx) (tg : List Expr) (g : TDGs) : Prop := PGs X tg (upGs X.K g)
theorem pg_mono {X : Cx} {e : Expr} {t u : TG} (h : PG X e t) (w : ∀ v σ H Q, u v σ H Q → t v σ H Q) : PG X e u := ⟨fun pins s σ H v x Q I r q => h.run pins s σ H v x Q I r (w _ _ _ _ q)⟩
theorem pgs_mono {X : Cx} {e : List Expr} {t u : TGs} (h : PGs X e t) (w : ∀ v σ H Q, u v σ H Q → t v σ H Q) : PGs X e u := ⟨by
  intros
  apply h.run <;> first | assumption | (apply w; assumption)⟩
def dgName (i : Nat) : TDG := fun d ρ M R => R (ρ.set i (some d)) M
def dgNil : TDGs := fun ds ρ M R => ds = [] ∧ R ρ M
def dgCons (t : TDG) (u : TDGs) : TDGs := fun ds ρ M R => ∃ d r, ds = d :: r ∧ t d ρ M fun ρ' M' => u r ρ' M' R
def dgTup (n : Nat) (t : TDGs) : TDG := fun d ρ M R => ∃ xs, d = .tup xs ∧ xs.length = n ∧ t xs ρ M R
def dSetL (o i d : D) (M : MS) (R : MS → Prop) : Prop := ∃ a k xs j, o = .ref a ∧ i = .int k ∧ M a = some (.lst xs) ∧ ixN xs.length k = some j ∧ R (mupd M a (.lst (xs.set j d)))
def dgSub (to ti : TDE) : TDG := fun d ρ M R => to ρ M fun o M1 => ti ρ M1 fun i M2 => dSetL o i d M2 fun M3 => R ρ M3
theorem ContS.here {K : PySem.W.Frag} {F G H : Hp} {M : MS} {R : DEnv → MS → Prop} {Q : L2.St → Hp → Prop} {ρ : DEnv} {σ : L2.St} (c : ContS K F G R Q) (w : Wf K F M G H) (r : R ρ M) (h : Sl K F ρ σ) : Q σ H := c ρ M F H σ r (Same.refl F) w h
section
variable {X : Cx} {e o i : Expr} {es : List Expr} {te to ti : TDE} {g : TDG} {gs : TDGs} {pos : Pos}
theorem dg_name {i : Nat} {x : Str} (hN : X.N.Nodup) (hi : X.N[i]? = some x) (hx : Loc X.env.scope x) (hf : X.fn x = true ∨ X.env.scope.names.lookup x = some .local := by first | exact .inl rfl | exact .inr rfl | assumption) : DG X (.Name x pos) (dgName i) :=
  pg_mono (pg_name hN hi hx hf) fun v σ H Q ⟨F, M, G, ρ, R, d, w, s, dv, h, c⟩ => c.here w h (s.set dv i)
theorem dgs_nil : DGs X [] dgNil := pgs_mono pgs_nil fun v σ H Q ⟨F, M, G, ρ, R, d, w, s, dv, ⟨e, h⟩, c⟩ => by
  subst e
  exact ⟨dtAll_nil dv, c.here w h s⟩
theorem dgs_cons (h : PGs X (e :: es) (gCons (upG X.K g) (upGs X.K gs))) : DGs X (e :: es) (dgCons g gs) := by
  refine pgs_mono h fun v σ H Q ⟨F, M, G, ρ, R, d, w, s, dv, ⟨d1, r, e, h⟩, c⟩ => ?_
  subst e
  cases dv with
  | cons a b => exact ⟨_, _, rfl, F, M, G, ρ, _, d1, w, s, a, h, fun ρ1 M1 F1 H1 σ1 h1 s1 w1 sl1 => ⟨F1, M1, G, ρ1, R, r, w1, sl1, b.mono s1, h1, c.mono s1⟩⟩
theorem dg_tup {k n : Nat} (hc : X.calm = true) (h : DGs X es gs) (hn : (assignEach es X.env).length = n := by rfl) (hst : (assignEach es X.env).findIdx? (·.1) = none := by rfl) : DG X (.Tuple es k pos) (dgTup n gs) :=
  pg_mono (pg_tup hc h hn hst) fun v σ H Q ⟨F, M, G, ρ, R, d, w, s, dv, ⟨xs, e, hl, h⟩, c⟩ => by
    subst e
    obtain ⟨a, vs, rfl, h1, q1⟩ := dt_tup dv
    exact ⟨a, vs, rfl, same_tup w.fz h1, by rw [q1.length]; exact hl, F, M, G, ρ, R, xs, w, s, q1, h, c⟩
theorem dg_sub (h : PG X (.Subscript o i pos) (gSub (up X.K to) (up X.K ti) rSetL)) : DG X (.Subscript o i pos) (dgSub to ti) :=
  pg_mono h fun v σ H Q ⟨F, M, G, ρ, R, d, w, s, dv, h, c⟩ => ⟨F, M, G, ρ, _, w, s, h, fun o1 M1 F1 H1 ov h1 s1 w1 d1 => ⟨F1, M1, G, ρ, _, w1, s.mono s1, h1, fun i1 M2 F2 H2 iv h2 s2 w2 d2 => by
    obtain ⟨a, k, xs, j, rfl, rfl, e, hj, r⟩ := h2
    cases dt_ref d1
    cases dt_int d2
    obtain ⟨_, _, vs, e2, q1⟩ := w2.mu _ _ e
    refine ⟨a, vs, k, j, rfl, rfl, e2, by rw [q1.length]; exact hj, ?_⟩
    exact (c.mono (s1.trans s2)).here (w2.setM e (q1.set (dv.mono (s1.trans s2)) j)) r ((s.mono s1).mono s2)⟩⟩
end

/-! ### statements -/
theorem ContD.put {K : PySem.W.Frag} {F G : Hp} {R : DEnds} {D : Ends} (c : ContD K F G R D) {R' : DEnv → MS → Prop} {Q : L2.St → Hp → Prop} (h : ContS K F G R' Q) : ContD K F G { R with nx := R' } { D with nx := Q } := ⟨h, c.rt, c.bk, c.ct⟩
def dNext : TDS := fun D ρ M => D.nx ρ M
def dSeq (t u : TDS) : TDS := fun D ρ M => t { D with nx := u D } ρ M
def dBreak : TDS := fun D ρ M => D.bk ρ M
def dCont : TDS := fun D ρ M => D.ct ρ M
def dDrop (te : TDE) : TDS := fun D ρ M => te ρ M fun _ M1 => D.nx ρ M1
def dRet (te : TDE) : TDS := fun D ρ M => te ρ M D.rt
def dRetN : TDS := fun D _ M => D.rt .non M
def dIfS (c : TDT) (t u : TDS) : TDS := fun D ρ M => c ρ M fun b M1 => if b = true then t D ρ M1 else u D ρ M1
def dAsg (te : TDE) (g : TDG) : TDS := fun D ρ M => te ρ M fun d M1 => g d ρ M1 D.nx
def dAug (i : Nat) (te : TDE) (r : D2) : TDS := fun D ρ M => ∃ x, ρ[i]? = some (some x) ∧ te ρ M fun y M1 => r x y M1 fun z M2 => D.nx (ρ.set i (some z)) M2
section
variable {X : Cx} {e : Expr} {te : TDE} {st : Stmt} {rest a b : List Stmt} {t u : TDS} {tc : TDT} {g : TDG} {pos : Pos}
theorem dss_nil : DSs X [] dNext := pss_mono pss_nil fun D σ H ⟨F, M, G, ρ, R, w, s, h, c⟩ => c.nx.here w h s
theorem dss_cons (h1 : DS X st t) (h2 : DSs X rest u) : DSs X (st :: rest) (dSeq t u) :=
  pss_mono (pss_cons h1 h2) fun D σ H ⟨F, M, G, ρ, R, w, s, h, c⟩ => ⟨F, M, G, ρ, _, w, s, h, c.put fun ρ1 M1 F1 H1 σ1 h1 s1 w1 sl1 => ⟨F1, M1, G, ρ1, R, w1, sl1, h1, c.mono s1⟩⟩
theorem dss_one (h1 : DS X st t) : DSs X [st] t := pss_one h1
theorem ds_pass : DS X (.Pass pos) dNext := ps_mono ps_pass fun D σ H ⟨F, M, G, ρ, R, w, s, h, c⟩ => c.nx.here w h s
theorem ds_break : DS X (.Break pos) dBreak := ps_mono ps_break fun D σ H ⟨F, M, G, ρ, R, w, s, h, c⟩ => c.bk.here w h s
theorem ds_continue : DS X (.Continue pos) dCont := ps_mono ps_continue fun D σ H ⟨F, M, G, ρ, R, w, s, h, c⟩ => c.ct.here w h s
theorem ds_expr (he : DE X e te) (hs : swapsWith e none pos.line X.env = pure false := by rfl) : DS X (.Expr e pos) (dDrop te) :=
  ps_mono (ps_expr he hs) fun D σ H ⟨F, M, G, ρ, R, w, s, h, c⟩ => ⟨F, M, G, ρ, _, w, s, h, fun d M1 F1 H1 v h1 s1 w1 _ => (c.nx.mono s1).here w1 h1 (s.mono s1)⟩
theorem ds_ret (he : DE X e te) : DS X (.Return (some e) pos) (dRet te) :=
  ps_mono (ps_ret he) fun D σ H ⟨F, M, G, ρ, R, w, s, h, c⟩ => ⟨F, M, G, ρ, _, w, s, h, c.rt⟩
theorem ds_retN : DS X (.Return none pos) dRetN := ps_mono ps_retN fun D σ H ⟨F, M, G, ρ, R, w, s, h, c⟩ => c.rt.here w h .non
theorem ds_if {c : Expr} (hc : DT X c tc) (ha : DSs X a t) (hb : DSs X b u) : DS X (.If c a b pos) (dIfS tc t u) :=
  ps_mono (ps_if hc ha hb) fun D σ H ⟨F, M, G, ρ, R, w, s, h, c⟩ => ⟨F, M, G, ρ, _, w, s, h, fun b M1 F1 H1 h1 s1 w1 => by
    cases b with
    | true => exact iteT ⟨F1, M1, G, ρ, R, w1, s.mono s1, (if_pos (c := true = true) rfl).mp h1, c.mono s1⟩
    | false => exact iteF ⟨F1, M1, G, ρ, R, w1, s.mono s1, (if_neg Bool.false_ne_true).mp h1, c.mono s1⟩⟩
theorem up_asg {K : PySem.W.Frag} (D : Ends) (σ : L2.St) (H : Hp) (h : upS K (dAsg te g) D σ H) : tAsg (up K te) (upG K g) D σ H := by
  obtain ⟨F, M, G, ρ, R, w, s, h, c⟩ := h
  exact ⟨F, M, G, ρ, _, w, s, h, fun d M1 F1 H1 v h1 s1 w1 d1 => ⟨F1, M1, G, ρ, _, d, w1, s.mono s1, d1, h1, c.nx.mono s1⟩⟩
theorem up_set {K : PySem.W.Frag} {i : Nat} (D : Ends) (σ : L2.St) (H : Hp) (h : upS K (dAsg te (dgName i)) D σ H) : tAsg (up K te) (gName i) D σ H := by
  obtain ⟨F, M, G, ρ, R, w, s, h, c⟩ := h
  exact ⟨F, M, G, ρ, _, w, s, h, fun d M1 F1 H1 v h1 s1 w1 d1 => (c.nx.mono s1).here w1 h1 ((s.mono s1).set d1 i)⟩
theorem ds_asg {tg : Expr} (he : DE X e te) (hg : DG X tg g) (hs : swapsWithSole [tg] e pos.line X.env = pure false := by rfl) (hw : swappedStores [tg] e X.env = pure none := by rfl)
    (h1 : (assignEach [tg] X.env).map (·.2) = [assign tg X.env] := by rfl) : DS X (.Assign [tg] e pos) (dAsg te g) := ps_mono (ps_asg he hg hs hw h1) up_asg
theorem ds_set {i : Nat} {x : Str} {pos' : Pos} (hN : X.N.Nodup) (hi : X.N[i]? = some x) (hx : Loc X.env.scope x) (he : DE X e te) (hs : swapsWith e (some (.Name x pos')) pos.line X.env = pure false := by rfl) (hf : X.fn x = true ∨ X.env.scope.names.lookup x = some .local := by first | exact .inl rfl | exact .inr rfl | assumption) :
    DS X (.Assign [.Name x pos'] e pos) (dAsg te (dgName i)) := ps_mono (ps_set hN hi hx he hs hf) up_set
def ipOf (r : R2) : TIp := fun x y H Q => r x y H Q
theorem ds_aug {i : Nat} {x : Str} {op : Operator} {ti : TIp} {d : D2} {pos' : Pos} (h : PS X (.AugAssign (.Name x pos') op e pos) (tAug i (up X.K te) ti)) (l : Lf2 X.K ti d) : DS X (.AugAssign (.Name x pos') op e pos) (dAug i te d) :=
  ps_mono h fun D σ H ⟨F, M, G, ρ, R, w, s, ⟨y, e, h⟩, c⟩ => by
    obtain ⟨v, ev, dv⟩ := s.get e
    refine ⟨v, ev, F, M, G, ρ, _, w, s, h, fun z M1 F1 H1 u h1 s1 w1 d1 => ?_⟩
    exact l F1 M1 G H1 y z v u _ _ w1 (dv.mono s1) d1 h1 fun q M2 F2 H2 x2 h2 s2 w2 d2 => (c.nx.mono (s1.trans s2)).here w2 h2 (((s.mono s1).mono s2).set d2 i)
theorem lf_ipI {K : PySem.W.Frag} {f : Int → Int → Int} : Lf2 K (ipI f) (dI fun i j => .int (f i j)) := lf_int

/-! ### while -/
def dWhile (c : TDT) (tb : TDS) : TDS := fun D ρ M => ∃ W : Nat → DEnv → MS → Prop, (∃ m, W m ρ M) ∧ ∀ m ρ M, W m ρ M →
  c ρ M fun b M1 => if b = true then tb { D with nx := fun ρ' M' => ∃ m', m' < m ∧ W m' ρ' M', ct := fun ρ' M' => ∃ m', m' < m ∧ W m' ρ' M', bk := D.nx } ρ M1 else D.nx ρ M1
theorem ds_while {c : Expr} (hp : PassesOwn (model X.prog X.w) X.A X.env X.xe) (hc : DT X c tc) (hb : DSs X a t) : DS X (.While c a [] pos) (dWhile tc t) :=
  ps_mono (ps_while hp hc hb) fun D σ H ⟨F, M, G, ρ, R, w, s, ⟨W, ⟨m0, h0⟩, hW⟩, c⟩ => by
    refine ⟨fun m σ H => ∃ F1 M1 ρ1, Same F F1 ∧ Wf X.K F1 M1 G H ∧ Sl X.K F1 ρ1 σ ∧ W m ρ1 M1, ⟨m0, F, M, ρ, Same.refl F, w, s, h0⟩, ?_⟩
    rintro m σ1 H1 ⟨F1, M1, ρ1, s1, w1, sl1, h1⟩
    refine ⟨F1, M1, G, ρ1, _, w1, sl1, hW m ρ1 M1 h1, fun b M2 F2 H2 h2 s2 w2 => ?_⟩
    cases b with
    | true =>
      refine iteT ⟨fun σ' H' => ∃ m', m' < m ∧ ∃ F1 M1 ρ1, Same F F1 ∧ Wf X.K F1 M1 G H' ∧ Sl X.K F1 ρ1 σ' ∧ W m' ρ1 M1, fun σ' H' z => z, ?_⟩
      refine ⟨F2, M2, G, ρ1, _, w2, sl1.mono s2, (if_pos (c := true = true) rfl).mp h2, ⟨?_, c.rt.mono (s1.trans s2), c.nx.mono (s1.trans s2), ?_⟩⟩
      · exact fun ρ3 M3 F3 H3 σ3 ⟨m', lt, q⟩ s3 w3 sl3 => ⟨m', lt, F3, M3, ρ3, (s1.trans s2).trans s3, w3, sl3, q⟩
      · exact fun ρ3 M3 F3 H3 σ3 ⟨m', lt, q⟩ s3 w3 sl3 => ⟨m', lt, F3, M3, ρ3, (s1.trans s2).trans s3, w3, sl3, q⟩
    | false => exact iteF ((c.nx.mono (s1.trans s2)).here w2 ((if_neg Bool.false_ne_true).mp h2) (sl1.mono s2))
end

/-! ### what is walked -/
abbrev TDI := DEnv → MS → (List D → (MS → Prop) → MS → Prop) → Prop
/-- the iterator gives the items xs, while P is so of what may change -/
def ItD (K : PySem.W.Frag) (J : It) (F : Hp) (xs : List D) (P : MS → Prop) : Prop := ∀ F' M' G' H' i, Same F F' → P M' → Wf K F' M' G' H' →
  (i < xs.length → J.go i H') ∧ (xs.length ≤ i → J.stop i H') ∧ ∀ x H'' d, J.yld i H' x H'' → xs[i]? = some d → ∃ F'', Same F' F'' ∧ Wf K F'' M' G' H'' ∧ Dt K F'' x d
def upI (K : PySem.W.Frag) (di : TDI) : TI := fun σ H R => ∃ F M G ρ RI, Wf K F M G H ∧ Sl K F ρ σ ∧ di ρ M RI ∧ ∀ xs P M' F' H' J, RI xs P M' → Same F F' → Wf K F' M' G H' → ItD K J F' xs P → R J H'
abbrev DI (X : Cx) (tg iter : Expr) (di : TDI) : Prop := PI X tg iter (upI X.K di)
theorem pi_mono {X : Cx} {tg e : Expr} {t u : TI} (h : PI X tg e t) (w : ∀ σ H Q, u σ H Q → t σ H Q) : PI X tg e u := ⟨by
  intros
  apply h.run <;> first | assumption | (apply w; assumption)⟩
def dILst (te : TDE) : TDI := fun ρ M R => te ρ M fun d M1 => match d with
  | .lst xs => R xs (fun _ => True) M1
  | .rl xs => R xs (fun _ => True) M1
  | .ref a => ∃ xs, M1 a = some (.lst xs) ∧ R xs (fun M' => M' a = some (.lst xs)) M1
  | _ => False
def dITup (te : TDE) : TDI := fun ρ M R => te ρ M fun d M1 => match d with
  | .tup xs => R xs (fun _ => True) M1
  | _ => False
def dIRng1 (t : TDA) : TDI := fun ρ M R => t ρ M fun ds M1 => ∃ j, ds = [.int j] ∧ -(2 ^ 62) ≤ j ∧ j < 2 ^ 62 ∧ R ((List.range j.toNat).map fun k => D.int (0 + (k : Nat))) (fun _ => True) M1
def dIRng2 (t : TDA) : TDI := fun ρ M R => t ρ M fun ds M1 => ∃ i j, ds = [.int i, .int j] ∧ (-(2 ^ 62) ≤ i ∧ i < 2 ^ 62 ∧ -(2 ^ 62) ≤ j ∧ j < 2 ^ 62) ∧ R ((List.range (j - i).toNat).map fun k => D.int (i + (k : Nat))) (fun _ => True) M1
section
variable {X : Cx} {tg e a b : Expr} {te : TDE} {t : TDA} {pos p : Pos}
theorem itD_lst {K : PySem.W.Frag} {F : Hp} {c : Addr} {vs : List V} {xs : List D} {P : MS → Prop} (q : DtAll K F vs xs) (h : ∀ F' M' G' H', Same F F' → P M' → Wf K F' M' G' H' → ∃ us, SqL K H' c us ∧ DtAll K F' us xs) : ItD K (Itl K c) F xs P := fun F' M' G' H' i s1 pm w => by
  obtain ⟨us, e, q1⟩ := h F' M' G' H' s1 pm w
  refine ⟨fun hi => ?_, fun hi => ⟨us, e, by rw [q1.length]; exact hi⟩, fun x H'' d ⟨e1, e2⟩ hd => ?_⟩
  · have : i < us.length := by rw [q1.length]; exact hi
    exact ⟨us, us[i], e, List.getElem?_eq_getElem this⟩
  · subst e1
    obtain ⟨d', h1, h2⟩ := q1.get (e2 us e)
    rw [hd] at h1
    cases h1
    exact ⟨F', Same.refl F', w, h2⟩
theorem di_lst (he : DE X e te) : DI X tg e (dILst te) := pi_mono (pi_list he) fun σ H Q ⟨F, M, G, ρ, RI, w, s, h, c⟩ => ⟨F, M, G, ρ, _, w, s, h, fun d M1 F1 H1 v h1 s1 w1 d1 => by
  cases d with
  | lst xs =>
    obtain ⟨a, vs, rfl, e1, q1⟩ := dt_lst d1
    exact ⟨a, rfl, ⟨vs, .of (w1.fz _ _ e1)⟩, c xs _ M1 F1 H1 _ h1 s1 w1 (itD_lst q1 fun F' M' G' H' s2 _ w2 => ⟨vs, .of (w2.fz _ _ (s2 _ _ e1)), q1.mono s2⟩)⟩
  | rl xs =>
    cases d1 with
    | rl sq q1 => exact ⟨_, rfl, ⟨_, w1.fz.seq sq⟩, c xs _ M1 F1 H1 _ h1 s1 w1 (itD_lst q1 fun F' M' G' H' s2 _ w2 => ⟨_, w2.fz.seq (s2.seq sq), q1.mono s2⟩)⟩
  | ref a =>
    cases dt_ref d1
    obtain ⟨xs, e1, r⟩ := h1
    obtain ⟨_, _, vs, e2, q1⟩ := w1.mu _ _ e1
    exact ⟨a, rfl, ⟨vs, .of e2⟩, c xs _ M1 F1 H1 _ r s1 w1 (itD_lst q1 fun F' M' G' H' s2 pm w2 => by
      obtain ⟨_, _, us, e3, q2⟩ := w2.mu _ _ pm
      exact ⟨us, .of e3, q2⟩)⟩
  | _ => cases h1⟩
theorem di_tup (he : DE X e te) : DI X tg e (dITup te) := pi_mono (pi_tup he) fun σ H Q ⟨F, M, G, ρ, RI, w, s, h, c⟩ => ⟨F, M, G, ρ, _, w, s, h, fun d M1 F1 H1 v h1 s1 w1 d1 => by
  cases d with
  | tup xs =>
    obtain ⟨a, vs, rfl, e1, q1⟩ := dt_tup d1
    refine ⟨a, rfl, ⟨vs, same_tup w1.fz e1⟩, c xs _ M1 F1 H1 _ h1 s1 w1 fun F' M' G' H' i s2 pm w2 => ?_⟩
    have e2 := same_tup w2.fz (same_tup s2 e1)
    have q2 := q1.mono s2
    refine ⟨fun hi => ?_, fun hi => ⟨vs, e2, by rw [q1.length]; exact hi⟩, fun x H'' d ⟨e1', e2'⟩ hd => ?_⟩
    · have : i < vs.length := by rw [q1.length]; exact hi
      exact ⟨vs, vs[i], e2, List.getElem?_eq_getElem this⟩
    · subst e1'
      obtain ⟨d', h1, h2⟩ := q2.get (e2' vs e2)
      rw [hd] at h1
      cases h1
      exact ⟨F', Same.refl F', w2, h2⟩
  | _ => cases h1⟩
theorem itD_rng {K : PySem.W.Frag} {F : Hp} {lo : Int} {n : Nat} : ItD K (Itr lo n) F ((List.range n).map fun k => D.int (lo + (k : Nat))) (fun _ => True) := fun F' M' G' H' i s1 pm w => by
  simp only [List.length_map, List.length_range]
  refine ⟨fun h => h, fun h => h, fun x H'' d ⟨e1, e2⟩ hd => ?_⟩
  subst e1 e2
  have : d = .int (lo + (i : Nat)) := by
    simp only [List.getElem?_map, Option.map_eq_some_iff] at hd
    obtain ⟨k, h1, h2⟩ := hd
    obtain ⟨h3, h4⟩ := List.getElem?_eq_some_iff.mp h1
    rw [List.getElem_range] at h4
    rw [← h2, ← h4]
  subst this
  exact ⟨F', Same.refl F', w, .int _⟩
theorem di_rng1 (h : PI X tg e (iRng1 (upA X.K t))) : DI X tg e (dIRng1 t) := pi_mono h fun σ H Q ⟨F, M, G, ρ, RI, w, s, h, c⟩ => ⟨F, M, G, ρ, _, w, s, h, fun ds M1 F1 H1 vs ⟨j, e, l1, l2, h1⟩ s1 w1 d1 => by
  subst e
  obtain ⟨v, rfl, d2⟩ := dtAll_one d1
  cases dt_int d2
  exact ⟨j, rfl, l1, l2, c _ _ M1 F1 H1 _ h1 s1 w1 itD_rng⟩⟩
theorem di_rng2 (h : PI X tg e (iRng2 (upA X.K t))) : DI X tg e (dIRng2 t) := pi_mono h fun σ H Q ⟨F, M, G, ρ, RI, w, s, h, c⟩ => ⟨F, M, G, ρ, _, w, s, h, fun ds M1 F1 H1 vs ⟨i, j, e, l1, h1⟩ s1 w1 d1 => by
  subst e
  obtain ⟨v, u, rfl, d2, d3⟩ := dtAll_two d1
  cases dt_int d2
  cases dt_int d3
  exact ⟨i, j, rfl, l1, c _ _ M1 F1 H1 _ h1 s1 w1 itD_rng⟩⟩
/-- enumerate of a list, zip of two: pairs -/
def dIEnum (t : TDA) : TDI := fun ρ M R => t ρ M fun ds M1 => ∃ x, ds = [x] ∧ ((∃ xs, x = .lst xs ∧ R (xs.mapIdx fun k d => D.tup [.int (k : Nat), d]) (fun _ => True) M1) ∨
  ∃ a xs, x = .ref a ∧ M1 a = some (.lst xs) ∧ R (xs.mapIdx fun k d => D.tup [.int (k : Nat), d]) (fun M' => M' a = some (.lst xs)) M1)
def dIZip (t : TDA) : TDI := fun ρ M R => t ρ M fun ds M1 => ∃ xs ys, ds = [.lst xs, .lst ys] ∧ R (List.zipWith (fun x y => D.tup [x, y]) xs ys) (fun _ => True) M1
theorem pair_new {K : PySem.W.Frag} {F G H : Hp} {M : MS} {T : Addr} {x y : V} {d e : D} (w : Wf K F M G H) (hT : H T = none) (dx : Dt K F x d) (dy : Dt K F y e) : ∃ F'', Same F F'' ∧ Wf K F'' M G (upd H T (.tup [x, y])) ∧ Dt K F'' (.ref T) (.tup [d, e]) := by
  have sm := same_up (o := .tup [x, y]) (w.fnone hT)
  exact ⟨upd F T (.tup [x, y]), sm, w.newF hT, .tup (.of upd_same) (.cons (dx.mono sm) (.cons (dy.mono sm) .nil))⟩
theorem itD_enum {K : PySem.W.Frag} {F : Hp} {c : Addr} {vs : List V} {xs : List D} {P : MS → Prop} (q : DtAll K F vs xs) (h : ∀ F' M' G' H', Same F F' → P M' → Wf K F' M' G' H' → ∃ us, SqL K H' c us ∧ DtAll K F' us xs) : ItD K (Ite K c) F (xs.mapIdx fun k d => D.tup [.int (k : Nat), d]) P := fun F' M' G' H' i s1 pm w => by
  obtain ⟨us, e, q1⟩ := h F' M' G' H' s1 pm w
  rw [List.length_mapIdx]
  refine ⟨fun hi => ?_, fun hi => ⟨us, e, by rw [q1.length]; exact hi⟩, fun x H'' d ⟨T, y, e1, hT, e2, e3⟩ hd => ?_⟩
  · have : i < us.length := by rw [q1.length]; exact hi
    exact ⟨us, us[i], e, List.getElem?_eq_getElem this⟩
  · subst e1 e2
    obtain ⟨d', h1, h2⟩ := q1.get (e3 us e)
    rw [List.getElem?_mapIdx, h1] at hd
    cases hd
    exact pair_new w hT (.int _) h2
theorem di_enum (h : PI X tg e (iEnum X.K (upA X.K t))) : DI X tg e (dIEnum t) := pi_mono h fun σ H Q ⟨F, M, G, ρ, RI, w, s, h, c⟩ => ⟨F, M, G, ρ, _, w, s, h, fun ds M1 F1 H1 vs ⟨x, e, h1⟩ s1 w1 d1 => by
  subst e
  obtain ⟨v, rfl, d2⟩ := dtAll_one d1
  rcases h1 with ⟨xs, rfl, r⟩ | ⟨a, xs, rfl, e1, r⟩
  · obtain ⟨a, us, rfl, e1, q1⟩ := dt_lst d2
    exact ⟨a, us, rfl, .of (w1.fz _ _ e1), c _ _ M1 F1 H1 _ r s1 w1 (itD_enum q1 fun F' M' G' H' s2 _ w2 => ⟨us, .of (w2.fz _ _ (s2 _ _ e1)), q1.mono s2⟩)⟩
  · cases dt_ref d2
    obtain ⟨_, _, us, e2, q1⟩ := w1.mu _ _ e1
    exact ⟨a, us, rfl, .of e2, c _ _ M1 F1 H1 _ r s1 w1 (itD_enum q1 fun F' M' G' H' s2 pm w2 => by
      obtain ⟨_, _, us, e3, q2⟩ := w2.mu _ _ pm
      exact ⟨us, .of e3, q2⟩)⟩⟩
theorem di_zip (h : PI X tg e (iZip X.K (upA X.K t))) : DI X tg e (dIZip t) := pi_mono h fun σ H Q ⟨F, M, G, ρ, RI, w, s, h, c⟩ => ⟨F, M, G, ρ, _, w, s, h, fun ds M1 F1 H1 vs ⟨xs, ys, e, h1⟩ s1 w1 d1 => by
  subst e
  obtain ⟨v, u, rfl, d2, d3⟩ := dtAll_two d1
  obtain ⟨a, us, rfl, e1, q1⟩ := dt_lst d2
  obtain ⟨b, ws, rfl, e2, q2⟩ := dt_lst d3
  refine ⟨a, b, us, ws, rfl, .of (w1.fz _ _ e1), .of (w1.fz _ _ e2), c _ _ M1 F1 H1 _ h1 s1 w1 fun F' M' G' H' i s2 pm w2 => ?_⟩
  have f1 : SqL X.K H' a us := .of (w2.fz _ _ (s2 _ _ e1))
  have f2 : SqL X.K H' b ws := .of (w2.fz _ _ (s2 _ _ e2))
  have g1 := q1.mono s2
  have g2 := q2.mono s2
  rw [List.length_zipWith]
  refine ⟨fun hi => ?_, fun hi => ⟨us, ws, f1, f2, by rw [g1.length, g2.length]; omega⟩, fun x H'' d ⟨T, y, z, e3, hT, e4, e5, e6⟩ hd => ?_⟩
  · have l1 : i < us.length := by rw [g1.length]; omega
    have l2 : i < ws.length := by rw [g2.length]; omega
    exact ⟨us, ws, us[i], ws[i], f1, f2, List.getElem?_eq_getElem l1, List.getElem?_eq_getElem l2⟩
  · subst e3 e4
    obtain ⟨d', h2, h3⟩ := g1.get (e5 us f1)
    obtain ⟨d'', h4, h5⟩ := g2.get (e6 ws f2)
    rw [List.getElem?_zipWith, h2, h4] at hd
    cases hd
    exact pair_new w2 hT h3 h5⟩
end

/-! ### for -/
def dFor (di : TDI) (g : TDG) (tb : TDS) : TDS := fun D ρ M => di ρ M fun xs P M1 => ∃ W : Nat → DEnv → MS → Prop, W 0 ρ M1 ∧ (∀ i ρ M, i ≤ xs.length → W i ρ M → P M) ∧
  (∀ i x ρ M, xs[i]? = some x → W i ρ M → g x ρ M fun ρ' M' => tb { D with nx := W (i + 1), ct := W (i + 1), bk := D.nx } ρ' M') ∧ ∀ ρ M, W xs.length ρ M → D.nx ρ M
section
variable {X : Cx} {tg iter : Expr} {body : List Stmt} {di : TDI} {g : TDG} {tb : TDS} {pos : Pos}
theorem ds_for (hp : PassesOwn (model X.prog X.w) X.A X.env X.xe) (hc : X.calm = true) (hi : DI X tg iter di) (hg : DG X tg g) (hb : DSs X body tb)
    (hs : ∀ x, foldedSetIterable iter X.env x = pure x := by intro _; rfl) : DS X (.For tg iter body [] pos) (dFor di g tb) :=
  ps_mono (ps_for hp hc hi hg hb hs) fun D σ H ⟨F, M, G, ρ, R, w, s, h, c⟩ => ⟨F, M, G, ρ, _, w, s, h, fun xs P M1 F1 H1 J ⟨W, h0, hP, hs, hd⟩ s1 w1 it => by
    refine ⟨fun i m σ H => m = xs.length - i ∧ i ≤ xs.length ∧ ∃ F2 M2 ρ2, Same F1 F2 ∧ Wf X.K F2 M2 G H ∧ Sl X.K F2 ρ2 σ ∧ W i ρ2 M2, ⟨xs.length, by omega, Nat.zero_le _, F1, M1, ρ, Same.refl F1, w1, s.mono s1, h0⟩, ?_⟩
    rintro i m σ2 H2 ⟨rfl, hi, F2, M2, ρ2, s2, w2, sl2, h2⟩
    obtain ⟨i1, i2, i3⟩ := it F2 M2 G H2 i s2 (hP i ρ2 M2 hi h2) w2
    by_cases hlt : i < xs.length
    · refine .inr ⟨i1 hlt, fun σ' H' => ∃ F3 M3 ρ3, Same F1 F3 ∧ Wf X.K F3 M3 G H' ∧ Sl X.K F3 ρ3 σ' ∧ W (i + 1) ρ3 M3, fun σ' H' q => ⟨xs.length - (i + 1), by omega, rfl, hlt, q⟩, fun x H' y => ?_⟩
      obtain ⟨F3, s3, w3, d3⟩ := i3 x H' xs[i] y (List.getElem?_eq_getElem hlt)
      refine ⟨F3, M2, G, ρ2, _, xs[i], w3, sl2.mono s3, d3, hs i xs[i] ρ2 M2 (List.getElem?_eq_getElem hlt) h2, fun ρ4 M4 F4 H4 σ4 h4 s4 w4 sl4 => ?_⟩
      have ss := s1.trans (s2.trans (s3.trans s4))
      refine ⟨F4, M4, G, ρ4, _, w4, sl4, h4, ⟨?_, c.rt.mono ss, c.nx.mono ss, ?_⟩⟩
      · exact fun ρ5 M5 F5 H5 σ5 q s5 w5 sl5 => ⟨F5, M5, ρ5, s2.trans (s3.trans (s4.trans s5)), w5, sl5, q⟩
      · exact fun ρ5 M5 F5 H5 σ5 q s5 w5 sl5 => ⟨F5, M5, ρ5, s2.trans (s3.trans (s4.trans s5)), w5, sl5, q⟩
    · have e : i = xs.length := by omega
      subst e
      exact .inl ⟨i2 (Nat.le_refl _), (c.nx.mono (s1.trans s2)).here w2 (hd ρ2 M2 h2) sl2⟩⟩
end

/-! ### comprehensions -/
def dwipe (ρ : DEnv) : List Nat → DEnv
  | [] => ρ
  | v :: vs => (dwipe ρ vs).set v none
theorem Sl.wipe {K : PySem.W.Frag} {F : Hp} {ρ : DEnv} {σ : L2.St} (s : Sl K F ρ σ) : ∀ vs : List Nat, Sl K F (dwipe ρ vs) (L2.wipe σ vs)
  | [] => s
  | v :: vs => (Sl.wipe s vs).unset v
theorem getElem?_wipe {σ : L2.St} : ∀ {vs : List Nat} (i : Nat), (L2.wipe σ vs)[i]? = if i ∈ vs ∧ i < σ.length then some none else σ[i]?
  | [], i => by simp [L2.wipe]
  | v :: vs, i => by
    unfold L2.wipe
    rw [List.getElem?_set, getElem?_wipe i, L2.wipe_length]
    by_cases h : v = i
    · subst h
      by_cases hl : v < σ.length
      · simp [hl]
      · have : σ[v]? = none := List.getElem?_eq_none_iff.mpr (by omega)
        simp [hl, this]
    · have h' : i ≠ v := fun e => h e.symm
      simp [h, h']
theorem wipe_set {σ : L2.St} {vs : List Nat} {i : Nat} {x : Option V} (h : i ∈ vs) : L2.wipe (σ.set i x) vs = L2.wipe σ vs := by
  apply List.ext_getElem?
  intro j
  rw [getElem?_wipe, getElem?_wipe, List.length_set, List.getElem?_set]
  by_cases hj : j ∈ vs ∧ j < σ.length
  · rw [if_pos hj, if_pos hj]
  · rw [if_neg hj, if_neg hj]
    by_cases e : i = j
    · subst e
      have hl : ¬ i < σ.length := fun hl => hj ⟨h, hl⟩
      have : σ[i]? = none := List.getElem?_eq_none_iff.mpr (by omega)
      simp [hl, this]
    · simp [e]
theorem wipe_wipe {σ : L2.St} {vs : List Nat} : L2.wipe (L2.wipe σ vs) vs = L2.wipe σ vs := by
  apply List.ext_getElem?
  intro j
  rw [getElem?_wipe, getElem?_wipe, L2.wipe_length]
  by_cases hj : j ∈ vs ∧ j < σ.length
  · rw [if_pos hj, if_pos hj]
  · rw [if_neg hj, if_neg hj]
/-- a target of the block's own slots -/
def LfG (K : PySem.W.Frag) (tg : TG) (g : TDG) (vs : List Nat) : Prop := ∀ (F : Hp) (M : MS) (G H : Hp) (ρ : DEnv) (σ : L2.St) (v : V) (d : D) (R : DEnv → MS → Prop) (Q : L2.St → Hp → Prop), Wf K F M G H → Sl K F ρ σ → Dt K F v d → g d ρ M R →
  (∀ ρ' σ', Sl K F ρ' σ' → L2.wipe σ' vs = L2.wipe σ vs → R ρ' M → Q σ' H) → tg v σ H Q
theorem lfg_name {K : PySem.W.Frag} {i : Nat} {vs : List Nat} (h : i ∈ vs) : LfG K (gName i) (dgName i) vs := fun F M G H ρ σ v d R Q w s dv r c => c _ _ (s.set dv i) (wipe_set h) r
theorem lfg_tup2 {K : PySem.W.Frag} {i j : Nat} {vs : List Nat} (h : i ∈ vs) (h' : j ∈ vs) : LfG K (gTup K 2 (gCons (gName i) (gCons (gName j) gNil))) (dgTup 2 (dgCons (dgName i) (dgCons (dgName j) dgNil))) vs := fun F M G H ρ σ v d R Q w s dv ⟨xs, e, hl, r⟩ c => by
  subst e
  obtain ⟨a, us, rfl, h1, q1⟩ := dt_tup dv
  obtain ⟨x, r1, rfl, y, r2, rfl, e3, r⟩ := r
  subst e3
  obtain ⟨u1, u2, rfl, d1, d2⟩ := dtAll_two q1
  exact ⟨a, _, rfl, same_tup w.fz h1, rfl, u1, [u2], rfl, u2, [], rfl, rfl, c _ _ ((s.set d1 i).set d2 j) (by rw [wipe_set h', wipe_set h]) r⟩

section
variable {K : PySem.W.Frag} {F : Hp} {M : MS} {G H : Hp}
theorem Wf.newG (w : Wf K F M G H) {p : Addr} {o : HO} (h : H p = none) : Wf K F M (upd G p o) (upd H p o) := by
  refine ⟨fun b x e => by rw [upd_ne (ne_of_none (w.fz _ _ e) h)]; exact w.fz _ _ e, fun b m e => ?_, fun b u e => ?_⟩
  · have hb : b ≠ p := fun z => by subst z; rw [w.mnone h] at e; cases e
    obtain ⟨a1, a2, a3⟩ := w.mu _ _ e
    exact ⟨a1, by rw [upd_ne hb]; exact a2, a3.keep (Same.refl F) (fun c u _ q => by rw [upd_ne (ne_of_none q h)]; exact q) fun _ _ z => z⟩
  · by_cases hb : b = p
    · subst hb; rw [upd_same] at e ⊢; exact ⟨e, w.fnone h⟩
    · rw [upd_ne hb] at e ⊢
      exact w.fr _ _ e
theorem Wf.setG {p : Addr} {o o' : HO} (w : Wf K F M (upd G p o) H) (ho : ∀ c, o ≠ .own c) : Wf K F M (upd G p o') (upd H p o') := by
  obtain ⟨g1, g2⟩ := w.fr p o upd_same
  refine ⟨fun b x e => by rw [upd_ne (ne_of_none e g2)]; exact w.fz _ _ e, fun b m e => ?_, fun b u e => ?_⟩
  · obtain ⟨a1, a2, a3⟩ := w.mu _ _ e
    have hb : b ≠ p := fun z => by subst z; rw [upd_same] at a2; cases a2
    rw [upd_ne hb] at a2
    refine ⟨a1, by rw [upd_ne hb]; exact a2, a3.keep (Same.refl F) (fun c u hc q => ?_) fun _ _ z => z⟩
    have : c ≠ p := by
      rcases hc with z | z
      · rw [z]; exact hb
      · intro y; subst y; rw [g1] at z; cases z; exact ho _ rfl
    rw [upd_ne this]; exact q
  · by_cases hb : b = p
    · subst hb; rw [upd_same] at e ⊢; exact ⟨e, g2⟩
    · rw [upd_ne hb] at e ⊢
      have := w.fr b u (by rw [upd_ne hb]; exact e)
      exact this
theorem Wf.unG {p : Addr} {vs : List V} (w : Wf K F M (upd G p (.lst vs)) H) (hG : G p = none) : Wf K (upd F p (.lst vs)) M G H := by
  obtain ⟨g1, g2⟩ := w.fr p _ upd_same
  refine ⟨fun b x e => ?_, fun b m e => ?_, fun b u e => ?_⟩
  · by_cases hb : b = p
    · subst hb; rw [upd_same] at e; cases e; exact g1
    · rw [upd_ne hb] at e; exact w.fz _ _ e
  · obtain ⟨a1, a2, a3⟩ := w.mu _ _ e
    have hb : b ≠ p := fun z => by subst z; rw [upd_same] at a2; cases a2
    rw [upd_ne hb] at a2
    exact ⟨by rw [upd_ne hb]; exact a1, a2, a3.keep (same_up g2) (fun _ _ _ q => q) fun c q z => by
      rw [upd_ne fun y => by subst y; rw [g1] at q; cases q]; exact z⟩
  · have hb : b ≠ p := fun z => by subst z; rw [hG] at e; cases e
    have := w.fr b u (by rw [upd_ne hb]; exact e)
    exact ⟨this.1, by rw [upd_ne hb]; exact this.2⟩
theorem Wf.unGM {p : Addr} {vs : List V} {ds : List D} (w : Wf K F M (upd G p (.lst vs)) H) (hG : G p = none) (q : DtAll K F vs ds) : Wf K F (mupd M p (.lst ds)) G H := by
  obtain ⟨g1, g2⟩ := w.fr p _ upd_same
  refine ⟨w.fz, fun b m e => ?_, fun b u e => ?_⟩
  · by_cases hb : b = p
    · subst hb; rw [mupd_same] at e; cases e
      exact ⟨g2, hG, vs, g1, q⟩
    · rw [mupd_ne hb] at e
      obtain ⟨a1, a2, a3⟩ := w.mu _ _ e
      rw [upd_ne hb] at a2
      exact ⟨a1, a2, a3⟩
  · have hb : b ≠ p := fun z => by subst z; rw [hG] at e; cases e
    have := w.fr b u (by rw [upd_ne hb]; exact e)
    exact this
end
def dLcW (di : TDI) (g : TDG) (tt : TDT) (te : TDE) (vs : List Nat) (ρ : DEnv) (M : MS) (E : List D → MS → Prop) : Prop := di ρ M fun xs P M1 => ∃ W : Nat → List D → MS → Prop, W 0 [] M1 ∧ (∀ i acc M, i ≤ xs.length → W i acc M → P M) ∧
  (∀ i x acc M, xs[i]? = some x → W i acc M → g x (dwipe ρ vs) M fun ρ' M' => tt ρ' M' fun b M2 => if b = true then te ρ' M2 fun d M3 => acc.length < sizeLine ∧ W (i + 1) (acc ++ [d]) M3 else W (i + 1) acc M2) ∧ ∀ acc M, W xs.length acc M → E acc M
def dLc (di : TDI) (g : TDG) (tt : TDT) (te : TDE) (vs : List Nat) : TDE := fun ρ M R => dLcW di g tt te vs ρ M fun acc M' => R (.lst acc) M'
def dLcM (di : TDI) (g : TDG) (tt : TDT) (te : TDE) (vs : List Nat) : TDE := fun ρ M R => dLcW di g tt te vs ρ M fun acc M' => ∀ p, M' p = none → R (.ref p) (mupd M' p (.lst acc))
section
variable {K : PySem.W.Frag} {tg : TG} {g : TDG} {tt : TDT} {te : TDE} {vs : List Nat} {di : TDI}
theorem up_lcW (lg : LfG K tg g vs) {F : Hp} {M : MS} {G H : Hp} {ρ : DEnv} {σ : L2.St} {E : List D → MS → Prop} {Q : VK} (w : Wf K F M G H) (s : Sl K F ρ σ) (h : dLcW di g tt te vs ρ M E)
    (c : ∀ p acc us M' F' H', E acc M' → Same F F' → Wf K F' M' (upd G p (.lst us)) H' → G p = none → DtAll K F' us acc → Q (.ref p) H') : tLc (upI K di) tg (upT K tt) (up K te) vs σ H Q := by
  refine ⟨F, M, G, ρ, _, w, s, h, fun xs P M1 F1 H1 J ⟨W, h0, hP, hs, hd⟩ s1 w1 it => ?_⟩
  intro D hD
  have gD : G D = none := w1.gnone hD
  refine ⟨fun i m H => m = xs.length - i ∧ i ≤ xs.length ∧ ∃ F2 M2 us acc, Same F1 F2 ∧ Wf K F2 M2 (upd G D (.lst us)) H ∧ DtAll K F2 us acc ∧ W i acc M2, ⟨xs.length, by omega, Nat.zero_le _, F1, M1, [], [], Same.refl F1, w1.newG hD, .nil, h0⟩, ?_⟩
  rintro i m H2 ⟨rfl, hi, F2, M2, us, acc, s2, w2, q2, h2⟩
  obtain ⟨i1, i2, i3⟩ := it F2 M2 _ H2 i s2 (hP i acc M2 hi h2) w2
  by_cases hlt : i < xs.length
  · refine .inr ⟨i1 hlt, fun H' => ∃ F2 M2 us acc, Same F1 F2 ∧ Wf K F2 M2 (upd G D (.lst us)) H' ∧ DtAll K F2 us acc ∧ W (i + 1) acc M2, fun H' q => ⟨xs.length - (i + 1), by omega, rfl, hlt, q⟩, fun x H' y => ?_⟩
    obtain ⟨F3, s3, w3, d3⟩ := i3 x H' xs[i] y (List.getElem?_eq_getElem hlt)
    have sl := ((s.mono (s1.trans (s2.trans s3))).wipe vs)
    refine lg F3 M2 _ H' _ _ x xs[i] _ _ w3 sl d3 (hs i xs[i] acc M2 (List.getElem?_eq_getElem hlt) h2) fun ρ4 σ4 sl4 e4 h4 => ⟨e4.trans wipe_wipe, ?_⟩
    refine ⟨F3, M2, _, ρ4, _, w3, sl4, h4, fun b M5 F5 H5 h5 s5 w5 => ?_⟩
    cases b with
    | true =>
      refine iteT ⟨F5, M5, _, ρ4, _, w5, sl4.mono s5, (if_pos (c := true = true) rfl).mp h5, fun d M6 F6 H6 v h6 s6 w6 d6 => ?_⟩
      have q6 := q2.mono (s3.trans (s5.trans s6))
      refine ⟨us, (w6.fr D _ upd_same).1, by rw [q6.length]; exact h6.1, F6, M6, us ++ [v], acc ++ [d], s2.trans (s3.trans (s5.trans s6)), w6.setG (fun _ z => nomatch z), q6.append (.cons d6 .nil), h6.2⟩
    | false => exact iteF ⟨F5, M5, us, acc, s2.trans (s3.trans s5), w5, q2.mono (s3.trans s5), (if_neg Bool.false_ne_true).mp h5⟩
  · have e : i = xs.length := by omega
    subst e
    exact .inl ⟨i2 (Nat.le_refl _), c D acc us M2 F2 H2 (hd acc M2 h2) (s1.trans s2) w2 gD q2⟩
theorem up_lc (lg : LfG K tg g vs) (σ : L2.St) (H : Hp) (Q : VK) (h : up K (dLc di g tt te vs) σ H Q) : tLc (upI K di) tg (upT K tt) (up K te) vs σ H Q := by
  obtain ⟨F, M, G, ρ, R, w, s, h, c⟩ := h
  refine up_lcW lg w s h fun p acc us M' F' H' r s1 w1 hG q => ?_
  have f1 := (w1.fr p _ upd_same).2
  exact c (.lst acc) M' (upd F' p (.lst us)) H' _ r (s1.trans (same_up f1)) (w1.unG hG) (.lst upd_same (q.mono (same_up f1)))
theorem up_lcM (lg : LfG K tg g vs) (σ : L2.St) (H : Hp) (Q : VK) (h : up K (dLcM di g tt te vs) σ H Q) : tLc (upI K di) tg (upT K tt) (up K te) vs σ H Q := by
  obtain ⟨F, M, G, ρ, R, w, s, h, c⟩ := h
  refine up_lcW lg w s h fun p acc us M' F' H' r s1 w1 hG q => ?_
  have mp : M' p = none := by
    cases e : M' p with
    | none => rfl
    | some o => obtain ⟨_, z, _⟩ := w1.mu _ _ e; rw [upd_same] at z; cases z
  exact c (.ref p) _ F' H' _ (r p mp) s1 (w1.unGM hG q) (.ref p)
end
section
variable {X : Cx} {tg : TG} {g : TDG} {tt : TDT} {te : TDE} {vs : List Nat} {di : TDI} {e : Expr} {st : Stmt} {i : Nat}
theorem d_lc (lg : LfG X.K tg g vs) (h : PE X e (tLc (upI X.K di) tg (upT X.K tt) (up X.K te) vs)) : DE X e (dLc di g tt te vs) := pe_mono h (up_lc lg)
theorem d_lcM (lg : LfG X.K tg g vs) (h : PE X e (tLc (upI X.K di) tg (upT X.K tt) (up X.K te) vs)) : DE X e (dLcM di g tt te vs) := pe_mono h (up_lcM lg)
theorem ds_lc (lg : LfG X.K tg g vs) (h : PS X st (tAsg (tLc (upI X.K di) tg (upT X.K tt) (up X.K te) vs) (gName i))) : DS X st (dAsg (dLc di g tt te vs) (dgName i)) := ps_mono h fun D σ H ⟨F, M, G, ρ, R, w, s, h, c⟩ =>
  up_lc lg σ H _ ⟨F, M, G, ρ, _, w, s, h, fun d M1 F1 H1 v h1 s1 w1 d1 => (c.nx.mono s1).here w1 h1 ((s.mono s1).set d1 i)⟩
theorem ds_lcM (lg : LfG X.K tg g vs) (h : PS X st (tAsg (tLc (upI X.K di) tg (upT X.K tt) (up X.K te) vs) (gName i))) : DS X st (dAsg (dLcM di g tt te vs) (dgName i)) := ps_mono h fun D σ H ⟨F, M, G, ρ, R, w, s, h, c⟩ =>
  up_lcM lg σ H _ ⟨F, M, G, ρ, _, w, s, h, fun d M1 F1 H1 v h1 s1 w1 d1 => (c.nx.mono s1).here w1 h1 ((s.mono s1).set d1 i)⟩
abbrev DTs (X : Cx) (ifs : List Expr) (t : TDT) : Prop := PTs X ifs (upT X.K t)
def dYes : TDT := fun _ M R => R true M
theorem pts_mono {X : Cx} {e : List Expr} {t u : TT} (h : PTs X e t) (w : ∀ σ H Q, u σ H Q → t σ H Q) : PTs X e u := ⟨fun pins s σ H Q I q => h.run pins s σ H Q I (w _ _ _ q)⟩
theorem dts_nil : DTs X [] dYes := pts_mono pts_nil fun σ H Q ⟨F, M, G, ρ, R, w, s, h, c⟩ => c true M F H h (Same.refl F) w
theorem dts_one {c : Expr} {t : TDT} (h : DT X c t) : DTs X [c] t := pts_one h
end

/-! ### a def -/
def dstart (N : List Str) (ds : List D) : DEnv := ds.map some ++ List.replicate (N.length - ds.length) none
theorem sl_start {K : PySem.W.Frag} {F : Hp} {N : List Str} {vs : List V} {ds : List D} (h : DtAll K F vs ds) : Sl K F (dstart N ds) (L2.start N vs) := by
  unfold dstart L2.start
  rw [h.length]
  have base : ∀ n : Nat, Sl K F (List.replicate n none) (List.replicate n none) := fun n => by
    induction n with
    | zero => exact .nil
    | succ n ih => rw [List.replicate_succ, List.replicate_succ]; exact .cons (fun x e => by cases e) ih
  generalize N.length - ds.length = n
  have go : ∀ {vs : List V} {ds : List D}, DtAll K F vs ds → Sl K F (ds.map some ++ List.replicate n none) (vs.map some ++ List.replicate n none) := by
    intro vs
    induction vs with
    | nil => intro ds h; cases h; exact base n
    | cons v vs ih =>
      intro ds h
      cases h with
      | cons a b => exact .cons (fun x e => by cases e; exact ⟨_, rfl, a⟩) (ih b)
  exact go h
section
variable {P : Program} {w : World} {K : PySem.W.Frag} {mg : Str → Option Value} {base : Heap}
theorem dfn {x qual : Str} {st : Stmt} {f : Addr} {fd : FuncData} {N ps : List Str} {k : Nat} {dsp : DL} (F : Fun K x qual st f fd) (S : FnScope N ps (defScope st)) (len : ∀ ds M R, dsp ds M R → ds.length = ps.length)
    (hbody : ∀ (cdv : Value) (A : Around) (outer : List Env) (s : Shared) (H : Hp) (E : XK) (ds : List D) (M : MS) (R : D → MS → Prop), Room k (A.deeper (envOfC qual (defScope st) s.heap.objs.size f cdv)) → dsp ds M R →
      ∃ t, DSs (cxOf CX0 P w K mg base N qual (defScope st) f cdv A outer s H E).nox (defBody st) t ∧ t { nx := fun _ M' => R .non M', rt := R } (dstart N ds) M) : FnOk P w K mg base CX0 (k + 1) f fd ps (spOf K dsp) := by
  refine F.ok S (fun vs H Q E h => ?_) (fun cdv A outer s H vs Q E hr h => ?_)
  · obtain ⟨F, M, G, ds, R, w, d, h, c⟩ := h
    rw [d.length]
    exact len ds M R h
  · obtain ⟨F, M, G, ds, R, w, d, h, c⟩ := h
    obtain ⟨t, h1, h2⟩ := hbody cdv A outer s H E ds M R hr h
    refine ⟨_, h1, F, M, G, dstart N ds, _, w, sl_start d, h2, ⟨?_, c, ?_, ?_⟩⟩
    · exact fun ρ M' F' H' σ' r s1 w1 _ => c .non M' F' H' .non r s1 w1 .non
    · exact fun ρ M' F' H' σ' r s1 w1 _ => r.elim
    · exact fun ρ M' F' H' σ' r s1 w1 _ => r.elim
end
end DL

/-! DL6: callees, the drawn state. -/
namespace DL
open PySem PySem.Spec PyProof.Rows L2

/-- a def that may be called by its name -/
structure CalX (P : Program) (w : World) (K : PySem.W.Frag) (mg : Str → Option Value) (base : Heap) (name : Str) (k : Nat) (dsp : DL) : Prop where
  ex : ∃ (f : Addr) (fd : FuncData) (ps : List Str), FnOk P w K mg base CX0 k f fd ps (spOf K dsp) ∧ mg name = some (.ref f) ∧ PySem.W.keepIn K (.ref f) = true ∧ Binds K fd ps []
theorem d_callX {X : Cx} {x : Str} {k j : Nat} {dsp : DL} {e : Expr} {es : List Expr} {t : TDA} {p pos : Pos} (C : CalX X.prog X.w X.K X.mg X.base x k dsp) (hr : Room j X.A) (hg : Gl X x) (ha : DA X (e :: es) t) (hk : k ≤ j := by decide)
    (hdb : (x == ("__debug__" : Str)) = false := by decide) (he : starEach (e :: es) X.env = (false, eval e X.env) :: starEach es X.env := by rfl) (hpl : (backTo pos (starEach es X.env)).any (·.1) = false := by rfl) : DE X (.Call (.Name x p) (e :: es) [] pos) (dCB dsp t) := by
  obtain ⟨f, fd, ps, F, hm, kp, b⟩ := C.ex
  exact d_call F (hr.mono hk) hg hm kp b ha hdb he hpl
theorem CalX.mk' {P : Program} {w : World} {K : PySem.W.Frag} {mg : Str → Option Value} {base : Heap} {name : Str} {k : Nat} {dsp : DL} {f : Addr} {fd : FuncData} {ps : List Str} (F : FnOk P w K mg base CX0 k f fd ps (spOf K dsp)) (hm : mg name = some (.ref f)) (kp : PySem.W.keepIn K (.ref f) = true) (b : Binds K fd ps []) : CalX P w K mg base name k dsp := ⟨f, fd, ps, F, hm, kp, b⟩
/-- the built-in names are not the module's own -/
structure Bt (mg : Str → Option Value) : Prop where
  len : mg "len" = none
  range : mg "range" = none
  abs : mg "abs" = none
  int : mg "int" = none
  bool : mg "bool" = none
  str : mg "str" = none
  sorted : mg "sorted" = none
  set : mg "set" = none
  list : mg "list" = none
  tuple : mg "tuple" = none
  max : mg "max" = none
  min : mg "min" = none
  sum : mg "sum" = none
  any : mg "any" = none
  all : mg "all" = none
  enumerate : mg "enumerate" = none
  zip : mg "zip" = none
  isinstance : mg "isinstance" = none
  reversed : mg "reversed" = none

/-! ### the drawn state: [great, at, mixed, turn] -/
structure Rn where
  g : Addr
  great : List Int
  at_ : Nat
  mixed : Int
  turn : Int
def Rn.put (r : Rn) (a : Addr) (M : MS) : MS := mupd (mupd M a (.lst [.ref r.g, .int r.at_, .int r.mixed, .int r.turn])) r.g (.lst (r.great.map D.int))
/-- M is M0 and a drawn state at a -/
structure RnAt (M0 : MS) (a : Addr) (M : MS) : Prop where
  ex : ∃ r : Rn, a ≠ r.g ∧ M0 r.g = none ∧ M = r.put a M0
  fr : M0 a = none
theorem Rn.put_a {r : Rn} {a : Addr} {M : MS} (h : a ≠ r.g) : r.put a M a = some (.lst [.ref r.g, .int r.at_, .int r.mixed, .int r.turn]) := by
  unfold Rn.put; rw [mupd_ne h, mupd_same]
theorem Rn.put_g {r : Rn} {a : Addr} {M : MS} : r.put a M r.g = some (.lst (r.great.map D.int)) := by
  unfold Rn.put; rw [mupd_same]
theorem Rn.set_a {r : Rn} {a : Addr} {M : MS} (h : a ≠ r.g) (i m t : Int) (xs : List D) (e : xs = [.ref r.g, .int i, .int m, .int t]) (hi : 0 ≤ i) : mupd (r.put a M) a (.lst xs) = ({ r with at_ := i.toNat, mixed := m, turn := t } : Rn).put a M := by
  subst e
  unfold Rn.put
  rw [mupd_comm (Ne.symm h), mupd_mupd]
  simp only [Int.toNat_of_nonneg hi]
theorem Rn.set_g {r : Rn} {a : Addr} {M : MS} (ns : List Int) : mupd (r.put a M) r.g (.lst (ns.map D.int)) = ({ r with great := ns } : Rn).put a M := by
  unfold Rn.put
  rw [mupd_mupd]
theorem RnAt.at {M0 M : MS} {a : Addr} (h : RnAt M0 a M) : ∃ xs, M a = some (.lst xs) := by
  obtain ⟨r, h1, h2, rfl⟩ := h.ex
  exact ⟨_, Rn.put_a h1⟩
/-- a new thing beside it -/
theorem RnAt.new {M0 M : MS} {a p : Addr} {o : MO} (h : RnAt M0 a M) (hp : M p = none) : RnAt (mupd M0 p o) a (mupd M p o) := by
  obtain ⟨r, h1, h2, rfl⟩ := h.ex
  have pa : p ≠ a := fun e => by subst e; rw [Rn.put_a h1] at hp; cases hp
  have pg : p ≠ r.g := fun e => by subst e; rw [Rn.put_g] at hp; cases hp
  refine ⟨⟨r, h1, by rw [mupd_ne (Ne.symm pg)]; exact h2, ?_⟩, by rw [mupd_ne (Ne.symm pa)]; exact h.fr⟩
  unfold Rn.put
  rw [mupd_comm (Ne.symm pg), mupd_comm (Ne.symm pa)]
theorem RnAt.get {M0 M : MS} {a p : Addr} {o : MO} (h : RnAt M0 a M) (hp : M0 p = some o) : M p = some o := by
  obtain ⟨r, h1, h2, rfl⟩ := h.ex
  have pa : p ≠ a := fun e => by subst e; rw [h.fr] at hp; cases hp
  have pg : p ≠ r.g := fun e => by subst e; rw [h2] at hp; cases hp
  unfold Rn.put
  rw [mupd_ne pg, mupd_ne pa]; exact hp
theorem RnAt.free {M0 M : MS} {a p : Addr} (h : RnAt M0 a M) (hp : M p = none) : M0 p = none := by
  cases e : M0 p with
  | none => rfl
  | some o => rw [h.get e] at hp; cases hp
theorem RnAt.upd {M0 M : MS} {a p : Addr} {o u : MO} (h : RnAt M0 a M) (hp : M0 p = some o) : RnAt (mupd M0 p u) a (mupd M p u) := by
  obtain ⟨r, h1, h2, rfl⟩ := h.ex
  have pa : p ≠ a := fun e => by subst e; rw [h.fr] at hp; cases hp
  have pg : p ≠ r.g := fun e => by subst e; rw [h2] at hp; cases hp
  refine ⟨⟨r, h1, by rw [mupd_ne (Ne.symm pg)]; exact h2, ?_⟩, by rw [mupd_ne (Ne.symm pa)]; exact h.fr⟩
  unfold Rn.put
  rw [mupd_comm (Ne.symm pg), mupd_comm (Ne.symm pa)]
theorem mdel_comm {M : MS} {a b : Addr} {o : MO} (h : a ≠ b) : mdel (mupd M a o) b = mupd (mdel M b) a o := by
  funext c; unfold mupd mdel
  by_cases e : c = b
  · subst e; simp [Ne.symm h]
  · simp [e]
theorem RnAt.del {M0 M : MS} {a p : Addr} {o : MO} (h : RnAt M0 a M) (hp : M0 p = some o) : RnAt (mdel M0 p) a (mdel M p) := by
  obtain ⟨r, h1, h2, rfl⟩ := h.ex
  have pa : p ≠ a := fun e => by subst e; rw [h.fr] at hp; cases hp
  have pg : p ≠ r.g := fun e => by subst e; rw [h2] at hp; cases hp
  refine ⟨⟨r, h1, by rw [mdel_ne (Ne.symm pg)]; exact h2, ?_⟩, by rw [mdel_ne (Ne.symm pa)]; exact h.fr⟩
  unfold Rn.put
  rw [mdel_comm (Ne.symm pg), mdel_comm (Ne.symm pa)]
theorem cdivW {i j : Int} (h : 0 < j) (h2 : j < 1073741824) : CDivW i j := ⟨h, by
  have h3 : j.natAbs < 2 ^ 30 := by omega
  have h4 : j.natAbs.log2 < 30 := (Nat.log2_lt (by omega)).mpr h3
  omega⟩
/-- _law_draw(state, many) -/
def spDraw : DL := fun ds M R => ∃ a many M0, ds = [.ref a, .int many] ∧ 0 < many ∧ many < 1073741824 ∧ RnAt M0 a M ∧ ∀ n M', 0 ≤ n → n < many → RnAt M0 a M' → R (.int n) M'
end DL

/-! DL7: the readings as equations. -/
namespace DL
open PySem PySem.Spec PyProof.Rows L2
section
variable {ρ r : DEnv} {M : MS} {R : D → MS → Prop} {d x y : D} {i j : Int} {a : Addr} {xs ys zs : List D} {ta tb te : TDE} {tc td : TDT} {t : TDA} {D0 : DEnds}
theorem e_var0 : dVar 0 (some d :: r) M R = R d M := by
  apply propext; unfold dVar; simp
theorem e_varS {n : Nat} {o : Option D} : dVar (n + 1) (o :: r) M R = dVar n r M R := by
  unfold dVar; simp
theorem e_C : dC d ρ M R = R d M := rfl
theorem e_op {f : D2} : dOp f ta tb ρ M R = ta ρ M fun x M1 => tb ρ M1 fun y M2 => f x y M2 R := rfl
theorem e_un {f : D1} : dUn f ta ρ M R = ta ρ M fun x M1 => f x M1 R := rfl
theorem e_cb {f : DL} : dCB f t ρ M R = t ρ M fun xs M1 => f xs M1 R := rfl
theorem e_nil {R : List D → MS → Prop} : dNil ρ M R = R [] M := rfl
theorem e_cons {R : List D → MS → Prop} : dCons te t ρ M R = te ρ M fun x M1 => t ρ M1 fun xs M2 => R (x :: xs) M2 := rfl
theorem e_tup : dTup t ρ M R = t ρ M fun xs M1 => xs.length ≤ sizeLine ∧ R (.tup xs) M1 := rfl
theorem e_lst : dLst t ρ M R = t ρ M fun xs M1 => xs.length ≤ sizeLine ∧ R (.lst xs) M1 := rfl
theorem e_lstM : dLstM t ρ M R = t ρ M fun xs M1 => xs.length ≤ sizeLine ∧ ∀ p, M1 p = none → R (.ref p) (mupd M1 p (.lst xs)) := rfl
def frzV (d : D) (M1 : MS) (R : D → MS → Prop) : Prop := match d with
  | .ref a => ∃ xs, M1 a = some (.lst xs) ∧ R (.lst xs) (mdel M1 a)
  | _ => False
theorem e_frz : dFrz te ρ M R = te ρ M fun d M1 => frzV d M1 R := rfl
theorem e_frzV (h : M a = some (.lst xs)) : frzV (.ref a) M R = R (.lst xs) (mdel M a) := by
  apply propext; unfold frzV; simp only [h]; simp
theorem e_B {R : Bool → MS → Prop} : dB te ρ M R = te ρ M fun d M1 => ∃ b, d = .bl b ∧ R b M1 := rfl
theorem e_bl {f : Bool → Prop} {c : Bool} : (∃ b, D.bl c = .bl b ∧ f b) = f c := by
  apply propext; simp
theorem e_andT {R : Bool → MS → Prop} : dAndT tc td ρ M R = tc ρ M fun c M1 => if c = true then td ρ M1 R else R false M1 := rfl
theorem e_orT {R : Bool → MS → Prop} : dOrT tc td ρ M R = tc ρ M fun c M1 => if c = true then R true M1 else td ρ M1 R := rfl
theorem e_notT {R : Bool → MS → Prop} : dNotT tc ρ M R = tc ρ M fun c M1 => R (!c) M1 := rfl
theorem e_andV : dAndV ta tb ρ M R = ta ρ M fun x M1 => ∃ c, x = .bl c ∧ if c = true then tb ρ M1 R else R (.bl false) M1 := rfl
theorem e_orV : dOrV ta tb ρ M R = ta ρ M fun x M1 => ∃ c, x = .bl c ∧ if c = true then R (.bl true) M1 else tb ρ M1 R := rfl
theorem e_notV : dNotV ta ρ M R = ta ρ M fun x M1 => ∃ c, x = .bl c ∧ R (.bl (!c)) M1 := rfl
theorem e_ifE : dIfE tc ta tb ρ M R = tc ρ M fun c M1 => if c = true then ta ρ M1 R else tb ρ M1 R := rfl
theorem e_tru {R : Bool → MS → Prop} : dTru te ρ M R = te ρ M fun d M1 => ∃ b, truD M1 d = some b ∧ R b M1 := rfl
theorem e_slice {tl th : TDO} : dSl te tl th ρ M R = te ρ M fun x M1 => tl ρ M1 fun l M2 => th ρ M2 fun u M3 => dSlV x l u M3 R := rfl
theorem e_noPart {R : Option Int → MS → Prop} : dNoPart ρ M R = R none M := rfl
def partV (d : D) (M1 : MS) (R : Option Int → MS → Prop) : Prop := ∃ i, d = .int i ∧ R (some i) M1
theorem e_part {R : Option Int → MS → Prop} : dPart te ρ M R = te ρ M fun d M1 => partV d M1 R := rfl
theorem e_partV {R : Option Int → MS → Prop} : partV (.int i) M R = R (some i) M := by
  apply propext; unfold partV; simp
theorem e_bm {T : String} {f : DM} : dBM T f ta t ρ M R = ta ρ M fun x M1 => dTy T M1 x ∧ t ρ M1 fun xs M2 => f x xs M2 R := rfl
theorem e_bm0 {T : String} {f : DM} : dBM0 T f ta ρ M R = ta ρ M fun x M1 => dTy T M1 x ∧ f x [] M1 R := rfl
theorem e_ty_ref (h : M a = some (.lst xs)) : dTy "list" M (.ref a) = True := by
  apply propext; unfold dTy; simp [h]
theorem e_ty_lst : dTy "list" M (.lst xs) = True := by
  apply propext; unfold dTy; simp
theorem e_ty_str {z : Str} : dTy "str" M (.str z) = True := by
  apply propext; unfold dTy; simp
/-! statements -/
variable {ts tu : TDS} {g : TDG} {gs : TDGs} {Q : DEnv → MS → Prop}
theorem e_next : dNext D0 ρ M = D0.nx ρ M := rfl
theorem e_seq : dSeq ts tu D0 ρ M = ts { D0 with nx := tu D0 } ρ M := rfl
theorem e_break : dBreak D0 ρ M = D0.bk ρ M := rfl
theorem e_cont : dCont D0 ρ M = D0.ct ρ M := rfl
theorem e_drop : dDrop te D0 ρ M = te ρ M fun _ M1 => D0.nx ρ M1 := rfl
theorem e_ret : dRet te D0 ρ M = te ρ M D0.rt := rfl
theorem e_retN : dRetN D0 ρ M = D0.rt .non M := rfl
theorem e_ifS : dIfS tc ts tu D0 ρ M = tc ρ M fun b M1 => if b = true then ts D0 ρ M1 else tu D0 ρ M1 := rfl
theorem e_asg : dAsg te g D0 ρ M = te ρ M fun d M1 => g d ρ M1 D0.nx := rfl
/-- a slot is set, the rest waiting -/
def eput : Nat → D → DEnv → (DEnv → Prop) → Prop
  | _, _, [], k => k []
  | 0, d, _ :: r, k => k (some d :: r)
  | n + 1, d, o :: r, k => eput n d r fun r' => k (o :: r')
theorem eput_eq : ∀ (n : Nat) (d : D) (ρ : DEnv) (k : DEnv → Prop), eput n d ρ k = k (ρ.set n (some d))
  | _, _, [], _ => by unfold eput; rfl
  | 0, _, _ :: _, _ => rfl
  | n + 1, d, o :: r, k => by unfold eput; rw [eput_eq n d r]; rfl
theorem e_gname {n : Nat} : dgName n d ρ M Q = eput n d ρ fun r => Q r M := (eput_eq n d ρ fun r => Q r M).symm
theorem e_put0 {o : Option D} {k : DEnv → Prop} : eput 0 d (o :: r) k = k (some d :: r) := rfl
theorem e_putS {n : Nat} {o : Option D} {k : DEnv → Prop} : eput (n + 1) d (o :: r) k = eput n d r fun r' => k (o :: r') := rfl
theorem e_aug {n : Nat} {f : D2} : dAug n te f D0 ρ M = dVar n ρ M fun x M0 => te ρ M0 fun y M1 => f x y M1 fun z M2 => eput n z ρ fun r => D0.nx r M2 := by
  apply propext; unfold dAug dVar; simp only [eput_eq]
theorem e_gsub {to ti : TDE} : dgSub to ti d ρ M Q = to ρ M fun o M1 => ti ρ M1 fun i M2 => dSetL o i d M2 fun M3 => Q ρ M3 := rfl
theorem e_gtup2 {m n : Nat} : dgTup 2 (dgCons (dgName m) (dgCons (dgName n) dgNil)) (.tup [x, y]) ρ M Q = eput m x ρ fun r => eput n y r fun r' => Q r' M := by
  apply propext
  unfold dgTup dgCons dgNil dgName
  simp only [eput_eq]
  constructor
  · rintro ⟨xs, e, _, d1, r1, e1, d2, r2, e2, e3, h⟩
    cases e; cases e1; cases e2; exact h
  · exact fun h => ⟨_, rfl, rfl, _, _, rfl, _, _, rfl, rfl, h⟩
def dSetAt (xs : List D) (i : Int) (k : Nat → Prop) : Prop := ∃ n, ixN xs.length i = some n ∧ k n
theorem e_setL {k : MS → Prop} (h : M a = some (.lst xs)) : dSetL (.ref a) (.int i) d M k = dSetAt xs i fun n => k (mupd M a (.lst (xs.set n d))) := by
  apply propext
  unfold dSetL dSetAt
  constructor
  · rintro ⟨a', k', xs', n, e1, e2, e3, e4, h'⟩
    cases e1; cases e2
    rw [h] at e3; cases e3
    exact ⟨n, e4, h'⟩
  · exact fun ⟨n, e4, h'⟩ => ⟨a, i, xs, n, rfl, rfl, h, e4, h'⟩
theorem e_sa {n : Nat} {k : Nat → Prop} (h : n < xs.length) : dSetAt xs (n : Int) k = k n := by
  have e : ixN xs.length (n : Int) = some n := by
    unfold ixN
    rw [if_pos (by omega), if_pos (by omega)]; simp
  apply propext
  unfold dSetAt
  rw [e]
  simp
theorem e_sa0 {k : Nat → Prop} : dSetAt (d :: xs) 0 k = k 0 := e_sa (n := 0) (by simp)
theorem e_sa1 {k : Nat → Prop} : dSetAt (x :: d :: xs) 1 k = k 1 := e_sa (n := 1) (by simp)
theorem e_sa2 {k : Nat → Prop} : dSetAt (x :: y :: d :: xs) 2 k = k 2 := e_sa (n := 2) (by simp)
theorem e_sa3 {k : Nat → Prop} {z : D} : dSetAt (x :: y :: z :: d :: xs) 3 k = k 3 := e_sa (n := 3) (by simp)
/-! values -/
theorem e_I {f : Int → Int → D} : dI f (.int i) (.int j) M R = R (f i j) M := rfl
theorem e_Ic {C : Int → Int → Prop} {f : Int → Int → D} : dIc C f (.int i) (.int j) M R = (C i j ∧ R (f i j) M) := rfl
theorem e_add : dAdd (.int i) (.int j) M R = R (.int (i + j)) M := rfl
theorem e_addS {u v : Str} : dAdd (.str u) (.str v) M R = (u.length + v.length ≤ sizeLine ∧ R (.str (u ++ v)) M) := rfl
theorem e_addL : dAdd (.lst xs) (.lst ys) M R = (xs.length + ys.length ≤ sizeLine ∧ R (.lst (xs ++ ys)) M) := by
  apply propext
  show (∃ us vs, lsOf M (.lst xs) = some us ∧ lsOf M (.lst ys) = some vs ∧ us.length + vs.length ≤ sizeLine ∧ R (.lst (us ++ vs)) M) ↔ _
  constructor
  · rintro ⟨us, vs, e1, e2, h⟩
    cases e1; cases e2; exact h
  · exact fun h => ⟨_, _, rfl, rfl, h⟩
theorem e_addT : dAdd (.tup xs) (.tup ys) M R = (xs.length + ys.length ≤ sizeLine ∧ R (.tup (xs ++ ys)) M) := rfl
theorem e_mul : dMul (.int i) (.int j) M R = (CMul i j ∧ R (.int (i * j)) M) := rfl
theorem e_eqI {f : Bool → Bool} : dEqv f (.int i) (.int j) M R = R (.bl (f (decide (i = j)))) M := rfl
theorem e_eqS {f : Bool → Bool} {u v : Str} : dEqv f (.str u) (.str v) M R = R (.bl (f (decide (u = v)))) M := rfl
theorem e_eqB {f : Bool → Bool} {u v : Bool} : dEqv f (.bl u) (.bl v) M R = R (.bl (f (decide (u = v)))) M := rfl
/-- an item -/
def dAt (xs : List D) (i : Int) (k : D → Prop) : Prop := ∃ d, atI xs i = some d ∧ k d
theorem e_ix_ref (h : M a = some (.lst xs)) : dIx (.ref a) (.int i) M R = dAt xs i fun d => R d M := by
  apply propext
  show (∃ i' xs' d, D.int i = .int i' ∧ sqOf M (.ref a) = some xs' ∧ atI xs' i' = some d ∧ R d M) ↔ _
  have e : sqOf M (.ref a) = some xs := by simp only [sqOf, h]
  constructor
  · rintro ⟨i', xs', d, e1, e2, e3, h'⟩
    cases e1
    rw [e] at e2; cases e2
    exact ⟨d, e3, h'⟩
  · exact fun ⟨d, e3, h'⟩ => ⟨i, xs, d, rfl, e, e3, h'⟩
theorem e_ix_lst : dIx (.lst xs) (.int i) M R = dAt xs i fun d => R d M := by
  apply propext
  show (∃ i' xs' d, D.int i = .int i' ∧ sqOf M (.lst xs) = some xs' ∧ atI xs' i' = some d ∧ R d M) ↔ _
  constructor
  · rintro ⟨i', xs', d, e1, e2, e3, h'⟩
    cases e1; cases e2
    exact ⟨d, e3, h'⟩
  · exact fun ⟨d, e3, h'⟩ => ⟨i, xs, d, rfl, rfl, e3, h'⟩
theorem e_ix_tup : dIx (.tup xs) (.int i) M R = dAt xs i fun d => R d M := by
  apply propext
  show (∃ i' xs' d, D.int i = .int i' ∧ sqOf M (.tup xs) = some xs' ∧ atI xs' i' = some d ∧ R d M) ↔ _
  constructor
  · rintro ⟨i', xs', d, e1, e2, e3, h'⟩
    cases e1; cases e2
    exact ⟨d, e3, h'⟩
  · exact fun ⟨d, e3, h'⟩ => ⟨i, xs, d, rfl, rfl, e3, h'⟩
theorem e_at {k : D → Prop} {n : Nat} (h : xs[n]? = some d) : dAt xs (n : Int) k = k d := by
  apply propext
  unfold dAt
  rw [atI_nat h]
  simp
theorem e_at0 {k : D → Prop} : dAt (d :: xs) 0 k = k d := e_at (n := 0) rfl
theorem e_at1 {k : D → Prop} : dAt (x :: d :: xs) 1 k = k d := e_at (n := 1) rfl
theorem e_at2 {k : D → Prop} : dAt (x :: y :: d :: xs) 2 k = k d := e_at (n := 2) rfl
theorem e_at3 {k : D → Prop} {z : D} : dAt (x :: y :: z :: d :: xs) 3 k = k d := e_at (n := 3) rfl
theorem e_len_ref (h : M a = some (.lst xs)) : dLen [.ref a] M R = R (.int xs.length) M := by
  apply propext
  show (∃ ys, sqOf M (.ref a) = some ys ∧ R (.int ys.length) M) ↔ _
  have e : sqOf M (.ref a) = some xs := by simp only [sqOf, h]
  rw [e]; simp
theorem e_len_lst : dLen [.lst xs] M R = R (.int xs.length) M := by
  apply propext
  show (∃ ys, sqOf M (.lst xs) = some ys ∧ R (.int ys.length) M) ↔ _
  constructor
  · rintro ⟨ys, e, h⟩; cases e; exact h
  · exact fun h => ⟨_, rfl, h⟩
theorem e_len_tup : dLen [.tup xs] M R = R (.int xs.length) M := by
  apply propext
  show (∃ ys, sqOf M (.tup xs) = some ys ∧ R (.int ys.length) M) ↔ _
  constructor
  · rintro ⟨ys, e, h⟩; cases e; exact h
  · exact fun h => ⟨_, rfl, h⟩
theorem e_len_str {z : Str} : dLen [.str z] M R = (z.length ≤ sizeLine ∧ R (.int z.length) M) := rfl
theorem e_abs : dAbs [.int i] M R = R (.int (if i < 0 then -i else i)) M := rfl
theorem e_int : dInt [.int i] M R = R (.int i) M := rfl
theorem e_str : dStr [.int i] M R = (i.natAbs.log2 < 1920 ∧ R (.str (toString i)) M) := rfl
theorem e_append (h : M a = some (.lst xs)) : dAppend (.ref a) [d] M R = (xs.length < sizeLine ∧ R .non (mupd M a (.lst (xs ++ [d])))) := by
  apply propext
  unfold dAppend
  constructor
  · rintro ⟨a', y, zs, e1, e2, e3, h'⟩
    cases e1; cases e2
    rw [h] at e3; cases e3
    exact h'
  · exact fun h' => ⟨a, d, xs, rfl, rfl, h, h'⟩
theorem e_pop (h : M a = some (.lst xs)) : dPop (.ref a) [] M R = ∃ y, xs[xs.length - 1]? = some y ∧ R y (mupd M a (.lst xs.dropLast)) := by
  apply propext
  unfold dPop
  constructor
  · rintro ⟨a', y, zs, e1, e2, e3, h'⟩
    cases e1
    rw [h] at e3; cases e3
    exact ⟨y, h'⟩
  · exact fun ⟨y, h'⟩ => ⟨a, y, xs, rfl, rfl, h, h'⟩
theorem u_frzV : frzV (.ref a) (mupd M a (.lst xs)) R = R (.lst xs) (mdel (mupd M a (.lst xs)) a) := e_frzV mupd_same
theorem u_ty : dTy "list" (mupd M a (.lst xs)) (.ref a) = True := e_ty_ref mupd_same
theorem u_setL {k : MS → Prop} : dSetL (.ref a) (.int i) d (mupd M a (.lst xs)) k = dSetAt xs i fun n => k (mupd (mupd M a (.lst xs)) a (.lst (xs.set n d))) := e_setL mupd_same
theorem u_ix : dIx (.ref a) (.int i) (mupd M a (.lst xs)) R = dAt xs i fun d => R d (mupd M a (.lst xs)) := e_ix_ref mupd_same
theorem u_len : dLen [.ref a] (mupd M a (.lst xs)) R = R (.int xs.length) (mupd M a (.lst xs)) := e_len_ref mupd_same
theorem u_append : dAppend (.ref a) [d] (mupd M a (.lst xs)) R = (xs.length < sizeLine ∧ R .non (mupd (mupd M a (.lst xs)) a (.lst (xs ++ [d])))) := e_append mupd_same
theorem u_pop : dPop (.ref a) [] (mupd M a (.lst xs)) R = ∃ y, xs[xs.length - 1]? = some y ∧ R y (mupd (mupd M a (.lst xs)) a (.lst xs.dropLast)) := e_pop mupd_same
/-! what is walked -/
variable {RI : List D → (MS → Prop) → MS → Prop}
def ilV (d : D) (M1 : MS) (R : List D → (MS → Prop) → MS → Prop) : Prop := match d with
  | .lst xs => R xs (fun _ => True) M1
  | .rl xs => R xs (fun _ => True) M1
  | .ref a => ∃ xs, M1 a = some (.lst xs) ∧ R xs (fun M' => M' a = some (.lst xs)) M1
  | _ => False
theorem e_ilst : dILst te ρ M RI = te ρ M fun d M1 => ilV d M1 RI := rfl
theorem e_il : ilV (.lst xs) M RI = RI xs (fun _ => True) M := rfl
theorem e_irl : ilV (.rl xs) M RI = RI xs (fun _ => True) M := rfl
theorem e_iref (h : M a = some (.lst xs)) : ilV (.ref a) M RI = RI xs (fun M' => M' a = some (.lst xs)) M := by
  apply propext; unfold ilV; simp only [h]; constructor
  · rintro ⟨ys, e, h'⟩; cases e; exact h'
  · exact fun h' => ⟨_, rfl, h'⟩
theorem e_itup {R : List D → (MS → Prop) → MS → Prop} : dITup (fun ρ M R => R (.tup xs) M) ρ M R = R xs (fun _ => True) M := rfl
def irV (ds : List D) (M1 : MS) (R : List D → (MS → Prop) → MS → Prop) : Prop := ∃ j, ds = [.int j] ∧ -(2 ^ 62) ≤ j ∧ j < 2 ^ 62 ∧ R ((List.range j.toNat).map fun k => D.int (0 + (k : Nat))) (fun _ => True) M1
theorem e_irng1 : dIRng1 t ρ M RI = t ρ M fun ds M1 => irV ds M1 RI := rfl
theorem e_irV : irV [.int j] M RI = (-(2 ^ 62) ≤ j ∧ j < 2 ^ 62 ∧ RI ((List.range j.toNat).map fun k => D.int (k : Nat)) (fun _ => True) M) := by
  apply propext; unfold irV; simp
def irV2 (ds : List D) (M1 : MS) (R : List D → (MS → Prop) → MS → Prop) : Prop := ∃ i j, ds = [.int i, .int j] ∧ (-(2 ^ 62) ≤ i ∧ i < 2 ^ 62 ∧ -(2 ^ 62) ≤ j ∧ j < 2 ^ 62) ∧ R ((List.range (j - i).toNat).map fun k => D.int (i + (k : Nat))) (fun _ => True) M1
theorem e_irng2 : dIRng2 t ρ M RI = t ρ M fun ds M1 => irV2 ds M1 RI := rfl
theorem e_irV2 : irV2 [.int i, .int j] M RI = ((-(2 ^ 62) ≤ i ∧ i < 2 ^ 62 ∧ -(2 ^ 62) ≤ j ∧ j < 2 ^ 62) ∧ RI ((List.range (j - i).toNat).map fun k => D.int (i + (k : Nat))) (fun _ => True) M) := by
  apply propext; unfold irV2; constructor
  · rintro ⟨i', j', e, h⟩; cases e; exact h
  · exact fun h => ⟨_, _, rfl, h⟩
theorem u_iref : ilV (.ref a) (mupd M a (.lst xs)) RI = RI xs (fun M' => M' a = some (.lst xs)) (mupd M a (.lst xs)) := e_iref mupd_same
theorem e_yes {R : Bool → MS → Prop} : dYes ρ M R = R true M := rfl
end
end DL

/-! DL8: loops and comprehensions in use. -/
namespace DL
open PySem PySem.Spec PyProof.Rows L2
def forV (xs : List D) (P : MS → Prop) (g : TDG) (tb : TDS) (D0 : DEnds) (ρ : DEnv) (M : MS) : Prop := ∃ W : Nat → DEnv → MS → Prop, W 0 ρ M ∧ (∀ i ρ M, i ≤ xs.length → W i ρ M → P M) ∧
  (∀ i x ρ M, xs[i]? = some x → W i ρ M → g x ρ M fun ρ' M' => tb { D0 with nx := W (i + 1), ct := W (i + 1), bk := D0.nx } ρ' M') ∧ ∀ ρ M, W xs.length ρ M → D0.nx ρ M
theorem e_for {di : TDI} {g : TDG} {tb : TDS} {D0 : DEnds} {ρ : DEnv} {M : MS} : dFor di g tb D0 ρ M = di ρ M fun xs P M1 => forV xs P g tb D0 ρ M1 := rfl
def lcV (xs : List D) (P : MS → Prop) (g : TDG) (tt : TDT) (te : TDE) (vs : List Nat) (ρ : DEnv) (M : MS) (E : List D → MS → Prop) : Prop := ∃ W : Nat → List D → MS → Prop, W 0 [] M ∧ (∀ i acc M, i ≤ xs.length → W i acc M → P M) ∧
  (∀ i x acc M, xs[i]? = some x → W i acc M → g x (dwipe ρ vs) M fun ρ' M' => tt ρ' M' fun b M2 => if b = true then te ρ' M2 fun d M3 => acc.length < sizeLine ∧ W (i + 1) (acc ++ [d]) M3 else W (i + 1) acc M2) ∧ ∀ acc M, W xs.length acc M → E acc M
theorem e_lc {di : TDI} {g : TDG} {tt : TDT} {te : TDE} {vs : List Nat} {ρ : DEnv} {M : MS} {R : D → MS → Prop} : dLc di g tt te vs ρ M R = di ρ M fun xs P M1 => lcV xs P g tt te vs ρ M1 fun acc M' => R (.lst acc) M' := rfl
theorem e_lcM {di : TDI} {g : TDG} {tt : TDT} {te : TDE} {vs : List Nat} {ρ : DEnv} {M : MS} {R : D → MS → Prop} : dLcM di g tt te vs ρ M R = di ρ M fun xs P M1 => lcV xs P g tt te vs ρ M1 fun acc M' => ∀ p, M' p = none → R (.ref p) (mupd M' p (.lst acc)) := rfl
theorem e_wipe0 {ρ : DEnv} : dwipe ρ [] = ρ := rfl
theorem e_wipe {ρ : DEnv} {v : Nat} {vs : List Nat} : dwipe ρ (v :: vs) = (dwipe ρ vs).set v none := rfl

/-- a for over items of one kind -/
theorem for_typed {α : Type} {e : α → D} (l : List α) {P : MS → Prop} {g : TDG} {tb : TDS} {D0 : DEnds} {ρ : DEnv} {M : MS} (W : Nat → DEnv → MS → Prop) (h0 : W 0 ρ M) (hP : ∀ i ρ M, i ≤ l.length → W i ρ M → P M)
    (hs : ∀ i x ρ M, l[i]? = some x → W i ρ M → g (e x) ρ M fun ρ' M' => tb { D0 with nx := W (i + 1), ct := W (i + 1), bk := D0.nx } ρ' M') (hd : ∀ ρ M, W l.length ρ M → D0.nx ρ M) : forV (l.map e) P g tb D0 ρ M := by
  refine ⟨W, h0, fun i ρ M hi => hP i ρ M (by rw [List.length_map] at hi; exact hi), fun i x ρ M hx h => ?_, fun ρ M h => hd ρ M (by rw [List.length_map] at h; exact h)⟩
  rw [List.getElem?_map, Option.map_eq_some_iff] at hx
  obtain ⟨y, h1, rfl⟩ := hx
  exact hs i y ρ M h1 h
/-- a comprehension that changes nothing -/
theorem lc_typed {α : Type} {e : α → D} (l : List α) {P : MS → Prop} {g : TDG} {tt : TDT} {te : TDE} {vs : List Nat} {ρ : DEnv} {M : MS} {E : List D → MS → Prop} (p : α → Bool) (f : α → D) (hl : l.length ≤ sizeLine) (hP : P M)
    (hs : ∀ (i : Nat) (x : α) (E' : D → MS → Prop) (N : MS → Prop), l[i]? = some x → (p x = true → E' (f x) M) → (p x = false → N M) → g (e x) (dwipe ρ vs) M fun ρ' M' => tt ρ' M' fun b M2 => if b = true then te ρ' M2 E' else N M2)
    (hE : E ((l.filter p).map f) M) : lcV (l.map e) P g tt te vs ρ M E := by
  refine ⟨fun i acc M' => M' = M ∧ acc = ((l.take i).filter p).map f, ⟨rfl, by simp⟩, fun i acc M' _ h => by rw [h.1]; exact hP, fun i x acc M' hx h => ?_, fun acc M' h => ?_⟩
  · obtain ⟨rfl, rfl⟩ := h
    rw [List.getElem?_map, Option.map_eq_some_iff] at hx
    obtain ⟨y, h1, rfl⟩ := hx
    have e1 : l.take (i + 1) = l.take i ++ [y] := by rw [List.take_add_one, h1]; rfl
    refine hs i y _ (fun M2 => M2 = M' ∧ ((l.take i).filter p).map f = ((l.take (i + 1)).filter p).map f) h1 (fun hp => ⟨?_, rfl, ?_⟩) (fun hp => ⟨rfl, ?_⟩)
    · have hi : i < l.length := (List.getElem?_eq_some_iff.mp h1).1
      have h2 : (((l.take i).filter p).map f).length ≤ i := by
        rw [List.length_map]
        exact Nat.le_trans (List.length_filter_le _ _) (by rw [List.length_take]; omega)
      omega
    · rw [e1, List.filter_append, List.map_append]
      simp [hp]
    · rw [e1, List.filter_append, List.map_append]
      simp [hp]
  · obtain ⟨rfl, rfl⟩ := h
    rw [List.length_map, List.take_length]
    exact hE
theorem lc_typed1 {α : Type} {e : α → D} (l : List α) {P : MS → Prop} {g : TDG} {te : TDE} {vs : List Nat} {ρ : DEnv} {M : MS} {E : List D → MS → Prop} (f : α → D) (hl : l.length ≤ sizeLine) (hP : P M)
    (hs : ∀ (i : Nat) (x : α) (E' : D → MS → Prop), l[i]? = some x → E' (f x) M → g (e x) (dwipe ρ vs) M fun ρ' M' => te ρ' M' E')
    (hE : E (l.map f) M) : lcV (l.map e) P g dYes te vs ρ M E := by
  refine lc_typed l (fun _ => true) f hl hP (fun i x E' N hx h1 h2 => ?_) (by rw [List.filter_eq_self.mpr (fun _ _ => rfl)]; exact hE)
  exact hs i x E' hx (h1 rfl)
/-- the same with a state that goes along: Inv of the turn, of the items made, of what may change -/
theorem lc_inv {α : Type} {e : α → D} (l : List α) {P : MS → Prop} {g : TDG} {tt : TDT} {te : TDE} {vs : List Nat} {ρ : DEnv} {M : MS} {E : List D → MS → Prop} (W : Nat → List D → MS → Prop) (h0 : W 0 [] M) (hP : ∀ i acc M, i ≤ l.length → W i acc M → P M)
    (hs : ∀ i x acc M, l[i]? = some x → W i acc M → g (e x) (dwipe ρ vs) M fun ρ' M' => tt ρ' M' fun b M2 => if b = true then te ρ' M2 fun d M3 => acc.length < sizeLine ∧ W (i + 1) (acc ++ [d]) M3 else W (i + 1) acc M2)
    (hd : ∀ acc M, W l.length acc M → E acc M) : lcV (l.map e) P g tt te vs ρ M E := by
  refine ⟨W, h0, fun i ρ M hi => hP i ρ M (by rw [List.length_map] at hi; exact hi), fun i x acc M hx h => ?_, fun acc M h => hd acc M (by rw [List.length_map] at h; exact h)⟩
  rw [List.getElem?_map, Option.map_eq_some_iff] at hx
  obtain ⟨y, h1, rfl⟩ := hx
  exact hs i y acc M h1 h
theorem range_get {n i x : Nat} (h : (List.range n)[i]? = some x) : x = i ∧ i < n := by
  obtain ⟨h1, h2⟩ := List.getElem?_eq_some_iff.mp h
  rw [List.length_range] at h1
  rw [List.getElem_range] at h2
  exact ⟨h2.symm, h1⟩
theorem small_line {n : Nat} (h : n ≤ 1000000) : n ≤ sizeLine := Nat.le_trans h (by decide)
theorem small_line' {n : Nat} (h : n ≤ 1000000) : n < sizeLine := Nat.lt_of_le_of_lt h (by decide)
end DL

/-! DS1: hash tables of sets, larger masks. -/
namespace DSet
open PySem PySem.Spec PyProof.Rows L2

/-- on the way of each hash each slot begins a run early enough -/
def Full (m : Nat) : Prop := m % 2 = 1 ∧ m ≤ 511 ∧ ∀ (h : Int) (j : Nat), j ≤ m → ∃ n, n ≤ m + 12 ∧ runI m (SetTable.bits h) n = j
theorem full_of {m : Nat} (h : MaskOk m) : Full m := ⟨mask_odd h, by rcases h with e | e | e <;> omega, fun z j hj => run_meets h z hj⟩

/-! #### mask 511 -/
def orb : Nat → Nat → List Nat
  | 0, _ => []
  | n + 1, x => x :: orb n ((x * 5 + 1) % 512)
theorem orb_get : ∀ (n x k : Nat), k < n → (orb n x)[k]? = some (lcgI 511 x k)
  | 0, _, _, h => absurd h (Nat.not_lt_zero _)
  | n + 1, x, 0, _ => rfl
  | n + 1, x, k + 1, h => by
    have ih := orb_get n ((x * 5 + 1) % 512) k (by omega)
    have sh : ∀ k x, lcgI 511 ((x * 5 + 1) % 512) k = lcgI 511 x (k + 1) := by
      intro k
      induction k with
      | zero => intro x; rfl
      | succ k ihk =>
        intro x
        show (lcgI 511 ((x * 5 + 1) % 512) k * 5 + 1) % (511 + 1) = (lcgI 511 x (k + 1) * 5 + 1) % (511 + 1)
        rw [ihk x]
    show (orb n ((x * 5 + 1) % 512))[k]? = _
    rw [ih, sh]
theorem orb_all : ((List.range 512).all fun j => (orb 512 0).contains j) = true := by decide +kernel
theorem orb_back : (orb 513 0)[512]? = some 0 := by decide +kernel
theorem meet511 {j : Nat} (hj : j ≤ 511) : ∃ b, b ≤ 511 ∧ lcgI 511 0 b = j := by
  have h := List.all_eq_true.mp orb_all j (List.mem_range.mpr (by omega))
  have h2 : j ∈ orb 512 0 := by simpa using h
  obtain ⟨b, hb⟩ := List.mem_iff_getElem?.mp h2
  have hl : b < 512 := by
    have q := (List.getElem?_eq_some_iff.mp hb).1
    have ln : ∀ n x, (orb n x).length = n := by
      intro n
      induction n with
      | zero => intro x; rfl
      | succ n ih => intro x; show (orb n _).length + 1 = _; rw [ih]
    rw [ln] at q
    exact q
  refine ⟨b, by omega, ?_⟩
  rw [orb_get 512 0 b hl] at hb
  exact Option.some.inj hb
theorem add511 (a : Nat) : ∀ k, lcgI 511 (lcgI 511 0 a) k = lcgI 511 0 (a + k)
  | 0 => rfl
  | k + 1 => by
    show (lcgI 511 (lcgI 511 0 a) k * 5 + 1) % (511 + 1) = (lcgI 511 0 (a + k) * 5 + 1) % (511 + 1)
    rw [add511 a k]
theorem round511 : lcgI 511 0 512 = 0 := by
  have h := orb_get 513 0 512 (by decide)
  rw [orb_back] at h
  exact (Option.some.inj h).symm
theorem around511 (k : Nat) : lcgI 511 0 (512 + k) = lcgI 511 0 k := by
  rw [← add511, round511]
theorem full511 : Full 511 := ⟨rfl, Nat.le_refl _, fun h j hj => by
  obtain ⟨a, ha, ea⟩ := meet511 (runI_le 511 (SetTable.bits h) 12)
  obtain ⟨b, hb, eb⟩ := meet511 hj
  have key : ∃ k, k ≤ 511 ∧ lcgI 511 (runI 511 (SetTable.bits h) 12) k = j := by
    rw [← ea]
    by_cases c : a ≤ b
    · exact ⟨b - a, by omega, by rw [add511, show a + (b - a) = b by omega, eb]⟩
    · exact ⟨b + 512 - a, by omega, by rw [add511, show a + (b + 512 - a) = 512 + b by omega, around511, eb]⟩
  obtain ⟨k, hk, e⟩ := key
  exact ⟨12 + k, by omega, by rw [runI_tail (bits_lt h)]; exact e⟩⟩

/-! #### tables -/
theorem meets {m : Nat} (hm : Full m) (h : Int) {j : Nat} (hj : j ≤ m) : ∃ k, k < 10 * SetTable.turns m ∧ way m h k = j := by
  obtain ⟨n, hn, e⟩ := hm.2.2 h j hj
  obtain ⟨k, hk, e2⟩ := run_nth m (SetTable.bits h) n
  refine ⟨k, by unfold SetTable.turns; omega, ?_⟩
  unfold way
  rw [e2]
  exact e
theorem wayLe (m : Nat) (h : Int) (k : Nat) : way m h k ≤ m := by
  have i0 : SetTable.bits h % (m + 1) ≤ m := Nat.le_of_lt_succ (Nat.mod_lt _ (Nat.succ_pos _))
  have r := runEnd_bd i0
  have q := nth_in (m := m) k (runAt m (SetTable.bits h % (m + 1)) (SetTable.bits h)) (by
    show SetTable.bits h % (m + 1) + (SetTable.runEnd m (SetTable.bits h % (m + 1)) - SetTable.bits h % (m + 1)) ≤ m
    omega)
  unfold way
  omega
structure Tb (t : SetTable) (hs : List Int) : Prop where
  ris : Ris t.place.toList
  dm : t.dummies = #[]
  sz : t.place.size = hs.length
  full : Full t.mask
  bd : ∀ x ∈ t.place.toList, x ≤ t.mask
  reach : ∀ (i : Nat) (h : Int) (j : Nat), hs[i]? = some h → t.place.toList[i]? = some j → ∃ k, way t.mask h k = j ∧ ∀ k', k' < k → way t.mask h k' ∈ t.place.toList
theorem Tb.first {t : SetTable} {hs : List Int} (T : Tb t hs) (room : hs.length ≤ t.mask) (h : Int) :
    ∃ N, N < 10 * SetTable.turns t.mask ∧ way t.mask h N ∉ t.place.toList ∧ ∀ k, k < N → way t.mask h k ∈ t.place.toList := by
  obtain ⟨j, hj, out⟩ := st_missing t.place.toList (t.mask + 1) (by rw [Array.length_toList, T.sz]; omega)
  obtain ⟨k, hk, e⟩ := meets T.full h (Nat.le_of_lt_succ hj)
  obtain ⟨N, h1, h2, h3⟩ := st_least (p := fun k => way t.mask h k ∉ t.place.toList) k (by show way t.mask h k ∉ _; rw [e]; exact out)
  exact ⟨N, Nat.lt_of_le_of_lt h1 hk, h2, fun q hq => Classical.not_not.mp (h3 q hq)⟩
theorem Tb.ahead {t : SetTable} {hs : List Int} (T : Tb t hs) {h : Int} {N i j : Nat} (hN : way t.mask h N ∉ t.place.toList) (hi : hs[i]? = some h) (hj : t.place.toList[i]? = some j) : ∃ k, k < N ∧ way t.mask h k = j := by
  obtain ⟨k, e, before⟩ := T.reach i h j hi hj
  refine ⟨k, Nat.lt_of_not_le fun c => ?_, e⟩
  rcases Nat.lt_or_eq_of_le c with c | c
  · exact hN (before N c)
  · rw [c, e] at hN
    exact hN (List.mem_of_getElem? hj)
theorem Tb.put {t : SetTable} {hs : List Int} (T : Tb t hs) {h : Int} {N : Nat} (hN : way t.mask h N ∉ t.place.toList) (hb : ∀ k, k < N → way t.mask h k ∈ t.place.toList) {q : Nat} (hq : q = SetTable.below t.place (way t.mask h N)) :
    (t.put (way t.mask h N)).2 = q ∧ q ≤ hs.length ∧ Tb (t.put (way t.mask h N)).1 (hs.take q ++ h :: hs.drop q) ∧ (t.put (way t.mask h N)).1.mask = t.mask ∧ (t.put (way t.mask h N)).1.led = t.led ∧ (t.put (way t.mask h N)).1.fill = hs.length + 1 := by
  have up1 := wayLe t.mask h N
  obtain ⟨j, hj⟩ : ∃ j, j = way t.mask h N := ⟨_, rfl⟩
  rw [← hj] at hN up1 hq ⊢
  have cut := (below_cut T.ris j).1
  rw [← hq] at cut
  have l1 : q ≤ hs.length := by rw [← T.sz]; exact cut
  have l2 : q ≤ t.place.toList.length := by rw [Array.length_toList]; exact cut
  have pp := put_place t j
  rw [← hq] at pp
  have grow : ∀ {x : Nat}, x ∈ t.place.toList → x ∈ (t.put j).1.place.toList := fun hx => by rw [pp]; exact mem_ins.2 (.inr hx)
  have size : (t.put j).1.place.size = hs.length + 1 := by
    rw [← Array.length_toList, pp, len_ins _ l2, Array.length_toList, T.sz]
  have dm := put_dm T.dm j
  refine ⟨hq.symm, l1, ⟨?_, dm, by rw [len_ins _ l1]; exact size, T.full, fun x hx => ?_, fun i h' j' h1 h2 => ?_⟩, rfl, rfl, ?_⟩
  · exact ris_insert T.ris fun e => hN (List.mem_of_getElem? (by rw [Array.getElem?_toList]; exact e))
  · rw [pp] at hx
    rcases mem_ins.1 hx with z | z
    · rw [z]; exact up1
    · exact T.bd x z
  · rw [tins_get hs l1] at h1
    rw [pp, tins_get _ l2] at h2
    have old : ∀ i, hs[i]? = some h' → t.place.toList[i]? = some j' → ∃ k, way (t.put j).1.mask h' k = j' ∧ ∀ k', k' < k → way (t.put j).1.mask h' k' ∈ (t.put j).1.place.toList := fun i a b => by
      obtain ⟨k, e, z⟩ := T.reach i h' j' a b
      exact ⟨k, e, fun k' hk' => grow (z k' hk')⟩
    by_cases c : i < q
    · rw [if_pos c] at h1 h2
      exact old i h1 h2
    · rw [if_neg c] at h1 h2
      by_cases d : i = q
      · rw [if_pos d] at h1 h2
        cases h1; cases h2
        exact ⟨N, hj.symm, fun k' hk' => grow (hb k' hk')⟩
      · rw [if_neg d] at h1 h2
        exact old (i - 1) h1 h2
  · show (t.put j).1.place.size + (t.put j).1.dummies.size = _
    rw [size, dm]; rfl

/-! #### a table laid anew -/
theorem slot_free {m : Nat} (hm : Full m) (owner : Array (Option Nat)) (h : Int) {j : Nat} (hj : j ≤ m) (hf : oAt owner j = none) :
    ∃ N, SetTable.layClean.free m owner (SetTable.turns m) (SetTable.bits h % (m + 1)) (SetTable.bits h) = some (way m h N) ∧ oAt owner (way m h N) = none ∧ ∀ k, k < N → oAt owner (way m h k) ≠ none := by
  obtain ⟨n, hn, e⟩ := hm.2.2 h j hj
  obtain ⟨o, ho⟩ : ∃ o, o = off m (SetTable.bits h % (m + 1)) (SetTable.bits h) n := ⟨_, rfl⟩
  have hw : way m h o = j := by
    unfold way
    rw [ho, nth_off, itL_run]
    exact e
  obtain ⟨N, k1, k2, k3⟩ := st_least (p := fun k => oAt owner (way m h k) = none) o (by show oAt owner (way m h o) = none; rw [hw]; exact hf)
  have some_of : ∀ x : Option Nat, x ≠ none → x.isNone = false := fun x hx => by cases x with
    | none => exact absurd rfl hx
    | some _ => rfl
  refine ⟨N, ?_, k2, k3⟩
  exact free_spec m owner (SetTable.turns m) n _ _ N (by unfold SetTable.turns; omega) (by rw [← ho]; exact k1) (fun k hk => some_of _ (k3 k hk)) (by rw [show oAt owner (nth m (runAt m (SetTable.bits h % (m + 1)) (SetTable.bits h)) N).j = none from k2]; rfl)
theorem own_step {m : Nat} (hm : Full m) {done : List Int} {owner : Array (Option Nat)} (W : Own m done owner) (hl : done.length ≤ m) (h : Int) :
    ∃ j, SetTable.layClean.free m owner (SetTable.turns m) (SetTable.bits h % (m + 1)) (SetTable.bits h) = some j ∧ Own m (done ++ [h]) (owner.setIfInBounds j (some done.length)) := by
  obtain ⟨ps, hps, hin⟩ := W.ps
  obtain ⟨j0, h0, hn0⟩ := st_missing ps (m + 1) (by omega)
  have free0 : oAt owner j0 = none := Classical.not_not.mp fun z => hn0 (hin j0 (Nat.le_of_lt_succ h0) z)
  obtain ⟨N, e1, e2, e3⟩ := slot_free hm owner h (Nat.le_of_lt_succ h0) free0
  obtain ⟨j, hj⟩ : ∃ j, j = way m h N := ⟨_, rfl⟩
  have jm : j ≤ m := by rw [hj]; exact wayLe m h N
  rw [← hj] at e1 e2
  have js : j < owner.size := by rw [W.sz]; omega
  have self := oAt_set_self (some done.length) js
  have mono : ∀ {i : Nat}, oAt owner i ≠ none → oAt (owner.setIfInBounds j (some done.length)) i ≠ none := fun {i} hi => by
    by_cases c : i = j
    · rw [c, self]; exact fun e => nomatch e
    · rw [oAt_set_ne _ c]; exact hi
  refine ⟨j, e1, ⟨by rw [Array.size_setIfInBounds]; exact W.sz, fun i k hi e => ?_, fun k hk => ?_, ⟨j :: ps, by simp [hps], fun i hi e => ?_⟩⟩⟩
  · by_cases c : i = j
    · subst c
      rw [self] at e
      cases e
      exact ⟨h, N, by simp, hj.symm, fun k' hk' => mono (e3 k' hk')⟩
    · rw [oAt_set_ne _ c] at e
      obtain ⟨h', N', a1, a2, a3⟩ := W.at_ i k hi e
      exact ⟨h', N', by rw [List.getElem?_append_left (List.getElem?_eq_some_iff.mp a1).1]; exact a1, a2, fun k' hk' => mono (a3 k' hk')⟩
  · by_cases c : k < done.length
    · obtain ⟨i, hi, e⟩ := W.all k c
      exact ⟨i, hi, by rw [oAt_set_ne _ (fun z => by rw [z, e2] at e; cases e)]; exact e⟩
    · have : k = done.length := by simp at hk; omega
      subst this
      exact ⟨j, jm, self⟩
  · by_cases c : i = j
    · rw [c]; exact List.mem_cons_self
    · rw [oAt_set_ne _ c] at e
      exact List.mem_cons_of_mem _ (hin i hi e)
theorem own_fold {m : Nat} (hm : Full m) : ∀ (rest done : List Int) (owner : Array (Option Nat)), Own m done owner → done.length + rest.length ≤ m →
    ∃ owner', rest.foldl (stepF m) (some (owner, done.length)) = some (owner', (done ++ rest).length) ∧ Own m (done ++ rest) owner'
  | [], done, owner, W, _ => ⟨owner, by simp, by simpa using W⟩
  | h :: rest, done, owner, W, hl => by
    simp only [List.length_cons] at hl
    obtain ⟨j, e, W'⟩ := own_step hm W (by omega) h
    obtain ⟨owner', f, W2⟩ := own_fold hm rest (done ++ [h]) _ W' (by simp; omega)
    refine ⟨owner', ?_, by simpa using W2⟩
    rw [List.foldl_cons, stepF_some e]
    simpa using f
theorem lay_ok {m : Nat} (hm : Full m) {hs : Array Int} (hn : hs.size ≤ m) : ∃ owner, SetTable.layClean m hs = some owner ∧ Own m hs.toList owner := by
  obtain ⟨owner, f, W⟩ := own_fold hm hs.toList [] _ (Own.init m) (by simpa using hn)
  simp only [List.nil_append, List.length_nil] at f W
  exact ⟨owner, by rw [layClean_eq, f]; rfl, W⟩
theorem relaid_tb (t : SetTable) {hs : Array Int} {wanted m : Nat} (hw : SetTable.sizeAbove wanted - 1 = m) (hm : Full m) (hn : hs.size ≤ m) :
    ∃ t' order, t.relaid hs wanted = some (t', order) ∧ order.toList.Perm (List.range hs.size) ∧ Tb t' (order.toList.map fun i => hs.getD i 0) ∧ t'.mask = m ∧ t'.led = t.led := by
  obtain ⟨owner, e, W⟩ := lay_ok hm hn
  have hr : t.relaid hs wanted = some (tabOf t m owner, ((liveOf m owner).map (·.2)).toArray) := by
    rw [relaid_eq, hw, e]; rfl
  have rl : Ris (List.range (m + 1)) := by
    unfold Ris
    first | exact List.pairwise_lt_range | exact List.pairwise_lt_range _
  obtain ⟨r1, r2⟩ := ris_live (fun j => owner.getD j none) (List.range (m + 1)) rl
  have r1 : Ris ((liveOf m owner).map (·.1)) := r1
  have r2 : ∀ x ∈ (liveOf m owner).map (·.1), x ∈ List.range (m + 1) := r2
  have nd : ((liveOf m owner).map (·.1)).Nodup := List.Pairwise.imp (fun h => Nat.ne_of_lt h) r1
  have len : (liveOf m owner).length = hs.size := by
    obtain ⟨ps, p1, p2⟩ := W.ps
    have a := nat_nodup_len ((liveOf m owner).map (·.1)) ps nd fun x hx => by
      obtain ⟨⟨y, k⟩, hq, rfl⟩ := List.mem_map.mp hx
      obtain ⟨b1, b2⟩ := (mem_live W.sz).1 hq
      exact p2 y b1 (by rw [b2]; exact fun z => nomatch z)
    have b := nat_nodup_len (List.range hs.size) ((liveOf m owner).map (·.2)) List.nodup_range fun k hk => by
      obtain ⟨j, b1, b2⟩ := W.all k (by rw [Array.length_toList]; exact List.mem_range.mp hk)
      exact List.mem_map.mpr ⟨(j, k), (mem_live W.sz).2 ⟨b1, b2⟩, rfl⟩
    simp only [List.length_map, List.length_range, p1, Array.length_toList] at a b
    omega
  refine ⟨_, _, hr, perm_range hs.size _ (by simpa using len) fun k hk => ?_, ⟨r1, rfl, ?_, hm, fun x hx => Nat.le_of_lt_succ (List.mem_range.mp (r2 x hx)), fun i h j h1 h2 => ?_⟩, rfl, rfl⟩
  · obtain ⟨j, b1, b2⟩ := W.all k (by rw [Array.length_toList]; exact hk)
    exact List.mem_map.mpr ⟨(j, k), (mem_live W.sz).2 ⟨b1, b2⟩, rfl⟩
  · show ((liveOf m owner).map (·.1)).toArray.size = (((liveOf m owner).map (·.2)).map fun i => hs.getD i 0).length
    simp
  · have h1 : (((liveOf m owner).map (·.2)).map fun i => hs.getD i 0)[i]? = some h := h1
    have h2 : ((liveOf m owner).map (·.1))[i]? = some j := h2
    simp only [List.getElem?_map] at h1 h2
    cases hq : (liveOf m owner)[i]? with
    | none => rw [hq] at h2; cases h2
    | some q =>
      obtain ⟨y, k⟩ := q
      rw [hq] at h1 h2
      have ej : y = j := Option.some.inj h2
      have eh : hs.getD k 0 = h := Option.some.inj h1
      subst ej
      obtain ⟨b1, b2⟩ := (mem_live W.sz).1 (List.mem_of_getElem? hq)
      obtain ⟨h0, N, a1, a2, a3⟩ := W.at_ y k b1 b2
      have e0 : hs.getD k 0 = h0 := by rw [Array.getD_eq_getD_getElem?, ← Array.getElem?_toList, a1]; rfl
      rw [e0] at eh
      subst eh
      refine ⟨N, a2, fun k' hk' => ?_⟩
      show way m h0 k' ∈ (liveOf m owner).map (·.1)
      cases z : oAt owner (way m h0 k') with
      | none => exact absurd z (a3 k' hk')
      | some k2 => exact List.mem_map.mpr ⟨(way m h0 k', k2), (mem_live W.sz).2 ⟨wayLe m h0 k', z⟩, rfl⟩
theorem sizes : SetTable.sizeAbove (SetTable.grown 5) = 32 ∧ SetTable.sizeAbove (SetTable.grown 19) = 128 ∧ SetTable.sizeAbove (SetTable.grown 77) = 512 := by decide +kernel
end DSet

/-! DS2: sets whose members are nested tuples. -/
namespace DSet
open PySem PySem.Spec PyProof.Rows L2
abbrev Ent := Addr × NestedKey
abbrev eh (w : World) (p : Ent) : Int := p.2.hash w
/-- the tuple at p.1 is the key p.2 -/
def IsN (h : Heap) (p : Ent) : Prop := NestedIs h p.2 (.ref p.1) ∧ p.2.depth ≤ 8
theorem IsN.kind {P : Program} {w : World} {h : Heap} {p : Ent} (x : IsN h p) : (nestedKind P w).is h p.2 p.1 := x

section
variable {P : Program} {w : World} {A : Around} {E : Value → Shared → Prop} {s : Shared}
theorem tupOb {h : Heap} {p : Ent} (x : IsN h p) : ∃ o vs n ks, h.get? p.1 = some o ∧ o.cls = .type "tuple" ∧ o.data = .seq vs n ∧ p.2 = .tup ks ∧ NestedAll h ks vs.toList := by
  obtain ⟨x, _⟩ := x
  obtain ⟨a, k⟩ := p
  cases x with
  | tup h1 h2 h3 h4 => exact ⟨_, _, _, _, h1, h2, h3, rfl, h4⟩
/-- no class statement within -/
def NoCls (P : Program) (w : World) (n : Nat) (s : Shared) (v : Value) : Prop := ∀ (A : Around) (E : Value → Shared → Prop) (Q : Bool → Shared → Prop), Q false s → wpAny (model P w) A (ofAClassStatement n v) Q E s
/-- hash by value: told, whatever it is -/
def HashB (P : Program) (w : World) (n : Nat) (s : Shared) (v : Value) : Prop := ∃ b, ∀ (A : Around) (E : Value → Shared → Prop) (Q : Bool → Shared → Prop), Q b s → wpAny (model P w) A (hashByValue n v) Q E s
theorem noCls_plain {n : Nat} {v : Value} (h : ∀ a, v ≠ .ref a) : NoCls P w n s v := fun A E Q q => by
  have e : ofAClassStatement n v = pure false := by
    cases v with
    | ref a => exact absurd rfl (h a)
    | _ => cases n <;> rfl
  rw [e]
  exact wpAny_pure q
theorem noCls_tup {n : Nat} {a : Addr} {o : Obj} {vs : Array Value} {m : Nat} (ho : s.heap.get? a = some o) (hc : o.cls = .type "tuple") (hd : o.data = .seq vs m) (hq : ∀ v ∈ vs.toList, NoCls P w n s v) : NoCls P w (n + 1) s (.ref a) := fun A E Q q => by
  have hT : s.TypeIs (.ref a) "tuple" := ⟨o, ho, hc⟩
  unfold ofAClassStatement
  refine wpAny_bind (wpAny_typeOf hT ?_)
  dsimp only
  have e : (("tuple" : String) == "tuple") = true := by decide
  simp only [e, if_true, Bool.not_true, Bool.false_eq_true, if_false]
  try refine wpAny_bind (wpAny_pure ?_)
  try simp only [Bool.not_true, Bool.false_eq_true, if_false]
  show wpAny _ _ (seqItems? (.ref a) >>= _) _ _ s
  refine wpAny_bind (wpAny_seqItems ho hd ?_)
  dsimp only
  refine wpAny_bind ?_
  show wpAny _ _ (forIn vs _ _) _ _ s
  rw [← Array.forIn_toList]
  refine wpAny_forIn_list _ (fun left r z => r.1 = none ∧ z = s ∧ ∀ v ∈ left, NoCls P w n s v) _ ?_ ?_ _ _ ⟨rfl, rfl, hq⟩
  · rintro v left r z ⟨e1, rfl, all⟩
    refine wpAny_bind (all v List.mem_cons_self _ _ _ ?_)
    simp only [Bool.false_eq_true, if_false]
    exact wpAny_pure ⟨rfl, rfl, fun u hu => all u (List.mem_cons_of_mem _ hu)⟩
  · rintro ⟨r1, r2⟩ z ⟨e1, rfl, _⟩
    simp only at e1
    subst e1
    exact wpAny_pure q
theorem hashB_plain {n : Nat} {v : Value} (h : ∀ a, v ≠ .ref a) : HashB P w n s v := by
  cases v with
  | ref a => exact absurd rfl (h a)
  | _ => first
    | exact ⟨true, fun A E Q q => by
        unfold hashByValue
        exact wpAny_pure q⟩
    | exact ⟨false, fun A E Q q => by
        unfold hashByValue
        exact wpAny_pure q⟩
    | exact ⟨_, fun A E Q q => by
        unfold hashByValue
        exact wpAny_pure q⟩
theorem hashB_tup0 {a : Addr} : HashB P w 0 s (.ref a) := ⟨false, fun A E Q q => by
  unfold hashByValue
  exact wpAny_pure q⟩
theorem hashB_tup {n : Nat} {a : Addr} {o : Obj} {vs : Array Value} {m : Nat} (ho : s.heap.get? a = some o) (hc : o.cls = .type "tuple") (hd : o.data = .seq vs m) (hq : ∀ v ∈ vs.toList, HashB P w n s v) : HashB P w (n + 1) s (.ref a) := by
  have hT : s.TypeIs (.ref a) "tuple" := ⟨o, ho, hc⟩
  -- what the walk over the items tells
  have go : ∀ l : List Value, (∀ v ∈ l, HashB P w n s v) → ∃ b : Bool, ∀ v, v ∈ l → ∀ b', (∀ (A : Around) (E : Value → Shared → Prop) (Q : Bool → Shared → Prop), Q b' s → wpAny (model P w) A (hashByValue n v) Q E s) → True := fun l _ => ⟨true, fun _ _ _ _ => trivial⟩
  rcases Classical.em (∀ v ∈ vs.toList, ∀ (A : Around) (E : Value → Shared → Prop) (Q : Bool → Shared → Prop), Q true s → wpAny (model P w) A (hashByValue n v) Q E s) with c | c
  · refine ⟨true, fun A E Q q => ?_⟩
    unfold hashByValue
    refine wpAny_bind (wpAny_specialOf hT F.slot_tuple_hash.lookup ?_)
    show wpAny _ _ (seqItems? (.ref a) >>= _) _ _ s
    refine wpAny_bind (wpAny_seqItems ho hd ?_)
    refine wpAny_bind ?_
    show wpAny _ _ (forIn vs _ _) _ _ s
    rw [← Array.forIn_toList]
    refine wpAny_forIn_list _ (fun left r z => r.1 = none ∧ z = s ∧ ∀ v ∈ left, v ∈ vs.toList) _ ?_ ?_ _ _ ⟨rfl, rfl, fun _ h => h⟩
    · rintro v left r z ⟨e1, rfl, all⟩
      refine wpAny_bind (c v (all v List.mem_cons_self) _ _ _ ?_)
      simp only [Bool.not_true, Bool.false_eq_true, if_false]
      exact wpAny_pure ⟨rfl, rfl, fun u hu => all u (List.mem_cons_of_mem _ hu)⟩
    · rintro ⟨r1, r2⟩ z ⟨e1, rfl, _⟩
      simp only at e1
      subst e1
      exact wpAny_pure q
  · refine ⟨false, fun A E Q q => ?_⟩
    unfold hashByValue
    refine wpAny_bind (wpAny_specialOf hT F.slot_tuple_hash.lookup ?_)
    show wpAny _ _ (seqItems? (.ref a) >>= _) _ _ s
    refine wpAny_bind (wpAny_seqItems ho hd ?_)
    refine wpAny_bind ?_
    show wpAny _ _ (forIn vs _ _) _ _ s
    rw [← Array.forIn_toList]
    refine wpAny_forIn_list _ (fun left r z => (r.1 = none ∧ z = s ∧ (∀ v ∈ left, HashB P w n s v) ∧ ¬ ∀ v ∈ left, ∀ (A : Around) (E : Value → Shared → Prop) (Q : Bool → Shared → Prop), Q true s → wpAny (model P w) A (hashByValue n v) Q E s)) _ ?_ ?_ _ _ ⟨rfl, rfl, hq, c⟩
    · rintro v left r z ⟨e1, rfl, all, no⟩
      obtain ⟨b, hb⟩ := all v List.mem_cons_self
      refine wpAny_bind (hb _ _ _ ?_)
      cases b with
      | true =>
        simp only [Bool.not_true, Bool.false_eq_true, if_false]
        refine wpAny_pure ⟨rfl, rfl, fun u hu => all u (List.mem_cons_of_mem _ hu), fun z => no fun u hu => ?_⟩
        rcases List.mem_cons.mp hu with e | hu
        · rw [e]; exact hb
        · exact z u hu
      | false =>
        simp only [Bool.not_false, if_true]
        first
          | exact wpAny_pure q
          | exact wpAny_bind (wpAny_pure (wpAny_pure (wpAny_pure q)))
          | exact wpAny_pure (wpAny_pure q)
    · rintro ⟨r1, r2⟩ z ⟨e1, rfl, _, no⟩
      exact absurd (fun v hv => nomatch hv) no
mutual
theorem noCls_key : ∀ (k : NestedKey) (v : Value) (n : Nat) (s : Shared), NestedIs s.heap k v → k.depth ≤ n → NoCls P w n s v
  | .none, _, n, s, x, _ => by cases x; exact noCls_plain fun a e => nomatch e
  | .num i, _, n, s, x, _ => by cases x <;> exact noCls_plain fun a e => nomatch e
  | .text y, _, n, s, x, _ => by cases x; exact noCls_plain fun a e => nomatch e
  | .tup ks, _, n, s, x, hn => by
    cases x with
    | tup hg hc hd hk =>
      simp only [NestedKey.depth] at hn
      cases n with
      | zero => omega
      | succ n => exact noCls_tup hg hc hd (noCls_keys ks _ n s hk (by omega))
theorem noCls_keys : ∀ (ks : List NestedKey) (vs : List Value) (n : Nat) (s : Shared), NestedAll s.heap ks vs → NestedKey.depthAll ks ≤ n → ∀ v ∈ vs, NoCls P w n s v
  | [], _, n, s, x, _, v, hv => by cases x; cases hv
  | k :: ks, _, n, s, x, hn, v, hv => by
    cases x with
    | cons x1 x2 =>
      simp only [NestedKey.depthAll] at hn
      rcases List.mem_cons.mp hv with e | hv
      · rw [e]; exact noCls_key k _ n s x1 (by omega)
      · exact noCls_keys ks _ n s x2 (by omega) v hv
end
mutual
theorem hashB_key : ∀ (k : NestedKey) (v : Value) (n : Nat) (s : Shared), NestedIs s.heap k v → HashB P w n s v
  | .none, _, n, s, x => by cases x; exact hashB_plain fun a e => nomatch e
  | .num i, _, n, s, x => by cases x <;> exact hashB_plain fun a e => nomatch e
  | .text y, _, n, s, x => by cases x; exact hashB_plain fun a e => nomatch e
  | .tup ks, _, n, s, x => by
    cases x with
    | tup hg hc hd hk =>
      cases n with
      | zero => exact hashB_tup0
      | succ n => exact hashB_tup hg hc hd (hashB_keys ks _ n s hk)
theorem hashB_keys : ∀ (ks : List NestedKey) (vs : List Value) (n : Nat) (s : Shared), NestedAll s.heap ks vs → ∀ v ∈ vs, HashB P w n s v
  | [], _, n, s, x, v, hv => by cases x; cases hv
  | k :: ks, _, n, s, x, v, hv => by
    cases x with
    | cons x1 x2 =>
      rcases List.mem_cons.mp hv with e | hv
      · rw [e]; exact hashB_key k _ n s x1
      · exact hashB_keys ks _ n s x2 v hv
end
/-- a search among tuples shows nothing -/
theorem unseen {p : Ent} {Q : Bool → Shared → Prop} (hp : IsN s.heap p) {ys : List Value} (hy : ∀ y ∈ ys, ∃ q : Ent, y = Value.ref q.1 ∧ IsN s.heap q) (h : Q false s) : wpAny (model P w) A (searchCouldBeSeen (.ref p.1) ys) Q E s := by
  unfold searchCouldBeSeen
  refine wpAny_bind ?_
  refine wpAny_forIn_list _ (fun left r z => r.1 = none ∧ z = s ∧ ∀ y ∈ left, ∃ q : Ent, y = Value.ref q.1 ∧ IsN s.heap q) _ ?_ ?_ _ _ ⟨rfl, rfl, hy⟩
  · rintro v left r z ⟨e1, rfl, all⟩
    obtain ⟨q, rfl, hq⟩ := all v List.mem_cons_self
    have more : ∀ y ∈ left, ∃ q : Ent, y = Value.ref q.1 ∧ IsN z.heap q := fun u hu => all u (List.mem_cons_of_mem _ hu)
    dsimp only
    by_cases hv : (p.1 == q.1 || (carriedByValue (.ref p.1) && carriedByValue (.ref q.1))) = true
    · exact wp_if_pos hv (wpAny_pure ⟨rfl, rfl, more⟩)
    · refine wp_if_neg hv ?_
      refine wpAny_bind (quiet_key _ _ 8 _ hp.1 hp.2 _ _ _ ?_)
      simp only [Bool.not_true, Bool.false_eq_true, if_false]
      refine wpAny_bind (quiet_key _ _ 8 _ hq.1 hq.2 _ _ _ ?_)
      simp only [Bool.not_true, Bool.false_eq_true, if_false]
      refine wpAny_bind (noCls_key _ _ 8 _ hp.1 hp.2 _ _ _ ?_)
      simp only [Bool.false_eq_true, if_false]
      refine wpAny_bind (noCls_key _ _ 8 _ hq.1 hq.2 _ _ _ ?_)
      simp only [Bool.false_eq_true, if_false]
      exact wpAny_pure ⟨rfl, rfl, more⟩
  · rintro ⟨r1, r2⟩ z ⟨e1, rfl, _⟩
    simp only at e1
    subst e1
    exact wpAny_pure h

/-! #### the set -/
def ents (w : World) (L : List Ent) : List (Int × Value) := L.map fun p => (eh w p, Value.ref p.1)
structure SetN (w : World) (h : Heap) (a : Addr) (L : List Ent) (es : Array (Int × Value)) (ep : Nat) (t : SetTable) : Prop where
  ob : ∃ o, h.get? a = some o ∧ o.ExactSet ∧ o.data = .set es ep t
  rows : es.toList = ents w L
  tab : Tb t (L.map (eh w))
  nd : (L.map (·.2)).Nodup
  tup : ∀ p ∈ L, IsN h p
  led : w.params.followText "set-order" = true ∨ t.led = true
  msk : t.mask = 7 ∨ t.mask = 31 ∨ t.mask = 127 ∨ t.mask = 511
  room : L.length * 5 < t.mask * 3
variable {a : Addr} {L : List Ent} {es : Array (Int × Value)} {ep : Nat} {t : SetTable}
theorem SetN.size (R : SetN w s.heap a L es ep t) : es.size = L.length := by
  have h := congrArg List.length R.rows
  unfold ents at h
  simpa using h
theorem fits_of {n : Nat} (h1 : t.place.size = n) (h2 : t.dummies = #[]) (h3 : n ≤ t.mask) : t.fits n = true := by
  unfold SetTable.fits SetTable.fill
  rw [h2, Bool.and_eq_true, beq_iff_eq, decide_eq_true_eq]
  show t.place.size = n ∧ t.place.size + 0 ≤ t.mask
  omega
theorem SetN.fits (R : SetN w s.heap a L es ep t) : t.fits es.size = true := by
  have h1 := R.tab.sz
  rw [List.length_map] at h1
  have h3 := R.room
  exact fits_of (by rw [R.size, h1]) R.tab.dm (by rw [R.size]; omega)
theorem SetN.entry (R : SetN w s.heap a L es ep t) {i : Nat} {p : Ent} (h : L[i]? = some p) : es[i]? = some (eh w p, Value.ref p.1) := by
  rw [← Array.getElem?_toList, R.rows]
  unfold ents
  rw [List.getElem?_map, h]; rfl
theorem SetN.gw (R : SetN w s.heap a L es ep t) : ¬ t.gaveWay = true := by
  unfold SetTable.gaveWay
  rw [R.tab.full.1]
  decide
theorem dummy_none (m : Nat) : ∀ (n : Nat) (p : SetTable.Probe), p.dummy = none → (nth m p n).dummy = none
  | 0, _, h => h
  | n + 1, p, h => dummy_none m n (adv m p) (by unfold adv; split <;> exact h)

/-- the search -/
theorem find_from (R : SetN w s.heap a L es ep t) {x : Ent} (hx : IsN s.heap x) (hu : A.units + 8 < cLine) {N : Nat} (h1 : N < 10 * SetTable.turns t.mask)
    (h2 : way t.mask (eh w x) N ∉ t.place.toList) (h3 : ∀ c, c < N → way t.mask (eh w x) c ∈ t.place.toList) {Q : SetFound → Shared → Prop}
    (hin : x.2 ∈ L.map (·.2) → Q (.there none) s) (hout : x.2 ∉ L.map (·.2) → Q (.free (way t.mask (eh w x) N) false) s) :
    ∀ (f c : Nat) (stand : Option SetTable.Probe), stand.getD (t.probeStart (eh w x)) = nth t.mask (runAt t.mask (SetTable.bits (eh w x) % (t.mask + 1)) (SetTable.bits (eh w x))) c → c ≤ N → N - c < f →
      (∀ (i : Nat) p, L[i]? = some p → p.2 = x.2 → ∃ c', c ≤ c' ∧ c' < N ∧ t.place.toList[i]? = some (way t.mask (eh w x) c')) →
      wpAny (model P w) A (setSearchFrom a (.ref x.1) (eh w x) true f stand) Q E s := by
  intro f
  induction f with
  | zero => intro c stand _ _ hf; exact absurd hf (Nat.not_lt_zero _)
  | succ f ih =>
    intro c stand hst hc hf later
    obtain ⟨o, ho, hex, hd⟩ := R.ob
    obtain ⟨b0, hb0⟩ : ∃ b0, b0 = runAt t.mask (SetTable.bits (eh w x) % (t.mask + 1)) (SetTable.bits (eh w x)) := ⟨_, rfl⟩
    have wj : ∀ q, way t.mask (eh w x) q = (nth t.mask b0 q).j := fun q => by rw [hb0]
    rw [← hb0] at hst
    have sh : ∀ q, nth t.mask (nth t.mask b0 c) q = nth t.mask b0 (c + q) := fun q => (nth_add t.mask c _ q).symm
    have shj : ∀ q, (nth t.mask (nth t.mask b0 c) q).j = way t.mask (eh w x) (c + q) := fun q => by rw [sh, wj]
    have hashAt : ∀ (i : Nat) p, L[i]? = some p → (es[i]?.map (·.1)).getD 0 = eh w p := fun i p hp => by rw [R.entry hp]; rfl
    have spec := go_spec t R.tab.ris R.tab.dm (fun i => (es[i]?.map (·.1)).getD 0) (eh w x) (10 * SetTable.turns t.mask) (N - c) _ (dummy_none t.mask c b0 (by rw [hb0]; rfl)) (by omega)
      (fun q hq => by rw [shj]; exact h3 (c + q) (by omega)) (by rw [shj, show c + (N - c) = N by omega]; exact h2)
    rw [setSearchFrom_succ]
    refine wpAny_bind (wpAny_setState_of ho hd R.fits ?_)
    dsimp only
    refine wp_if_neg R.gw ?_
    try refine wpAny_bind (wpAny_pure ?_)
    rcases spec with ⟨q, i, hq, hi, hh, hno, hpr⟩ | ⟨hno, hpr⟩
    · rw [shj] at hi
      have hpr' : t.probe (fun i => (es[i]?.map (·.1)).getD 0) (eh w x) (stand.getD (t.probeStart (eh w x))) = some (.candidate (way t.mask (eh w x) (c + q)) i (nth t.mask b0 (c + (q + 1)))) := by
        rw [hst, ← shj, ← sh]
        exact hpr
      rw [hpr']
      dsimp only
      have hil : i < L.length := by
        have z1 := (List.getElem?_eq_some_iff.mp hi).1
        have z2 := R.tab.sz
        rw [List.length_map] at z2
        rw [Array.length_toList, z2] at z1
        exact z1
      obtain ⟨p, hp⟩ : ∃ p, L[i]? = some p := ⟨_, List.getElem?_eq_getElem hil⟩
      have hmem : p ∈ L := List.mem_of_getElem? hp
      have hsl : t.slot (way t.mask (eh w x) (c + q)) = .live i := slot_live R.tab.ris hi
      have behind : wpAny (model P w) A (searchRest a (.ref x.1) (eh w x) true f es t (way t.mask (eh w x) (c + q)) i (nth t.mask b0 (c + (q + 1)))) Q E s := by
        unfold searchRest
        rw [R.entry hp]
        dsimp only
        refine wpAny_bind (wpAny_holding ((nestedKind P w).eqBool hu (R.tup p hmem).kind hx.kind ?_))
        refine wpAny_bind (wpAny_setState_of ho hd R.fits ?_)
        dsimp only
        by_cases same : p.2 = x.2
        · refine wp_if_pos (by simp [same]) ?_
          exact wpAny_pure (hin (List.mem_map.mpr ⟨p, hmem, same⟩))
        · refine wp_if_neg (by simp [same]) ?_
          try refine wpAny_bind (wpAny_pure ?_)
          rw [sameMem]
          dsimp only
          simp only [if_true, hsl, R.entry hp]
          refine wpAny_bind (wpAny_isSame_ref_self (wpAny_bind (wpAny_pure ?_)))
          simp only [if_true]
          refine wp_if_neg (by simp [same]) ?_
          refine ih (c + (q + 1)) _ (by rw [hb0]; rfl) (by omega) (by omega) fun i0 p0 e0 k0 => ?_
          obtain ⟨c', a1, a2, a3⟩ := later i0 p0 e0 k0
          refine ⟨c', (Nat.lt_of_not_le fun z => ?_ : c + q < c'), a2, a3⟩
          rcases Nat.lt_or_eq_of_le z with y | y
          · refine hno (c' - c) i0 (by omega) (by rw [shj, show c + (c' - c) = c' by omega]; exact a3) ?_
            show (es[i0]?.map (·.1)).getD 0 = _
            rw [hashAt i0 p0 e0]
            unfold eh
            rw [k0]
          · rw [y] at a3
            have s0 := slot_live R.tab.ris a3
            rw [hsl] at s0
            injection s0 with s0
            rw [← s0, hp] at e0
            exact same (by rw [Option.some.inj e0]; exact k0)
      by_cases hl : t.led = true
      · refine wp_if_neg (by simp [hl]) ?_
        try refine wpAny_bind (wpAny_pure ?_)
        exact behind
      · refine wp_if_pos (by simp [hl]) ?_
        refine wpAny_bind (unseen hx (fun y hy => ?_) ?_)
        · obtain ⟨e, he, ee⟩ := List.mem_map.mp hy
          have he1 : e ∈ es ∧ e.1 = eh w x := by simpa using he
          have he2 : e ∈ es.toList := by simpa using he1.1
          rw [R.rows] at he2
          obtain ⟨p2, hp2, e2⟩ := List.mem_map.mp he2
          exact ⟨p2, by rw [← ee, ← e2], R.tup p2 hp2⟩
        · refine wp_if_neg (by decide) ?_
          try refine wpAny_bind (wpAny_pure ?_)
          exact behind
    · have hpr' : t.probe (fun i => (es[i]?.map (·.1)).getD 0) (eh w x) (stand.getD (t.probeStart (eh w x))) = some (.empty (way t.mask (eh w x) N) none) := by
        have e2 := shj (N - c)
        rw [show c + (N - c) = N by omega] at e2
        rw [hst, ← e2]
        exact hpr
      rw [hpr']
      dsimp only
      refine wpAny_pure (hout fun hm => ?_)
      obtain ⟨p0, m0, k0⟩ := List.mem_map.mp hm
      obtain ⟨i0, e0⟩ := List.mem_iff_getElem?.mp m0
      obtain ⟨c', a1, a2, a3⟩ := later i0 p0 e0 k0
      refine hno (c' - c) i0 (by omega) (by rw [shj, show c + (c' - c) = c' by omega]; exact a3) ?_
      show (es[i0]?.map (·.1)).getD 0 = _
      rw [hashAt i0 p0 e0]
      unfold eh
      rw [k0]
theorem find_at (R : SetN w s.heap a L es ep t) {x : Ent} (hx : IsN s.heap x) (hu : A.units + 8 < cLine) {Q : SetFound → Shared → Prop}
    (hin : x.2 ∈ L.map (·.2) → Q (.there none) s)
    (hout : ∀ N, x.2 ∉ L.map (·.2) → way t.mask (eh w x) N ∉ t.place.toList → (∀ c, c < N → way t.mask (eh w x) c ∈ t.place.toList) → Q (.free (way t.mask (eh w x) N) false) s) :
    wpAny (model P w) A (setSearch a (.ref x.1) (eh w x) true) Q E s := by
  have room := R.room
  obtain ⟨N, h1, h2, h3⟩ := R.tab.first (by rw [List.length_map]; omega) (eh w x)
  have small : N < 100000 := by
    have := R.tab.full.2.1
    have : 10 * SetTable.turns t.mask ≤ 5300 := by unfold SetTable.turns; omega
    omega
  unfold setSearch
  refine find_from R hx hu h1 h2 h3 hin (fun hn => hout N hn h2 h3) 100000 0 none rfl (Nat.zero_le _) (by omega) fun i p hp hk => ?_
  have hi : (L.map (eh w))[i]? = some (eh w x) := by
    rw [List.getElem?_map, hp]
    show some (eh w p) = _
    unfold eh
    rw [hk]
  have hil : i < t.place.toList.length := by
    have z1 := (List.getElem?_eq_some_iff.mp hi).1
    rw [Array.length_toList, R.tab.sz]
    exact z1
  have hj := List.getElem?_eq_getElem hil
  obtain ⟨c, hc, e⟩ := R.tab.ahead h2 hi hj
  exact ⟨c, Nat.zero_le _, hc, by rw [hj, e]⟩
end
end DSet

/-! DS3: adding to a set of nested tuples; set(list), generically. -/
namespace DSet
open PySem PySem.Spec PyProof.Rows L2
section
variable {P : Program} {w : World} {A : Around} {E : Value → Shared → Prop} {s : Shared}
theorem isN_keep {h h' : Heap} {p : Ent} (x : IsN h p) (hk : ∀ b o vs n, h.get? b = some o → o.data = .seq vs n → h'.get? b = some o) : IsN h' p := ⟨NestedIs.at hk _ _ x.1, x.2⟩
theorem isN_same {h h' : Heap} {p : Ent} {a : Addr} {o : Obj} {es : Array (Int × Value)} {ep : Nat} {t : SetTable} (x : IsN h p) (ho : h.get? a = some o) (hd : o.data = .set es ep t) (hs : Heap.SameBut a h h') : IsN h' p :=
  isN_keep x fun b ob vs n hb hc => by
    refine (hs.2 b fun e => ?_).trans hb
    subst e
    rw [ho] at hb
    cases hb
    rw [hd] at hc
    cases hc
theorem ents_put (L : List Ent) (p : Nat) (x : Ent) : ents w (L.take p ++ x :: L.drop p) = (ents w L).take p ++ (eh w x, Value.ref x.1) :: (ents w L).drop p := by
  unfold ents
  rw [List.map_append, List.map_cons, List.map_take, List.map_drop]
theorem order_ents (L : List Ent) (es : Array (Int × Value)) (order : Array Nat) (hr : es.toList = ents w L) (hp : order.toList.Perm (List.range L.length)) :
    ∃ L2, (order.filterMap (es[·]?)).toList = ents w L2 ∧ L2.Perm L ∧ (L2.map (eh w)) = order.toList.map fun i => (es.map (·.1)).getD i 0 := by
  have hsz : es.size = L.length := by
    have h := congrArg List.length hr
    unfold ents at h
    rw [Array.length_toList, List.length_map] at h
    exact h
  have ent : ∀ i (h : i < L.length), es[i]? = some (eh w L[i], Value.ref (L[i]).1) := fun i h => by
    rw [← Array.getElem?_toList, hr]
    unfold ents
    rw [List.getElem?_map, List.getElem?_eq_getElem h] <;> rfl
  have key : ∀ l : List Nat, (∀ i ∈ l, i < L.length) → ∃ L2 : List Ent, l.filterMap (fun i => es[i]?) = ents w L2 ∧ L2 = l.filterMap (fun i => L[i]?) ∧ (L2.map (eh w)) = l.map fun i => (es.map (·.1)).getD i 0 := by
    intro l
    induction l with
    | nil => intro _; exact ⟨[], rfl, rfl, rfl⟩
    | cons i l ih =>
      intro hl
      have hi := hl i List.mem_cons_self
      obtain ⟨L2, e1, e2, e3⟩ := ih fun j hj => hl j (List.mem_cons_of_mem _ hj)
      refine ⟨L[i] :: L2, ?_, ?_, ?_⟩
      · rw [List.filterMap_cons_some (ent i hi), e1] <;> rfl
      · rw [List.filterMap_cons_some (List.getElem?_eq_getElem hi), e2]
      · rw [List.map_cons, List.map_cons, e3]
        have e4 : (es.map (·.1)).getD i 0 = eh w L[i] := by
          have e5 : (es.map (·.1))[i]? = some (eh w L[i]) := by rw [Array.getElem?_map, ent i hi] <;> rfl
          simp [Array.getD_eq_getD_getElem?, e5]
        rw [e4]
  obtain ⟨L2, e1, e2, e3⟩ := key order.toList fun i hi => List.mem_range.mp (hp.mem_iff.mp hi)
  refine ⟨L2, by first | (rw [Array.toList_filterMap]; exact e1) | simpa using e1, ?_, e3⟩
  have h1 : L2.Perm ((List.range L.length).filterMap fun i => L[i]?) := by
    rw [e2]
    exact hp.filterMap _
  have h2 : (List.range L.length).filterMap (fun i => L[i]?) = L := by
    have key2 : ∀ n, n ≤ L.length → (List.range n).filterMap (fun i => L[i]?) = L.take n := by
      intro n
      induction n with
      | zero => intro _; rfl
      | succ n ih =>
        intro hn
        have hlt : n < L.length := hn
        rw [List.range_succ, List.filterMap_append, ih (Nat.le_of_lt hlt), List.take_succ, List.getElem?_eq_getElem hlt]
        rw [List.filterMap_cons_some (List.getElem?_eq_getElem hlt)] <;> rfl
    rw [key2 L.length (Nat.le_refl _), List.take_length]
  rw [h2] at h1
  exact h1
theorem grown5 : SetTable.sizeAbove (SetTable.grown 5) = 32 := by decide +kernel
theorem grown19 : SetTable.sizeAbove (SetTable.grown 19) = 128 := by decide +kernel
theorem grown77 : SetTable.sizeAbove (SetTable.grown 77) = 512 := by decide +kernel
theorem full7 : Full 7 := full_of (.inl rfl)
theorem full31 : Full 31 := full_of (.inr (.inl rfl))
theorem full127 : Full 127 := full_of (.inr (.inr rfl))

variable {a : Addr} {L : List Ent} {es : Array (Int × Value)} {ep : Nat} {t : SetTable}
/-- the table laid anew, larger -/
theorem relay_n {o : Obj} (ho : s.heap.get? a = some o) (hex : o.ExactSet) (hd : o.data = .set es ep t) (hrows : es.toList = ents w L) (hsz : t.place.size = es.size) (hdm : t.dummies = #[]) (hfl : es.size ≤ t.mask)
    (nd : (L.map (·.2)).Nodup) (tup : ∀ p ∈ L, IsN s.heap p) (ld : w.params.followText "set-order" = true ∨ t.led = true) {wanted m : Nat}
    (hw : SetTable.sizeAbove wanted - 1 = m) (hM : Full m) (hm : m = 7 ∨ m = 31 ∨ m = 127 ∨ m = 511) (hw2 : SetTable.sizeAbove wanted ≤ 512) (hn : L.length * 5 < m * 3) {Q : Unit → Shared → Prop}
    (hQ : ∀ h' L' es' ep' t', Heap.SameBut a s.heap h' → SetN w h' a L' es' ep' t' → L'.Perm L → Q () { s with heap := h' }) : wpAny (model P w) A (setRelay a wanted) Q E s := by
  have hsl : es.size = L.length := by
    have h := congrArg List.length hrows
    unfold ents at h
    rw [Array.length_toList, List.length_map] at h
    exact h
  have hfits : t.fits es.size = true := fits_of hsz hdm hfl
  obtain ⟨t', order, e, hp, T, em, el⟩ := relaid_tb t (hs := es.map (·.1)) (wanted := wanted) hw hM (by rw [Array.size_map, hsl]; omega)
  rw [Array.size_map, hsl] at hp
  obtain ⟨L2, r1, r2, r3⟩ := order_ents L es order hrows hp
  rw [← r3] at T
  have hs2 : (order.filterMap (es[·]?)).size = es.size := by
    have h := congrArg List.length r1
    unfold ents at h
    rw [Array.length_toList, List.length_map, r2.length_eq] at h
    rw [h, hsl]
  rw [setRelay_eq]
  refine wpAny_bind (wpAny_setState_of ho hd hfits ?_)
  dsimp only
  refine wp_if_neg (by rw [sizeLine_eq]; omega) ?_
  try refine wpAny_bind (wpAny_pure ?_)
  rw [e]
  dsimp only
  refine wpAny_bind ?_
  refine wp_if_neg (by rw [hs2]; simp) ?_
  try refine wpAny_bind (wpAny_pure ?_)
  refine wpAny_pure ?_
  dsimp only
  refine wpAny_storeSet_of ho hd ?_ (by rw [hs2, hsl, sizeLine_eq]; omega)
  have sb : Heap.SameBut a s.heap (s.heap.update a (Obj.putSet (order.filterMap (es[·]?)) t')) := Heap.SameBut.update ..
  refine hQ _ L2 (order.filterMap (es[·]?)) (ep + 1) t' sb ?_ r2
  refine ⟨⟨_, store_at ho hd, ⟨hex.1, hex.2.1, hex.2.2⟩, rfl⟩, r1, T, ?_, fun p hpm => isN_same (tup p (r2.mem_iff.mp hpm)) ho hd sb, by rw [el]; exact ld, by rw [em]; exact hm, ?_⟩
  · exact (r2.map (·.2)).nodup_iff.mpr nd
  · rw [r2.length_eq, em]
    exact hn

/-- ADDING -/
theorem add_n (R : SetN w s.heap a L es ep t) {x : Ent} (hx : IsN s.heap x) (hu : A.units + 8 < cLine) (hfew : L.length + 1 ≤ 300) {Q : Bool → Shared → Prop}
    (hQ : ∀ b h' L' es' ep' t', Heap.SameBut a s.heap h' → SetN w h' a L' es' ep' t' → (x.2 ∈ L.map (·.2) → L' = L) → (x.2 ∉ L.map (·.2) → L'.Perm (x :: L)) → Q b { s with heap := h' }) :
    wpAny (model P w) A (setAddHashed a (.ref x.1) (eh w x)) Q E s := by
  obtain ⟨o, ho, hex, hd⟩ := R.ob
  have hsl := R.size
  have hroom := R.room
  unfold setAddHashed
  refine wpAny_holding ?_
  rw [show (100000 : Nat) = 99999 + 1 from rfl, setAddHashedIn_succ]
  refine wpAny_bind (wpAny_setState_of ho hd R.fits ?_)
  dsimp only
  refine wp_if_neg (by simp [byScan, Value.scannable]) ?_
  try refine wpAny_bind (wpAny_pure ?_)
  refine wpAny_bind (find_at R hx hu (fun hm => ?_) fun K hm hK hb => ?_)
  · dsimp only
    exact wpAny_pure (hQ false s.heap L es ep t (Heap.SameBut.refl a s.heap) R (fun _ => rfl) fun z => absurd hm z)
  · dsimp only
    refine wpAny_bind (wpAny_setState_of ho hd R.fits ?_)
    dsimp only
    obtain ⟨q1, q2, q3, q4, q5, q9⟩ := R.tab.put hK hb rfl
    generalize hpt : t.put (way t.mask (eh w x) K) = pt at q1 q3 q4 q5 q9 ⊢
    obtain ⟨t1, p⟩ := pt
    dsimp only at q1 q3 q4 q5 q9 ⊢
    subst q1
    -- hashed by value or not
    obtain ⟨bv, hbv⟩ := hashB_key (P := P) (w := w) x.2 (.ref x.1) 8 s hx.1
    have any : ∀ (k : Bool → Sem Bool), (∀ c, wpAny (model P w) A (k c) Q E s) → wpAny (model P w) A (if t1.plain = true then hashByValue 8 (Value.ref x.1) >>= k else pure true >>= k) Q E s := fun k hr => by
      by_cases c : t1.plain = true
      · rw [if_pos c]; exact wpAny_bind (hbv A E _ (hr _))
      · rw [if_neg c]; exact wpAny_bind (wpAny_pure (hr _))
    refine any _ fun c => ?_
    have hin : (SetTable.insertAt es (SetTable.below t.place (way t.mask (eh w x) K)) (eh w x, Value.ref x.1)).toList = ents w (L.take (SetTable.below t.place (way t.mask (eh w x) K)) ++ x :: L.drop (SetTable.below t.place (way t.mask (eh w x) K))) := by
      rw [SetTable.toList_insertAt, ents_put, R.rows]
    generalize hpp : SetTable.below t.place (way t.mask (eh w x) K) = p at q2 q3 hin ⊢
    have pm := put_perm L p x
    have hlen : (L.take p ++ x :: L.drop p).length = L.length + 1 := pm.length_eq
    have hhs : (L.take p ++ x :: L.drop p).map (eh w) = (L.map (eh w)).take p ++ eh w x :: (L.map (eh w)).drop p := by
      rw [List.map_append, List.map_cons, List.map_take, List.map_drop]
    rw [← hhs] at q3
    have nd1 : ((L.take p ++ x :: L.drop p).map (·.2)).Nodup := by
      refine (pm.map (·.2)).nodup_iff.mpr ?_
      rw [List.map_cons]
      exact List.nodup_cons.mpr ⟨hm, R.nd⟩
    have hes : (SetTable.insertAt es p (eh w x, Value.ref x.1)).size = L.length + 1 := by
      have h := congrArg List.length hin
      unfold ents at h
      rw [Array.length_toList, List.length_map, hlen] at h
      exact h
    generalize SetTable.insertAt es p (eh w x, Value.ref x.1) = es1 at hin hes ⊢
    generalize L.take p ++ x :: L.drop p = L1 at pm hlen q3 nd1 hin
    -- the mark
    have tb : ∀ t2 : SetTable, (t2 = t1 ∨ t2 = { t1 with plain := false }) → Tb t2 (L1.map (eh w)) ∧ t2.mask = t.mask ∧ t2.led = t.led ∧ t2.fill = (L.map (eh w)).length + 1 := fun t2 e => by
      rcases e with e | e
      · rw [e]; exact ⟨q3, q4, q5, q9⟩
      · rw [e]; exact ⟨⟨q3.ris, q3.dm, q3.sz, q3.full, q3.bd, q3.reach⟩, q4, q5, q9⟩
    obtain ⟨t2, e2, he2⟩ : ∃ t2, t2 = (if c = true then t1 else { t1 with plain := false }) ∧ (t2 = t1 ∨ t2 = { t1 with plain := false }) := by
      cases c
      · exact ⟨_, rfl, .inr rfl⟩
      · exact ⟨_, rfl, .inl rfl⟩
    rw [← e2]
    obtain ⟨q3, q4, q5, q9⟩ := tb t2 he2
    clear e2 he2 tb
    refine wpAny_bind (wpAny_storeSet_of ho hd ?_ (by rw [hes, sizeLine_eq]; omega))
    have sb : Heap.SameBut a s.heap (s.heap.update a (Obj.putSet es1 t2)) := Heap.SameBut.update ..
    have ho1 := store_at (es' := es1) (t' := t2) ho hd
    generalize s.heap.update a (Obj.putSet es1 t2) = h1 at sb ho1 ⊢
    have tup1 : ∀ p ∈ L1, IsN h1 p := fun p hp => by
      rcases List.mem_cons.mp (pm.mem_iff.mp hp) with e | hp
      · rw [e]; exact isN_same hx ho hd sb
      · exact isN_same (R.tup p hp) ho hd sb
    have ld1 : w.params.followText "set-order" = true ∨ t2.led = true := by rw [q5]; exact R.led
    by_cases hf : t2.tooFull = true
    · first
        | (refine wpAny_bind ?_; refine wp_if_pos (by simp [hf]) ?_)
        | (refine wp_if_pos (by simp [hf]) ?_; refine wpAny_bind ?_)
      have hfull : (L.length + 1) * 5 ≥ t2.mask * 3 := by
        have h := hf
        unfold SetTable.tooFull at h
        rw [decide_eq_true_eq, q9, List.length_map] at h
        exact h
      rw [hsl]
      have hsz1 : t2.place.size = es1.size := by
        have h := q3.sz
        rw [List.length_map, hlen] at h
        rw [h, hes]
      have cases2 : (t.mask = 7 ∧ L.length = 4) ∨ (t.mask = 31 ∧ L.length = 18) ∨ (t.mask = 127 ∧ L.length = 76) := by
        rcases R.msk with e | e | e | e
        · left; rw [q4, e] at hfull; rw [e] at hroom; exact ⟨e, by omega⟩
        · right; left; rw [q4, e] at hfull; rw [e] at hroom; exact ⟨e, by omega⟩
        · right; right; rw [q4, e] at hfull; rw [e] at hroom; exact ⟨e, by omega⟩
        · exfalso; rw [q4, e] at hfull; omega
      have go : ∀ m, SetTable.sizeAbove (SetTable.grown (L.length + 1)) - 1 = m → Full m → (m = 7 ∨ m = 31 ∨ m = 127 ∨ m = 511) → SetTable.sizeAbove (SetTable.grown (L.length + 1)) ≤ 512 → (L.length + 1) * 5 < m * 3 →
          wpAny (model P w) A (setRelay a (SetTable.grown (L.length + 1))) (fun _ s' => wpAny (model P w) A (pure true) Q E s') E { s with heap := h1 } := fun m h1' h2' h3' h4' h5' => by
        refine relay_n (s := { s with heap := h1 }) ho1 ⟨hex.1, hex.2.1, hex.2.2⟩ rfl hin hsz1 q3.dm (by rw [hes, q4]; rcases cases2 with ⟨e, e2⟩ | ⟨e, e2⟩ | ⟨e, e2⟩ <;> omega) nd1 tup1 ld1 h1' h2' h3' h4' (by rw [hlen]; exact h5') ?_
        intro h2 L2 es2 ep2 t2 sb2 R2 pm2
        refine wpAny_pure (hQ true h2 L2 es2 ep2 t2 (sb.trans sb2) R2 (fun z => absurd z hm) fun _ => pm2.trans pm)
      rcases cases2 with ⟨_, e2⟩ | ⟨_, e2⟩ | ⟨_, e2⟩
      · refine go 31 (by rw [e2, grown5]) full31 (by simp) (by rw [e2, grown5]; decide) (by omega)
      · refine go 127 (by rw [e2, grown19]) full127 (by simp) (by rw [e2, grown19]; decide) (by omega)
      · refine go 511 (by rw [e2, grown77]) full511 (by simp) (by rw [e2, grown77]; decide) (by omega)
    · first
        | refine wp_if_neg (by simp [hf]) ?_
        | (refine wpAny_bind ?_; refine wp_if_neg (by simp [hf]) ?_; refine wpAny_pure ?_)
      refine wpAny_pure (hQ true h1 L1 es1 (ep + 1) t2 sb ⟨⟨_, ho1, ⟨hex.1, hex.2.1, hex.2.2⟩, rfl⟩, hin, q3, nd1, tup1, ld1, by rw [q4]; exact R.msk, ?_⟩ (fun z => absurd z hm) fun _ => pm)
      have h := hf
      unfold SetTable.tooFull at h
      rw [decide_eq_true_eq, q9, List.length_map] at h
      rw [hlen]
      omega
theorem setN_fresh {h : Heap} {a : Addr} (ho : h.get? a = some { cls := .type "set", dict := none, data := .set #[] 0 (.fresh 0 0 (!w.params.followText "set-order")) }) : SetN w h a [] #[] 0 (.fresh 0 0 (!w.params.followText "set-order")) where
  ob := ⟨_, ho, ⟨rfl, rfl, rfl⟩, rfl⟩
  rows := rfl
  tab := ⟨List.Pairwise.nil, rfl, rfl, full7, fun x hx => (by cases hx), fun i h j hi => (by simp at hi)⟩
  nd := List.nodup_nil
  tup := fun p hp => (by cases hp)
  led := by
    show _ ∨ (!w.params.followText "set-order") = true
    cases w.params.followText "set-order"
    · exact .inr rfl
    · exact .inl rfl
  msk := .inl rfl
  room := by
    show 0 * 5 < 7 * 3
    decide
theorem SetN.keep {h h' : Heap} (R : SetN w h a L es ep t) (ha : ∀ o, h.get? a = some o → h'.get? a = some o) (ht : ∀ p ∈ L, IsN h' p) : SetN w h' a L es ep t := by
  obtain ⟨o, ho, r⟩ := R.ob
  exact ⟨⟨o, ha o ho, r⟩, R.rows, R.tab, R.nd, ht, R.led, R.msk, R.room⟩
end
end DSet

/-! DS4: set(list), whatever the items; sets of ints and texts with their order of walk. -/
namespace DSet
open PySem PySem.Spec PyProof.Rows L2
section
variable {P : Program} {w : World} {A : Around} {E : Value → Shared → Prop} {s : Shared}
/-- what the set at S holds behind i items, as a relation to the heap that was -/
structure Steps (P : Program) (w : World) (h0 : Heap) (S : Addr) (items : Array Value) (J : Nat → Heap → Prop) : Prop where
  keep : ∀ {i h h'}, J i h → (∀ o, h.get? S = some o → h'.get? S = some o) → (∀ b o, h0.get? b = some o → h'.get? b = some o) → J i h'
  add : ∀ {A : Around} {E : Value → Shared → Prop} {s : Shared} {i : Nat} {v : Value} {Q : Bool → Shared → Prop}, A.units + 8 < cLine → items[i]? = some v → J i s.heap → (∀ b o, h0.get? b = some o → s.heap.get? b = some o) →
    (∀ b h' tk, Heap.SameBut S s.heap h' → J (i + 1) h' → Q b { s with heap := h', toks := s.toks + tk }) → wpAny (model P w) A (setAdd S v) Q E s
/-- set.update's loop -/
theorem set_update_any {I : Addr} {fp wr : List Addr} {G : Array GenState → Array GenState → Prop} {n : Nat} {Pv : Nat → Value → Prop} {St : Nat → Shared → Prop} {R : Result → Shared → Prop}
    (W : WalksS P w A.in1 I fp wr G n Pv St) (S : Addr) (hSf : S ∉ fp) {items : Array Value} {J : Nat → Heap → Prop} (hval : ∀ i v, Pv i v → items[i]? = some v)
    (h0 : Heap) (hJ : Steps P w h0 S items J) (hS0 : h0.get? S = none) (hw0 : ∀ b ∈ wr, h0.get? b = none) (hu : A.in1.units + 8 < cLine) :
    ∀ (k i : Nat) (s : Shared), n - i = k → i ≤ n → St i s → (∀ b o, h0.get? b = some o → s.heap.get? b = some o) → J i s.heap →
      (∀ s', Moved (S :: wr) G s s' → J n s'.heap → (∀ b o, h0.get? b = some o → s'.heap.get? b = some o) → R (.ok (.ret .none)) s') →
      codeAny (model P w) A (.builtin "set.update.loop" ⟨[.ref S, .ref I], []⟩) R s := by
  have hSw : S ∉ wr := fun h => hSf (W.sub _ h)
  have hsub : ∀ b ∈ wr, b ∈ S :: wr := fun b hb => List.mem_cons_of_mem _ hb
  have keepM : ∀ {s s' : Shared}, Moved wr G s s' → (∀ b o, h0.get? b = some o → s.heap.get? b = some o) → ∀ b o, h0.get? b = some o → s'.heap.get? b = some o := fun hm hkp b o e =>
    hm.heap b o (fun hb => by rw [hw0 b hb] at e; cases e) (hkp b o e)
  intro k
  induction k with
  | zero =>
    intro i s hk' hi hst hkp hS hR
    have hin : i = n := by omega
    subst hin
    refine codeAny_builtin F.entry_set_update_loop ?_
    rw [Around.under_plainId F.plain_set_update_loop _]
    show wpAny _ A.in1 (pyNext (.ref I) >>= _) _ _ s
    refine wpAny_bind (W.done s _ _ hst fun s' hm => ?_)
    show wpAny _ A.in1 (ret Value.none) _ _ s'
    have hkp' := keepM hm hkp
    exact wpAny_pure (hR s' (hm.mono hsub) (hJ.keep hS (fun o e => hm.heap S o hSw e) hkp') hkp')
  | succ k ih =>
    intro i s hk' hi hst hkp hS hR
    have hlt : i < n := by omega
    refine codeAny_builtin F.entry_set_update_loop ?_
    rw [Around.under_plainId F.plain_set_update_loop _]
    show wpAny _ A.in1 (pyNext (.ref I) >>= _) _ _ s
    refine wpAny_bind (W.item i s _ _ hlt hst fun v s' hP hst' hm => ?_)
    have hv := hval i v hP
    have hkp' := keepM hm hkp
    have hS' : J i s'.heap := hJ.keep hS (fun o e => hm.heap S o hSw e) hkp'
    show wpAny _ A.in1 (holding [v] (setAdd S v) >>= _) _ _ s'
    refine wpAny_bind (wpAny_holding ?_)
    refine hJ.add hu hv hS' hkp' fun b h' tk hsb hS2 => ?_
    have hkp2 : ∀ b o, h0.get? b = some o → h'.get? b = some o := fun b o e => (hsb.2 b (fun z => by rw [z, hS0] at e; cases e)).trans (hkp' b o e)
    refine wpAny_pure ⟨plainId_quiet F.plain_set_update_loop _, ih (i + 1) _ (by omega) hlt (W.frame _ s' _ _ hst' (Nat.le_add_right _ _) fun b hb o e => ?_) hkp2 hS2 fun s'' hm'' hS'' hkp'' => ?_⟩
    · rw [hsb.2 b (fun h : b = S => hSf (by rw [← h]; exact hb))]; exact e
    · refine hR s'' (Moved.trans W.gtrans ((hm.mono hsub).then_heap (Nat.le_add_right _ _) fun b o hb e => ?_) hm'') hS'' hkp''
      rw [hsb.2 b (fun h : b = S => hb (by rw [h]; exact List.mem_cons_self))]; exact e

abbrev newSet (w : World) : Obj := { cls := .type "set", dict := none, data := .set #[] 0 (.fresh 0 0 (!w.params.followText "set-order")) }
set_option maxRecDepth 100000 in
set_option maxHeartbeats 3200000 in
/-- set(xs) -/
theorem call_set_any {l : Addr} {items : Array Value} {J : Nat → Heap → Prop} {Q : Value → Shared → Prop} (hh : A.handled = none) (hl : s.heap.IsList l items)
    (hJ : Steps P w s.heap s.heap.objs.size items J) (J0 : ∀ h, h.get? s.heap.objs.size = some (newSet w) → J 0 h) (hu : A.units + 16 < cLine)
    (h : ∀ (h' : Heap) (tk : Nat), J items.size h' → (∀ b o, s.heap.get? b = some o → h'.get? b = some o) → Q (.ref s.heap.objs.size) { s with heap := h', toks := tk }) :
    wpAny (model P w) A (call (.type "set") [.ref l]) Q E s := by
  obtain ⟨c, tl, hmro⟩ := F.called_set.mro
  have hmade := F.called_set.made
  have hsub := F.called_set.sub
  refine wpAny_call (codeAny_of_tree ?_)
  show wpAny _ _ (callAny (.type "set") _) _ _ _
  refine wpAny_pure ⟨Code.quiet_builtin _ (by decide +kernel), codeAny_builtin F.entry_type_call ?_⟩
  rw [Around.under_plain (weight_type_call_type "set" [.ref l] []) rfl]
  have h1 := F.called_set.notType
  have h2 := F.called_set.canCreate
  have hct := F.typeCall_set_1 (.ref l)
  repeat (any_goals (first | assumption | wp_step))

  refine codeAny_mono (code_set_led1 (.ref l) (E := E) (Q₁ := fun obj s₁ => obj = .ref s.heap.objs.size ∧ s₁ = { s with heap := s.heap.push { cls := .type "set", dict := none, data := .set #[] 0 (.fresh 0 0 (!w.params.followText "set-order")) } }) ⟨rfl, rfl⟩) fun r s₁ hr => ?_
  cases r with
  | error e => exact hr
  | ok fl =>
    cases fl with
    | ret obj =>
      obtain ⟨rfl, rfl⟩ := hr
      have hS : (s.heap.push { cls := .type "set", dict := none, data := .set #[] 0 (.fresh 0 0 (!w.params.followText "set-order")) }).get? s.heap.objs.size = some { cls := .type "set", dict := none, data := .set #[] 0 (.fresh 0 0 (!w.params.followText "set-order")) } := Heap.get?_push_size _ rfl
      have hT : Shared.TypeIs { s with heap := s.heap.push { cls := .type "set", dict := none, data := .set #[] 0 (.fresh 0 0 (!w.params.followText "set-order")) } } (.ref s.heap.objs.size) "set" := ⟨_, hS, rfl⟩
      have hli := F.called_set.init.lookup
      have hbi := F.called_set.init.bind (.ref s.heap.objs.size)
      repeat (any_goals (first | assumption | wp_step))

      refine codeAny_mono (codeAny_call_builtin (R := wants (fun r s₂ => r = .none ∧ ∃ h' tk, s₂ = { s with heap := h', toks := tk } ∧ J items.size h' ∧
          (∀ b o, s.heap.get? b = some o → h'.get? b = some o)) E) F.called_set.init.plain F.entry_set_init (check_set_init_1 hT ?_)) fun r₂ s₂ hr₂ => ?_
      · obtain ⟨ol, hol, hcl, nl, hdl⟩ := hl
        obtain ⟨ocls, odict, odata, oslots⟩ := ol
        simp only at hcl hdl
        subst hcl; subst hdl
        have hol' : (s.heap.push { cls := .type "set", dict := none, data := .set #[] 0 (.fresh 0 0 (!w.params.followText "set-order")) }).get? l = some { cls := .type "list", dict := odict, data := .seq items nl, slots := oslots } := Heap.get?_push_of_some _ hol
        have hsls := F.sub_list_set
        have hslf := F.sub_list_frozenset
        have hne : (Value.type "list" == Value.type "dict") = false := by decide
        have hl1 : (s.heap.push { cls := .type "set", dict := none, data := .set #[] 0 (.fresh 0 0 (!w.params.followText "set-order")) }).IsList l items := ⟨_, hol', rfl, nl, rfl⟩
        unfold Builtin.«set.__init__» noKeywords Builtin.Frozenset.updateFrom
        generalize hPI : pyIter = PI
        wp_walk
        subst hPI

        refine wpAny_pyIter_list hl1 ?_
        refine wpAny_bind (wpAny_runValue ?_)
        have hlS : l < s.heap.objs.size := Heap.lt_size hol
        have hh3 : A.in1.in1.in1.handled = none := by simp [hh]
        have hneI : l ≠ (s.heap.push { cls := .type "set", dict := none, data := .set #[] 0 (.fresh 0 0 (!w.params.followText "set-order")) }).objs.size := by
          rw [Heap.size_push]; exact Nat.ne_of_lt (Nat.lt_succ_of_lt hlS)
        have hSf : s.heap.objs.size ∉ [(s.heap.push { cls := .type "set", dict := none, data := .set #[] 0 (.fresh 0 0 (!w.params.followText "set-order")) }).objs.size, l] := by
          rw [Heap.size_push]; simp only [List.mem_cons, List.mem_singleton, List.not_mem_nil, or_false, not_or]
          exact ⟨Nat.ne_of_lt (Nat.lt_succ_self _), Nat.ne_of_gt hlS⟩
        have none_of : ∀ b, s.heap.objs.size ≤ b → s.heap.get? b = none := fun b hb => by
          cases q : s.heap.get? b with
          | none => rfl
          | some o => exact absurd (Nat.lt_of_lt_of_le (Heap.lt_size q) hb) (Nat.lt_irrefl _)
        have hunit : A.in1.in1.in1.units + 8 < cLine := by
          have e : A.in1.in1.in1.units ≤ A.units + 8 := by
            show A.units + 1 + 1 + 1 ≤ _
            omega
          omega
        refine set_update_any ((Walks.list hh3 _ l hneI items).toS) s.heap.objs.size
          hSf (fun i v hv => hv) s.heap hJ (none_of _ (Nat.le_refl _)) (fun b hb => none_of b (by
            rw [List.mem_singleton.mp hb, Heap.size_push]
            exact Nat.le_succ _)) hunit (items.size - 0) 0 _ (by omega) (Nat.zero_le _)
          ⟨⟨_, Heap.get?_push_size _ rfl, rfl, rfl⟩, (hl1.push _)⟩ (fun b o e => Heap.get?_push_of_some _ (Heap.get?_push_of_some _ e)) ?hS0 ?hR
        case hS0 =>
          have hget : ((s.heap.push { cls := .type "set", dict := none, data := .set #[] 0 (.fresh 0 0 (!w.params.followText "set-order")) }).push { cls := .type "list_iterator", data := .fields #[.ref l, .int 0 0] }).get? s.heap.objs.size
              = some { cls := .type "set", dict := none, data := .set #[] 0 (.fresh 0 0 (!w.params.followText "set-order")) } := Heap.get?_push_of_some _ hS
          exact J0 _ hget
        case hR =>
          intro s' hm hS' hkp
          obtain ⟨h', g2, d', tk', os'⟩ := s'
          have eg : g2 = s.gens := hm.gens
          have ed : d' = s.drawn := hm.drawn
          have eo : os' = s.os := hm.os
          subst eg; subst ed; subst eo
          show wpAny _ _ _ _ _ _
          refine wpAny_pure ?_
          show wpAny _ _ (ret Value.none) _ _ _
          exact wpAny_pure ⟨rfl, h', tk', rfl, hS', hkp⟩

      · cases r₂ with
        | error e => exact hr₂
        | ok fl₂ =>
          cases fl₂ with
          | ret r =>
            obtain ⟨rfl, h', tk, rfl, hS', hk'⟩ := hr₂
            repeat (any_goals (first | assumption | wp_step))
            exact h _ _ hS' hk'
          | _ => exact hr₂.elim
    | _ => exact hr.elim
end
end DSet

/-! DS5: sets of ints and texts with their order of walk. -/
namespace DSet
open PySem PySem.Spec PyProof.Rows L2
def kof : Value → Key
  | .int i _ => .inl i
  | .str x _ => .inr x
  | _ => .inl 0
theorem kof_of {k : Key} {v : Value} (h : RelV (kV k) v) : kof v = k := by
  cases k with
  | inl i => obtain ⟨t, rfl⟩ := h; rfl
  | inr x => obtain ⟨t, rfl⟩ := h; rfl
def ke (e : Int × Value) : Key := kof e.2
def GoodK (P : Program) (w : World) (e : Int × Value) : Prop := ∃ k, RelV (kV k) e.2 ∧ e.1 = (mixKind P w).hash k
/-- the set of keys at a; its table rises and can be walked -/
def SetS (P : Program) (w : World) (h : Heap) (a : Addr) (L : List Key) : Prop :=
  ∃ o es ep t, h.get? a = some o ∧ o.ExactSet ∧ o.data = .set es ep t ∧ (∀ e ∈ es.toList, GoodK P w e) ∧ L.Nodup ∧ (es.toList.map ke).Perm L ∧
    es.size < scanBound ∧ t.fits es.size = true ∧ Ris t.place.toList ∧ (w.params.followText "set-order" = true ∨ t.led = true)
section
variable {P : Program} {w : World} {h h' : Heap} {a : Addr} {L : List Key}
theorem SetS.at (R : SetS P w h a L) (k : ∀ o, h.get? a = some o → h'.get? a = some o) : SetS P w h' a L := by
  obtain ⟨o, es, ep, t, ho, r⟩ := R
  exact ⟨o, es, ep, t, k o ho, r⟩
theorem goodk_elems {l : List (Int × Value)} (g : ∀ e ∈ l, GoodK P w e) : ElemsOf (mixKind P w) l := fun e he => by
  obtain ⟨k, h1, h2⟩ := g e he
  exact ⟨⟨k, kV_is h1, h2⟩, key_scan h1⟩
theorem goodk_is {e : Int × Value} (g : GoodK P w e) (k : Key) : (mixKind P w).is k e.2 = true ↔ ke e = k := by
  obtain ⟨k0, h1, _⟩ := g
  unfold ke
  rw [kof_of h1]
  exact ⟨fun q => (mixKind P w).inj e.2 k0 k (kV_is h1) q, fun q => by rw [← q]; exact kV_is h1⟩
theorem goodk_mem {l : List (Int × Value)} (g : ∀ e ∈ l, GoodK P w e) (k : Key) : k ∈ l.map ke ↔ ∃ e ∈ l, (mixKind P w).is k e.2 = true := by
  rw [List.mem_map]
  constructor
  · rintro ⟨e, he, q⟩
    exact ⟨e, he, (goodk_is (g e he) k).2 q⟩
  · rintro ⟨e, he, q⟩
    exact ⟨e, he, (goodk_is (g e he) k).1 q⟩
theorem setS_fresh (ho : h.get? a = some (newSet w)) : SetS P w h a [] :=
  ⟨_, #[], 0, _, ho, ⟨rfl, rfl, rfl⟩, rfl, (fun e he => by simp at he), List.nodup_nil, .nil, (by decide), (by rfl), List.Pairwise.nil, by
    show _ ∨ (!w.params.followText "set-order") = true
    cases w.params.followText "set-order"
    · exact .inr rfl
    · exact .inl rfl⟩
end
section
variable {P : Program} {w : World} {A : Around} {E : Value → Shared → Prop} {s : Shared} {a : Addr} {L : List Key}
theorem setS_add_tail {g : Bool → Sem Unit} (hg : ∀ (b : Bool) (s₁ : Shared) (Q' : Unit → Shared → Prop), Q' () s₁ → wpAny (model P w) A (g b) Q' E s₁)
    {o : Obj} {es : Array (Int × Value)} {ep : Nat} {t : SetTable} (ho : s.heap.get? a = some o) (hex : o.ExactSet) (hd : o.data = .set es ep t)
    {es1 : Array (Int × Value)} {t2 : SetTable} {L' : List Key} (g1 : ∀ e ∈ es1.toList, GoodK P w e) (nd1 : L'.Nodup) (m1 : (es1.toList.map ke).Perm L')
    (hb1 : es1.size < scanBound) (hf2 : t2.fits es1.size = true) (hr : Ris t2.place.toList) (hl : w.params.followText "set-order" = true ∨ t2.led = true) {wasDummy : Bool} {R : Option Bool → Shared → Prop}
    (hR : ∀ h', Heap.SameBut a s.heap h' → SetS P w h' a L' → R (some true) { s with heap := h' }) :
    wpAny (model P w) A (do
        storeSet a es1 t2
        if (!wasDummy && t2.tooFull) = true then do
            g (relayAll t2 es1 (SetTable.grown es1.size)).2.2
            storeSet a (relayAll t2 es1 (SetTable.grown es1.size)).1 (relayAll t2 es1 (SetTable.grown es1.size)).2.1
            pure (some true)
          else pure (some true)) R E s := by
  refine wpAny_bind (wpAny_storeSet_of ho hd ?_ (fits_of_scanBound hb1))
  have ho1 := store_at (es' := es1) (t' := t2) ho hd
  have sb1 := Heap.SameBut.update s.heap a (Obj.putSet es1 t2)
  split
  · have pm := relayAll_perm t2 es1 (SetTable.grown es1.size)
    have hf3 := relayAll_fits t2 es1 (SetTable.grown es1.size)
    have hr3 := relayAll_ris t2 es1 (SetTable.grown es1.size)
    have hl3 := relayAll_led t2 es1 (SetTable.grown es1.size)
    generalize relayAll t2 es1 (SetTable.grown es1.size) = Z at pm hf3 hr3 hl3 ⊢
    obtain ⟨es2, t3, gave⟩ := Z
    dsimp only at pm hf3 hr3 hl3 ⊢
    have hsz : es2.size = es1.size := by rw [← Array.length_toList, pm.length_eq, Array.length_toList]
    have hb2 : es2.size < scanBound := by rw [hsz]; exact hb1
    refine wpAny_bind (hg _ _ _ ?_)
    refine wpAny_bind (wpAny_storeSet_of ho1 rfl ?_ (fits_of_scanBound hb2))
    have ho2 := store_at (es' := es2) (t' := t3) ho1 rfl
    refine wpAny_pure (hR _ (sb1.trans (Heap.SameBut.update _ a _)) ?_)
    exact ⟨_, es2, _, t3, ho2, hex, rfl, fun e he => g1 e (pm.mem_iff.mp he), nd1, (pm.map ke).trans m1, hb2, hf3, hr3, hl.imp id fun z => by rw [hl3]; exact z⟩
  · exact wpAny_pure (hR _ sb1 ⟨_, es1, _, t2, ho1, hex, rfl, g1, nd1, m1, hb1, hf2, hr, hl⟩)
/-- L' is L with k -/
def Ins (k : Key) (L L' : List Key) : Prop := (k ∈ L ∧ L' = L) ∨ (k ∉ L ∧ L' = k :: L)
theorem setS_add_hashed {k : Key} {v : Value} (hv : RelV (kV k) v) {Q : Bool → Shared → Prop} (R : SetS P w s.heap a L) (room : L.length + 1 < scanBound)
    (hQ : ∀ b h' L', Heap.SameBut a s.heap h' → SetS P w h' a L' → Ins k L L' → Q b { s with heap := h' }) :
    wpAny (model P w) A (setAddHashed a v ((mixKind P w).hash k)) Q E s := by
  obtain ⟨o, es, ep, t, ho, hex, hd, g, nd, hm, hb, hf, hr, hl⟩ := R
  have hkey : (mixKind P w).is k v = true := kV_is hv
  have hsc : v.scannable = true := key_scan hv
  have hel : ElemsOf (mixKind P w) es.toList := goodk_elems g
  unfold setAddHashed setAddHashedIn
  refine wpAny_holding (wpAny_bind (wpAny_setState_of ho hd hf ?_))
  dsimp only
  rw [byScan_of hsc hb hel]
  simp only [↓reduceIte]
  unfold setAddByScan
  refine wpAny_bind ?_
  refine wpAny_bind (wpAny_rule ?_)
  refine wpAny_bind (wpAny_setScan_of hkey ho hd hf hel ?_)
  cases hfi : List.findIdx? (fun e => (mixKind P w).is k e.2) es.toList with
  | some j =>
    dsimp only
    obtain ⟨hj, pj, _⟩ := List.findIdx?_eq_some_iff_getElem.mp hfi
    have hSk : k ∈ L := hm.mem_iff.mp ((goodk_mem (P := P) (w := w) g k).2 ⟨es.toList[j], List.getElem_mem hj, pj⟩)
    refine wpAny_pure (wpAny_pure ?_)
    exact hQ _ s.heap L (Heap.SameBut.refl a s.heap) ⟨o, es, ep, t, ho, hex, hd, g, nd, hm, hb, hf, hr, hl⟩ (.inl ⟨hSk, rfl⟩)
  | none =>
    dsimp only
    have hnk : k ∉ es.toList.map ke := fun z => by
      obtain ⟨e, he, q⟩ := (goodk_mem (P := P) (w := w) g k).1 z
      have c := List.findIdx?_eq_none_iff.mp hfi e he
      rw [q] at c
      cases c
    have hSk : k ∉ L := fun z => hnk (hm.mem_iff.mpr z)
    have hgw : ∀ (b : Bool) {s₁ : Shared} {Q' : Unit → Shared → Prop}, Q' () s₁ → wpAny (model P w) A (match b with | true => rule "set.scan.the-table-gave-way" | false => pure ()) Q' E s₁ :=
      fun b s₁ Q' q => by cases b <;> first | exact wpAny_pure q | exact wpAny_rule q
    have pm := layNew_perm t es ((mixKind P w).hash k) v
    have hf1 := layNew_fits t es ((mixKind P w).hash k) v
    have hr1 := layNew_ris t es ((mixKind P w).hash k) v hr
    have hl1 := layNew_led t es ((mixKind P w).hash k) v
    generalize layNew t es ((mixKind P w).hash k) v = Z at pm hf1 hr1 hl1 ⊢
    obtain ⟨es1, t1, wasDummy, gave⟩ := Z
    dsimp only at pm hf1 hr1 hl1 ⊢
    rw [Array.toList_push] at pm
    have pc : es1.toList.Perm (((mixKind P w).hash k, v) :: es.toList) := pm.trans (List.perm_append_singleton _ _)
    have ek : ke ((mixKind P w).hash k, v) = k := kof_of hv
    have pk : (es1.toList.map ke).Perm (k :: L) := by
      have q := pc.map ke
      rw [List.map_cons, ek] at q
      exact q.trans (hm.cons k)
    have g1 : ∀ e ∈ es1.toList, GoodK P w e := fun e he => by
      rcases List.mem_cons.mp (pc.mem_iff.mp he) with z | z
      · rw [z]; exact ⟨k, hv, rfl⟩
      · exact g e z
    have nd1 : (k :: L).Nodup := List.nodup_cons.mpr ⟨hSk, nd⟩
    have hsz : es1.size = L.length + 1 := by
      have q := pk.length_eq
      rw [List.length_map, Array.length_toList, List.length_cons] at q
      exact q
    have hb1 : es1.size < scanBound := by rw [hsz]; exact room
    have hled : w.params.followText "set-order" = true ∨ t1.led = true := hl.imp id fun z => by rw [hl1]; exact z
    have fin : ∀ b h', Heap.SameBut a s.heap h' → SetS P w h' a (k :: L) → Q b { s with heap := h' } := fun b h' sb r => hQ b h' _ sb r (.inr ⟨hSk, rfl⟩)
    refine wpAny_bind (hgw _ ?_)
    split
    · refine wpAny_bind ?_
      rw [hashByValue_scannable 8 hsc]
      refine wpAny_pure ?_
      refine setS_add_tail ?_ ho hex hd g1 nd1 pk hb1 ?_ ?_ ?_ ?_
      · intro b s₁ Q' q; cases b <;> first | exact wpAny_pure q | exact wpAny_rule q
      · first | (split <;> first | exact hf1 | exact SetTable.fits_plain_off hf1) | exact hf1
      · first | (split <;> exact hr1) | exact hr1
      · first | (split <;> exact hled) | exact hled
      · intro h' sb r; dsimp only; exact wpAny_pure (fin _ h' sb r)
    · refine wpAny_bind (wpAny_pure ?_)
      simp only [↓reduceIte]
      refine setS_add_tail ?_ ho hex hd g1 nd1 pk hb1 hf1 hr1 hled ?_
      · intro b s₁ Q' q; cases b <;> first | exact wpAny_pure q | exact wpAny_rule q
      · intro h' sb r; dsimp only; exact wpAny_pure (fin _ h' sb r)
/-- found.add(k) -/
theorem setS_add {k : Key} {v : Value} (hv : RelV (kV k) v) {Q : Value → Shared → Prop} (R : SetS P w s.heap a L) (room : L.length + 1 < scanBound)
    (hQ : ∀ h' L', Heap.SameBut a s.heap h' → SetS P w h' a L' → Ins k L L' → Q .none { s with heap := h', toks := s.toks + 1 }) :
    wpAny (model P w) A (call (.builtin "set.add") [.ref a, v]) Q E s := by
  have hT : s.TypeIs (.ref a) "set" := by
    obtain ⟨o, es, ep, t, ho, hex, _⟩ := R
    exact ⟨o, ho, hex.1⟩
  refine wpAny_call_entry F.slot_set_add hT F.entry_set_add ?_ (F.args_set_add_2 _ _)
  unfold Builtin.«set.add» Builtin.Frozenset.oneOther
  simp only [List.isEmpty_nil, bind_assoc]
  unfold Builtin.Frozenset.addrOf setAdd
  refine wpAny_bind (wpAny_pure ?_)
  try dsimp only
  refine wpAny_bind (wpAny_pure ?_)
  try dsimp only
  refine wpAny_bind ?_
  refine wpAny_holding ?_
  refine wpAny_bind ((mixKind P w).pyHash (kV_is hv) ?_)
  refine setS_add_hashed (s := { s with toks := s.toks + 1 }) hv R room fun b h' L' sb r i => ?_
  show wpAny _ _ (ret Value.none) _ _ _
  exact wpAny_pure ⟨_, rfl, hQ h' L' sb r i⟩
/-- what the set of the first i keys is -/
def Drawn (ks : List Key) (i : Nat) (L : List Key) : Prop := L.Nodup ∧ (∀ k, k ∈ L ↔ k ∈ ks.take i) ∧ L.length ≤ i
theorem Drawn.zero (ks : List Key) : Drawn ks 0 [] := ⟨List.nodup_nil, fun k => by simp, Nat.le_refl _⟩
theorem Drawn.next {ks L L' : List Key} {i : Nat} {k : Key} (d : Drawn ks i L) (h : ks[i]? = some k) (j : Ins k L L') : Drawn ks (i + 1) L' := by
  obtain ⟨d1, d2, d3⟩ := d
  have e := take_next h
  rcases j with ⟨c, rfl⟩ | ⟨c, rfl⟩
  · refine ⟨d1, fun j => ?_, by omega⟩
    rw [e, List.mem_append, List.mem_singleton, ← d2]
    exact ⟨.inl, fun z => z.elim id fun q => by rw [q]; exact c⟩
  · refine ⟨List.nodup_cons.mpr ⟨c, d1⟩, fun j => ?_, by simp; omega⟩
    rw [e, List.mem_append, List.mem_singleton, List.mem_cons, ← d2]
    exact Or.comm
theorem steps_keys {h0 : Heap} {S : Addr} {items : Array Value} (ks : List Key) (r : Vals (ks.map kV) items.toList) (hb : ks.length + 1 < scanBound) :
    Steps P w h0 S items fun i h => ∃ L, SetS P w h S L ∧ Drawn ks i L where
  keep := fun ⟨L, R, d⟩ hs _ => ⟨L, R.at hs, d⟩
  add := fun {A E s i v Q} hu hv ⟨L, R, d⟩ _ hQ => by
    have hz : ks.length = items.size := by
      have q := r.length
      rw [List.length_map, Array.length_toList] at q
      exact q
    have hi : i < ks.length := by rw [hz]; exact (Array.getElem?_eq_some_iff.mp hv).1
    have hk : ks[i]? = some ks[i] := List.getElem?_eq_getElem hi
    obtain ⟨u, e, ru⟩ := r.get (i := i) (x := kV ks[i]) (by rw [List.getElem?_map, hk]; rfl)
    rw [Array.getElem?_toList, hv] at e
    obtain rfl := Option.some.inj e
    unfold setAdd
    refine wpAny_holding ?_
    refine wpAny_bind ((mixKind P w).pyHash (kV_is ru) ?_)
    refine setS_add_hashed (s := { s with toks := s.toks + 1 }) ru R (by have := d.2.2; omega) fun b h' L' sb R' j => ?_
    exact hQ b h' 1 sb ⟨_, R', d.next hk j⟩
/-! #### nested tuples -/
structure Have (ks : List Ent) (i : Nat) (L : List Ent) : Prop where
  sub : ∀ p ∈ L, p ∈ ks.take i
  all : ∀ p ∈ ks.take i, p.2 ∈ L.map (·.2)
  len : L.length ≤ i
theorem Have.zero (ks : List Ent) : Have ks 0 [] := ⟨fun p h => (by cases h), fun p h => (by simp at h), Nat.le_refl _⟩
theorem Have.same {ks L : List Ent} {i : Nat} {x : Ent} (g : Have ks i L) (h : ks[i]? = some x) (hm : x.2 ∈ L.map (·.2)) : Have ks (i + 1) L := by
  refine ⟨fun p hp => ?_, fun p hp => ?_, Nat.le_succ_of_le g.len⟩
  · rw [take_next h]
    exact List.mem_append_left _ (g.sub p hp)
  · rw [take_next h] at hp
    rcases List.mem_append.mp hp with z | z
    · exact g.all p z
    · rw [List.mem_singleton.mp z]; exact hm
theorem Have.more {ks L L' : List Ent} {i : Nat} {x : Ent} (g : Have ks i L) (h : ks[i]? = some x) (pm : L'.Perm (x :: L)) : Have ks (i + 1) L' := by
  refine ⟨fun p hp => ?_, fun p hp => ?_, ?_⟩
  · rw [take_next h]
    rcases List.mem_cons.mp (pm.mem_iff.mp hp) with e | z
    · rw [e]; exact List.mem_append_right _ (List.mem_singleton.mpr rfl)
    · exact List.mem_append_left _ (g.sub p z)
  · rw [(pm.map (·.2)).mem_iff, List.map_cons]
    rw [take_next h] at hp
    rcases List.mem_append.mp hp with z | z
    · exact List.mem_cons_of_mem _ (g.all p z)
    · rw [List.mem_singleton.mp z]; exact List.mem_cons_self
  · rw [pm.length_eq, List.length_cons]
    exact Nat.succ_le_succ g.len
theorem steps_nest {h0 : Heap} {S : Addr} {items : Array Value} (ks : List Ent) (hit : items.toList = ks.map fun p => Value.ref p.1) (hk : ∀ p ∈ ks, IsN h0 p) (hb : ks.length ≤ 300) :
    Steps P w h0 S items fun i h => ∃ L es ep t, SetN w h S L es ep t ∧ Have ks i L where
  keep := fun ⟨L, es, ep, t, R, d⟩ hs h0' => ⟨L, es, ep, t, R.keep hs fun p hp => isN_keep (hk p (List.mem_of_mem_take (d.sub p hp))) fun b o _ _ e _ => h0' b o e, d⟩
  add := fun {A E s i v Q} hu hv ⟨L, es, ep, t, R, d⟩ h0' hQ => by
    have hv2 : items.toList[i]? = some v := by rw [Array.getElem?_toList]; exact hv
    rw [hit, List.getElem?_map] at hv2
    cases hx : ks[i]? with
    | none => rw [hx] at hv2; cases hv2
    | some x =>
      rw [hx] at hv2
      obtain rfl := (Option.some.inj hv2).symm
      have hi : i < ks.length := (List.getElem?_eq_some_iff.mp hx).1
      have xk : IsN s.heap x := isN_keep (hk x (List.mem_of_getElem? hx)) fun b o _ _ e _ => h0' b o e
      unfold setAdd
      refine wpAny_holding ?_
      refine wpAny_bind ((nestedKind P w).pyHash (k := x.2) hu xk.kind ?_)
      refine add_n (s := { s with toks := s.toks + x.2.draws }) R xk hu (by have := d.len; omega) fun b h' L' es' ep' t' sb R' c1 c2 => ?_
      refine hQ b h' _ sb ⟨L', es', ep', t', R', ?_⟩
      rcases Classical.em (x.2 ∈ L.map (·.2)) with c | c
      · rw [c1 c]; exact d.same hx c
      · exact d.more hx (c2 c)
end
end DSet

/-! DS6: sorted(set), sorted(list) of any alike data; the call rules. -/
namespace DSet
open PySem PySem.Spec PyProof.Rows L2
open PySem.W (keyToks alike EachIs AllAlike Sortable dataLe dataKind sortVals sortVals_data sortingHeap sortingHeap_old SortsAt)
theorem each_perm {α β : Type} {R : α → β → Prop} : ∀ {as as' : List α}, as'.Perm as → ∀ {bs : List β}, EachIs R as bs → ∃ bs' : List β, bs'.Perm bs ∧ EachIs R as' bs' := by
  intro as as' p
  induction p with
  | nil => intro bs e; exact ⟨bs, .refl _, e⟩
  | cons x p ih =>
    intro bs e
    cases e with
    | cons h t =>
      obtain ⟨bs', q, e'⟩ := ih t
      exact ⟨_ :: bs', q.cons _, .cons h e'⟩
  | swap x y l =>
    intro bs e
    cases e with
    | cons h t =>
      cases t with
      | cons h2 t2 => exact ⟨_, .swap _ _ _, .cons h2 (.cons h t2)⟩
  | trans p q ih1 ih2 =>
    intro bs e
    obtain ⟨b1, p1, e1⟩ := ih2 e
    obtain ⟨b2, p2, e2⟩ := ih1 e1
    exact ⟨b2, p2.trans p1, e2⟩
theorem each_all {α β : Type} {R : α → β → Prop} {as : List α} {bs : List β} (e : EachIs R as bs) : ∀ b ∈ bs, ∃ a ∈ as, R a b := by
  induction e with
  | nil => intro b h; cases h
  | cons h t ih =>
    intro b hb
    rcases List.mem_cons.mp hb with q | q
    · exact ⟨_, List.mem_cons_self, by rw [q]; exact h⟩
    · obtain ⟨a, ha, r⟩ := ih b q
      exact ⟨a, List.mem_cons_of_mem _ ha, r⟩
theorem total_data {β : Type} (enc : β → PyData) : W.TotalLe (dataLe false enc) := W.sortLe_total (listOrd itemOrd) false fun b => keyToks (enc b)
section
variable {P : Program} {w : World} {A : Around} {E : Value → Shared → Prop} {s : Shared}
theorem sorted_any {β : Type} {a : Addr} {o : Obj} {es : Array (Int × Value)} {ep : Nat} {t : SetTable} {R : Value → β → Prop} {enc : β → PyData} {bs : List β} {Q : Value → Shared → Prop} (hh : A.handled = none)
    (ho : s.heap.get? a = some o) (hex : o.ExactSet) (hd : o.data = .set es ep t) (hf : t.fits es.size = true) (hsz : es.size < scanBound) (hr : Ris t.place.toList) (hl : w.params.followText "set-order" = true ∨ t.led = true)
    (e : EachIs (fun v b => R v b ∧ ∃ as, Reads s.heap v (enc b) as) (es.toList.map (·.2)) bs) (hal : ∀ b b', alike (enc b) (enc b') = true) (hk : (∀ b, ∃ x r, enc b = .tuple (x :: r)) ∨ ∀ b, enc b ≠ .none ∧ ∀ xs, enc b ≠ .tuple xs)
    (hu : ∀ b, b ∈ bs → A.units + 4 + (enc b).depth < cLine)
    (hQ : ∀ s' p (out : Array Value) (c : Nat) (L : List β), (∀ b o, s.heap.get? b = some o → s'.heap.get? b = some o) → s'.gens = s.gens → s'.os = s.os → s.heap.objs.size ≤ p →
      s'.heap.get? p = some (seqObj "list" out c) → EachIs R out.toList L → L.Perm bs → L.Pairwise (fun x y => dataLe false enc x y = true) → Q (.ref p) s') :
    wpAny (model P w) A (call (.builtin "sorted") [.ref a]) Q E s := by
  refine Calls.call_function_entry kind_sorted plain_sorted entry_sorted (args_sorted1 _) ?_
  unfold Builtin.«sorted»
  refine wpAny_bind (m := checkCount "sorted" 1 1 _) (wpAny_pure ?_)
  refine wpAny_bind (collect_set (A := A.in1) hh ⟨o, ho, hex.1, hd⟩ hf hsz hr hl fun s1 vs k1 hz g1 o1 pm => ?_)
  obtain ⟨bs', pb, e'⟩ := each_perm pm e
  have eR : EachIs R vs bs' := e'.mono fun _ _ q => q.1
  have hvl : vs.length < scanBound := by rw [pm.length_eq, List.length_map, Array.length_toList]; exact hsz
  refine wpAny_bind (wpAny_newList ?_ (fits_of_scanBound (by exact hvl)))
  have hoL : (s1.heap.push (seqObj "list" vs.toArray 0)).get? s1.heap.objs.size = some (seqObj "list" vs.toArray 0) := Heap.get?_push_size _ rfl
  have keep : ∀ b u, s.heap.get? b = some u → (sortingHeap (s1.heap.push (seqObj "list" vs.toArray 0)) s1.heap.objs.size vs).get? b = some u := fun b u e => by
    have e1 := k1 b u e
    exact sortingHeap_old (Nat.ne_of_lt (Heap.lt_size e1)) (Heap.get?_push_of_some _ e1)
  have er : EachIs (fun v b => ∃ as, Reads (sortingHeap (s1.heap.push (seqObj "list" vs.toArray 0)) s1.heap.objs.size vs) v (enc b) as) vs bs' := e'.mono fun _ _ ⟨_, as, q⟩ => ⟨as, PyProof.Rows.Reads.keeps keep q⟩
  have al : AllAlike (bs'.map enc) := AllAlike.of hal
  have sb : Sortable (bs'.map enc) := hk.elim Sortable.tuples Sortable.others
  have S : SortsAt P w A.in1.in1 { ({ s1 with heap := s1.heap.push (seqObj "list" vs.toArray 0) } : Shared) with heap := sortingHeap (s1.heap.push (seqObj "list" vs.toArray 0)) s1.heap.objs.size vs } (dataKind (sortingHeap (s1.heap.push (seqObj "list" vs.toArray 0)) s1.heap.objs.size vs) (bs'.map enc)) vs := by
    refine SortsAt.data (s := { ({ s1 with heap := s1.heap.push (seqObj "list" vs.toArray 0) } : Shared) with heap := sortingHeap (s1.heap.push (seqObj "list" vs.toArray 0)) s1.heap.objs.size vs }) (W.each_map (R := fun v d => ∃ as, Reads (sortingHeap (s1.heap.push (seqObj "list" vs.toArray 0)) s1.heap.objs.size vs) v d as) enc er) al sb fun d hd => ?_
    obtain ⟨b, hb, rfl⟩ := List.mem_map.mp hd
    have q := hu b (pb.mem_iff.mp hb)
    have z : A.in1.in1.units ≤ A.units + 4 := by
      show A.units + 1 + 1 ≤ _
      omega
    omega
  refine wpAny_bind (wpAny_holding (wpAny_call_entry slot_list_sort ⟨_, hoL, rfl⟩ entry_list_sort (W.list_sort_vals (s := { s1 with heap := s1.heap.push (seqObj "list" vs.toArray 0) }) hoL S (fits_of_scanBound hvl) ⟨_, rfl, ?_⟩) (args_list_sort _)))
  have res := sortVals_data (h' := sortingHeap (s1.heap.push (seqObj "list" vs.toArray 0)) s1.heap.objs.size vs) false eR er al
  obtain ⟨c, hc⟩ := sortedHeap_at (vs := vs) (out := (sortVals (dataKind (sortingHeap (s1.heap.push (seqObj "list" vs.toArray 0)) s1.heap.objs.size vs) (bs'.map enc)) false vs vs).toArray) hoL
  refine wpAny_pure ⟨_, rfl, hQ _ s1.heap.objs.size _ c (bs'.mergeSort (dataLe false enc)) (fun b u e => ?_) g1 o1 hz hc (by simpa using res) ((List.mergeSort_perm _ _).trans pb) (W.sort_pairwise (total_data enc) _)⟩
  have q := k1 b u e
  have hlt := Heap.lt_size q
  show (sortedHeap (s1.heap.push (seqObj "list" vs.toArray 0)) s1.heap.objs.size vs _).get? b = some u
  rw [sortedHeap_old (Nat.ne_of_lt hlt) (by rw [size_push']; exact Nat.lt_succ_of_lt hlt)]
  exact Heap.get?_push_of_some _ q
end

/-! #### over what is known of the heap -/
def SetSO (P : Program) (w : World) (a : Addr) (L : List Key) : HO := .ext fun h => SetS P w h a L
theorem setSO_new {P : Program} {w : World} {H : Hp} {h : Heap} {a : Addr} {L : List Key} (R : SetS P w h a L) : ObjOk P w H h a (SetSO P w a L) := by
  have ⟨o, _, _, _, ho, _⟩ := R
  exact ⟨R, ⟨o, ho⟩, fun h1 h2 p k => SetS.at p k⟩
section
variable {X : Cx}
theorem setS_get {pins : List (Addr × Obj)} {σ : L2.St} {H : Hp} {s : Shared} {a : Addr} {L : List Key} (I : Inv X pins σ H s) (ha : H a = some (SetSO X.prog X.w a L)) : SetS X.prog X.w s.heap a L := (I.hok a _ ha).1
/-- set(xs), xs a list of ints and texts -/
def rSetS (K : PySem.W.Frag) (P : Program) (w : World) : List V → Hp → VK → Prop := fun xs H Q => ∃ (l : Addr) (ks : List Key), xs = [V.ref l] ∧ SqL K H l (ks.map kV) ∧ ks.length + 1 < scanBound ∧
  ∀ a L, H a = none → Drawn ks ks.length L → Q (.ref a) (upd H a (SetSO P w a L))
theorem cr_setS (hc : X.calm = true) (hu : X.A.units + 64 < cLine) : CallR X (.type "set") (rSetS X.K X.prog X.w) := by
  intro pins s σ H xs us Q I r h
  obtain ⟨l, ks, rfl, hl, hf, q⟩ := h
  rw [Vals.ref1 r]
  obtain ⟨its, rv, pl, hz⟩ := I.list hl
  have hn : H s.heap.objs.size = none := I.hok.fresh (Nat.le_refl _)
  have hsz : its.length = ks.length := by rw [← rv.length, List.length_map]
  refine call_set_any (P := X.prog) (w := X.w) (I.ok.hd hc) pl.isList (steps_keys ks (by simpa using rv) hf) (fun h e => ⟨[], setS_fresh e, Drawn.zero ks⟩) (by omega) fun h' tk ⟨L, R, d⟩ k => ?_
  refine ⟨.ref s.heap.objs.size, upd H s.heap.objs.size (SetSO X.prog X.w s.heap.objs.size L), I.laid (t' := tk) k (Nat.le_refl _) (setSO_new R), rfl, q _ L hn ?_⟩
  have : its.toArray.size = ks.length := by simpa using hsz
  rw [this] at d
  exact d
/-- sorted(set), the ints or the texts -/
def rSortedS (P : Program) (w : World) : List V → Hp → VK → Prop := fun vs H Q => ∃ (a : Addr) (L : List Key), vs = [V.ref a] ∧ H a = some (SetSO P w a L) ∧
  ((∃ ns : List Int, L = ns.map Sum.inl ∧ ∀ (ns' : List Int) (p : Addr), ns'.Perm ns → ns'.Pairwise (· ≤ ·) → H p = none → Q (.ref p) (upd H p (.lst (ns'.map V.int)))) ∨
   (∃ ns : List Str, L = ns.map Sum.inr ∧ ∀ (ns' : List Str) (p : Addr), ns'.Perm ns → ns'.Pairwise (fun x y => x.cps.toList ≤ y.cps.toList) → H p = none → Q (.ref p) (upd H p (.lst (ns'.map V.str)))))
theorem each_of_keys {β : Type} (f : β → Key) {l : List (Int × Value)} {P : Program} {w : World} (g : ∀ e ∈ l, GoodK P w e) {bs : List β} (e : l.map ke = bs.map f) : EachIs (fun v b => RelV (kV (f b)) v) (l.map (·.2)) bs := by
  induction l generalizing bs with
  | nil =>
    cases bs with
    | nil => exact .nil
    | cons b bs => simp at e
  | cons x l ih =>
    cases bs with
    | nil => simp at e
    | cons b bs =>
      simp only [List.map_cons, List.cons.injEq] at e
      refine .cons ?_ (ih (fun y hy => g y (List.mem_cons_of_mem _ hy)) e.2)
      obtain ⟨k, h1, _⟩ := g x List.mem_cons_self
      have : ke x = k := kof_of h1
      rw [← e.1, this]
      exact h1
theorem perm_map_of {α β : Type} (f : β → α) {l : List α} {bs : List β} (p : l.Perm (bs.map f)) : ∃ bs' : List β, bs'.Perm bs ∧ l = bs'.map f := by
  have e : EachIs (fun a b => a = f b) (bs.map f) bs := by
    induction bs with
    | nil => exact .nil
    | cons b bs ih => exact .cons rfl (by
        have : ∀ bs : List β, EachIs (fun a b => a = f b) (bs.map f) bs := by
          intro bs
          induction bs with
          | nil => exact .nil
          | cons b bs ih => exact .cons rfl ih
        exact this bs)
  obtain ⟨bs', q, e'⟩ := each_perm p e
  refine ⟨bs', q, ?_⟩
  induction e' with
  | nil => rfl
  | cons h t ih => 
    have : ∀ {l : List α} {bs : List β}, EachIs (fun a b => a = f b) l bs → l = bs.map f := by
      intro l bs e
      induction e with
      | nil => rfl
      | cons h t ih => rw [List.map_cons, h, ih]
    rw [List.map_cons, h, this t]
theorem each_vals {β : Type} (f : β → V) : ∀ {vs : List Value} {bs : List β}, EachIs (fun v b => RelV (f b) v) vs bs → Vals (bs.map f) vs
  | _, _, .nil => .nil
  | _, _, .cons h t => .cons h (each_vals f t)
theorem new_out {pins : List (Addr × Obj)} {σ : L2.St} {H : Hp} {s s' : Shared} {p : Addr} {out : Array Value} {c : Nat} {xs : List V} (I : Inv X pins σ H s) (k : ∀ b o, s.heap.get? b = some o → s'.heap.get? b = some o) (g : s'.gens = s.gens) (o : s'.os = s.os) (hp : s.heap.objs.size ≤ p)
    (hg : s'.heap.get? p = some (seqObj "list" out c)) (hv : Vals xs out.toList) (hz : xs.length ≤ sizeLine) : H p = none ∧ Inv X pins σ (upd H p (.lst xs)) s' := by
  have hn : H p = none := I.hok.fresh hp
  refine ⟨hn, ?_⟩
  have J : Inv X pins σ (upd H p (.lst xs)) { s with heap := s'.heap, gens := s'.gens, drawn := s'.drawn, toks := s'.toks } :=
    I.call (ch := []) (Un.laid k hp hn) (I.hok.laid k hp ⟨hz, out.toList, c, hv, hg⟩) (by rw [g]; exact I.bare) (fun _ z => nomatch z)
  have e : s' = { s with heap := s'.heap, gens := s'.gens, drawn := s'.drawn, toks := s'.toks } := by
    cases s'
    cases s
    cases o
    rfl
  rw [e]
  exact J
theorem alike_int (x y : Int) : alike (.int x) (.int y) = true := rfl
theorem cr_sortedS (hc : X.calm = true) (hu : X.A.units + 64 < cLine) : CallR X (.builtin "sorted") (rSortedS X.prog X.w) := by
  intro pins s σ H vs us Q I r h
  obtain ⟨a, L, rfl, ha, h⟩ := h
  obtain ⟨o, es, ep, t, ho, hex, hd, g, nd, hm, hb, hf, hr, hl⟩ := setS_get I ha
  rw [Vals.ref1 r]
  have len : ∀ {β : Type} {f : β → Key} {bs : List β}, L = bs.map f → bs.length ≤ sizeLine := fun {β f bs} e => by
    have q := hm.length_eq
    rw [List.length_map, Array.length_toList, e, List.length_map] at q
    rw [← q]
    exact fits_of_scanBound hb
  rcases h with ⟨ns, rfl, q⟩ | ⟨ns, rfl, q⟩
  · obtain ⟨bs, pb, eb⟩ := perm_map_of Sum.inl hm
    have e := each_of_keys (P := X.prog) (w := X.w) (fun i : Int => (Sum.inl i : Key)) g eb
    refine sorted_any (R := fun v (b : Int) => RelV (V.int b) v) (enc := fun b => .int b) (I.ok.hd hc) ho hex hd hf hb hr hl (e.mono fun v b z => ⟨z, ?_⟩) (fun _ _ => rfl) (.inr fun b => ⟨(fun z => nomatch z), fun _ z => nomatch z⟩) (fun b _ => by
      show _ + 4 + 0 < cLine
      omega) fun s' p out c L k g' o' hp hg eo pm pw => ?_
    · obtain ⟨tk, rfl⟩ := z
      exact ⟨_, .int _ _⟩
    · have hv : Vals (L.map V.int) out.toList := each_vals V.int eo
      obtain ⟨hn, J⟩ := new_out I k g' o' hp hg hv (by rw [List.length_map, (pm.trans pb).length_eq]; exact len rfl)
      refine ⟨.ref p, _, J, rfl, q L p (pm.trans pb) (pw.imp fun {x y} z => ?_) hn⟩
      rw [W.dataLe_int (fun b : Int => b)] at z
      exact of_decide_eq_true z
  · obtain ⟨bs, pb, eb⟩ := perm_map_of Sum.inr hm
    have e := each_of_keys (P := X.prog) (w := X.w) (fun i : Str => (Sum.inr i : Key)) g eb
    refine sorted_any (R := fun v (b : Str) => RelV (V.str b) v) (enc := fun b => .str b) (I.ok.hd hc) ho hex hd hf hb hr hl (e.mono fun v b z => ⟨z, ?_⟩) (fun _ _ => rfl) (.inr fun b => ⟨(fun z => nomatch z), fun _ z => nomatch z⟩) (fun b _ => by
      show _ + 4 + 0 < cLine
      omega) fun s' p out c L k g' o' hp hg eo pm pw => ?_
    · obtain ⟨tk, rfl⟩ := z
      exact ⟨_, .str _ _⟩
    · have hv : Vals (L.map V.str) out.toList := each_vals V.str eo
      obtain ⟨hn, J⟩ := new_out I k g' o' hp hg hv (by rw [List.length_map, (pm.trans pb).length_eq]; exact len rfl)
      refine ⟨.ref p, _, J, rfl, q L p (pm.trans pb) (pw.imp fun {x y} z => ?_) hn⟩
      rw [W.dataLe_str (fun b : Str => b)] at z
      exact of_decide_eq_true z
end
end DSet

/-! DS7: comprehensions of dicts and sets, whatever the new object is known as. -/
namespace DSet
open PySem PySem.Spec PyProof.Rows L2 PpSet
section
variable {X : Cx}
def tDcG (O0 : Addr → HO) (Sx : V → V → Addr → Hp → (Hp → Prop) → Prop) (wi : TI) (g : TG) (tt : TT) (tk tv : TE) (vs : List Nat) : TE := fun σ H Q => wi σ H fun J H1 => ∀ D, H1 D = none → ∃ W : Nat → Nat → Hp → Prop, (∃ m, W 0 m (upd H1 D (O0 D))) ∧ ∀ i m H, W i m H →
  (J.stop i H ∧ Q (.ref D) H) ∨ (J.go i H ∧ ∃ Nx : Hp → Prop, (∀ H', Nx H' → ∃ m', m' < m ∧ W (i + 1) m' H') ∧ ∀ x H', J.yld i H x H' → g x (wipe σ vs) H' fun σ2 H2 => wipe σ2 vs = wipe σ vs ∧ tt σ2 H2 fun b H3 =>
    if b = true then tk σ2 H3 fun y H4 => tv σ2 H4 fun z H5 => Sx y z D H5 Nx else Nx H3)
theorem dcg_core {pins : List (Addr × Obj)} {s : Shared} {σ : L2.St} {H : Hp} {Q : VK} {kx vx tg iter : Expr} {ifs : List Expr} {scope : Scope} {own : List (PySem.Str × Nat)} {pos pos' : Pos} {O0 : Addr → HO} {Sx : V → V → Addr → Hp → (Hp → Prop) → Prop} {wi : TI} {g : TG} {tt : TT} {tk tv : TE} {use : Option (Value → Sem Unit)} {Qf : Value → Shared → Prop}
    (new0 : ∀ {pins : List (Addr × Obj)} {s : Shared} {σ : L2.St} {H : Hp}, Inv X pins σ H s → ObjOk X.prog X.w (upd H s.heap.objs.size (O0 s.heap.objs.size)) (s.heap.push { cls := .type "dict", data := .dict #[] }) s.heap.objs.size (O0 s.heap.objs.size))
    (put : ∀ (s0 : Shared) (H0 : Hp) (scope : Scope) (ce : Env) (fp : List Addr) {pins : List (Addr × Obj)} {s : Shared} {σ : L2.St} {H : Hp} {E : Value → Shared → Prop} {D : Addr} {y z : V} {u r : Value} {Nx : Hp → Prop} {Q : Unit → Shared → Prop}, Inv (X.blk s0 H0 scope ce fp) pins σ H s → RelV y u → RelV z r → Sx y z D H Nx →
      (∀ s' H', Inv (X.blk s0 H0 scope ce fp) pins σ H' s' → Nx H' → Q () s') → wpAny (model X.prog X.w) X.A (dictSet D u r) Q E s)
    (hc : X.calm = true) (hN : X.N.Nodup) (I : Inv X pins σ H s) (hi : PI X tg iter wi) (ok : BlkOk X.N X.env.scope scope own)
    (hg : ∀ (s : Shared) (H : Hp) (C : Addr) (cl : List (PySem.Str × Addr)) (fp : List Addr), PG (X.blk s H scope (compEnvC scope cl C X.env) fp) tg g) (ht : ∀ (s : Shared) (H : Hp) (C : Addr) (cl : List (PySem.Str × Addr)) (fp : List Addr), PTs (X.blk s H scope (compEnvC scope cl C X.env) fp) ifs tt)
    (hk : ∀ (s : Shared) (H : Hp) (C : Addr) (cl : List (PySem.Str × Addr)) (fp : List Addr), PE (X.blk s H scope (compEnvC scope cl C X.env) fp) kx tk)
    (he : ∀ (s : Shared) (H : Hp) (C : Addr) (cl : List (PySem.Str × Addr)) (fp : List Addr), PE (X.blk s H scope (compEnvC scope cl C X.env) fp) vx tv) (hs : ∀ x, foldedSetIterable iter X.env x = pure x)
    (h : tDcG O0 Sx wi g tt tk tv (own.map (·.2)) σ H Q)
    (hRR : ∀ D C s' m H', Inv X pins σ H' s' → Q (.ref D) H' → s'.heap.Ns C m → FpOk X pins H' C → compPost (model X.prog X.w) X.A X.xe use Qf (.ref D) C (.ok .next) s') :
    wpAny (model X.prog X.w) X.A (comprehension (.DictComp kx vx [⟨tg, iter, ifs, 0⟩] scope pos) scope X.env pos' newDict false (eval iter X.env) use) Qf X.xe s := by
  have hfree : ∀ y ∈ scope.names, y.2 = .free → ∃ c, X.env.cells.lookup y.1 = some c := fun y hy e => by
    rcases ok.free y hy e with k | k
    · exact I.ok.has _ (.inl k)
    · exact I.ok.has _ (.inr k)
  refine wpAny_comprehension_free (use := use) rfl hs (closure_ok hfree) ok.kind (fun y hy e => by rw [ok.uniq y hy, e])
    (thn (hi.run pins s σ H _ I h) fun xv s1 hx => thn hx fun itv s2 h2 => ?_)
  obtain ⟨it, fp, tn, J, H2, e, I2, T, st2, f2, q⟩ := h2
  subst e
  refine wpAny_newObj_type (newEnv_comp ?_)
  generalize hD : s2.heap.objs.size = D
  have hDn : H2 D = none := I2.hok.fresh (Nat.le_of_eq hD)
  obtain ⟨W, ⟨m0, w0⟩, turn⟩ := q D hDn
  -- the new list
  generalize hs3 : ({ s2 with heap := s2.heap.push { cls := .type "dict", data := .dict #[] } } : Shared) = s3
  have I3 : Inv X pins σ (upd H2 D (O0 D)) s3 := by
    rw [← hs3]
    refine I2.laid (t' := s2.toks) (fun b o e => Heap.get?_push_of_some _ e) (Nat.le_of_eq hD) ?_
    rw [← hD]
    exact new0 I2
  have h3 : s3.heap = s2.heap.push { cls := .type "dict", data := .dict #[] } := by rw [← hs3]
  have sz : ∀ b ∈ fp, b < s2.heap.objs.size := fun b hb => by
    obtain ⟨o, e, _⟩ := T.obj _ _ st2 b hb
    exact Heap.lt_size e
  have f3 : ∀ b ∈ fp, FpOk X pins (upd H2 D (O0 D)) b ∧ b < s3.heap.objs.size := fun b hb => by
    have hlt := sz b hb
    refine ⟨⟨?_, (f2 b hb).2⟩, by rw [h3, Heap.size_push]; exact Nat.lt_succ_of_lt hlt⟩
    rw [upd_ne (by rw [← hD]; exact Nat.ne_of_lt hlt)]
    exact (f2 b hb).1
  have st3 : tn 0 s3.heap := T.keep _ _ _ st2 fun b _ o e => by rw [h3]; exact Heap.get?_push_of_some _ e
  have I4 := block_start I3 ok hN f3
  have pg := hg s3 (upd H2 D (O0 D)) s3.heap.objs.size (cellsFrom (s3.heap.objs.size + 1) scope.names (cloFrom X.env.cells scope.names [])) fp
  have pt := ht s3 (upd H2 D (O0 D)) s3.heap.objs.size (cellsFrom (s3.heap.objs.size + 1) scope.names (cloFrom X.env.cells scope.names [])) fp
  have pk := hk s3 (upd H2 D (O0 D)) s3.heap.objs.size (cellsFrom (s3.heap.objs.size + 1) scope.names (cloFrom X.env.cells scope.names [])) fp
  have pe := he s3 (upd H2 D (O0 D)) s3.heap.objs.size (cellsFrom (s3.heap.objs.size + 1) scope.names (cloFrom X.env.cells scope.names [])) fp
  show codeAny _ _ (.compStart (.DictComp kx vx [⟨tg, iter, ifs, 0⟩] scope pos) 0 (.ref it) (.ref D) (compEnvC scope (cellsFrom (s3.heap.objs.size + 1) scope.names (cloFrom X.env.cells scope.names [])) s3.heap.objs.size X.env)) (compPost (model X.prog X.w) X.A X.xe use Qf (.ref D) s3.heap.objs.size) { s3 with heap := pushCells (s3.heap.push { cls := .type "dict", data := .dict #[] }) scope.names }
  have nfp : ∀ b ∈ fp, (upd H2 D (O0 D)) b = none := fun b hb => (f3 b hb).1.1
  generalize hce : compEnvC scope (cellsFrom (s3.heap.objs.size + 1) scope.names (cloFrom X.env.cells scope.names [])) s3.heap.objs.size X.env = ce at I4 pg pt pk pe ⊢
  have cL : ce.locals = s3.heap.objs.size := by subst hce; rfl
  generalize hH3 : upd H2 D (O0 D) = H3 at I3 I4 pg pt pk pe w0 nfp f3
  generalize hs4 : ({ s3 with heap := pushCells (s3.heap.push { cls := .type "dict", data := .dict #[] }) scope.names } : Shared) = s4 at I4 ⊢
  have st4 : tn 0 s4.heap := T.keep _ _ _ st3 fun b _ o e => by rw [← hs4]; exact pushCells_keeps _ _ _ _ (Heap.get?_push_of_some _ e)
  have stat : ∀ {σ' : L2.St} {H' : Hp} {s' : Shared}, Inv (X.blk s3 H3 scope ce fp) [] σ' H' s' → (∀ b ∈ fp, H' b = none) → ∀ b ∈ fp, FpOk (X.blk s3 H3 scope ce fp) [] H' b := fun {σ' H' s'} I' hn b hb =>
    ⟨hn b hb, (I'.ok.exf b hb).1, I'.ok.exfs b hb, .inl hb, fun x c e => (I'.ok.exf b hb).2 x c e, fun p hp => absurd (show p ∈ ([] : List (Addr × Obj)) ++ [] from hp) (by simp)⟩
  have loop : codeAny (model X.prog X.w) X.A (.compLoop (.DictComp kx vx [⟨tg, iter, ifs, 0⟩] scope pos) 0 (.ref it) (.ref D) ce) (compPost (model X.prog X.w) X.A X.xe use Qf (.ref D) s3.heap.objs.size) s4 := by
    refine compLoop_anyD (fun n s' => ∃ i H', Inv (X.blk s3 H3 scope ce fp) [] (wipe σ (own.map (·.2))) H' s' ∧ tn i s'.heap ∧ (∀ b ∈ fp, H' b = none) ∧ W i n H') ?_ m0 ⟨0, H3, I4, st4, nfp, w0⟩
    rintro n s5 ⟨i, H5, I5, st5, n5, w5⟩
    rcases turn i n H5 w5 with ⟨stop, qq⟩ | ⟨go, Nx, hNx, step⟩
    · have td := T.done (X.blk s3 H3 scope ce fp) rfl rfl rfl hc i [] s5 _ H5 (fun _ _ => False) I5 (stat I5 n5) st5 stop
      refine thnF td fun r s6 ⟨hr, I6⟩ => ?_
      subst hr
      -- back in the def's context
      have I7 : Inv X pins σ H5 s6 := I3.call' (ch := fp) I6.os I6.base I6.hok I6.bare fun b hb => ⟨(f3 b hb).1.2.2.2.1, (f3 b hb).1.2.1, (f3 b hb).1.2.2.2.2.1, (f3 b hb).1.2.2.2.2.2⟩
      have nC : H5 s3.heap.objs.size = none := by
        have z : H5 ce.locals = none := I6.free
        rw [cL] at z
        exact z
      obtain ⟨m, hn, _⟩ := I6.loc
      have hn : s6.heap.Ns ce.locals m := hn
      rw [cL] at hn
      exact hRR D s3.heap.objs.size s6 m H5 I7 qq hn (I3.fpOk (Nat.le_refl _) nC)
    · have ti := T.item (X.blk s3 H3 scope ce fp) rfl rfl rfl hc i [] s5 _ H5 (fun _ _ => False) I5 (stat I5 n5) st5 go
      refine thnF ti fun r s6 ⟨u, hr, h6⟩ => ?_
      subst hr
      refine thnF h6 fun _ s7 ⟨x, H7, I7, r7, y7, st7, n7⟩ => ?_
      have I7' := I7.pinned (stat I7 n7) (T.obj _ _ st7)
      refine thnF (pg.run _ s7 _ H7 x u _ I7' r7 (step x H7 y7)) fun _ s8 ⟨σ8, H8, I8, hw8, q8⟩ => ?_
      refine thnF (pt.run _ s8 σ8 H8 _ I8 q8) fun b s9 ⟨H9, I9, q9⟩ => ?_
      -- the turn's end
      have fin : ∀ {s' : Shared} {H' : Hp}, Inv (X.blk s3 H3 scope ce fp) ([] ++ pinsAt fp s7.heap) σ8 H' s' → Nx H' → ∃ m, m < n ∧ ∃ i H', Inv (X.blk s3 H3 scope ce fp) [] (wipe σ (own.map (·.2))) H' s' ∧ tn i s'.heap ∧ (∀ b ∈ fp, H' b = none) ∧ W i m H' := fun {s' H'} I' nx => by
        obtain ⟨m', hm, w'⟩ := hNx H' nx
        have pin' : ∀ b ∈ fp, ∀ o, s7.heap.get? b = some o → s'.heap.get? b = some o ∧ H' b = none := fun b hb o e =>
          let z := I'.pin (b, o) (List.mem_append_right _ (List.mem_append_right _ (mem_pinsAt hb e)))
          ⟨z.1, z.2.1⟩
        have hl : (wipe σ (own.map (·.2))).length = σ8.length := by rw [← hw8, wipe_length]
        refine ⟨m', hm, i + 1, H', (I'.unpinned (pins := [])).weak hl (fun j v e => ?_), T.keep _ _ _ st7 fun b hb o e => (pin' b hb o e).1, fun b hb => ?_, w'⟩
        · rw [← hw8] at e
          exact (wipe_some e).1
        · obtain ⟨o, e, _⟩ := T.obj _ _ st7 b hb
          exact (pin' b hb o e).2
      cases b with
      | false =>
        simp only [Bool.false_eq_true, if_false] at q9 ⊢
        exact fin I9 q9
      | true =>
        simp only [if_true] at q9 ⊢
        refine thnF (pk.run _ s9 σ8 H9 _ I9 q9) fun z s10 ⟨yk, H10, I10, r10, q10⟩ => ?_
        refine thnF (pe.run _ s10 σ8 H10 _ I10 q10) fun z2 s11 ⟨yv, H11, I11, r11, nx⟩ => ?_
        exact put s3 H3 scope ce fp I11 r10 r11 nx fun s12 H12 I12 n12 => fin I12 n12
  exact codeAny_compStart_dict loop (T.self X.A 0 _ _ _ st4 loop)
/-- as a value -/
theorem pe_dcg {kx vx tg iter : Expr} {ifs : List Expr} {scope : Scope} {own : List (PySem.Str × Nat)} {pos : Pos} {O0 : Addr → HO} {Sx : V → V → Addr → Hp → (Hp → Prop) → Prop} {wi : TI} {g : TG} {tt : TT} {tk tv : TE}
    (new0 : ∀ {pins : List (Addr × Obj)} {s : Shared} {σ : L2.St} {H : Hp}, Inv X pins σ H s → ObjOk X.prog X.w (upd H s.heap.objs.size (O0 s.heap.objs.size)) (s.heap.push { cls := .type "dict", data := .dict #[] }) s.heap.objs.size (O0 s.heap.objs.size))
    (put : ∀ (s0 : Shared) (H0 : Hp) (scope : Scope) (ce : Env) (fp : List Addr) {pins : List (Addr × Obj)} {s : Shared} {σ : L2.St} {H : Hp} {E : Value → Shared → Prop} {D : Addr} {y z : V} {u r : Value} {Nx : Hp → Prop} {Q : Unit → Shared → Prop}, Inv (X.blk s0 H0 scope ce fp) pins σ H s → RelV y u → RelV z r → Sx y z D H Nx →
      (∀ s' H', Inv (X.blk s0 H0 scope ce fp) pins σ H' s' → Nx H' → Q () s') → wpAny (model X.prog X.w) X.A (dictSet D u r) Q E s)
    (hc : X.calm = true) (hN : X.N.Nodup) (hi : PI X tg iter wi) (ok : BlkOk X.N X.env.scope scope own)
    (hg : ∀ (s : Shared) (H : Hp) (C : Addr) (cl : List (PySem.Str × Addr)) (fp : List Addr), PG (X.blk s H scope (compEnvC scope cl C X.env) fp) tg g) (ht : ∀ (s : Shared) (H : Hp) (C : Addr) (cl : List (PySem.Str × Addr)) (fp : List Addr), PTs (X.blk s H scope (compEnvC scope cl C X.env) fp) ifs tt)
    (hk : ∀ (s : Shared) (H : Hp) (C : Addr) (cl : List (PySem.Str × Addr)) (fp : List Addr), PE (X.blk s H scope (compEnvC scope cl C X.env) fp) kx tk)
    (he : ∀ (s : Shared) (H : Hp) (C : Addr) (cl : List (PySem.Str × Addr)) (fp : List Addr), PE (X.blk s H scope (compEnvC scope cl C X.env) fp) vx tv) (hs : ∀ x, foldedSetIterable iter X.env x = pure x := by intro _; rfl) :
    PE X (.DictComp kx vx [⟨tg, iter, ifs, 0⟩] scope pos) (tDcG O0 Sx wi g tt tk tv (own.map (·.2))) := by
  refine ⟨fun pins s σ H Q I h => ?_⟩
  rw [arm_eval_DictComp]
  refine dcg_core new0 put hc hN I hi ok hg ht hk he hs h fun D C s' m H' I' q hn f => ⟨m, hn, fun h'' sb => ?_⟩
  obtain ⟨f0, f1, f2, f3, f4, f5⟩ := f
  exact ⟨.ref D, H', I'.turned (t' := s'.toks) (fun b o hb e => (sb.2 b hb).trans e) f0 f1 f3 f4 f5, rfl, q⟩
def tScG (O0 : Addr → HO) (Sx : V → Addr → Hp → (Hp → Prop) → Prop) (wi : TI) (g : TG) (tt : TT) (te : TE) (vs : List Nat) : TE := fun σ H Q => wi σ H fun J H1 => ∀ D, H1 D = none → ∃ W : Nat → Nat → Hp → Prop, (∃ m, W 0 m (upd H1 D (O0 D))) ∧ ∀ i m H, W i m H →
  (J.stop i H ∧ Q (.ref D) H) ∨ (J.go i H ∧ ∃ Nx : Hp → Prop, (∀ H', Nx H' → ∃ m', m' < m ∧ W (i + 1) m' H') ∧ ∀ x H', J.yld i H x H' → g x (wipe σ vs) H' fun σ2 H2 => wipe σ2 vs = wipe σ vs ∧ tt σ2 H2 fun b H3 =>
    if b = true then te σ2 H3 fun y H4 => Sx y D H4 Nx else Nx H3)
theorem scg_core {pins : List (Addr × Obj)} {s : Shared} {σ : L2.St} {H : Hp} {Q : VK} {elt tg iter : Expr} {ifs : List Expr} {scope : Scope} {own : List (PySem.Str × Nat)} {pos pos' : Pos} {O0 : Addr → HO} {Sx : V → Addr → Hp → (Hp → Prop) → Prop} {wi : TI} {g : TG} {tt : TT} {te : TE} {use : Option (Value → Sem Unit)} {Qf : Value → Shared → Prop}
    (new0 : ∀ {pins : List (Addr × Obj)} {s : Shared} {σ : L2.St} {H : Hp}, Inv X pins σ H s → ObjOk X.prog X.w (upd H s.heap.objs.size (O0 s.heap.objs.size)) (s.heap.push { cls := .type "set", dict := none, data := .set #[] 0 (.fresh 0 0 (!X.w.params.followText "set-order")) }) s.heap.objs.size (O0 s.heap.objs.size))
    (put : ∀ (s0 : Shared) (H0 : Hp) (scope : Scope) (ce : Env) (fp : List Addr) {pins : List (Addr × Obj)} {s : Shared} {σ : L2.St} {H : Hp} {E : Value → Shared → Prop} {D : Addr} {y : V} {u : Value} {Nx : Hp → Prop} {Q : Value → Shared → Prop}, Inv (X.blk s0 H0 scope ce fp) pins σ H s → RelV y u → Sx y D H Nx →
      (∀ s' H', Inv (X.blk s0 H0 scope ce fp) pins σ H' s' → Nx H' → Q .none s') → wpAny (model X.prog X.w) X.A (call (.builtin "set.add") [.ref D, u]) Q E s)
    (hc : X.calm = true) (hN : X.N.Nodup) (I : Inv X pins σ H s) (hi : PI X tg iter wi) (ok : BlkOk X.N X.env.scope scope own)
    (hg : ∀ (s : Shared) (H : Hp) (C : Addr) (cl : List (PySem.Str × Addr)) (fp : List Addr), PG (X.blk s H scope (compEnvC scope cl C X.env) fp) tg g) (ht : ∀ (s : Shared) (H : Hp) (C : Addr) (cl : List (PySem.Str × Addr)) (fp : List Addr), PTs (X.blk s H scope (compEnvC scope cl C X.env) fp) ifs tt)
    (he : ∀ (s : Shared) (H : Hp) (C : Addr) (cl : List (PySem.Str × Addr)) (fp : List Addr), PE (X.blk s H scope (compEnvC scope cl C X.env) fp) elt te) (hs : ∀ x, foldedSetIterable iter X.env x = pure x)
    (h : tScG O0 Sx wi g tt te (own.map (·.2)) σ H Q)
    (hRR : ∀ D C s' m H', Inv X pins σ H' s' → Q (.ref D) H' → s'.heap.Ns C m → FpOk X pins H' C → compPost (model X.prog X.w) X.A X.xe use Qf (.ref D) C (.ok .next) s') :
    wpAny (model X.prog X.w) X.A (comprehension (.SetComp elt [⟨tg, iter, ifs, 0⟩] scope pos) scope X.env pos' (PySem.newSet (.type "set")) false (eval iter X.env) use) Qf X.xe s := by
  have hfree : ∀ y ∈ scope.names, y.2 = .free → ∃ c, X.env.cells.lookup y.1 = some c := fun y hy e => by
    rcases ok.free y hy e with k | k
    · exact I.ok.has _ (.inl k)
    · exact I.ok.has _ (.inr k)
  refine wpAny_comprehension_free (use := use) rfl hs (closure_ok hfree) ok.kind (fun y hy e => by rw [ok.uniq y hy, e])
    (thn (hi.run pins s σ H _ I h) fun xv s1 hx => thn hx fun itv s2 h2 => ?_)
  obtain ⟨it, fp, tn, J, H2, e, I2, T, st2, f2, q⟩ := h2
  subst e
  refine newSet_ok (newEnv_comp ?_)
  generalize hD : s2.heap.objs.size = D
  have hDn : H2 D = none := I2.hok.fresh (Nat.le_of_eq hD)
  obtain ⟨W, ⟨m0, w0⟩, turn⟩ := q D hDn
  -- the new list
  generalize hs3 : ({ s2 with heap := s2.heap.push { cls := .type "set", dict := none, data := .set #[] 0 (.fresh 0 0 (!X.w.params.followText "set-order")) } } : Shared) = s3
  have I3 : Inv X pins σ (upd H2 D (O0 D)) s3 := by
    rw [← hs3]
    refine I2.laid (t' := s2.toks) (fun b o e => Heap.get?_push_of_some _ e) (Nat.le_of_eq hD) ?_
    rw [← hD]
    exact new0 I2
  have h3 : s3.heap = s2.heap.push { cls := .type "set", dict := none, data := .set #[] 0 (.fresh 0 0 (!X.w.params.followText "set-order")) } := by rw [← hs3]
  have sz : ∀ b ∈ fp, b < s2.heap.objs.size := fun b hb => by
    obtain ⟨o, e, _⟩ := T.obj _ _ st2 b hb
    exact Heap.lt_size e
  have f3 : ∀ b ∈ fp, FpOk X pins (upd H2 D (O0 D)) b ∧ b < s3.heap.objs.size := fun b hb => by
    have hlt := sz b hb
    refine ⟨⟨?_, (f2 b hb).2⟩, by rw [h3, Heap.size_push]; exact Nat.lt_succ_of_lt hlt⟩
    rw [upd_ne (by rw [← hD]; exact Nat.ne_of_lt hlt)]
    exact (f2 b hb).1
  have st3 : tn 0 s3.heap := T.keep _ _ _ st2 fun b _ o e => by rw [h3]; exact Heap.get?_push_of_some _ e
  have I4 := block_start I3 ok hN f3
  have pg := hg s3 (upd H2 D (O0 D)) s3.heap.objs.size (cellsFrom (s3.heap.objs.size + 1) scope.names (cloFrom X.env.cells scope.names [])) fp
  have pt := ht s3 (upd H2 D (O0 D)) s3.heap.objs.size (cellsFrom (s3.heap.objs.size + 1) scope.names (cloFrom X.env.cells scope.names [])) fp
  have pe := he s3 (upd H2 D (O0 D)) s3.heap.objs.size (cellsFrom (s3.heap.objs.size + 1) scope.names (cloFrom X.env.cells scope.names [])) fp
  show codeAny _ _ (.compStart (.SetComp elt [⟨tg, iter, ifs, 0⟩] scope pos) 0 (.ref it) (.ref D) (compEnvC scope (cellsFrom (s3.heap.objs.size + 1) scope.names (cloFrom X.env.cells scope.names [])) s3.heap.objs.size X.env)) (compPost (model X.prog X.w) X.A X.xe use Qf (.ref D) s3.heap.objs.size) { s3 with heap := pushCells (s3.heap.push { cls := .type "dict", data := .dict #[] }) scope.names }
  have nfp : ∀ b ∈ fp, (upd H2 D (O0 D)) b = none := fun b hb => (f3 b hb).1.1
  generalize hce : compEnvC scope (cellsFrom (s3.heap.objs.size + 1) scope.names (cloFrom X.env.cells scope.names [])) s3.heap.objs.size X.env = ce at I4 pg pt pe ⊢
  have cL : ce.locals = s3.heap.objs.size := by subst hce; rfl
  generalize hH3 : upd H2 D (O0 D) = H3 at I3 I4 pg pt pe w0 nfp f3
  generalize hs4 : ({ s3 with heap := pushCells (s3.heap.push { cls := .type "dict", data := .dict #[] }) scope.names } : Shared) = s4 at I4 ⊢
  have st4 : tn 0 s4.heap := T.keep _ _ _ st3 fun b _ o e => by rw [← hs4]; exact pushCells_keeps _ _ _ _ (Heap.get?_push_of_some _ e)
  have stat : ∀ {σ' : L2.St} {H' : Hp} {s' : Shared}, Inv (X.blk s3 H3 scope ce fp) [] σ' H' s' → (∀ b ∈ fp, H' b = none) → ∀ b ∈ fp, FpOk (X.blk s3 H3 scope ce fp) [] H' b := fun {σ' H' s'} I' hn b hb =>
    ⟨hn b hb, (I'.ok.exf b hb).1, I'.ok.exfs b hb, .inl hb, fun x c e => (I'.ok.exf b hb).2 x c e, fun p hp => absurd (show p ∈ ([] : List (Addr × Obj)) ++ [] from hp) (by simp)⟩
  have loop : codeAny (model X.prog X.w) X.A (.compLoop (.SetComp elt [⟨tg, iter, ifs, 0⟩] scope pos) 0 (.ref it) (.ref D) ce) (compPost (model X.prog X.w) X.A X.xe use Qf (.ref D) s3.heap.objs.size) s4 := by
    refine compLoopS_any (fun n s' => ∃ i H', Inv (X.blk s3 H3 scope ce fp) [] (wipe σ (own.map (·.2))) H' s' ∧ tn i s'.heap ∧ (∀ b ∈ fp, H' b = none) ∧ W i n H') ?_ m0 ⟨0, H3, I4, st4, nfp, w0⟩
    rintro n s5 ⟨i, H5, I5, st5, n5, w5⟩
    rcases turn i n H5 w5 with ⟨stop, qq⟩ | ⟨go, Nx, hNx, step⟩
    · have td := T.done (X.blk s3 H3 scope ce fp) rfl rfl rfl hc i [] s5 _ H5 (fun _ _ => False) I5 (stat I5 n5) st5 stop
      refine thnF td fun r s6 ⟨hr, I6⟩ => ?_
      subst hr
      -- back in the def's context
      have I7 : Inv X pins σ H5 s6 := I3.call' (ch := fp) I6.os I6.base I6.hok I6.bare fun b hb => ⟨(f3 b hb).1.2.2.2.1, (f3 b hb).1.2.1, (f3 b hb).1.2.2.2.2.1, (f3 b hb).1.2.2.2.2.2⟩
      have nC : H5 s3.heap.objs.size = none := by
        have z : H5 ce.locals = none := I6.free
        rw [cL] at z
        exact z
      obtain ⟨m, hn, _⟩ := I6.loc
      have hn : s6.heap.Ns ce.locals m := hn
      rw [cL] at hn
      exact hRR D s3.heap.objs.size s6 m H5 I7 qq hn (I3.fpOk (Nat.le_refl _) nC)
    · have ti := T.item (X.blk s3 H3 scope ce fp) rfl rfl rfl hc i [] s5 _ H5 (fun _ _ => False) I5 (stat I5 n5) st5 go
      refine thnF ti fun r s6 ⟨u, hr, h6⟩ => ?_
      subst hr
      refine thnF h6 fun _ s7 ⟨x, H7, I7, r7, y7, st7, n7⟩ => ?_
      have I7' := I7.pinned (stat I7 n7) (T.obj _ _ st7)
      refine thnF (pg.run _ s7 _ H7 x u _ I7' r7 (step x H7 y7)) fun _ s8 ⟨σ8, H8, I8, hw8, q8⟩ => ?_
      refine thnF (pt.run _ s8 σ8 H8 _ I8 q8) fun b s9 ⟨H9, I9, q9⟩ => ?_
      -- the turn's end
      have fin : ∀ {s' : Shared} {H' : Hp}, Inv (X.blk s3 H3 scope ce fp) ([] ++ pinsAt fp s7.heap) σ8 H' s' → Nx H' → ∃ m, m < n ∧ ∃ i H', Inv (X.blk s3 H3 scope ce fp) [] (wipe σ (own.map (·.2))) H' s' ∧ tn i s'.heap ∧ (∀ b ∈ fp, H' b = none) ∧ W i m H' := fun {s' H'} I' nx => by
        obtain ⟨m', hm, w'⟩ := hNx H' nx
        have pin' : ∀ b ∈ fp, ∀ o, s7.heap.get? b = some o → s'.heap.get? b = some o ∧ H' b = none := fun b hb o e =>
          let z := I'.pin (b, o) (List.mem_append_right _ (List.mem_append_right _ (mem_pinsAt hb e)))
          ⟨z.1, z.2.1⟩
        have hl : (wipe σ (own.map (·.2))).length = σ8.length := by rw [← hw8, wipe_length]
        refine ⟨m', hm, i + 1, H', (I'.unpinned (pins := [])).weak hl (fun j v e => ?_), T.keep _ _ _ st7 fun b hb o e => (pin' b hb o e).1, fun b hb => ?_, w'⟩
        · rw [← hw8] at e
          exact (wipe_some e).1
        · obtain ⟨o, e, _⟩ := T.obj _ _ st7 b hb
          exact (pin' b hb o e).2
      cases b with
      | false =>
        simp only [Bool.false_eq_true, if_false] at q9 ⊢
        exact fin I9 q9
      | true =>
        simp only [if_true] at q9 ⊢
        refine thnF (pe.run _ s9 σ8 H9 _ I9 q9) fun z s10 ⟨yv, H10, I10, r10, nx⟩ => ?_
        exact put s3 H3 scope ce fp I10 r10 nx fun s11 H11 I11 n11 => fin I11 n11
  exact codeAny_compStart_set loop (T.self X.A 0 _ _ _ st4 loop)
/-- as a value -/
theorem pe_scg {elt tg iter : Expr} {ifs : List Expr} {scope : Scope} {own : List (PySem.Str × Nat)} {pos : Pos} {O0 : Addr → HO} {Sx : V → Addr → Hp → (Hp → Prop) → Prop} {wi : TI} {g : TG} {tt : TT} {te : TE} 
    (new0 : ∀ {pins : List (Addr × Obj)} {s : Shared} {σ : L2.St} {H : Hp}, Inv X pins σ H s → ObjOk X.prog X.w (upd H s.heap.objs.size (O0 s.heap.objs.size)) (s.heap.push { cls := .type "set", dict := none, data := .set #[] 0 (.fresh 0 0 (!X.w.params.followText "set-order")) }) s.heap.objs.size (O0 s.heap.objs.size))
    (put : ∀ (s0 : Shared) (H0 : Hp) (scope : Scope) (ce : Env) (fp : List Addr) {pins : List (Addr × Obj)} {s : Shared} {σ : L2.St} {H : Hp} {E : Value → Shared → Prop} {D : Addr} {y : V} {u : Value} {Nx : Hp → Prop} {Q : Value → Shared → Prop}, Inv (X.blk s0 H0 scope ce fp) pins σ H s → RelV y u → Sx y D H Nx →
      (∀ s' H', Inv (X.blk s0 H0 scope ce fp) pins σ H' s' → Nx H' → Q .none s') → wpAny (model X.prog X.w) X.A (call (.builtin "set.add") [.ref D, u]) Q E s)
    (hc : X.calm = true) (hN : X.N.Nodup) (hi : PI X tg iter wi) (ok : BlkOk X.N X.env.scope scope own)
    (hg : ∀ (s : Shared) (H : Hp) (C : Addr) (cl : List (PySem.Str × Addr)) (fp : List Addr), PG (X.blk s H scope (compEnvC scope cl C X.env) fp) tg g) (ht : ∀ (s : Shared) (H : Hp) (C : Addr) (cl : List (PySem.Str × Addr)) (fp : List Addr), PTs (X.blk s H scope (compEnvC scope cl C X.env) fp) ifs tt)
    (he : ∀ (s : Shared) (H : Hp) (C : Addr) (cl : List (PySem.Str × Addr)) (fp : List Addr), PE (X.blk s H scope (compEnvC scope cl C X.env) fp) elt te) (hs : ∀ x, foldedSetIterable iter X.env x = pure x := by intro _; rfl) :
    PE X (.SetComp elt [⟨tg, iter, ifs, 0⟩] scope pos) (tScG O0 Sx wi g tt te (own.map (·.2))) := by
  refine ⟨fun pins s σ H Q I h => ?_⟩
  rw [eval_SetComp]
  refine scg_core new0 put hc hN I hi ok hg ht he hs h fun D C s' m H' I' q hn f => ⟨m, hn, fun h'' sb => ?_⟩
  obtain ⟨f0, f1, f2, f3, f4, f5⟩ := f
  exact ⟨.ref D, H', I'.turned (t' := s'.toks) (fun b o hb e => (sb.2 b hb).trans e) f0 f1 f3 f4 f5, rfl, q⟩
end
end DSet

/-! DS8: pairs of an int and a tuple of ints: sets of them sorted, dicts keyed by them. -/
namespace DSet
open PySem PySem.Spec PyProof.Rows L2
open PySem.W (keyToks alike EachIs AllAlike Sortable dataLe dataLt dataKind)
abbrev Pk := Int × List Int
def nk (p : Pk) : NestedKey := .tup [.num p.1, .tup (p.2.map .num)]
theorem map_num_inj : ∀ {xs ys : List Int}, xs.map NestedKey.num = ys.map NestedKey.num → xs = ys
  | [], [], _ => rfl
  | [], _ :: _, h => by simp at h
  | _ :: _, [], h => by simp at h
  | x :: xs, y :: ys, h => by
    simp only [List.map_cons, List.cons.injEq, NestedKey.num.injEq] at h
    rw [h.1, map_num_inj h.2]
theorem nk_inj {p q : Pk} (h : nk p = nk q) : p = q := by
  unfold nk at h
  injection h with h
  simp only [List.cons.injEq, NestedKey.num.injEq, NestedKey.tup.injEq, and_true] at h
  exact Prod.ext h.1 (map_num_inj h.2)
theorem depth_nums : ∀ xs : List Int, NestedKey.depthAll (xs.map .num) = 0
  | [] => rfl
  | x :: xs => by
    show NestedKey.depthAll (.num x :: xs.map .num) = 0
    rw [NestedKey.depthAll, depth_nums xs]
    rfl
theorem nk_depth (p : Pk) : (nk p).depth ≤ 8 := by
  unfold nk
  simp only [NestedKey.depth, NestedKey.depthAll, depth_nums]
  decide
/-- the value is that pair -/
def PkV (K : PySem.W.Frag) (H : Hp) (b : Addr) (p : Pk) : Prop := ∃ c, SqT K H b [.int p.1, .ref c] ∧ SqT K H c (p.2.map V.int)
theorem PkV.mono {K : PySem.W.Frag} {F F' : Hp} {b : Addr} {p : Pk} (h : PkV K F b p) (s : Same F F') : PkV K F' b p := by
  obtain ⟨c, h1, h2⟩ := h
  exact ⟨c, DL.same_tup s h1, DL.same_tup s h2⟩
theorem nestedAll_ints {h : Heap} : ∀ {ns : List Int} {us : List Value}, Vals (ns.map V.int) us → NestedAll h (ns.map .num) us
  | [], _, .nil => .nil
  | n :: ns, _, .cons r t => by
    obtain ⟨tk, rfl⟩ := r
    exact .cons (.int n tk) (nestedAll_ints t)
section
variable {X : Cx} {pins : List (Addr × Obj)} {σ : L2.St} {H : Hp} {s : Shared}
theorem pk_is (I : Inv X pins σ H s) {b : Addr} {p : Pk} (h : PkV X.K H b p) : IsN s.heap (b, nk p) := by
  obtain ⟨c, h1, h2⟩ := h
  obtain ⟨i1, r1, ⟨o1, ho1, hc1, n1, hd1⟩, _⟩ := I.tuple h1
  obtain ⟨i2, r2, ⟨o2, ho2, hc2, n2, hd2⟩, _⟩ := I.tuple h2
  refine ⟨.tup ho1 hc1 hd1 ?_, nk_depth p⟩
  cases r1 with
  | cons ra rt =>
    cases rt with
    | cons rb rn =>
      cases rn
      obtain ⟨tk, rfl⟩ := ra
      cases rb
      exact .cons (.int _ tk) (.cons (.tup ho2 hc2 hd2 (by simpa using nestedAll_ints r2)) .nil)
def encp (p : Pk) : PyData := .tuple [.int p.1, .tuple (p.2.map .int)]
theorem readsAll_ints {h : Heap} : ∀ {ns : List Int} {us : List Value}, Vals (ns.map V.int) us → ReadsAll h us (ns.map .int) []
  | [], _, .nil => .nil
  | n :: ns, _, .cons r t => by
    obtain ⟨tk, rfl⟩ := r
    have := ReadsAll.cons (h := h) (as := []) (.int n tk) (readsAll_ints t)
    exact this
theorem pk_reads (I : Inv X pins σ H s) {b : Addr} {p : Pk} (h : PkV X.K H b p) : ∃ as, Reads s.heap (.ref b) (encp p) as := by
  obtain ⟨c, h1, h2⟩ := h
  obtain ⟨i1, r1, ⟨o1, ho1, hc1, n1, hd1⟩, _⟩ := I.tuple h1
  obtain ⟨i2, r2, ⟨o2, ho2, hc2, n2, hd2⟩, _⟩ := I.tuple h2
  cases r1 with
  | cons ra rt =>
    cases rt with
    | cons rb rn =>
      cases rn
      obtain ⟨tk, rfl⟩ := ra
      cases rb
      refine ⟨_, .tuple ho1 hc1 hd1 (.cons (.int _ tk) (.cons (.tuple ho2 hc2 hd2 (by simpa using readsAll_ints r2)) .nil))⟩
end
/-- the pairs' order -/
def pLe (p q : Pk) : Prop := p.1 < q.1 ∨ (p.1 = q.1 ∧ p.2 ≤ q.2)
theorem eqv_ints : ∀ xs ys : List Int, PyData.eqvAll (xs.map .int) (ys.map .int) = decide (xs = ys)
  | [], [] => rfl
  | [], _ :: _ => rfl
  | _ :: _, [] => rfl
  | x :: xs, y :: ys => by
    show PyData.eqvAll (.int x :: xs.map .int) (.int y :: ys.map .int) = _
    rw [W.eqv_all_cons, eqv_ints xs ys]
    show ((x == y) && _) = _
    by_cases h : x = y <;> by_cases h2 : xs = ys <;> simp [h, h2]
theorem alike_encp (p q : Pk) : alike (encp p) (encp q) = true := by
  unfold encp
  simp only [alike, W.alikeAll, W.alike_ints]
  rfl
theorem pLe_of {p q : Pk} (h : dataLe false encp p q = true) : pLe p q := by
  have h : (!dataLt (encp q) (encp p)) = true := h
  unfold encp at h
  rw [W.dataLt_pair (by rfl) (by simp only [alike]; exact W.alike_ints _ _), W.dataLt_int, W.dataLt_tuple] at h
  have e := W.dataLt_ints q.2 p.2
  unfold W.rowLt at e
  rw [e] at h
  unfold pLe
  by_cases c : q.1 = p.1
  · have c' : PyData.eqv (.int q.1) (.int p.1) = true := by show (q.1 == p.1) = true; rw [c]; exact beq_self_eq_true _
    rw [if_pos c'] at h
    right
    refine ⟨c.symm, ?_⟩
    by_cases c2 : q.2 = p.2
    · rw [c2]; exact List.le_refl _
    · have c3 : ¬ PyData.eqv (.tuple (q.2.map .int)) (.tuple (p.2.map .int)) = true := by
        show ¬ PyData.eqvAll _ _ = true
        rw [eqv_ints]
        simp [c2]
      rw [if_neg c3] at h
      have : ¬ q.2 < p.2 := by simpa using h
      exact List.not_lt.mp this
  · have c' : ¬ PyData.eqv (.int q.1) (.int p.1) = true := by show ¬ (q.1 == p.1) = true; simpa using c
    rw [if_neg c'] at h
    have : ¬ q.1 < p.1 := by simpa using h
    left
    omega

/-! #### the set at an address -/
def SetN0 (w : World) (h : Heap) (a : Addr) (L : List Ent) : Prop := ∃ es ep t, (∃ o, h.get? a = some o ∧ o.ExactSet ∧ o.data = .set es ep t) ∧ es.toList = ents w L ∧ Tb t (L.map (eh w)) ∧ (L.map (·.2)).Nodup ∧
  (w.params.followText "set-order" = true ∨ t.led = true) ∧ (t.mask = 7 ∨ t.mask = 31 ∨ t.mask = 127 ∨ t.mask = 511) ∧ L.length * 5 < t.mask * 3
abbrev Row := Addr × Pk
def rowE (L : List Row) : List Ent := L.map fun q => (q.1, nk q.2)
def SetNO (w : World) (a : Addr) (L : List Row) : HO := .ext fun h => SetN0 w h a (rowE L)
theorem setNO_new {P : Program} {w : World} {H : Hp} {h : Heap} {a : Addr} {L : List Row} (R : SetN0 w h a (rowE L)) : ObjOk P w H h a (SetNO w a L) := by
  have ⟨es, ep, t, ⟨o, ho, r⟩, q⟩ := R
  refine ⟨R, ⟨o, ho⟩, fun h1 h2 p k => ?_⟩
  obtain ⟨es', ep', t', ⟨o', ho', r'⟩, q'⟩ := (show SetN0 w h1 a (rowE L) from p)
  exact ⟨es', ep', t', ⟨o', k o' ho', r'⟩, q'⟩
section
variable {X : Cx}
theorem refs_vals : ∀ {ks : List Row} {us : List Value}, Vals (ks.map fun p => V.ref p.1) us → us = (rowE ks).map fun p => Value.ref p.1
  | [], _, .nil => rfl
  | p :: ks, _, .cons r t => by
    cases r
    rw [refs_vals t] <;> rfl
theorem vals_refs : ∀ (ks : List Row), Vals (ks.map fun p => V.ref p.1) ((rowE ks).map fun p => Value.ref p.1)
  | [] => .nil
  | p :: ks => .cons rfl (vals_refs ks)
theorem row_back {ks : List Row} : ∀ {L : List Ent}, (∀ p ∈ L, p ∈ rowE ks) → ∃ L' : List Row, L = rowE L' ∧ ∀ q ∈ L', q ∈ ks
  | [], _ => ⟨[], rfl, fun q h => by cases h⟩
  | p :: L, h => by
    obtain ⟨L', e, hs⟩ := row_back (L := L) fun q hq => h q (List.mem_cons_of_mem _ hq)
    obtain ⟨q, hq, rfl⟩ := List.mem_map.mp (h p List.mem_cons_self)
    refine ⟨q :: L', by rw [e]; rfl, fun r hr => ?_⟩
    rcases List.mem_cons.mp hr with z | z
    · rw [z]; exact hq
    · exact hs r z
theorem keys_row (L : List Row) : (rowE L).map (·.2) = (L.map (·.2)).map nk := by
  unfold rowE
  rw [List.map_map, List.map_map]
  rfl
theorem nodup_keys {L : List Row} (h : ((rowE L).map (·.2)).Nodup) : (L.map (·.2)).Nodup := by
  rw [keys_row] at h
  exact List.Pairwise.of_map nk (fun _ _ hne e => hne (congrArg nk e)) h
/-- set(xs), xs a list of such pairs -/
def rSetN (K : PySem.W.Frag) (w : World) : List V → Hp → VK → Prop := fun xs H Q => ∃ (l : Addr) (ks : List Row), xs = [V.ref l] ∧ SqL K H l (ks.map fun p => V.ref p.1) ∧ (∀ p ∈ ks, PkV K H p.1 p.2) ∧ ks.length ≤ 300 ∧
  ∀ a (L : List Row), H a = none → (∀ p ∈ L, p ∈ ks) → (∀ p ∈ ks, p.2 ∈ L.map (·.2)) → Q (.ref a) (upd H a (SetNO w a L))
theorem cr_setN (hc : X.calm = true) (hu : X.A.units + 64 < cLine) : CallR X (.type "set") (rSetN X.K X.w) := by
  intro pins s σ H xs us Q I r h
  obtain ⟨l, ks, rfl, hl, hk, hf, q⟩ := h
  rw [Vals.ref1 r]
  obtain ⟨its, rv, pl, hz⟩ := I.list hl
  have hn : H s.heap.objs.size = none := I.hok.fresh (Nat.le_refl _)
  have hkE : ∀ p ∈ rowE ks, IsN s.heap p := fun p hp => by
    obtain ⟨z, hz, rfl⟩ := List.mem_map.mp hp
    exact pk_is I (hk z hz)
  refine call_set_any (P := X.prog) (w := X.w) (I.ok.hd hc) pl.isList (steps_nest (rowE ks) (by simpa using refs_vals rv) hkE (by unfold rowE; rw [List.length_map]; exact hf)) (fun h e => ⟨[], _, _, _, setN_fresh e, Have.zero _⟩) (by omega) fun h' tk ⟨L, es, ep, t, R, g⟩ k => ?_
  obtain ⟨L', rfl, hs⟩ := row_back (ks := ks) (L := L) fun p hp => List.mem_of_mem_take (g.sub p hp)
  have R0 : SetN0 X.w h' s.heap.objs.size (rowE L') := ⟨es, ep, t, R.ob, R.rows, R.tab, R.nd, R.led, R.msk, R.room⟩
  refine ⟨.ref s.heap.objs.size, upd H s.heap.objs.size (SetNO X.w s.heap.objs.size L'), I.laid (t' := tk) k (Nat.le_refl _) (setNO_new R0), rfl, q _ L' hn hs fun p hp => ?_⟩
  have hsz : its.toArray.size = (rowE ks).length := by
    have e := rv.length
    rw [List.length_map] at e
    unfold rowE
    rw [List.length_map]
    simpa using e.symm
  have hm : (p.1, nk p.2) ∈ (rowE ks).take its.toArray.size := by
    rw [hsz, List.take_length]
    exact List.mem_map.mpr ⟨p, hp, rfl⟩
  have := g.all _ hm
  rw [keys_row] at this
  obtain ⟨q', hq', e⟩ := List.mem_map.mp this
  rw [← nk_inj e]
  exact hq'
/-- sorted(set) -/
def rSortedN (K : PySem.W.Frag) (w : World) : List V → Hp → VK → Prop := fun vs H Q => ∃ (a : Addr) (L : List Row), vs = [V.ref a] ∧ H a = some (SetNO w a L) ∧ (∀ p ∈ L, PkV K H p.1 p.2) ∧
  ∀ (L' : List Row) (p : Addr), L'.Perm L → (L'.map (·.2)).Nodup → L'.Pairwise (fun q r => pLe q.2 r.2) → H p = none → Q (.ref p) (upd H p (.lst (L'.map fun q => V.ref q.1)))
theorem depth_encp (p : Pk) : (encp p).depth ≤ 8 := by
  unfold encp
  simp only [PyData.depth, PyData.depthAll, W.depth_ints]
  decide
theorem each_rows {h : Heap} : ∀ {L : List Row}, (∀ p ∈ L, ∃ as, Reads h (.ref p.1) (encp p.2) as) → EachIs (fun v (b : Row) => v = Value.ref b.1 ∧ ∃ as, Reads h v (encp b.2) as) (L.map fun q => Value.ref q.1) L
  | [], _ => .nil
  | p :: L, hp => .cons ⟨rfl, hp p List.mem_cons_self⟩ (each_rows fun q hq => hp q (List.mem_cons_of_mem _ hq))
theorem refs_each : ∀ {out : List Value} {L : List Row}, EachIs (fun v (b : Row) => v = Value.ref b.1) out L → out = (rowE L).map fun q => Value.ref q.1
  | _, _, .nil => rfl
  | _, _, .cons h t => by rw [h, refs_each t]; rfl
theorem cr_sortedN (hc : X.calm = true) (hu : X.A.units + 64 < cLine) : CallR X (.builtin "sorted") (rSortedN X.K X.w) := by
  intro pins s σ H vs us Q I r h
  obtain ⟨a, L, rfl, ha, hk, q⟩ := h
  obtain ⟨es, ep, t, ⟨o, ho, hex, hd⟩, hr, tab, nd, hl, msk, room⟩ := (show SetN0 X.w s.heap a (rowE L) from (I.hok a _ ha).1)
  rw [Vals.ref1 r]
  have hes : es.toList.map (·.2) = L.map fun q => Value.ref q.1 := by
    rw [hr]
    unfold ents rowE
    rw [List.map_map, List.map_map] <;> rfl
  have hsz : es.size = L.length := by
    have h := congrArg List.length hes
    rw [List.length_map, Array.length_toList, List.length_map] at h
    exact h
  have small : L.length < 400 := by
    have e : (rowE L).length = L.length := by unfold rowE; rw [List.length_map]
    rw [e] at room
    omega
  have hfit : t.fits es.size = true := by
    have h1 := tab.sz
    have e : ((rowE L).map (eh X.w)).length = L.length := by unfold rowE; rw [List.length_map, List.length_map]
    rw [e] at h1
    have e2 : (rowE L).length = L.length := by unfold rowE; rw [List.length_map]
    rw [e2] at room
    exact fits_of (by rw [hsz, h1]) tab.dm (by rw [hsz]; omega)
  refine sorted_any (R := fun v (b : Row) => v = Value.ref b.1) (enc := fun b => encp b.2) (bs := L) (I.ok.hd hc) ho hex hd hfit (by rw [hsz]; unfold scanBound; omega) tab.ris hl (by rw [hes]; exact each_rows fun p hp => pk_reads I (hk p hp)) (fun _ _ => alike_encp _ _) (.inl fun b => ⟨_, _, rfl⟩)
    (fun b _ => by have := depth_encp b.2; omega) fun s' p out c L' k g' o' hp hg eo pm pw => ?_
  have hv : Vals (L'.map fun q => V.ref q.1) out.toList := by rw [refs_each eo]; exact vals_refs L'
  obtain ⟨hn, J⟩ := new_out I k g' o' hp hg hv (by rw [List.length_map, pm.length_eq, sizeLine_eq]; omega)
  exact ⟨.ref p, _, J, rfl, q L' p pm ((pm.map (·.2)).nodup_iff.mpr (nodup_keys nd)) (pw.imp fun {x y} z => pLe_of z) hn⟩
end
end DSet

/-! DS9: dicts keyed by pairs. -/
namespace DSet
open PySem PySem.Spec PyProof.Rows L2 PpSet
open PySem.W (EachIs)
abbrev Ix := Addr × Pk × Int
/-- the dict at a, without the keys themselves -/
def Rank0 (P : Program) (w : World) (h : Heap) (a : Addr) (xs : List Ix) : Prop := ∃ o es ep ys, h.get? a = some o ∧ o.ExactDict ∧ o.data = .dict es ep ∧ es.toList = ys.map (entryOfKey (nestedKind P w)) ∧
  EachIs (fun (y : NestedKey × Addr × Value) (x : Ix) => y.1 = nk x.2.1 ∧ y.2.1 = x.1 ∧ RelV (V.int x.2.2) y.2.2) ys xs
def RankO (P : Program) (w : World) (a : Addr) (xs : List Ix) : HO := .ext fun h => Rank0 P w h a xs
theorem Rank0.at {P : Program} {w : World} {h h' : Heap} {a : Addr} {xs : List Ix} (R : Rank0 P w h a xs) (k : ∀ o, h.get? a = some o → h'.get? a = some o) : Rank0 P w h' a xs := by
  obtain ⟨o, es, ep, ys, ho, r⟩ := R
  exact ⟨o, es, ep, ys, k o ho, r⟩
theorem rankO_new {P : Program} {w : World} {H : Hp} {h : Heap} {a : Addr} {xs : List Ix} (R : Rank0 P w h a xs) : ObjOk P w H h a (RankO P w a xs) := by
  have ⟨o, _, _, _, ho, _⟩ := R
  exact ⟨R, ⟨o, ho⟩, fun h1 h2 p k => Rank0.at p k⟩
theorem each_keys {ys : List (NestedKey × Addr × Value)} {xs : List Ix} (e : EachIs (fun (y : NestedKey × Addr × Value) (x : Ix) => y.1 = nk x.2.1 ∧ y.2.1 = x.1 ∧ RelV (V.int x.2.2) y.2.2) ys xs) : ys.map (·.1) = (xs.map (·.2.1)).map nk := by
  induction e with
  | nil => rfl
  | cons h t ih => rw [List.map_cons, List.map_cons, List.map_cons, ih, h.1]
theorem each_append {α β : Type} {R : α → β → Prop} {as : List α} {bs : List β} (e : EachIs R as bs) {a : α} {b : β} (h : R a b) : EachIs R (as ++ [a]) (bs ++ [b]) := by
  induction e with
  | nil => exact .cons h .nil
  | cons h1 t ih => exact .cons h1 ih
theorem each_get {α β : Type} {R : α → β → Prop} {as : List α} {bs : List β} (e : EachIs R as bs) {i : Nat} {b : β} (h : bs[i]? = some b) : ∃ a, as[i]? = some a ∧ R a b := by
  induction e generalizing i with
  | nil => simp at h
  | cons h1 t ih =>
    cases i with
    | zero => simp at h; subst h; exact ⟨_, rfl, h1⟩
    | succ i => simpa using ih (i := i) (by simpa using h)
section
variable {X : Cx} {pins : List (Addr × Obj)} {σ : L2.St} {H : Hp} {s : Shared}
theorem nodup_nk {xs : List Pk} (h : xs.Nodup) : (xs.map nk).Nodup := List.pairwise_map.mpr (h.imp fun {a b} hne e => hne (nk_inj e))
theorem rank_full (I : Inv X pins σ H s) {a : Addr} {xs : List Ix} (ha : H a = some (RankO X.prog X.w a xs)) (hk : ∀ x ∈ xs, PkV X.K H x.1 x.2.1) (hn : (xs.map (·.2.1)).Nodup) :
    ∃ ys, s.heap.DictOfH (nestedKind X.prog X.w) a ys ∧ EachIs (fun (y : NestedKey × Addr × Value) (x : Ix) => y.1 = nk x.2.1 ∧ y.2.1 = x.1 ∧ RelV (V.int x.2.2) y.2.2) ys xs := by
  obtain ⟨o, es, ep, ys, ho, hex, hd, he, e⟩ := (show Rank0 X.prog X.w s.heap a xs from (I.hok a _ ha).1)
  refine ⟨ys, ⟨o, es, ep, ho, hex, hd, he, fun y hy => ?_, by rw [each_keys e]; exact nodup_nk hn⟩, e⟩
  have : ∀ {ys : List (NestedKey × Addr × Value)} {xs : List Ix}, EachIs (fun (y : NestedKey × Addr × Value) (x : Ix) => y.1 = nk x.2.1 ∧ y.2.1 = x.1 ∧ RelV (V.int x.2.2) y.2.2) ys xs → ∀ y ∈ ys, ∃ x ∈ xs, y.1 = nk x.2.1 ∧ y.2.1 = x.1 := by
    intro ys xs e
    induction e with
    | nil => intro y hy; cases hy
    | cons h t ih =>
      intro y hy
      rcases List.mem_cons.mp hy with z | z
      · exact ⟨_, List.mem_cons_self, by rw [z]; exact h.1, by rw [z]; exact h.2.1⟩
      · obtain ⟨x, hx, r⟩ := ih y z
        exact ⟨x, List.mem_cons_of_mem _ hx, r⟩
  obtain ⟨x, hx, e1, e2⟩ := this e y hy
  rw [e1, e2]
  exact (pk_is I (hk x hx)).kind
theorem rank_put {E : Value → Shared → Prop} (hu : X.A.units + 64 < cLine) (I : Inv X pins σ H s) {a b : Addr} {p : Pk} {n : Int} {u r : Value} {xs : List Ix} {Q : Unit → Shared → Prop} (ha : H a = some (RankO X.prog X.w a xs)) (hk : ∀ x ∈ xs, PkV X.K H x.1 x.2.1) (hn : (xs.map (·.2.1)).Nodup)
    (hb : PkV X.K H b p) (hnew : p ∉ xs.map (·.2.1)) (hz : xs.length < sizeLine) (ru : RelV (.ref b) u) (rr : RelV (.int n) r) (h : ∀ s', Inv X pins σ (upd H a (RankO X.prog X.w a (xs ++ [(b, p, n)]))) s' → Q () s') : wpAny (model X.prog X.w) X.A (dictSet a u r) Q E s := by
  obtain ⟨ys, hx, e⟩ := rank_full I ha hk hn
  obtain rfl : u = Value.ref b := ru
  have kb := (pk_is I hb).kind (P := X.prog) (w := X.w)
  have hroom : (nestedKind X.prog X.w).room X.A := by show X.A.units + 8 < cLine; omega
  have hl : ys.length = xs.length := e.length
  unfold dictSet
  refine wpAny_holding (wpAny_bind ((nestedKind X.prog X.w).pyHash hroom kb ?_))
  refine wpAny_dictSetHashed_heap (s := { s with toks := s.toks + (nestedKind X.prog X.w).draws (nk p) }) hroom kb hx (fun h' hx' sb => ?_) (by rw [hl]; omega)
  have hnone : atKey ys (nk p) = none := atKey_none_of_get fun j q c => by
    have : nk p ∈ ys.map (·.1) := List.mem_map.mpr ⟨_, List.mem_of_getElem? c, rfl⟩
    rw [each_keys e] at this
    obtain ⟨p', hp', e'⟩ := List.mem_map.mp this
    exact hnew (by rw [← nk_inj e']; exact hp')
  rw [storedH_new hnone] at hx'
  obtain ⟨o, es, ep, ho, hex, hd, he, _, _⟩ := hx'
  have new : Rank0 X.prog X.w h' a (xs ++ [(b, p, n)]) := ⟨o, es, ep, _, ho, hex, hd, he, each_append e ⟨rfl, rfl, rr⟩⟩
  exact h _ (d_write (t' := s.toks + (nestedKind X.prog X.w).draws (nk p)) (I.tok (s.toks + (nestedKind X.prog X.w).draws (nk p))) (by rw [ha]; trivial) sb ⟨o, ho⟩ (rankO_new new))
end
section
variable {X : Cx} {o i : Expr} {pos : Pos} {td ty : TE}
/-- rank[pair] -/
def tRank (K : PySem.W.Frag) (P : Program) (w : World) (td ty : TE) : TE := fun σ H Q => td σ H fun x H1 => ty σ H1 fun y H2 => ∃ a b p n xs, x = .ref a ∧ y = .ref b ∧ H2 a = some (RankO P w a xs) ∧ (∀ x ∈ xs, PkV K H2 x.1 x.2.1) ∧ (xs.map (·.2.1)).Nodup ∧ PkV K H2 b p ∧ (p, n) ∈ xs.map (·.2) ∧ Q (.int n) H2
theorem pe_rank (hu : X.A.units + 64 < cLine) (ho : PE X o td) (hi : PE X i ty) (hs : NoSl i) : PE X (.Subscript o i pos) (tRank X.K X.prog X.w td ty) := by
  refine ⟨fun pins s σ H Q I h => ?_⟩
  refine subD_of PySem.F.slot_dict_getitem.lookup hs (thn (ho.run pins s σ H _ I h) fun u s1 ⟨x, H1, I1, rx, q1⟩ => thn (hi.run pins s1 σ H1 _ I1 q1) fun iv s2 ⟨y, H2, I2, ry, a, b, p, n, xs, ex, ey, ha, hk, hn, hb, hm, q2⟩ => ?_)
  subst ex
  subst ey
  obtain rfl : u = Value.ref a := rx
  obtain rfl : iv = Value.ref b := ry
  obtain ⟨ys, hx, e⟩ := rank_full I2 ha hk hn
  refine ⟨hx.typeIs, ?_⟩
  obtain ⟨x, hxm, ex⟩ := List.mem_map.mp hm
  obtain ⟨j, hj⟩ := List.mem_iff_getElem?.mp hxm
  obtain ⟨y, hy, e1, e2, e3⟩ := each_get e hj
  have xp : x.2.1 = p := congrArg Prod.fst ex
  have xn : x.2.2 = n := congrArg Prod.snd ex
  rw [xp] at e1
  rw [xn] at e3
  have hat : atKey ys (nk p) = some y.2 := atKey_of_get (by rw [each_keys e]; exact nodup_nk hn) (i := j) (by rw [hy, ← e1])
  refine wpAny_getItem_heap (knd := nestedKind X.prog X.w) (by show X.A.in1.units + 8 < cLine; show X.A.units + 1 + 8 < cLine; omega) (pk_is I2 hb).kind hx hat ?_
  exact ⟨.int n, H2, I2.tok _, e3, q2⟩
end
end DSet

/-! DL9: sorted sets, ranks. -/
namespace DL
open PySem PySem.Spec PyProof.Rows L2 DSet
section
variable {K : PySem.W.Frag} {F : Hp} {M : MS} {G H : Hp}
/-- a thing that nobody knows of -/
theorem Wf.lost (w : Wf K F M G H) {p : Addr} {o : HO} (h : H p = none) : Wf K F M G (upd H p o) := by
  have w' := w.newG (o := o) h
  have hG := w.gnone h
  refine ⟨w'.fz, fun a m e => ?_, fun a u e => ?_⟩
  · obtain ⟨a1, a2, a3⟩ := w'.mu _ _ e
    exact ⟨a1, (w.mu _ _ e).2.1, a3⟩
  · have ne : a ≠ p := fun z => by subst z; rw [hG] at e; cases e
    exact w'.fr a u (by rw [upd_ne ne]; exact e)
theorem same_lost {p : Addr} {o : HO} (s : Same F H) (h : H p = none) : Same F (upd H p o) := fun b x e => by rw [upd_ne (ne_of_none (s _ _ e) h)]; exact s _ _ e
end
theorem all_inl : ∀ {L : List Key}, (∀ k ∈ L, ∃ n : Int, k = Sum.inl n) → ∃ ns : List Int, L = ns.map Sum.inl
  | [], _ => ⟨[], rfl⟩
  | k :: L, h => by
    obtain ⟨n, rfl⟩ := h k List.mem_cons_self
    obtain ⟨ns, rfl⟩ := all_inl (L := L) fun j hj => h j (List.mem_cons_of_mem _ hj)
    exact ⟨n :: ns, rfl⟩
theorem all_inr : ∀ {L : List Key}, (∀ k ∈ L, ∃ n : Str, k = Sum.inr n) → ∃ ns : List Str, L = ns.map Sum.inr
  | [], _ => ⟨[], rfl⟩
  | k :: L, h => by
    obtain ⟨n, rfl⟩ := h k List.mem_cons_self
    obtain ⟨ns, rfl⟩ := all_inr (L := L) fun j hj => h j (List.mem_cons_of_mem _ hj)
    exact ⟨n :: ns, rfl⟩
theorem mem_inl {ns : List Int} {n : Int} : (Sum.inl n : Key) ∈ ns.map (Sum.inl : Int → Key) ↔ n ∈ ns := by
  rw [List.mem_map]
  exact ⟨fun ⟨m, h, e⟩ => by injection e with e; rw [← e]; exact h, fun h => ⟨n, h, rfl⟩⟩
theorem mem_inr {ns : List Str} {n : Str} : (Sum.inr n : Key) ∈ ns.map (Sum.inr : Str → Key) ↔ n ∈ ns := by
  rw [List.mem_map]
  exact ⟨fun ⟨m, h, e⟩ => by injection e with e; rw [← e]; exact h, fun h => ⟨n, h, rfl⟩⟩
/-- the ints of ns, each once, ascending -/
def IsSet (ns ns' : List Int) : Prop := ns'.Pairwise (· < ·) ∧ ∀ n, n ∈ ns' ↔ n ∈ ns
def IsSetS (ns ns' : List Str) : Prop := ns'.Nodup ∧ ns'.Pairwise (fun x y => x.cps.toList ≤ y.cps.toList) ∧ ∀ n, n ∈ ns' ↔ n ∈ ns
def IsSetP (ps ps' : List Pk) : Prop := ps'.Nodup ∧ ps'.Pairwise pLe ∧ ∀ p, p ∈ ps' ↔ p ∈ ps
theorem isSet_of {ns ns0 ns' : List Int} (hn : (ns0.map (Sum.inl : Int → Key)).Nodup) (hm : ∀ k, k ∈ ns0.map (Sum.inl : Int → Key) ↔ k ∈ ns.map (Sum.inl : Int → Key)) (pm : ns'.Perm ns0) (pw : ns'.Pairwise (· ≤ ·)) : IsSet ns ns' := by
  refine ⟨lt_of_le_nodup ns' pw (pm.nodup_iff.mpr (nodup_of_map hn)), fun n => ?_⟩
  rw [pm.mem_iff]
  have := hm (.inl n)
  rwa [mem_inl, mem_inl] at this
theorem isSetS_of {ns ns0 ns' : List Str} (hn : (ns0.map (Sum.inr : Str → Key)).Nodup) (hm : ∀ k, k ∈ ns0.map (Sum.inr : Str → Key) ↔ k ∈ ns.map (Sum.inr : Str → Key)) (pm : ns'.Perm ns0) (pw : ns'.Pairwise (fun x y => x.cps.toList ≤ y.cps.toList)) : IsSetS ns ns' := by
  refine ⟨pm.nodup_iff.mpr (nodup_of_map hn), pw, fun n => ?_⟩
  rw [pm.mem_iff]
  have := hm (.inr n)
  rwa [mem_inr, mem_inr] at this
def dSetI : DL := fun xs M R => ∃ (x : D) (ns : List Int), xs = [x] ∧ lsOf M x = some (ns.map D.int) ∧ ns.length ≤ 4000 ∧ ∀ ns', IsSet ns ns' → R (.lst (ns'.map D.int)) M
def dSetIM : DL := fun xs M R => ∃ (x : D) (ns : List Int), xs = [x] ∧ lsOf M x = some (ns.map D.int) ∧ ns.length ≤ 4000 ∧ ∀ ns' p, IsSet ns ns' → M p = none → R (.ref p) (mupd M p (.lst (ns'.map D.int)))
def dSetS : DL := fun xs M R => ∃ (x : D) (ns : List Str), xs = [x] ∧ lsOf M x = some (ns.map D.str) ∧ ns.length ≤ 4000 ∧ ∀ ns', IsSetS ns ns' → R (.lst (ns'.map D.str)) M
def pk (p : Pk) : D := .tup [.int p.1, .tup (p.2.map D.int)]
def dSetT : DL := fun xs M R => ∃ (x : D) (ps : List Pk), xs = [x] ∧ lsOf M x = some (ps.map pk) ∧ ps.length ≤ 300 ∧ ∀ ps', IsSetP ps ps' → R (.lst (ps'.map pk)) M
section
variable {K : PySem.W.Frag} {P : Program} {w : World}
abbrev rSS (K : PySem.W.Frag) (P : Program) (w : World) : List V → Hp → VK → Prop := fun vs H Q => rSetS K P w vs H fun v H1 => rSortedS P w [v] H1 Q
abbrev rSN (K : PySem.W.Frag) (w : World) : List V → Hp → VK → Prop := fun vs H Q => rSetN K w vs H fun v H1 => rSortedN K w [v] H1 Q
theorem kV_ints (ns : List Int) : (ns.map (Sum.inl : Int → Key)).map kV = ns.map V.int := by rw [List.map_map]; rfl
theorem kV_strs (ns : List Str) : (ns.map (Sum.inr : Str → Key)).map kV = ns.map V.str := by rw [List.map_map]; rfl
theorem lf_setI : LfL K (rSS K P w) dSetI := fun F M G H xs vs R Q wf d h c => by
  obtain ⟨x, ns, rfl, e, hl, h⟩ := h
  obtain ⟨v, rfl, d1⟩ := dtAll_one d
  obtain ⟨a, us, rfl, h1, q1⟩ := ls_at wf d1 e
  rw [dtAll_ints q1, ← kV_ints] at h1
  refine ⟨a, ns.map Sum.inl, rfl, .of h1, by rw [List.length_map]; unfold scanBound; omega, fun p L hp dr => ?_⟩
  obtain ⟨dn, dm, _⟩ := dr
  rw [List.take_length] at dm
  obtain ⟨ns0, rfl⟩ := all_inl (L := L) fun k hk => by
    obtain ⟨n, _, e⟩ := List.mem_map.mp ((dm k).mp hk)
    exact ⟨n, e.symm⟩
  refine ⟨p, _, rfl, upd_same, .inl ⟨ns0, rfl, fun ns' q pm pw hq => ?_⟩⟩
  exact c.newL (wf.lost hp) (h ns' (isSet_of dn dm pm pw)) (dtAll_of_ints ns') q hq
theorem lf_setIM : LfL K (rSS K P w) dSetIM := fun F M G H xs vs R Q wf d h c => by
  obtain ⟨x, ns, rfl, e, hl, h⟩ := h
  obtain ⟨v, rfl, d1⟩ := dtAll_one d
  obtain ⟨a, us, rfl, h1, q1⟩ := ls_at wf d1 e
  rw [dtAll_ints q1, ← kV_ints] at h1
  refine ⟨a, ns.map Sum.inl, rfl, .of h1, by rw [List.length_map]; unfold scanBound; omega, fun p L hp dr => ?_⟩
  obtain ⟨dn, dm, _⟩ := dr
  rw [List.take_length] at dm
  obtain ⟨ns0, rfl⟩ := all_inl (L := L) fun k hk => by
    obtain ⟨n, _, e⟩ := List.mem_map.mp ((dm k).mp hk)
    exact ⟨n, e.symm⟩
  refine ⟨p, _, rfl, upd_same, .inl ⟨ns0, rfl, fun ns' q pm pw hq => ?_⟩⟩
  exact c.newLM (wf.lost hp) (fun p' hp' => h ns' p' (isSet_of dn dm pm pw) hp') (dtAll_of_ints ns') q hq
theorem lf_setS : LfL K (rSS K P w) dSetS := fun F M G H xs vs R Q wf d h c => by
  obtain ⟨x, ns, rfl, e, hl, h⟩ := h
  obtain ⟨v, rfl, d1⟩ := dtAll_one d
  obtain ⟨a, us, rfl, h1, q1⟩ := ls_at wf d1 e
  rw [dtAll_strs q1, ← kV_strs] at h1
  refine ⟨a, ns.map Sum.inr, rfl, .of h1, by rw [List.length_map]; unfold scanBound; omega, fun p L hp dr => ?_⟩
  obtain ⟨dn, dm, _⟩ := dr
  rw [List.take_length] at dm
  obtain ⟨ns0, rfl⟩ := all_inr (L := L) fun k hk => by
    obtain ⟨n, _, e⟩ := List.mem_map.mp ((dm k).mp hk)
    exact ⟨n, e.symm⟩
  refine ⟨p, _, rfl, upd_same, .inr ⟨ns0, rfl, fun ns' q pm pw hq => ?_⟩⟩
  exact c.newL (wf.lost hp) (h ns' (isSetS_of dn dm pm pw)) (dtAll_of_strs ns') q hq
theorem dt_pk {F : Hp} {v : V} {p : Pk} (h : Dt K F v (pk p)) : ∃ b, v = .ref b ∧ PkV K F b p := by
  obtain ⟨b, vs, rfl, h1, q1⟩ := dt_tup h
  obtain ⟨v1, v2, rfl, d1, d2⟩ := dtAll_two q1
  obtain ⟨c, us, rfl, h2, q2⟩ := dt_tup d2
  rw [dtAll_ints q2] at h2
  rw [dt_int d1] at h1
  exact ⟨b, rfl, c, h1, h2⟩
theorem pk_dt {F : Hp} {b : Addr} {p : Pk} (h : PkV K F b p) : Dt K F (.ref b) (pk p) := by
  obtain ⟨c, h1, h2⟩ := h
  exact .tup h1 (.cons (.int _) (.cons (.tup h2 (dtAll_of_ints _)) .nil))
theorem dtAll_pks {F : Hp} : ∀ {vs : List V} {ps : List Pk}, DtAll K F vs (ps.map pk) → ∃ ks : List DSet.Row, vs = ks.map (fun p => V.ref p.1) ∧ ks.map (·.2) = ps ∧ ∀ q ∈ ks, PkV K F q.1 q.2
  | [], [], _ => ⟨[], rfl, rfl, fun q h => by cases h⟩
  | _ :: _, [], h => by cases h
  | [], _ :: _, h => by cases h
  | v :: vs, p :: ps, h => by
    cases h with
    | cons a b =>
      obtain ⟨ks, rfl, rfl, hk⟩ := dtAll_pks b
      obtain ⟨b', rfl, hb⟩ := dt_pk a
      refine ⟨(b', p) :: ks, rfl, rfl, fun q hq => ?_⟩
      rcases List.mem_cons.mp hq with e | hq
      · rw [e]; exact hb
      · exact hk q hq
theorem pks_dt {F : Hp} : ∀ {ks : List DSet.Row}, (∀ q ∈ ks, PkV K F q.1 q.2) → DtAll K F (ks.map fun p => V.ref p.1) ((ks.map (·.2)).map pk)
  | [], _ => .nil
  | q :: ks, h => .cons (pk_dt (h q List.mem_cons_self)) (pks_dt fun r hr => h r (List.mem_cons_of_mem _ hr))
theorem lf_setT : LfL K (rSN K w) dSetT := fun F M G H xs vs R Q wf d h c => by
  obtain ⟨x, ps, rfl, e, hl, h⟩ := h
  obtain ⟨v, rfl, d1⟩ := dtAll_one d
  obtain ⟨a, us, rfl, h1, q1⟩ := ls_at wf d1 e
  obtain ⟨ks, rfl, rfl, hk⟩ := dtAll_pks q1
  rw [List.length_map] at hl
  refine ⟨a, ks, rfl, .of h1, fun q hq => (hk q hq).mono wf.fz, hl, fun p L hp hs hall => ?_⟩
  refine ⟨p, L, rfl, upd_same, fun q hq => (hk q (hs q hq)).mono (same_lost wf.fz hp), fun L' q pm nd pw hq => ?_⟩
  have hk' : ∀ r ∈ L', PkV K F r.1 r.2 := fun r hr => hk r (hs r (pm.mem_iff.mp hr))
  refine c.newL (wf.lost hp) (h (L'.map (·.2)) ⟨nd, List.pairwise_map.mpr pw, fun z => ?_⟩) (pks_dt hk') q hq
  rw [(pm.map (·.2)).mem_iff]
  constructor
  · intro hz
    obtain ⟨r, hr, rfl⟩ := List.mem_map.mp hz
    exact List.mem_map.mpr ⟨r, hs r hr, rfl⟩
  · intro hz
    obtain ⟨r, hr, rfl⟩ := List.mem_map.mp hz
    exact hall r hr
end
section
variable {X : Cx} {k : Nat} {e : Expr} {t : TDA} {p p2 pos q : Pos}
theorem un64 (hr : Room k X.A) : X.A.units + 64 < cLine := by have := hr.un; omega
theorem d_sortedSet (hr : Room k X.A) (hg : Gl X "sorted") (hm : X.mg "sorted" = none) (hg2 : Gl X "set") (hm2 : X.mg "set" = none) (hc : X.calm = true) (ha : DA X [e] t) (he : starEach [e] X.env = (false, eval e X.env) :: starEach [] X.env := by rfl) :
    DE X (.Call (.Name "sorted" p) [.Call (.Name "set" p2) [e] [] q] [] pos) (dCB dSetI t) :=
  pe_mono (pe_callB (cr_sortedS hc (un64 hr)) hg hm (by decide +kernel) (pa_cons (pe_callTy (cr_setS hc (un64 hr)) hg2 hm2 (by decide +kernel) ha (he := he)) pa_nil)) fun σ H Q h => up_cb lf_setI σ H Q h
theorem d_sortedSetM (hr : Room k X.A) (hg : Gl X "sorted") (hm : X.mg "sorted" = none) (hg2 : Gl X "set") (hm2 : X.mg "set" = none) (hc : X.calm = true) (ha : DA X [e] t) (he : starEach [e] X.env = (false, eval e X.env) :: starEach [] X.env := by rfl) :
    DE X (.Call (.Name "sorted" p) [.Call (.Name "set" p2) [e] [] q] [] pos) (dCB dSetIM t) :=
  pe_mono (pe_callB (cr_sortedS hc (un64 hr)) hg hm (by decide +kernel) (pa_cons (pe_callTy (cr_setS hc (un64 hr)) hg2 hm2 (by decide +kernel) ha (he := he)) pa_nil)) fun σ H Q h => up_cb lf_setIM σ H Q h
theorem d_sortedSetS (hr : Room k X.A) (hg : Gl X "sorted") (hm : X.mg "sorted" = none) (hg2 : Gl X "set") (hm2 : X.mg "set" = none) (hc : X.calm = true) (ha : DA X [e] t) (he : starEach [e] X.env = (false, eval e X.env) :: starEach [] X.env := by rfl) :
    DE X (.Call (.Name "sorted" p) [.Call (.Name "set" p2) [e] [] q] [] pos) (dCB dSetS t) :=
  pe_mono (pe_callB (cr_sortedS hc (un64 hr)) hg hm (by decide +kernel) (pa_cons (pe_callTy (cr_setS hc (un64 hr)) hg2 hm2 (by decide +kernel) ha (he := he)) pa_nil)) fun σ H Q h => up_cb lf_setS σ H Q h
theorem d_sortedSetT (hr : Room k X.A) (hg : Gl X "sorted") (hm : X.mg "sorted" = none) (hg2 : Gl X "set") (hm2 : X.mg "set" = none) (hc : X.calm = true) (ha : DA X [e] t) (he : starEach [e] X.env = (false, eval e X.env) :: starEach [] X.env := by rfl) :
    DE X (.Call (.Name "sorted" p) [.Call (.Name "set" p2) [e] [] q] [] pos) (dCB dSetT t) :=
  pe_mono (pe_callB (cr_sortedN hc (un64 hr)) hg hm (by decide +kernel) (pa_cons (pe_callTy (cr_setN hc (un64 hr)) hg2 hm2 (by decide +kernel) ha (he := he)) pa_nil)) fun σ H Q h => up_cb lf_setT σ H Q h
end
end DL

/-! DL10: comprehensions of sets and ranks; dicts of ints and texts. -/
namespace DL
open PySem PySem.Spec PyProof.Rows L2 DSet
section
variable {K : PySem.W.Frag} {F : Hp} {M : MS} {G H : Hp}
theorem Wf.lessG (w : Wf K F M (upd G p o) H) (hG : G p = none) : Wf K F M G H := by
  refine ⟨w.fz, fun a m e => ?_, fun a u e => ?_⟩
  · obtain ⟨a1, a2, a3⟩ := w.mu _ _ e
    have ne : a ≠ p := fun z => by subst z; rw [upd_same] at a2; cases a2
    rw [upd_ne ne] at a2
    exact ⟨a1, a2, a3⟩
  · have ne : a ≠ p := fun z => by subst z; rw [hG] at e; cases e
    exact w.fr a u (by rw [upd_ne ne]; exact e)
theorem Wf.unGx {p : Addr} {o : HO} (w : Wf K F M (upd G p o) H) (hG : G p = none) (ho : ∀ c, o ≠ .own c) : Wf K (upd F p o) M G H := by
  obtain ⟨g1, g2⟩ := w.fr p _ upd_same
  refine ⟨fun b x e => ?_, fun b m e => ?_, fun b u e => ?_⟩
  · by_cases hb : b = p
    · subst hb; rw [upd_same] at e; cases e; exact g1
    · rw [upd_ne hb] at e; exact w.fz _ _ e
  · obtain ⟨a1, a2, a3⟩ := w.mu _ _ e
    have hb : b ≠ p := fun z => by subst z; rw [upd_same] at a2; cases a2
    rw [upd_ne hb] at a2
    exact ⟨by rw [upd_ne hb]; exact a1, a2, a3.keep (same_up g2) (fun _ _ _ q => q) fun c q z => by
      rw [upd_ne fun y => by subst y; rw [g1] at q; cases q; exact ho _ rfl]; exact z⟩
  · have hb : b ≠ p := fun z => by subst z; rw [hG] at e; cases e
    have := w.fr b u (by rw [upd_ne hb]; exact e)
    exact ⟨this.1, by rw [upd_ne hb]; exact this.2⟩
end
/-! ### a set of ints by a comprehension -/
def dScW (di : TDI) (g : TDG) (tt : TDT) (te : TDE) (vs : List Nat) (ρ : DEnv) (M : MS) (E : List Int → MS → Prop) : Prop := di ρ M fun xs P M1 => ∃ W : Nat → List Int → MS → Prop, W 0 [] M1 ∧ (∀ i acc M, i ≤ xs.length → W i acc M → P M) ∧
  (∀ i x acc M, xs[i]? = some x → W i acc M → g x (dwipe ρ vs) M fun ρ' M' => tt ρ' M' fun b M2 => if b = true then te ρ' M2 fun d M3 => ∃ n : Int, d = .int n ∧ acc.length ≤ 4000 ∧ W (i + 1) (acc ++ [n]) M3 else W (i + 1) acc M2) ∧ ∀ acc M, W xs.length acc M → E acc M
def dSc (di : TDI) (g : TDG) (tt : TDT) (te : TDE) (vs : List Nat) : TDE := fun ρ M R => dScW di g tt te vs ρ M fun acc M' => ∀ ns', IsSet acc ns' → R (.lst (ns'.map D.int)) M'
/-- the keys of L are the ints of acc -/
def AccS (acc : List Int) (L : List Key) : Prop := L.Nodup ∧ (∀ k, k ∈ L ↔ k ∈ acc.map (Sum.inl : Int → Key)) ∧ L.length ≤ acc.length
theorem AccS.next {acc : List Int} {L L' : List Key} {n : Int} (h : AccS acc L) (j : Ins (.inl n) L L') : AccS (acc ++ [n]) L' := by
  obtain ⟨d1, d2, d3⟩ := h
  have e : (acc ++ [n]).map (Sum.inl : Int → Key) = acc.map Sum.inl ++ [Sum.inl n] := by rw [List.map_append]; rfl
  rcases j with ⟨c, rfl⟩ | ⟨c, rfl⟩
  · refine ⟨d1, fun k => ?_, by simp; omega⟩
    rw [e, List.mem_append, List.mem_singleton, ← d2]
    exact ⟨.inl, fun z => z.elim id fun q => by rw [q]; exact c⟩
  · refine ⟨List.nodup_cons.mpr ⟨c, d1⟩, fun k => ?_, by simp; omega⟩
    rw [e, List.mem_append, List.mem_singleton, List.mem_cons, ← d2]
    exact Or.comm
def SxS (P : Program) (w : World) : V → Addr → Hp → (Hp → Prop) → Prop := fun y D H Nx => ∃ k L, y = kV k ∧ H D = some (SetSO P w D L) ∧ L.length + 1 < scanBound ∧ ∀ L', Ins k L L' → Nx (upd H D (SetSO P w D L'))
theorem pe_scD {X : Cx} {elt tg iter : Expr} {ifs : List Expr} {scope : Scope} {own : List (PySem.Str × Nat)} {pos : Pos} {wi : TI} {g : TG} {tt : TT} {te : TE} (hc : X.calm = true) (hN : X.N.Nodup) (hi : PI X tg iter wi) (ok : BlkOk X.N X.env.scope scope own)
    (hg : ∀ (s : Shared) (H : Hp) (C : Addr) (cl : List (PySem.Str × Addr)) (fp : List Addr), PG (X.blk s H scope (compEnvC scope cl C X.env) fp) tg g) (ht : ∀ (s : Shared) (H : Hp) (C : Addr) (cl : List (PySem.Str × Addr)) (fp : List Addr), PTs (X.blk s H scope (compEnvC scope cl C X.env) fp) ifs tt)
    (he : ∀ (s : Shared) (H : Hp) (C : Addr) (cl : List (PySem.Str × Addr)) (fp : List Addr), PE (X.blk s H scope (compEnvC scope cl C X.env) fp) elt te) (hs : ∀ x, foldedSetIterable iter X.env x = pure x := by intro _; rfl) :
    PE X (.SetComp elt [⟨tg, iter, ifs, 0⟩] scope pos) (tScG (fun D => SetSO X.prog X.w D []) (SxS X.prog X.w) wi g tt te (own.map (·.2))) := by
  refine pe_scg (fun {pins s σ H} I => setSO_new (setS_fresh (Heap.get?_push_size _ rfl))) (fun s0 H0 scope ce fp {pins s σ H E D y u Nx Q} I ry sx q => ?_) hc hN hi ok hg ht he hs
  obtain ⟨k, L, rfl, hD, room, nx⟩ := sx
  refine setS_add (P := X.prog) (w := X.w) ry (setS_get (X := X.blk s0 H0 scope ce fp) I hD) room fun h' L' sb R j => ?_
  have he : ∃ u, h'.get? D = some u := by
    obtain ⟨o, _, _, _, ho, _⟩ := id R
    exact ⟨o, ho⟩
  exact q _ _ (I.write (e := D) (t' := s.toks + 1) (by rw [hD]; trivial) (.inl rfl) (fun b u hb hu => (sb.2 b hb).trans hu) he (setSO_new R)) (nx L' j)
section
variable {X : Cx} {k : Nat} {tg : TG} {g : TDG} {tt : TDT} {te tk tv : TDE} {vs : List Nat} {di : TDI} {e : Expr} {p pos : Pos}
theorem up_scW (lg : LfG X.K tg g vs) {F : Hp} {M : MS} {G H : Hp} {ρ : DEnv} {σ : L2.St} {E : List Int → MS → Prop} {Q : VK} (w : Wf X.K F M G H) (s : Sl X.K F ρ σ) (h : dScW di g tt te vs ρ M E)
    (c : ∀ p acc L M' F' H', E acc M' → Same F F' → Wf X.K F' M' (upd G p (SetSO X.prog X.w p L)) H' → G p = none → AccS acc L → Q (.ref p) H') : tScG (fun D => SetSO X.prog X.w D []) (SxS X.prog X.w) (upI X.K di) tg (upT X.K tt) (up X.K te) vs σ H Q := by
  refine ⟨F, M, G, ρ, _, w, s, h, fun xs P M1 F1 H1 J ⟨W, h0, hP, hs, hd⟩ s1 w1 it => ?_⟩
  intro D hD
  have gD : G D = none := w1.gnone hD
  refine ⟨fun i m H => m = xs.length - i ∧ i ≤ xs.length ∧ ∃ F2 M2 L acc, Same F1 F2 ∧ Wf X.K F2 M2 (upd G D (SetSO X.prog X.w D L)) H ∧ AccS acc L ∧ W i acc M2, ⟨xs.length, by omega, Nat.zero_le _, F1, M1, [], [], Same.refl F1, w1.newG hD, ⟨List.nodup_nil, fun k => by simp, Nat.le_refl _⟩, h0⟩, ?_⟩
  rintro i m H2 ⟨rfl, hi, F2, M2, L, acc, s2, w2, q2, h2⟩
  obtain ⟨i1, i2, i3⟩ := it F2 M2 _ H2 i s2 (hP i acc M2 hi h2) w2
  by_cases hlt : i < xs.length
  · refine .inr ⟨i1 hlt, fun H' => ∃ F2 M2 L acc, Same F1 F2 ∧ Wf X.K F2 M2 (upd G D (SetSO X.prog X.w D L)) H' ∧ AccS acc L ∧ W (i + 1) acc M2, fun H' q => ⟨xs.length - (i + 1), by omega, rfl, hlt, q⟩, fun x H' y => ?_⟩
    obtain ⟨F3, s3, w3, d3⟩ := i3 x H' xs[i] y (List.getElem?_eq_getElem hlt)
    have sl := ((s.mono (s1.trans (s2.trans s3))).wipe vs)
    refine lg F3 M2 _ H' _ _ x xs[i] _ _ w3 sl d3 (hs i xs[i] acc M2 (List.getElem?_eq_getElem hlt) h2) fun ρ4 σ4 sl4 e4 h4 => ⟨e4.trans wipe_wipe, ?_⟩
    refine ⟨F3, M2, _, ρ4, _, w3, sl4, h4, fun b M5 F5 H5 h5 s5 w5 => ?_⟩
    cases b with
    | true =>
      refine iteT ⟨F5, M5, _, ρ4, _, w5, sl4.mono s5, (if_pos (c := true = true) rfl).mp h5, fun d M6 F6 H6 v h6 s6 w6 d6 => ?_⟩
      obtain ⟨n, rfl, hl, h6⟩ := h6
      obtain rfl := dt_int d6
      refine ⟨.inl n, L, rfl, (w6.fr D _ upd_same).1, by have := q2.2.2; unfold scanBound; omega, fun L' j => ?_⟩
      exact ⟨F6, M6, L', acc ++ [n], s2.trans (s3.trans (s5.trans s6)), w6.setG (fun _ z => nomatch z), q2.next j, h6⟩
    | false => exact iteF ⟨F5, M5, L, acc, s2.trans (s3.trans s5), w5, q2, (if_neg Bool.false_ne_true).mp h5⟩
  · have e : i = xs.length := by omega
    subst e
    exact .inl ⟨i2 (Nat.le_refl _), c D acc L M2 F2 H2 (hd acc M2 h2) (s1.trans s2) w2 gD q2⟩
theorem d_sortedSet1 (hr : Room k X.A) (hc : X.calm = true) (hg : Gl X "sorted") (hm : X.mg "sorted" = none) (lg : LfG X.K tg g vs) (h : PE X e (tScG (fun D => SetSO X.prog X.w D []) (SxS X.prog X.w) (upI X.K di) tg (upT X.K tt) (up X.K te) vs))
    (he : starEach [e] X.env = (false, eval e X.env) :: starEach [] X.env := by rfl) : DE X (.Call (.Name "sorted" p) [e] [] pos) (dSc di g tt te vs) :=
  pe_mono (pe_callB (cr_sortedS hc (un64 hr)) hg hm (by decide +kernel) (pa_cons h pa_nil (hs := he)) (he := he)) fun σ H Q hh => by
    obtain ⟨F, M, G, ρ, R, w, s, hh, c⟩ := hh
    show tScG (fun D => SetSO X.prog X.w D []) (SxS X.prog X.w) (upI X.K di) tg (upT X.K tt) (up X.K te) vs σ H (fun v H1 => rSortedS X.prog X.w [v] H1 Q)
    refine up_scW lg w s hh fun p acc L M' F' H' hE s1 w1 hG ac => ?_
    obtain ⟨dn, dm, _⟩ := ac
    obtain ⟨ns0, rfl⟩ := all_inl (L := L) fun k hk => by
      obtain ⟨n, _, e⟩ := List.mem_map.mp ((dm k).mp hk)
      exact ⟨n, e.symm⟩
    refine ⟨p, _, rfl, (w1.fr p _ upd_same).1, .inl ⟨ns0, rfl, fun ns' q pm pw hq => ?_⟩⟩
    exact (c.mono s1).newL (w1.lessG hG) (hE ns' (isSet_of dn dm pm pw)) (dtAll_of_ints ns') q hq
end
/-! ### a dict keyed by pairs -/
def RankP (P : Program) (w : World) (acc : List (Pk × Int)) : PySem.W.Frag → Hp → Addr → Prop := fun K F a => ∃ xs : List Ix, F a = some (RankO P w a xs) ∧ xs.map (·.2) = acc ∧ (∀ x ∈ xs, PkV K F x.1 x.2.1) ∧ (acc.map (·.1)).Nodup
def dDcN (P : Program) (w : World) (di : TDI) (g : TDG) (tt : TDT) (tk tv : TDE) (vs : List Nat) : TDE := fun ρ M R => di ρ M fun xs Pm M1 => ∃ W : Nat → List (Pk × Int) → MS → Prop, W 0 [] M1 ∧ (∀ i acc M, i ≤ xs.length → W i acc M → Pm M) ∧
  (∀ i x acc M, xs[i]? = some x → W i acc M → g x (dwipe ρ vs) M fun ρ' M' => tt ρ' M' fun b M2 => if b = true then tk ρ' M2 fun y M3 => tv ρ' M3 fun d M4 => ∃ (p : Pk) (n : Int), y = pk p ∧ d = .int n ∧ p ∉ acc.map (·.1) ∧ acc.length < sizeLine ∧ W (i + 1) (acc ++ [(p, n)]) M4 else W (i + 1) acc M2) ∧
  ∀ acc M, W xs.length acc M → R (.ext (RankP P w acc)) M
def SxR (K : PySem.W.Frag) (P : Program) (w : World) : V → V → Addr → Hp → (Hp → Prop) → Prop := fun y z D H Nx => ∃ b p n xs, y = .ref b ∧ z = .int n ∧ H D = some (RankO P w D xs) ∧ (∀ x ∈ xs, PkV K H x.1 x.2.1) ∧ (xs.map (·.2.1)).Nodup ∧ PkV K H b p ∧ p ∉ xs.map (·.2.1) ∧ xs.length < sizeLine ∧
  Nx (upd H D (RankO P w D (xs ++ [(b, p, n)])))
theorem rank_fresh {P : Program} {w : World} {h : Heap} {a : Addr} (ho : h.get? a = some { cls := .type "dict", data := .dict #[] }) : Rank0 P w h a [] := ⟨_, #[], _, [], ho, ⟨rfl, rfl, rfl⟩, rfl, rfl, .nil⟩
theorem pe_dcN {X : Cx} {k : Nat} {kx vx tg iter : Expr} {ifs : List Expr} {scope : Scope} {own : List (PySem.Str × Nat)} {pos : Pos} {wi : TI} {g : TG} {tt : TT} {tk tv : TE} (hr : Room k X.A) (hc : X.calm = true) (hN : X.N.Nodup) (hi : PI X tg iter wi) (ok : BlkOk X.N X.env.scope scope own)
    (hg : ∀ (s : Shared) (H : Hp) (C : Addr) (cl : List (PySem.Str × Addr)) (fp : List Addr), PG (X.blk s H scope (compEnvC scope cl C X.env) fp) tg g) (ht : ∀ (s : Shared) (H : Hp) (C : Addr) (cl : List (PySem.Str × Addr)) (fp : List Addr), PTs (X.blk s H scope (compEnvC scope cl C X.env) fp) ifs tt)
    (hk : ∀ (s : Shared) (H : Hp) (C : Addr) (cl : List (PySem.Str × Addr)) (fp : List Addr), PE (X.blk s H scope (compEnvC scope cl C X.env) fp) kx tk)
    (he : ∀ (s : Shared) (H : Hp) (C : Addr) (cl : List (PySem.Str × Addr)) (fp : List Addr), PE (X.blk s H scope (compEnvC scope cl C X.env) fp) vx tv) (hs : ∀ x, foldedSetIterable iter X.env x = pure x := by intro _; rfl) :
    PE X (.DictComp kx vx [⟨tg, iter, ifs, 0⟩] scope pos) (tDcG (fun D => RankO X.prog X.w D []) (SxR X.K X.prog X.w) wi g tt tk tv (own.map (·.2))) := by
  refine pe_dcg (fun {pins s σ H} I => rankO_new (rank_fresh (Heap.get?_push_size _ rfl))) (fun s0 H0 scope ce fp {pins s σ H E D y z u r Nx Q} I ry rz sx q => ?_) hc hN hi ok hg ht hk he hs
  obtain ⟨b, p, n, xs, rfl, rfl, hD, hk, nd, hb, hnew, hz, nx⟩ := sx
  exact rank_put (X := X.blk s0 H0 scope ce fp) (un64 hr) I hD hk nd hb hnew hz ry rz fun s' I' => q _ _ I' nx
section
variable {X : Cx} {k : Nat} {tg : TG} {g : TDG} {tt : TDT} {te tk tv td ty : TDE} {vs : List Nat} {di : TDI} {e o i : Expr} {p pos : Pos}
theorem d_dcN (lg : LfG X.K tg g vs) (h : PE X e (tDcG (fun D => RankO X.prog X.w D []) (SxR X.K X.prog X.w) (upI X.K di) tg (upT X.K tt) (up X.K tk) (up X.K tv) vs)) : DE X e (dDcN X.prog X.w di g tt tk tv vs) := pe_mono h fun σ H Q hh => by
  obtain ⟨F, M, G, ρ, R, w, s, hh, c⟩ := hh
  refine ⟨F, M, G, ρ, _, w, s, hh, fun xs P M1 F1 H1 J ⟨W, h0, hP, hs, hd⟩ s1 w1 it => ?_⟩
  intro D hD
  have gD : G D = none := w1.gnone hD
  refine ⟨fun i m H => m = xs.length - i ∧ i ≤ xs.length ∧ ∃ F2 M2 L acc, Same F1 F2 ∧ Wf X.K F2 M2 (upd G D (RankO X.prog X.w D L)) H ∧ (L.map (·.2) = acc ∧ (∀ x ∈ L, PkV X.K F2 x.1 x.2.1) ∧ (acc.map (·.1)).Nodup) ∧ W i acc M2, ⟨xs.length, by omega, Nat.zero_le _, F1, M1, [], [], Same.refl F1, w1.newG hD, ⟨rfl, (fun x hx => by cases hx), List.nodup_nil⟩, h0⟩, ?_⟩
  rintro i m H2 ⟨rfl, hi, F2, M2, L, acc, s2, w2, ⟨q2, q3, q4⟩, h2⟩
  obtain ⟨i1, i2, i3⟩ := it F2 M2 _ H2 i s2 (hP i acc M2 hi h2) w2
  by_cases hlt : i < xs.length
  · refine .inr ⟨i1 hlt, fun H' => ∃ F2 M2 L acc, Same F1 F2 ∧ Wf X.K F2 M2 (upd G D (RankO X.prog X.w D L)) H' ∧ (L.map (·.2) = acc ∧ (∀ x ∈ L, PkV X.K F2 x.1 x.2.1) ∧ (acc.map (·.1)).Nodup) ∧ W (i + 1) acc M2, fun H' q => ⟨xs.length - (i + 1), by omega, rfl, hlt, q⟩, fun x H' y => ?_⟩
    obtain ⟨F3, s3, w3, d3⟩ := i3 x H' xs[i] y (List.getElem?_eq_getElem hlt)
    have sl := ((s.mono (s1.trans (s2.trans s3))).wipe vs)
    refine lg F3 M2 _ H' _ _ x xs[i] _ _ w3 sl d3 (hs i xs[i] acc M2 (List.getElem?_eq_getElem hlt) h2) fun ρ4 σ4 sl4 e4 h4 => ⟨e4.trans wipe_wipe, ?_⟩
    refine ⟨F3, M2, _, ρ4, _, w3, sl4, h4, fun b M5 F5 H5 h5 s5 w5 => ?_⟩
    cases b with
    | true =>
      refine iteT ⟨F5, M5, _, ρ4, _, w5, sl4.mono s5, (if_pos (c := true = true) rfl).mp h5, fun d M6 F6 H6 v h6 s6 w6 d6 => ?_⟩
      refine ⟨F6, M6, _, ρ4, _, w6, sl4.mono (s5.trans s6), h6, fun d7 M7 F7 H7 v7 h7 s7 w7 d7' => ?_⟩
      obtain ⟨p, n, rfl, rfl, hnew, hz, h7⟩ := h7
      obtain rfl := dt_int d7'
      obtain ⟨b, rfl, hb⟩ := dt_pk d6
      have keysL : L.map (·.2.1) = acc.map (·.1) := by rw [← q2, List.map_map]; rfl
      have lenL : L.length = acc.length := by rw [← q2, List.length_map]
      have s27 : Same F2 F7 := s3.trans (s5.trans (s6.trans s7))
      have q3' : ∀ x ∈ L, PkV X.K F7 x.1 x.2.1 := fun x hx => (q3 x hx).mono s27
      have hb7 : PkV X.K F7 b p := hb.mono s7
      refine ⟨b, p, n, L, rfl, rfl, (w7.fr D _ upd_same).1, fun x hx => (q3' x hx).mono w7.fz, by rw [keysL]; exact q4, hb7.mono w7.fz, by rw [keysL]; exact hnew, by rw [lenL]; exact hz, ?_⟩
      refine ⟨F7, M7, L ++ [(b, p, n)], acc ++ [(p, n)], s2.trans s27, w7.setG (fun _ z => nomatch z), ⟨by rw [List.map_append, q2]; rfl, fun x hx => ?_, ?_⟩, h7⟩
      · rcases List.mem_append.mp hx with z | z
        · exact q3' x z
        · rw [List.mem_singleton.mp z]; exact hb7
      · rw [List.map_append]
        refine List.nodup_append.mpr ⟨q4, by simp, fun a ha b' hb' e => ?_⟩
        simp only [List.map_cons, List.map_nil, List.mem_singleton] at hb'
        rw [e, hb'] at ha
        exact hnew ha
    | false => exact iteF ⟨F5, M5, L, acc, s2.trans (s3.trans s5), w5, ⟨q2, fun x hx => (q3 x hx).mono (s3.trans s5), q4⟩, (if_neg Bool.false_ne_true).mp h5⟩
  · have e : i = xs.length := by omega
    subst e
    have f1 := (w2.fr D _ upd_same).2
    refine .inl ⟨i2 (Nat.le_refl _), c (.ext (RankP X.prog X.w acc)) M2 (upd F2 D (RankO X.prog X.w D L)) H2 _ (hd acc M2 h2) (s1.trans (s2.trans (same_up f1))) (w2.unGx gD (fun _ z => nomatch z)) (.ext fun F' s' => ?_)⟩
    exact ⟨L, s' _ _ upd_same, q2, fun x hx => (q3 x hx).mono ((same_up f1).trans s'), q4⟩
def dRank (P : Program) (w : World) (td ty : TDE) : TDE := fun ρ M R => td ρ M fun x M1 => ty ρ M1 fun y M2 => ∃ (acc : List (Pk × Int)) (p : Pk) (n : Int), x = .ext (RankP P w acc) ∧ y = pk p ∧ (p, n) ∈ acc ∧ R (.int n) M2
theorem d_rank {P : Program} {w : World} (hP : X.prog = P) (hw : X.w = w) (hr : Room k X.A) (ho : DE X o td) (hi : DE X i ty) (hs : NoSl i := by exact fun _ _ => rfl) : DE X (.Subscript o i pos) (dRank P w td ty) := by
 subst hP hw
 exact pe_mono (pe_rank (un64 hr) ho hi hs) fun σ H Q ⟨F, M, G, ρ, R, w, s, hh, c⟩ => by
  refine ⟨F, M, G, ρ, _, w, s, hh, fun x M1 F1 H1 v h1 s1 w1 d1 => ?_⟩
  refine ⟨F1, M1, G, ρ, _, w1, s.mono s1, h1, fun y M2 F2 H2 u h2 s2 w2 d2 => ?_⟩
  obtain ⟨acc, p, n, rfl, rfl, hm, r⟩ := h2
  cases d1 with
  | ext q =>
    obtain ⟨xs, hF, e1, hk, nd⟩ := q F2 s2
    obtain ⟨b, rfl, hb⟩ := dt_pk d2
    refine ⟨_, b, p, n, xs, rfl, rfl, w2.fz _ _ hF, fun x hx => (hk x hx).mono w2.fz, ?_, hb.mono w2.fz, by rw [e1]; exact hm, (c.mono (s1.trans s2)).here w2 r (.int n)⟩
    rw [← e1, List.map_map] at nd
    exact nd
end
end DL

/-! DL11: isinstance, str(str), dicts of ints and texts, readings of set and dict comprehensions. -/
namespace DL
open PySem PySem.Spec PyProof.Rows L2 DSet
/-! ### isinstance -/
def dtyp (M : MS) : D → Option String
  | .non => some "NoneType"
  | .bl _ => some "bool"
  | .int _ => some "int"
  | .str _ => some "str"
  | .lst _ => some "list"
  | .rl _ => some "list"
  | .tup _ => some "tuple"
  | .dK _ => some "dict"
  | .ref a => match M a with
    | some (.lst _) => some "list"
    | some (.dK _) => some "dict"
    | some (.dT _) => some "dict"
    | _ => none
  | _ => none
theorem typ_at {K : PySem.W.Frag} {F : Hp} {M : MS} {G H : Hp} {d : D} {v : V} {t : String} (w : Wf K F M G H) (r : Dt K F v d) (e : dtyp M d = some t) : TyX K H v (.type t) := by
  cases r with
  | non => cases e; exact .base .non
  | bl b => cases e; exact .base (.bl b)
  | int b => cases e; exact .base (.int b)
  | str b => cases e; exact .base (.str b)
  | lst h _ => cases e; exact .base (.lst (w.fz _ _ h))
  | rl h _ =>
    cases e
    rcases w.fz.seq h with (h | ⟨o, h⟩) | ⟨o, its, n, h1, h2, _⟩
    · exact .base (.lst h)
    · exact .base (.frz h)
    · exact .kList h1 h2
  | tup h _ =>
    cases e
    rcases same_tup w.fz h with (h | ⟨o, h⟩) | ⟨o, its, n, h1, h2, _⟩
    · exact .base (.tup h)
    · exact .fTuple h
    · exact .kTuple h1 h2
  | dK h _ _ =>
    cases e
    rcases same_rd w.fz h with h | ⟨o, h⟩
    · exact .base (.dK h)
    · exact .fDict h
  | obj _ _ _ _ => cases e
  | ext _ => cases e
  | ref a =>
    unfold dtyp at e
    dsimp only at e
    cases q : M a with
    | none => rw [q] at e; cases e
    | some o =>
      rw [q] at e
      obtain ⟨_, _, m⟩ := w.mu _ _ q
      cases o with
      | lst ds => cases e; obtain ⟨vs, p, _⟩ := m; exact .base (.lst p)
      | dK ds => cases e; obtain ⟨vs, p, _⟩ := m; exact .base (.dK p)
      | dT ds => cases e; obtain ⟨vs, p, _⟩ := m; exact .base (.dT p)
      | ins _ _ => cases e
theorem typ_in {M : MS} {d : D} {t : String} (e : dtyp M d = some t) : t ∈ ["NoneType", "bool", "int", "str", "list", "tuple", "dict"] := by
  cases d with
  | ref a =>
    unfold dtyp at e
    dsimp only at e
    split at e <;> first | (cases e; decide) | cases e
  | _ => unfold dtyp at e; first | (cases e; decide) | cases e
def subT (t T : String) : Bool := t == T || (t == "bool" && T == "int")
theorem kit_sub {K : PySem.W.Frag} {t T : String} (h : t ∈ ["NoneType", "bool", "int", "str", "list", "tuple", "dict"]) (h2 : T ∈ ["bool", "int", "str", "list", "tuple", "dict"]) : PySem.W.kitOne K (.type t) (.type T) = some (subT t T) := by
  simp only [List.mem_cons, List.not_mem_nil, or_false] at h h2
  rcases h with rfl | rfl | rfl | rfl | rfl | rfl | rfl <;> rcases h2 with rfl | rfl | rfl | rfl | rfl | rfl <;> first | rfl | decide +kernel
def dIsi (T : String) (te : TDE) : TDE := fun ρ M R => te ρ M fun x M1 => ∃ t, dtyp M1 x = some t ∧ R (.bl (subT t T)) M1
section
variable {X : Cx} {k : Nat} {e o i : Expr} {te td ty tv : TDE} {p p2 pos pos' : Pos} {T : String}
theorem d_isinst (x : PySem.Str) (hT : T ∈ ["bool", "int", "str", "list", "tuple", "dict"]) (hb : bootBuiltins x = some (.type T)) (hx : x ≠ "__name__") (hd : (x == ("__debug__" : PySem.Str)) = false) (hg2 : Gl X x) (hm2 : X.mg x = none) (hg : Gl X "isinstance") (hm : X.mg "isinstance" = none) (he : DE X e te)
    (he1 : starEach [e, .Name x p2] X.env = (false, eval e X.env) :: starEach [.Name x p2] X.env := by rfl) (hpl : (backTo pos (starEach [.Name x p2] X.env)).any (·.1) = false := by rfl) : DE X (.Call (.Name "isinstance" p) [e, .Name x p2] [] pos) (dIsi T te) :=
  pe_mono (pe_callB call_isi hg hm (by decide +kernel) (pa_cons he (pa_cons (pe_bltn (v := .ty T) hg2 hm2 hb rfl hx hd) pa_nil) (hs := he1)) (he := he1) (hpl := hpl)) fun σ H Q ⟨F, M, G, ρ, R, w, s, h, c⟩ => by
    refine ⟨F, M, G, ρ, _, w, s, h, fun x M1 F1 H1 v h1 s1 w1 d1 => ?_⟩
    obtain ⟨t, e, r⟩ := h1
    exact ⟨v, .ty T, .type t, .type T, _, rfl, .ty T, typ_at w1 d1 e, kit_sub (typ_in e) hT, (c.mono s1).here w1 r (.bl _)⟩
theorem d_isinst_list (hg2 : Gl X "list") (hm2 : X.mg "list" = none) (hg : Gl X "isinstance") (hm : X.mg "isinstance" = none) (he : DE X e te)
    (he1 : starEach [e, .Name "list" p2] X.env = (false, eval e X.env) :: starEach [.Name "list" p2] X.env := by rfl) : DE X (.Call (.Name "isinstance" p) [e, .Name "list" p2] [] pos) (dIsi "list" te) :=
  d_isinst "list" (by decide) (by decide +kernel) (by decide) (by decide) hg2 hm2 hg hm he he1 rfl
theorem d_isinst_int (hg2 : Gl X "int") (hm2 : X.mg "int" = none) (hg : Gl X "isinstance") (hm : X.mg "isinstance" = none) (he : DE X e te)
    (he1 : starEach [e, .Name "int" p2] X.env = (false, eval e X.env) :: starEach [.Name "int" p2] X.env := by rfl) : DE X (.Call (.Name "isinstance" p) [e, .Name "int" p2] [] pos) (dIsi "int" te) :=
  d_isinst "int" (by decide) (by decide +kernel) (by decide) (by decide) hg2 hm2 hg hm he he1 rfl
theorem d_isinst_bool (hg2 : Gl X "bool") (hm2 : X.mg "bool" = none) (hg : Gl X "isinstance") (hm : X.mg "isinstance" = none) (he : DE X e te)
    (he1 : starEach [e, .Name "bool" p2] X.env = (false, eval e X.env) :: starEach [.Name "bool" p2] X.env := by rfl) : DE X (.Call (.Name "isinstance" p) [e, .Name "bool" p2] [] pos) (dIsi "bool" te) :=
  d_isinst "bool" (by decide) (by decide +kernel) (by decide) (by decide) hg2 hm2 hg hm he he1 rfl
theorem d_isinst_tuple (hg2 : Gl X "tuple") (hm2 : X.mg "tuple" = none) (hg : Gl X "isinstance") (hm : X.mg "isinstance" = none) (he : DE X e te)
    (he1 : starEach [e, .Name "tuple" p2] X.env = (false, eval e X.env) :: starEach [.Name "tuple" p2] X.env := by rfl) : DE X (.Call (.Name "isinstance" p) [e, .Name "tuple" p2] [] pos) (dIsi "tuple" te) :=
  d_isinst "tuple" (by decide) (by decide +kernel) (by decide) (by decide) hg2 hm2 hg hm he he1 rfl
theorem d_isinst_str (hg2 : Gl X "str") (hm2 : X.mg "str" = none) (hg : Gl X "isinstance") (hm : X.mg "isinstance" = none) (he : DE X e te)
    (he1 : starEach [e, .Name "str" p2] X.env = (false, eval e X.env) :: starEach [.Name "str" p2] X.env := by rfl) : DE X (.Call (.Name "isinstance" p) [e, .Name "str" p2] [] pos) (dIsi "str" te) :=
  d_isinst "str" (by decide) (by decide +kernel) (by decide) (by decide) hg2 hm2 hg hm he he1 rfl
theorem e_isi {ρ : DEnv} {M : MS} {R : D → MS → Prop} : dIsi T te ρ M R = te ρ M fun x M1 => ∃ t, dtyp M1 x = some t ∧ R (.bl (subT t T)) M1 := rfl
/-! ### str(x), x a text -/
def dStrS : DL := fun xs M R => match xs with
  | [.str z] => R (.str z) M
  | _ => False
theorem d_strS {t : TDA} (hg : Gl X "str") (hm : X.mg "str" = none) (ha : DA X [e] t) (he : starEach [e] X.env = (false, eval e X.env) :: starEach [] X.env := by rfl) : DE X (.Call (.Name "str" p) [e] [] pos) (dCB dStrS t) :=
  d_callTy SkE.call_str_str (fun F M G H xs vs R Q w d h c => by
    unfold dStrS at h
    split at h
    · obtain ⟨v, rfl, d1⟩ := dtAll_one d
      exact ⟨_, by rw [dt_str d1], c.here w h (.str _)⟩
    · cases h) hg hm (by decide +kernel) ha (he := he)
theorem e_strS {z : PySem.Str} {M : MS} {R : D → MS → Prop} : dStrS [.str z] M R = R (.str z) M := rfl
/-! ### dicts of ints and texts -/
def kD : Key → D
  | .inl i => .int i
  | .inr x => .str x
def valD (kds : List (Key × D)) (k : Key) : Option D := (kds.find? fun q => decide (q.1 = k)).map (·.2)
def putD (kds : List (Key × D)) (k : Key) (d : D) : List (Key × D) := if (kds.any fun q => decide (q.1 = k)) = true then kds.map (fun q => if q.1 = k then (q.1, d) else q) else kds ++ [(k, d)]
theorem dt_kD {K : PySem.W.Frag} {F : Hp} {v : V} {k : Key} (h : Dt K F v (kD k)) : v = kV k := by
  cases k with
  | inl i => exact dt_int h
  | inr x => exact dt_str h
theorem kds_val {K : PySem.W.Frag} {F : Hp} : ∀ {kvs : List (Key × V)} {kds : List (Key × D)} {k : Key} {d : D}, kvs.map Prod.fst = kds.map Prod.fst → DtAll K F (kvs.map Prod.snd) (kds.map Prod.snd) → valD kds k = some d → ∃ v, valV kvs k = some v ∧ Dt K F v d
  | [], [], _, _, _, _, h => by simp [valD] at h
  | [], _ :: _, _, _, e, _, _ => by simp at e
  | _ :: _, [], _, _, e, _, _ => by simp at e
  | (a, v) :: kvs, (b, x) :: kds, k, d, e, q, h => by
    simp only [List.map_cons, List.cons.injEq] at e
    obtain ⟨rfl, e⟩ := e
    cases q with
    | cons q1 q2 =>
      by_cases c : a = k
      · subst c
        have : x = d := by simpa [valD] using h
        subst this
        exact ⟨v, valV_pos rfl, q1⟩
      · have h' : valD kds k = some d := by simpa [valD, List.find?_cons, c] using h
        obtain ⟨u, h1, h2⟩ := kds_val e q2 h'
        exact ⟨u, by rw [valV_neg c]; exact h1, h2⟩
theorem kds_put {K : PySem.W.Frag} {F : Hp} {kvs : List (Key × V)} {kds : List (Key × D)} {k : Key} {v : V} {d : D} (r : Dt K F v d) (q : KDs K F kvs kds) : KDs K F (putK kvs k v) (putD kds k d) := by
  obtain ⟨e, q⟩ := q
  have any : (kvs.any fun z => decide (z.1 = k)) = kds.any fun z => decide (z.1 = k) := by
    have : ∀ {kvs : List (Key × V)} {kds : List (Key × D)}, kvs.map Prod.fst = kds.map Prod.fst → (kvs.any fun z => decide (z.1 = k)) = kds.any fun z => decide (z.1 = k) := by
      intro kvs
      induction kvs with
      | nil => intro kds e; cases kds with
        | nil => rfl
        | cons _ _ => simp at e
      | cons a l ih => intro kds e; cases kds with
        | nil => simp at e
        | cons b m =>
          simp only [List.map_cons, List.cons.injEq] at e
          simp only [List.any_cons, e.1, ih e.2]
    exact this e
  unfold putK putD
  rw [any]
  by_cases c : (kds.any fun z => decide (z.1 = k)) = true
  · rw [if_pos c, if_pos c]
    clear any c
    revert kds
    induction kvs with
    | nil => intro kds e q; cases kds with
      | nil => exact ⟨rfl, .nil⟩
      | cons _ _ => simp at e
    | cons a l ih => intro kds e q; cases kds with
      | nil => simp at e
      | cons b m =>
        obtain ⟨a1, a2⟩ := a
        obtain ⟨b1, b2⟩ := b
        simp only [List.map_cons, List.cons.injEq] at e
        obtain ⟨rfl, e⟩ := e
        cases q with
        | cons q1 q2 =>
          obtain ⟨i1, i2⟩ := ih e q2
          by_cases c : a1 = k
          · subst c
            simp only [List.map_cons, if_true]
            exact ⟨by simp only [List.map_cons, i1], .cons r i2⟩
          · simp only [List.map_cons, if_neg c]
            exact ⟨by simp only [List.map_cons, i1], .cons q1 i2⟩
  · rw [if_neg c, if_neg c]
    refine ⟨by rw [List.map_append, List.map_append, e]; rfl, ?_⟩
    rw [List.map_append, List.map_append]
    exact q.append (.cons r .nil)
theorem Wf.newMK {K : PySem.W.Frag} {F : Hp} {M : MS} {G H : Hp} (w : Wf K F M G H) {p : Addr} (h : H p = none) : Wf K F (mupd M p (.dK [])) G (upd H p (.dK [])) := by
  refine ⟨fun b x e => by rw [upd_ne (ne_of_none (w.fz _ _ e) h)]; exact w.fz _ _ e, fun b m e => ?_, fun b u e => ?_⟩
  · by_cases hb : b = p
    · subst hb; rw [mupd_same] at e; cases e
      exact ⟨w.fnone h, w.gnone h, [], upd_same, rfl, .nil⟩
    · rw [mupd_ne hb] at e
      obtain ⟨a1, a2, a3⟩ := w.mu _ _ e
      exact ⟨a1, a2, a3.keep (Same.refl F) (fun c u _ q => by rw [upd_ne (ne_of_none q h)]; exact q) fun _ _ z => z⟩
  · obtain ⟨b1, b2⟩ := w.fr _ _ e
    exact ⟨by rw [upd_ne (ne_of_none b1 h)]; exact b1, b2⟩
theorem Wf.setMK {K : PySem.W.Frag} {F : Hp} {M : MS} {G H : Hp} (w : Wf K F M G H) {p : Addr} {kvs : List (Key × V)} {kds es : List (Key × D)} (h : M p = some (.dK kds)) (a : KDs K F kvs es) : Wf K F (mupd M p (.dK es)) G (upd H p (.dK kvs)) := by
  obtain ⟨f1, f2, vs', hv, _⟩ := w.mu _ _ h
  have nown : ∀ b c, H b = some (.own c) → b ≠ p := fun b c q z => by subst z; rw [hv] at q; cases q
  refine ⟨fun b x e => by rw [upd_ne (ne_of_none e f1)]; exact w.fz _ _ e, fun b m e => ?_, fun b u e => ?_⟩
  · by_cases hb : b = p
    · subst hb; rw [mupd_same] at e; cases e
      exact ⟨f1, f2, kvs, upd_same, a⟩
    · rw [mupd_ne hb] at e
      obtain ⟨a1, a2, a3⟩ := w.mu _ _ e
      refine ⟨a1, a2, a3.keep (Same.refl F) (fun c u hc q => ?_) fun _ _ z => z⟩
      have : c ≠ p := by
        rcases hc with z | z
        · rw [z]; exact hb
        · exact nown _ _ z
      rw [upd_ne this]; exact q
  · obtain ⟨b1, b2⟩ := w.fr _ _ e
    exact ⟨by rw [upd_ne (ne_of_none e f2)]; exact b1, b2⟩
def dkOf (M : MS) : D → Option (List (Key × D))
  | .dK kds => some kds
  | .ref a => match M a with
    | some (.dK kds) => some kds
    | _ => none
  | _ => none
theorem dk_at {K : PySem.W.Frag} {F : Hp} {M : MS} {G H : Hp} {d : D} {v : V} {kds : List (Key × D)} (w : Wf K F M G H) (r : Dt K F v d) (e : dkOf M d = some kds) : ∃ a kvs, v = .ref a ∧ Rd H a (.dK kvs) ∧ KDs K F kvs kds := by
  cases r with
  | dK h e1 e2 => cases e; exact ⟨_, _, rfl, same_rd w.fz h, e1, e2⟩
  | ref a =>
    unfold dkOf at e
    dsimp only at e
    split at e
    · rename_i q
      cases e
      obtain ⟨_, _, kvs, p, q⟩ := w.mu _ _ q
      exact ⟨a, kvs, rfl, .inl p, q⟩
    · cases e
  | _ => cases e
def dDnew : TDE := fun _ M R => ∀ p, M p = none → R (.ref p) (mupd M p (.dK []))
def dDget (td ty : TDE) : TDE := fun ρ M R => td ρ M fun x M1 => ty ρ M1 fun y M2 => ∃ (kds : List (Key × D)) (k : Key) (d : D), dkOf M2 x = some kds ∧ y = kD k ∧ valD kds k = some d ∧ R d M2
def dDput (td ty tv : TDE) : TDS := fun D0 ρ M => tv ρ M fun d M1 => td ρ M1 fun x M2 => ty ρ M2 fun y M3 => ∃ (a : Addr) (kds : List (Key × D)) (k : Key), x = .ref a ∧ M3 a = some (.dK kds) ∧ y = kD k ∧ kds.length < sizeLine ∧ D0.nx ρ (mupd M3 a (.dK (putD kds k d)))
theorem d_dict0M : DE X (.Dict [] [] pos) dDnew := pe_mono pe_dnewK fun σ H Q ⟨F, M, G, ρ, R, w, s, h, c⟩ => fun p hp => c (.ref p) _ F _ _ (h p (w.mnone hp)) (Same.refl F) (w.newMK hp) (.ref p)
theorem d_dget (hr : Room k X.A) (ho : DE X o td) (hi : DE X i ty) (hs : NoSl i := by exact fun _ _ => rfl) : DE X (.Subscript o i pos) (dDget td ty) := pe_mono (pe_dget (by have := hr.un; omega) ho hi hs) fun σ H Q ⟨F, M, G, ρ, R, w, s, h, c⟩ => by
  refine ⟨F, M, G, ρ, _, w, s, h, fun x M1 F1 H1 v h1 s1 w1 d1 => ?_⟩
  refine ⟨F1, M1, G, ρ, _, w1, s.mono s1, h1, fun y M2 F2 H2 u h2 s2 w2 d2 => ?_⟩
  obtain ⟨kds, k, d, e1, rfl, e2, r⟩ := h2
  obtain ⟨a, kvs, rfl, p, q1, q2⟩ := dk_at w2 (d1.mono s2) e1
  obtain ⟨z, h3, h4⟩ := kds_val q1 q2 e2
  refine ⟨a, z, rfl, ?_, (c.mono (s1.trans s2)).here w2 r h4⟩
  rw [dt_kD d2]
  exact .inl ⟨kvs, k, p, rfl, h3.symm⟩
theorem ds_dput {value : Expr} (hr : Room k X.A) (ho : DE X o td) (hi : DE X i ty) (hv : DE X value tv) (hs : swapsWith value (some (.Subscript o i pos')) pos.line X.env = pure false := by rfl) : DS X (.Assign [.Subscript o i pos'] value pos) (dDput td ty tv) :=
  ps_mono (ps_dput (by have := hr.un; omega) ho hi hv hs) fun D σ H ⟨F, M, G, ρ, R, w, s, h, c⟩ => by
    refine ⟨F, M, G, ρ, _, w, s, h, fun x M1 F1 H1 v h1 s1 w1 d1 => ?_⟩
    refine ⟨F1, M1, G, ρ, _, w1, s.mono s1, h1, fun y M2 F2 H2 u h2 s2 w2 d2 => ?_⟩
    refine ⟨F2, M2, G, ρ, _, w2, s.mono (s1.trans s2), h2, fun z M3 F3 H3 u3 h3 s3 w3 d3 => ?_⟩
    obtain ⟨a, kds, k, rfl, e, rfl, hl, r⟩ := h3
    obtain rfl := dt_ref d2
    obtain ⟨_, _, kvs, p, q⟩ := w3.mu _ _ e
    have q' := kds_put (k := k) (d1.mono (s2.trans s3)) q
    have ln : kvs.length = kds.length := by have := congrArg List.length q.1; simpa using this
    refine ⟨a, _, rfl, .inl ⟨kvs, k, p, dt_kD d3, by rw [ln]; exact hl, rfl⟩, ?_⟩
    exact (c.nx.mono (s1.trans (s2.trans s3))).here (w3.setMK e q') r (s.mono (s1.trans (s2.trans s3)))
theorem e_dnew {ρ : DEnv} {M : MS} {R : D → MS → Prop} : dDnew ρ M R = ∀ p, M p = none → R (.ref p) (mupd M p (.dK [])) := rfl
theorem e_dget {ρ : DEnv} {M : MS} {R : D → MS → Prop} : dDget td ty ρ M R = td ρ M fun x M1 => ty ρ M1 fun y M2 => ∃ (kds : List (Key × D)) (k : Key) (d : D), dkOf M2 x = some kds ∧ y = kD k ∧ valD kds k = some d ∧ R d M2 := rfl
theorem e_dput {D0 : DEnds} {ρ : DEnv} {M : MS} : dDput td ty tv D0 ρ M = tv ρ M fun d M1 => td ρ M1 fun x M2 => ty ρ M2 fun y M3 => ∃ (a : Addr) (kds : List (Key × D)) (k : Key), x = .ref a ∧ M3 a = some (.dK kds) ∧ y = kD k ∧ kds.length < sizeLine ∧ D0.nx ρ (mupd M3 a (.dK (putD kds k d))) := rfl
end
/-! ### readings of set and dict comprehensions -/
def scV (xs : List D) (P : MS → Prop) (g : TDG) (tt : TDT) (te : TDE) (vs : List Nat) (ρ : DEnv) (M : MS) (E : List Int → MS → Prop) : Prop := ∃ W : Nat → List Int → MS → Prop, W 0 [] M ∧ (∀ i acc M, i ≤ xs.length → W i acc M → P M) ∧
  (∀ i x acc M, xs[i]? = some x → W i acc M → g x (dwipe ρ vs) M fun ρ' M' => tt ρ' M' fun b M2 => if b = true then te ρ' M2 fun d M3 => ∃ n : Int, d = .int n ∧ acc.length ≤ 4000 ∧ W (i + 1) (acc ++ [n]) M3 else W (i + 1) acc M2) ∧ ∀ acc M, W xs.length acc M → E acc M
theorem e_sc {di : TDI} {g : TDG} {tt : TDT} {te : TDE} {vs : List Nat} {ρ : DEnv} {M : MS} {R : D → MS → Prop} : dSc di g tt te vs ρ M R = di ρ M fun xs P M1 => scV xs P g tt te vs ρ M1 fun acc M' => ∀ ns', IsSet acc ns' → R (.lst (ns'.map D.int)) M' := rfl
theorem sc_typed1 {α : Type} {e : α → D} (l : List α) {P : MS → Prop} {g : TDG} {te : TDE} {vs : List Nat} {ρ : DEnv} {M : MS} {E : List Int → MS → Prop} (f : α → Int) (hl : l.length ≤ 4000) (hP : P M)
    (hs : ∀ (i : Nat) (x : α) (E' : D → MS → Prop), l[i]? = some x → E' (.int (f x)) M → g (e x) (dwipe ρ vs) M fun ρ' M' => te ρ' M' E')
    (hE : E (l.map f) M) : scV (l.map e) P g dYes te vs ρ M E := by
  refine ⟨fun i acc M' => M' = M ∧ acc = (l.take i).map f, ⟨rfl, by simp⟩, fun i acc M' _ h => by rw [h.1]; exact hP, fun i x acc M' hx h => ?_, fun acc M' h => ?_⟩
  · obtain ⟨rfl, rfl⟩ := h
    rw [List.getElem?_map, Option.map_eq_some_iff] at hx
    obtain ⟨y, h1, rfl⟩ := hx
    have e1 : l.take (i + 1) = l.take i ++ [y] := by rw [List.take_add_one, h1]; rfl
    have hi : i < l.length := (List.getElem?_eq_some_iff.mp h1).1
    refine hs i y _ h1 ⟨f y, rfl, ?_, rfl, ?_⟩
    · rw [List.length_map, List.length_take]; omega
    · rw [e1, List.map_append]; rfl
  · obtain ⟨rfl, rfl⟩ := h
    rw [List.length_map, List.take_length]
    exact hE
def dcV (P : Program) (w : World) (xs : List D) (Pm : MS → Prop) (g : TDG) (tt : TDT) (tk tv : TDE) (vs : List Nat) (ρ : DEnv) (M : MS) (R : D → MS → Prop) : Prop := ∃ W : Nat → List (Pk × Int) → MS → Prop, W 0 [] M ∧ (∀ i acc M, i ≤ xs.length → W i acc M → Pm M) ∧
  (∀ i x acc M, xs[i]? = some x → W i acc M → g x (dwipe ρ vs) M fun ρ' M' => tt ρ' M' fun b M2 => if b = true then tk ρ' M2 fun y M3 => tv ρ' M3 fun d M4 => ∃ (p : Pk) (n : Int), y = pk p ∧ d = .int n ∧ p ∉ acc.map (·.1) ∧ acc.length < sizeLine ∧ W (i + 1) (acc ++ [(p, n)]) M4 else W (i + 1) acc M2) ∧
  ∀ acc M, W xs.length acc M → R (.ext (RankP P w acc)) M
theorem e_dcN {P : Program} {w : World} {di : TDI} {g : TDG} {tt : TDT} {tk tv : TDE} {vs : List Nat} {ρ : DEnv} {M : MS} {R : D → MS → Prop} : dDcN P w di g tt tk tv vs ρ M R = di ρ M fun xs Pm M1 => dcV P w xs Pm g tt tk tv vs ρ M1 R := rfl
theorem dc_typed {P : Program} {w : World} {ps : List Pk} (hn : ps.Nodup) (hl : ps.length ≤ 4000) {xs : List D} {Pm : MS → Prop} {g : TDG} {tk tv : TDE} {vs : List Nat} {ρ : DEnv} {M : MS} {R : D → MS → Prop} (hx : ∀ (i : Nat) (x : D), xs[i]? = some x → ∃ p, ps[i]? = some p ∧ x = .tup [.int i, pk p]) (hxl : xs.length = ps.length) (hP : Pm M)
    (hs : ∀ (i : Nat) (p : Pk) (E' : D → MS → Prop → Prop) (N : MS → Prop), ps[i]? = some p → N M → g (.tup [.int i, pk p]) (dwipe ρ vs) M fun ρ' M' => tk ρ' M' fun y M3 => tv ρ' M3 fun d M4 => y = pk p ∧ d = .int i ∧ N M4)
    (hs2 : ∀ x ρ M' (S S' : DEnv → MS → Prop), (∀ ρ M, S ρ M → S' ρ M) → g x ρ M' S → g x ρ M' S') (hk2 : ∀ ρ M' (S S' : D → MS → Prop), (∀ d M, S d M → S' d M) → tk ρ M' S → tk ρ M' S') (hv2 : ∀ ρ M' (S S' : D → MS → Prop), (∀ d M, S d M → S' d M) → tv ρ M' S → tv ρ M' S')
    (hE : R (.ext (RankP P w (ps.mapIdx fun i p => (p, (i : Int))))) M) : dcV P w xs Pm g dYes tk tv vs ρ M R := by
  have tk1 : ∀ i p, ps[i]? = some p → (ps.take (i + 1)).mapIdx (fun i p => (p, (i : Int))) = (ps.take i).mapIdx (fun i p => (p, (i : Int))) ++ [(p, (i : Int))] := fun i p h => by
    have hi : i < ps.length := (List.getElem?_eq_some_iff.mp h).1
    rw [List.take_add_one, h]
    simp only [Option.toList_some, List.mapIdx_append, List.mapIdx_cons, List.mapIdx_nil, List.length_take]
    rw [Nat.min_eq_left (Nat.le_of_lt hi)]
    simp
  refine ⟨fun i acc M' => M' = M ∧ acc = (ps.take i).mapIdx (fun i p => (p, (i : Int))), ⟨rfl, by simp⟩, fun i acc M' _ h => by rw [h.1]; exact hP, fun i x acc M' hxi h => ?_, fun acc M' h => ?_⟩
  · obtain ⟨rfl, rfl⟩ := h
    obtain ⟨p, hp, rfl⟩ := hx i x hxi
    have hi : i < ps.length := (List.getElem?_eq_some_iff.mp hp).1
    refine hs2 _ _ _ _ _ (fun ρ1 M1 h1 => ?_) (hs i p (fun _ _ q => q) (fun M2 => M2 = M') hp rfl)
    show tk ρ1 M1 _
    refine hk2 _ _ _ _ (fun y M3 h3 => hv2 _ _ _ _ (fun d M4 h4 => ?_) h3) h1
    obtain ⟨rfl, rfl, rfl⟩ := h4
    refine ⟨p, i, rfl, rfl, ?_, ?_, rfl, (tk1 i p hp).symm⟩
    · intro hm
      obtain ⟨z, hz, e⟩ := List.mem_map.mp hm
      obtain ⟨j, hj⟩ := List.mem_iff_getElem?.mp hz
      rw [List.getElem?_mapIdx] at hj
      obtain ⟨u, hu, eu⟩ := Option.map_eq_some_iff.mp hj
      have hjl : j < i := by
        have := (List.getElem?_eq_some_iff.mp hu).1
        rw [List.length_take] at this
        omega
      have hu' : ps[j]? = some u := by
        rw [List.getElem?_take] at hu
        rwa [if_pos hjl] at hu
      have eup : u = p := by rw [← eu] at e; exact e
      rw [eup] at hu'
      have hj' := List.getElem?_eq_some_iff.mp hu'
      have hp' := List.getElem?_eq_some_iff.mp hp
      have := (List.getElem?_inj hj'.1 hn).mp (hu'.trans hp.symm)
      omega
    · rw [List.length_mapIdx, List.length_take]
      exact small_line' (by omega)
  · obtain ⟨rfl, rfl⟩ := h
    rw [hxl, List.take_length]
    exact hE
theorem e_rank {P : Program} {w : World} {td ty : TDE} {ρ : DEnv} {M : MS} {R : D → MS → Prop} : dRank P w td ty ρ M R = td ρ M fun x M1 => ty ρ M1 fun y M2 => ∃ (acc : List (Pk × Int)) (p : Pk) (n : Int), x = .ext (RankP P w acc) ∧ y = pk p ∧ (p, n) ∈ acc ∧ R (.int n) M2 := rfl
end DL

/-! DL12: defs that leave things behind. -/
namespace DL
open PySem PySem.Spec PyProof.Rows L2
def Sub (M M' : MS) : Prop := ∀ a o, M a = some o → M' a = some o
theorem Sub.refl (M : MS) : Sub M M := fun _ _ h => h
theorem Sub.trans {M M' M2 : MS} (h : Sub M M') (h2 : Sub M' M2) : Sub M M2 := fun a o e => h2 _ _ (h _ _ e)
theorem Sub.none {M M' : MS} (h : Sub M M') {p : Addr} (e : M' p = none) : M p = none := by
  cases q : M p with
  | none => rfl
  | some o => rw [h _ _ q] at e; cases e
theorem Sub.mupd {M M' : MS} (h : Sub M M') (p : Addr) (o : MO) : Sub (mupd M p o) (mupd M' p o) := fun a u e => by
  by_cases c : a = p
  · subst c; rw [mupd_same] at e ⊢; exact e
  · rw [mupd_ne c] at e ⊢; exact h _ _ e
theorem Sub.new {M M' : MS} (h : Sub M M') {p : Addr} (o : MO) (hp : M p = Option.none) : Sub M (DL.mupd M' p o) := fun a u e => by
  have c : a ≠ p := fun z => by subst z; rw [hp] at e; cases e
  rw [mupd_ne c]; exact h _ _ e
theorem Sub.put {M M' : MS} (h : Sub M M') {p : Addr} {o : MO} (hp : M' p = some o) : Sub (DL.mupd M p o) M' := fun a u e => by
  by_cases c : a = p
  · subst c; rw [mupd_same] at e; cases e; exact hp
  · rw [mupd_ne c] at e; exact h _ _ e
section
variable {P : Program} {w : World} {K : PySem.W.Frag} {mg : Str → Option Value} {base : Heap}
theorem dfnW {x qual : Str} {st : Stmt} {f : Addr} {fd : FuncData} {N ps : List Str} {k : Nat} {dsp : DL} (F : Fun K x qual st f fd) (S : FnScope N ps (defScope st)) (len : ∀ ds M R, dsp ds M R → ds.length = ps.length)
    (hbody : ∀ (cdv : Value) (A : Around) (outer : List Env) (s : Shared) (H : Hp) (E : XK) (ds : List D) (M : MS) (R : D → MS → Prop), Room k (A.deeper (envOfC qual (defScope st) s.heap.objs.size f cdv)) → dsp ds M R →
      ∃ t, DSs (cxOf CX0 P w K mg base N qual (defScope st) f cdv A outer s H E).nox (defBody st) t ∧ t { nx := fun _ M' => ∃ M2, Sub M2 M' ∧ R .non M2, rt := fun d M' => ∃ M2, Sub M2 M' ∧ R d M2 } (dstart N ds) M) : FnOk P w K mg base CX0 (k + 1) f fd ps (spOf K dsp) := by
  refine F.ok S (fun vs H Q E h => ?_) (fun cdv A outer s H vs Q E hr h => ?_)
  · obtain ⟨F, M, G, ds, R, w, d, h, c⟩ := h
    rw [d.length]
    exact len ds M R h
  · obtain ⟨F, M, G, ds, R, w, d, h, c⟩ := h
    obtain ⟨t, h1, h2⟩ := hbody cdv A outer s H E ds M R hr h
    refine ⟨_, h1, F, M, G, dstart N ds, _, w, sl_start d, h2, ⟨?_, ?_, ?_, ?_⟩⟩
    · exact fun ρ M' F' H' σ' ⟨M2, s2, r⟩ s1 w1 _ => c .non M2 F' H' .non r s1 (w1.forget s2) .non
    · exact fun d M' F' H' v ⟨M2, s2, r⟩ s1 w1 dv => c d M2 F' H' v r s1 (w1.forget s2) dv
    · exact fun ρ M' F' H' σ' r s1 w1 _ => r.elim
    · exact fun ρ M' F' H' σ' r s1 w1 _ => r.elim
end
theorem RnAt.weak {M0 M1 M : MS} {a : Addr} (h : RnAt M1 a M) (s : Sub M0 M1) : ∃ M2, Sub M2 M ∧ RnAt M0 a M2 := by
  obtain ⟨r, h1, h2, rfl⟩ := h.ex
  refine ⟨r.put a M0, ?_, ⟨r, h1, s.none h2, rfl⟩, s.none h.fr⟩
  unfold Rn.put
  exact (s.mupd _ _).mupd _ _
end DL

/-! DL13: membership among ints, items by place. -/
namespace DL
open PySem PySem.Spec PyProof.Rows L2
section
variable {M : MS} {R : D → MS → Prop} {a : Addr}
theorem inD_ints (i : Int) : ∀ ns : List Int, inD (.int i) (ns.map D.int) = decide (i ∈ ns)
  | [] => rfl
  | n :: ns => by
    have ih := inD_ints i ns
    unfold inD at ih ⊢
    rw [List.map_cons, List.any_cons, ih]
    have e : PyData.eqv (py (.int n)) (py (.int i)) = decide (n = i) := by
      unfold py
      show (n == i) = _
      by_cases h : n = i <;> simp [h]
    rw [e]
    by_cases h : n = i
    · subst h; simp
    · have h' : i ≠ n := fun z => h z.symm
      simp [h, h']
theorem flat_ints : ∀ ns : List Int, (ns.map D.int).all flat = true
  | [] => rfl
  | n :: ns => by rw [List.map_cons, List.all_cons, flat_ints ns]; rfl
theorem nats_ints (ns : List Nat) : (ns.map fun k : Nat => D.int k) = (ns.map fun k : Nat => (k : Int)).map D.int := by rw [List.map_map]; rfl
theorem mem_nats {k : Nat} {ns : List Nat} : ((k : Int) ∈ ns.map fun k : Nat => (k : Int)) ↔ k ∈ ns := by
  rw [List.mem_map]
  exact ⟨fun ⟨m, h, e⟩ => by rw [← Int.ofNat.inj e]; exact h, fun h => ⟨k, h, rfl⟩⟩
theorem in_ints {y : D} {i : Int} {ns : List Int} (h : sqOf M y = some (ns.map D.int)) : dIn (.int i) y M R = R (.bl (decide (i ∈ ns))) M := by
  apply propext
  constructor
  · rintro ⟨ds, e, _, r⟩
    rw [h] at e
    cases e
    rw [inD_ints] at r
    exact r
  · exact fun r => ⟨_, h, .inl (by rw [flat_ints]; rfl), by rw [inD_ints]; exact r⟩
theorem in_nats {y : D} {k : Nat} {ns : List Nat} (h : sqOf M y = some (ns.map fun k : Nat => D.int k)) : dIn (.int k) y M R = R (.bl (decide (k ∈ ns))) M := by
  rw [nats_ints] at h
  rw [in_ints h]
  simp only [mem_nats]
theorem e_inLN {k : Nat} {ns : List Nat} : dIn (.int k) (.lst (ns.map fun k : Nat => D.int k)) M R = R (.bl (decide (k ∈ ns))) M := in_nats rfl
theorem e_inRN {xs : List D} (h0 : M a = some (.lst xs)) {k : Nat} {ns : List Nat} (h : xs = ns.map fun k : Nat => D.int k) : dIn (.int k) (.ref a) M R = R (.bl (decide (k ∈ ns))) M := in_nats (by show (match M a with | some (.lst xs) => some xs | _ => none) = _; rw [h0, h])
theorem map_at {α : Type} {f : α → D} {l : List α} {n : Nat} {x : α} (h : l[n]? = some x) : (l.map f)[n]? = some (f x) := by rw [List.getElem?_map, h]; rfl
theorem at_map {α : Type} {f : α → D} {l : List α} {n : Nat} {x : α} {k : D → Prop} (h : l[n]? = some x) : dAt (l.map f) (n : Int) k = k (f x) := e_at (map_at h)
theorem at_mapI {α : Type} {f : α → D} {l : List α} {i : Int} {n : Nat} {x : α} {k : D → Prop} (hi : i = (n : Int)) (h : l[n]? = some x) : dAt (l.map f) i k = k (f x) := by subst hi; exact at_map h
theorem isSet_nat {js : List Nat} {ns' : List Int} (h : IsSet (js.map fun k : Nat => (k : Int)) ns') : ∃ r : List Nat, ns' = r.map (fun k : Nat => (k : Int)) ∧ r.Pairwise (· < ·) ∧ ∀ k, k ∈ r ↔ k ∈ js := by
  obtain ⟨h1, h2⟩ := h
  have e : ns' = (ns'.map Int.toNat).map (fun k : Nat => (k : Int)) := by
    rw [List.map_map]
    refine (List.map_id ns').symm.trans (List.map_congr_left fun z hz => ?_)
    obtain ⟨k, _, rfl⟩ := List.mem_map.mp ((h2 z).mp hz)
    rfl
  refine ⟨ns'.map Int.toNat, e, ?_, fun k => ?_⟩
  · rw [e] at h1
    have := List.pairwise_map.mp h1
    exact this.imp fun q => by omega
  · rw [← mem_nats (ns := ns'.map Int.toNat), ← e, h2, mem_nats]
end
end DL

/-! DL14: zip of lists that may change; any of bools. -/
namespace DL
open PySem PySem.Spec PyProof.Rows L2
def dIZipR (t : TDA) : TDI := fun ρ M R => t ρ M fun ds M1 => ∃ x y xs ys, ds = [x, y] ∧ lsOf M1 x = some xs ∧ lsOf M1 y = some ys ∧ R (List.zipWith (fun x y => D.tup [x, y]) xs ys) (fun M' => lsOf M' x = some xs ∧ lsOf M' y = some ys) M1
section
variable {X : Cx} {tg e : Expr} {t : TDA}
theorem di_zipR (h : PI X tg e (iZip X.K (upA X.K t))) : DI X tg e (dIZipR t) := pi_mono h fun σ H Q ⟨F, M, G, ρ, RI, w, s, h, c⟩ => ⟨F, M, G, ρ, _, w, s, h, fun ds M1 F1 H1 vs ⟨x, y, xs, ys, e, ex, ey, h1⟩ s1 w1 d1 => by
  subst e
  obtain ⟨v, u, rfl, d2, d3⟩ := dtAll_two d1
  obtain ⟨a, us, rfl, e1, q1⟩ := ls_at w1 d2 ex
  obtain ⟨b, ws, rfl, e2, q2⟩ := ls_at w1 d3 ey
  refine ⟨a, b, us, ws, rfl, .of e1, .of e2, c _ _ M1 F1 H1 _ h1 s1 w1 fun F' M' G' H' i s2 pm w2 => ?_⟩
  obtain ⟨a', us', ea, f1', g1⟩ := ls_at w2 (d2.mono s2) pm.1
  obtain ⟨b', ws', eb, f2', g2⟩ := ls_at w2 (d3.mono s2) pm.2
  cases ea
  cases eb
  have f1 : SqL X.K H' a us' := .of f1'
  have f2 : SqL X.K H' b ws' := .of f2'
  rw [List.length_zipWith]
  refine ⟨fun hi => ?_, fun hi => ⟨us', ws', f1, f2, by rw [g1.length, g2.length]; omega⟩, fun x H'' d ⟨T, y, z, e3, hT, e4, e5, e6⟩ hd => ?_⟩
  · have l1 : i < us'.length := by rw [g1.length]; omega
    have l2 : i < ws'.length := by rw [g2.length]; omega
    exact ⟨us', ws', us'[i], ws'[i], f1, f2, List.getElem?_eq_getElem l1, List.getElem?_eq_getElem l2⟩
  · subst e3 e4
    obtain ⟨d', h2, h3⟩ := g1.get (e5 us' f1)
    obtain ⟨d'', h4, h5⟩ := g2.get (e6 ws' f2)
    rw [List.getElem?_zipWith, h2, h4] at hd
    cases hd
    exact pair_new w2 hT h3 h5⟩
end
theorem e_izipR {t : TDA} {ρ : DEnv} {M : MS} {RI : List D → (MS → Prop) → MS → Prop} : dIZipR t ρ M RI = t ρ M fun ds M1 => ∃ x y xs ys, ds = [x, y] ∧ lsOf M1 x = some xs ∧ lsOf M1 y = some ys ∧ RI (List.zipWith (fun x y => D.tup [x, y]) xs ys) (fun M' => lsOf M' x = some xs ∧ lsOf M' y = some ys) M1 := rfl
theorem e_ienum {t : TDA} {ρ : DEnv} {M : MS} {RI : List D → (MS → Prop) → MS → Prop} : dIEnum t ρ M RI = t ρ M fun ds M1 => ∃ x, ds = [x] ∧ ((∃ xs, x = .lst xs ∧ RI (xs.mapIdx fun k d => D.tup [.int (k : Nat), d]) (fun _ => True) M1) ∨
  ∃ a xs, x = .ref a ∧ M1 a = some (.lst xs) ∧ RI (xs.mapIdx fun k d => D.tup [.int (k : Nat), d]) (fun M' => M' a = some (.lst xs)) M1) := rfl
theorem e_while {c : TDT} {tb : TDS} {D0 : DEnds} {ρ : DEnv} {M : MS} : dWhile c tb D0 ρ M = ∃ W : Nat → DEnv → MS → Prop, (∃ m, W m ρ M) ∧ ∀ m ρ M, W m ρ M →
  c ρ M fun b M1 => if b = true then tb { D0 with nx := fun ρ' M' => ∃ m', m' < m ∧ W m' ρ' M', ct := fun ρ' M' => ∃ m', m' < m ∧ W m' ρ' M', bk := D0.nx } ρ M1 else D0.nx ρ M1 := rfl
theorem lsOf_ref {M : MS} {a : Addr} {xs : List D} (h : M a = some (.lst xs)) : lsOf M (.ref a) = some xs := by unfold lsOf; simp only [h]
end DL

namespace K32
open PySem PySem.Spec PyProof.Rows L2 DL
def topS (i : Nat) : Stmt := PySem.Challenge.pw_setnests_k32_whole_likeness.main.body.getD i (.Pass ⟨0, 0, 0, 0⟩)
abbrev s_law_draw : Stmt := topS 8
abbrev n_law_draw : List Str := ["state", "many", "rest", "one", "two", "three"]
abbrev p_law_draw : List Str := ["state", "many"]
theorem sc_law_draw : FnScope n_law_draw p_law_draw (defScope s_law_draw) := ⟨rfl, rfl, rfl, by decide +kernel, rfl, by decide +kernel, by decide +kernel⟩
section
variable {P : Program} {w : World} {K : PySem.W.Frag} {mg : Str → Option Value} {base : Heap}
theorem ok_draw {f : Addr} {fd : FuncData} {k : Nat} (F : Fun K "_law_draw" "_law_draw" s_law_draw f fd) (B : Bt mg) : FnOk P w K mg base CX0 (k + 1) f fd p_law_draw (spOf K spDraw) := by
  refine dfn F sc_law_draw (fun ds M R h => ?_) (fun cdv A outer s H E ds M R hr h => ?_)
  · obtain ⟨a, m, M0, rfl, _⟩ := h
    rfl
  · have nd := sc_law_draw.nd
    refine ⟨_, (dss_cons (ds_if (dt_lt (d_sub_ix (dv 0) d_int) (d_len rfl B.len (da_cons (d_sub_ix (dv 0) d_int) da_nil)))
(dss_cons (ds_set (i := 2) nd rfl (.inl rfl) (d_sub_ix (d_sub_ix (dv 0) d_int) (d_sub_ix (dv 0) d_int)))
(dss_cons (ds_asg (d_fdiv (dv 2) (dv 1)) (dg_sub (pg_sub (d_sub_ix (dv 0) d_int) (d_sub_ix (dv 0) d_int) set_list)))
(dss_cons (ds_if (dt_eq hr (d_fdiv (dv 2) (dv 1)) d_int)
(dss_one (ds_asg (d_add (d_sub_ix (dv 0) d_int) d_int) (dg_sub (pg_sub (dv 0) d_int set_list))))
dss_nil)
(dss_one (ds_ret (d_mod (d_intC rfl B.int (da_cons (dv 2) da_nil)) (dv 1)))))))
dss_nil)
(dss_cons (ds_asg (d_add (d_sub_ix (dv 0) d_int) d_int) (dg_sub (pg_sub (dv 0) d_int set_list)))
(dss_cons (ds_set (i := 3) nd rfl (.inl rfl) (d_mod (d_intC rfl B.int (da_cons (d_add (d_sub_ix (dv 0) d_int) (d_mul (d_sub_ix (dv 0) d_int) d_int)) da_nil)) d_int))
(dss_cons (ds_set (i := 4) nd rfl (.inl rfl) (d_mod (d_intC rfl B.int (da_cons (d_add (d_mul (dv 3) (dv 3)) (d_mul (d_sub_ix (dv 0) d_int) d_int)) da_nil)) d_int))
(dss_cons (ds_set (i := 5) nd rfl (.inl rfl) (d_mod (d_intC rfl B.int (da_cons (d_add (d_mul (dv 4) (dv 4)) (dv 3)) da_nil)) d_int))
(dss_one (ds_ret (d_mod (d_intC rfl B.int (da_cons (d_fdiv (dv 5) d_int) da_nil)) (dv 1))))))))), ?_⟩
    obtain ⟨a, m, M0, rfl, h1, h2, ⟨⟨r, n1, n2, rfl⟩, n3⟩, h4⟩ := h
    have e0 : (r.put a M0) a = some (.lst [.ref r.g, .int r.at_, .int r.mixed, .int r.turn]) := Rn.put_a n1
    have e1 : (r.put a M0) r.g = some (.lst (r.great.map D.int)) := Rn.put_g
    simp only [dstart, List.map, List.length, List.replicate, List.cons_append, List.nil_append]
    (try simp only [↓e_var0, ↓e_varS, ↓e_C, ↓e_op, ↓e_un, ↓e_cb, ↓e_nil, ↓e_cons, ↓e_tup, ↓e_lst, ↓e_lstM, ↓e_frz, ↓e_B, ↓e_bl, ↓e_andT, ↓e_orT, ↓e_notT, ↓e_andV, ↓e_orV, ↓e_notV, ↓e_ifE, ↓e_tru, ↓e_slice, ↓e_noPart, ↓e_part, ↓e_partV, ↓e_bm, ↓e_bm0, ↓e_ty_lst, ↓e_ty_str, ↓e_next, ↓e_seq, ↓e_break, ↓e_cont, ↓e_drop, ↓e_ret, ↓e_retN, ↓e_ifS, ↓e_asg, ↓e_gname, ↓e_put0, ↓e_putS, ↓e_aug, ↓e_gsub, ↓e_gtup2, ↓e_I, ↓e_Ic, ↓e_add, ↓e_addS, ↓e_addL, ↓e_addT, ↓e_mul, ↓e_eqI, ↓e_eqS, ↓e_eqB, ↓e_ix_lst, ↓e_ix_tup, ↓e_at0, ↓e_at1, ↓e_at2, ↓e_at3, ↓e_sa0, ↓e_sa1, ↓e_sa2, ↓e_sa3, ↓e_len_lst, ↓e_len_tup, ↓e_len_str, ↓e_abs, ↓e_int, ↓e_str, ↓e_ilst, ↓e_il, ↓e_irl, ↓e_irng1, ↓e_irV, ↓e_irng2, ↓e_irV2, ↓e_yes, ↓u_frzV, ↓u_ty, ↓u_setL, ↓u_ix, ↓u_len, ↓u_append, ↓u_pop, ↓u_iref, ↓e_isi, ↓e_strS, ↓e_dnew, ↓e_dget, ↓e_dput, ↓e_sc, ↓e_dcN, ↓e_rank, ↓e_inLN, ↓e_izipR, ↓e_ienum, ↓e_while, ↓mupd_mupd, ↓e_for, ↓e_lc, ↓e_lcM, ↓e_wipe, ↓e_wipe0, ↓e_frzV e0, ↓e_ty_ref e0, ↓e_setL e0, ↓e_ix_ref e0, ↓e_len_ref e0, ↓e_append e0, ↓e_pop e0, ↓e_iref e0, ↓e_frzV e1, ↓e_ty_ref e1, ↓e_setL e1, ↓e_ix_ref e1, ↓e_len_ref e1, ↓e_append e1, ↓e_pop e1, ↓e_iref e1, eq_self_iff_true, true_and, List.set_cons_zero, List.set_cons_succ, id_eq, ↓reduceIte, Bool.false_eq_true, Bool.not_true, Bool.not_false])
    split
    · rename_i q
      have q1 : r.at_ < r.great.length := by
        have := of_decide_eq_true q
        rw [List.length_map] at this
        omega
      have q2 : (r.great.map D.int)[r.at_]? = some (.int (r.great[r.at_])) := by
        rw [List.getElem?_map, List.getElem?_eq_getElem q1]
        rfl
      simp only [e_at q2]
      (try simp only [↓e_var0, ↓e_varS, ↓e_C, ↓e_op, ↓e_un, ↓e_cb, ↓e_nil, ↓e_cons, ↓e_tup, ↓e_lst, ↓e_lstM, ↓e_frz, ↓e_B, ↓e_bl, ↓e_andT, ↓e_orT, ↓e_notT, ↓e_andV, ↓e_orV, ↓e_notV, ↓e_ifE, ↓e_tru, ↓e_slice, ↓e_noPart, ↓e_part, ↓e_partV, ↓e_bm, ↓e_bm0, ↓e_ty_lst, ↓e_ty_str, ↓e_next, ↓e_seq, ↓e_break, ↓e_cont, ↓e_drop, ↓e_ret, ↓e_retN, ↓e_ifS, ↓e_asg, ↓e_gname, ↓e_put0, ↓e_putS, ↓e_aug, ↓e_gsub, ↓e_gtup2, ↓e_I, ↓e_Ic, ↓e_add, ↓e_addS, ↓e_addL, ↓e_addT, ↓e_mul, ↓e_eqI, ↓e_eqS, ↓e_eqB, ↓e_ix_lst, ↓e_ix_tup, ↓e_at0, ↓e_at1, ↓e_at2, ↓e_at3, ↓e_sa0, ↓e_sa1, ↓e_sa2, ↓e_sa3, ↓e_len_lst, ↓e_len_tup, ↓e_len_str, ↓e_abs, ↓e_int, ↓e_str, ↓e_ilst, ↓e_il, ↓e_irl, ↓e_irng1, ↓e_irV, ↓e_irng2, ↓e_irV2, ↓e_yes, ↓u_frzV, ↓u_ty, ↓u_setL, ↓u_ix, ↓u_len, ↓u_append, ↓u_pop, ↓u_iref, ↓e_isi, ↓e_strS, ↓e_dnew, ↓e_dget, ↓e_dput, ↓e_sc, ↓e_dcN, ↓e_rank, ↓e_inLN, ↓e_izipR, ↓e_ienum, ↓e_while, ↓mupd_mupd, ↓e_for, ↓e_lc, ↓e_lcM, ↓e_wipe, ↓e_wipe0, ↓e_frzV e0, ↓e_ty_ref e0, ↓e_setL e0, ↓e_ix_ref e0, ↓e_len_ref e0, ↓e_append e0, ↓e_pop e0, ↓e_iref e0, ↓e_frzV e1, ↓e_ty_ref e1, ↓e_setL e1, ↓e_ix_ref e1, ↓e_len_ref e1, ↓e_append e1, ↓e_pop e1, ↓e_iref e1, eq_self_iff_true, true_and, List.set_cons_zero, List.set_cons_succ, id_eq, ↓reduceIte, Bool.false_eq_true, Bool.not_true, Bool.not_false])
      have w1 : CDivW r.great[r.at_] m := cdivW h1 h2
      have w2 : r.at_ < (r.great.map D.int).length := by rw [List.length_map]; exact q1
      have r1 := Int.emod_nonneg r.great[r.at_] (Int.ne_of_gt h1)
      have r2 := Int.emod_lt_of_pos r.great[r.at_] h1
      refine ⟨w1, ?_⟩
      simp only [e_sa w2]
      refine ⟨w1, ?_⟩
      have s1 : (r.great.map D.int).set r.at_ (D.int (r.great[r.at_] / m)) = (r.great.set r.at_ (r.great[r.at_] / m)).map D.int := by rw [List.map_set]
      rw [s1, Rn.set_g]
      have n1' : a ≠ ({ r with great := r.great.set r.at_ (r.great[r.at_] / m) } : Rn).g := n1
      have e2 := Rn.put_a (M := M0) n1'
      split
      · (try simp only [↓e_var0, ↓e_varS, ↓e_C, ↓e_op, ↓e_un, ↓e_cb, ↓e_nil, ↓e_cons, ↓e_tup, ↓e_lst, ↓e_lstM, ↓e_frz, ↓e_B, ↓e_bl, ↓e_andT, ↓e_orT, ↓e_notT, ↓e_andV, ↓e_orV, ↓e_notV, ↓e_ifE, ↓e_tru, ↓e_slice, ↓e_noPart, ↓e_part, ↓e_partV, ↓e_bm, ↓e_bm0, ↓e_ty_lst, ↓e_ty_str, ↓e_next, ↓e_seq, ↓e_break, ↓e_cont, ↓e_drop, ↓e_ret, ↓e_retN, ↓e_ifS, ↓e_asg, ↓e_gname, ↓e_put0, ↓e_putS, ↓e_aug, ↓e_gsub, ↓e_gtup2, ↓e_I, ↓e_Ic, ↓e_add, ↓e_addS, ↓e_addL, ↓e_addT, ↓e_mul, ↓e_eqI, ↓e_eqS, ↓e_eqB, ↓e_ix_lst, ↓e_ix_tup, ↓e_at0, ↓e_at1, ↓e_at2, ↓e_at3, ↓e_sa0, ↓e_sa1, ↓e_sa2, ↓e_sa3, ↓e_len_lst, ↓e_len_tup, ↓e_len_str, ↓e_abs, ↓e_int, ↓e_str, ↓e_ilst, ↓e_il, ↓e_irl, ↓e_irng1, ↓e_irV, ↓e_irng2, ↓e_irV2, ↓e_yes, ↓u_frzV, ↓u_ty, ↓u_setL, ↓u_ix, ↓u_len, ↓u_append, ↓u_pop, ↓u_iref, ↓e_isi, ↓e_strS, ↓e_dnew, ↓e_dget, ↓e_dput, ↓e_sc, ↓e_dcN, ↓e_rank, ↓e_inLN, ↓e_izipR, ↓e_ienum, ↓e_while, ↓mupd_mupd, ↓e_for, ↓e_lc, ↓e_lcM, ↓e_wipe, ↓e_wipe0, ↓e_frzV e2, ↓e_ty_ref e2, ↓e_setL e2, ↓e_ix_ref e2, ↓e_len_ref e2, ↓e_append e2, ↓e_pop e2, ↓e_iref e2, eq_self_iff_true, true_and, List.set_cons_zero, List.set_cons_succ, id_eq, ↓reduceIte, Bool.false_eq_true, Bool.not_true, Bool.not_false])
        refine ⟨h1, h4 _ _ r1 r2 ⟨⟨_, ?_, ?_, Rn.set_a n1' (↑r.at_ + 1) r.mixed r.turn _ rfl (by omega)⟩, n3⟩⟩
        · exact n1
        · exact n2
      · exact ⟨h1, h4 _ _ r1 r2 ⟨⟨_, n1', n2, rfl⟩, n3⟩⟩
    · rw [Rn.set_a n1 ↑r.at_ r.mixed (r.turn + 1) _ rfl (by omega)]
      have n1' : a ≠ ({ r with at_ := (r.at_ : Int).toNat, mixed := r.mixed, turn := r.turn + 1 } : Rn).g := n1
      refine ⟨.inr (by decide), by decide, ?_⟩
      generalize r.mixed + (r.turn + 1) * 7368787 = z1
      have b1 := Int.emod_nonneg z1 (show (2147483647 : Int) ≠ 0 by decide)
      have b2 := Int.emod_lt_of_pos z1 (show (0 : Int) < 2147483647 by decide)
      generalize z1 % 2147483647 = y1 at b1 b2 ⊢
      refine ⟨.inl ⟨by omega, by omega⟩, .inr (by decide), by decide, ?_⟩
      generalize y1 * y1 + (r.turn + 1) * 40503 = z2
      have b3 := Int.emod_nonneg z2 (show (1000000007 : Int) ≠ 0 by decide)
      have b4 := Int.emod_lt_of_pos z2 (show (0 : Int) < 1000000007 by decide)
      generalize z2 % 1000000007 = y2 at b3 b4 ⊢
      refine ⟨.inl ⟨by omega, by omega⟩, by decide, cdivW (by decide) (by decide), h1, ?_⟩
      exact h4 _ _ (Int.emod_nonneg _ (Int.ne_of_gt h1)) (Int.emod_lt_of_pos _ h1) ⟨⟨_, n1', n2, rfl⟩, n3⟩
end
end K32

namespace K32
open PySem PySem.Spec PyProof.Rows L2 DL
abbrev s_law_start : Stmt := topS 7
abbrev n_law_start : List Str := ["script", "great", "mixed", "cell"]
abbrev p_law_start : List Str := ["script"]
theorem sc_law_start : FnScope n_law_start p_law_start (defScope s_law_start) := ⟨rfl, rfl, rfl, by decide +kernel, rfl, by decide +kernel, by decide +kernel⟩
section
variable {P : Program} {w : World} {K : PySem.W.Frag} {mg : Str → Option Value} {base : Heap}
def spStart : DL := fun ds M R => ∃ ns : List Int, ds = [.rl (ns.map D.int)] ∧ ns.length ≤ 63 ∧ ∀ a M', RnAt M a M' → R (.ref a) M'
theorem ok_start {f : Addr} {fd : FuncData} {k : Nat} (F : Fun K "_law_start" "_law_start" s_law_start f fd) (B : Bt mg) : FnOk P w K mg base CX0 (k + 1) f fd p_law_start (spOf K spStart) := by
  refine dfn F sc_law_start (fun ds M R h => ?_) (fun cdv A outer s H E ds M R hr h => ?_)
  · obtain ⟨ns, rfl, _⟩ := h
    rfl
  · have nd := sc_law_start.nd
    refine ⟨_, (dss_cons (ds_set (i := 1) nd rfl (.inl rfl) (d_lstM da_nil))
(dss_cons (ds_set (i := 2) nd rfl (.inl rfl) d_int)
(dss_cons (ds_for PassesOwn.never rfl (di_lst (dv 0)) (dg_name (i := 3) nd rfl (.inl rfl))
(dss_cons (ds_if (dt_ge (d_abs rfl B.abs (da_cons (dv 3) da_nil)) (d_pow d_int d_int))
(dss_one (ds_expr (d_append (dv 1) (da_cons (d_abs rfl B.abs (da_cons (dv 3) da_nil)) da_nil))))
dss_nil)
(dss_one (ds_set (i := 2) nd rfl (.inl rfl) (d_mod (d_intC rfl B.int (da_cons (d_add (d_add (d_mul (dv 2) d_int) (d_abs rfl B.abs (da_cons (dv 3) da_nil))) d_int) da_nil)) d_int)))))
(dss_one (ds_ret (d_lstM (da_cons (dv 1) (da_cons d_int (da_cons (dv 2) (da_cons d_int da_nil)))))))))), ?_⟩
    obtain ⟨ns, rfl, hn, h⟩ := h
    simp only [dstart, List.map, List.length, List.replicate, List.cons_append, List.nil_append]
    (try simp only [↓e_var0, ↓e_varS, ↓e_C, ↓e_op, ↓e_un, ↓e_cb, ↓e_nil, ↓e_cons, ↓e_tup, ↓e_lst, ↓e_lstM, ↓e_frz, ↓e_B, ↓e_bl, ↓e_andT, ↓e_orT, ↓e_notT, ↓e_andV, ↓e_orV, ↓e_notV, ↓e_ifE, ↓e_tru, ↓e_slice, ↓e_noPart, ↓e_part, ↓e_partV, ↓e_bm, ↓e_bm0, ↓e_ty_lst, ↓e_ty_str, ↓e_next, ↓e_seq, ↓e_break, ↓e_cont, ↓e_drop, ↓e_ret, ↓e_retN, ↓e_ifS, ↓e_asg, ↓e_gname, ↓e_put0, ↓e_putS, ↓e_aug, ↓e_gsub, ↓e_gtup2, ↓e_I, ↓e_Ic, ↓e_add, ↓e_addS, ↓e_addL, ↓e_addT, ↓e_mul, ↓e_eqI, ↓e_eqS, ↓e_eqB, ↓e_ix_lst, ↓e_ix_tup, ↓e_at0, ↓e_at1, ↓e_at2, ↓e_at3, ↓e_sa0, ↓e_sa1, ↓e_sa2, ↓e_sa3, ↓e_len_lst, ↓e_len_tup, ↓e_len_str, ↓e_abs, ↓e_int, ↓e_str, ↓e_ilst, ↓e_il, ↓e_irl, ↓e_irng1, ↓e_irV, ↓e_irng2, ↓e_irV2, ↓e_yes, ↓u_frzV, ↓u_ty, ↓u_setL, ↓u_ix, ↓u_len, ↓u_append, ↓u_pop, ↓u_iref, ↓e_isi, ↓e_strS, ↓e_dnew, ↓e_dget, ↓e_dput, ↓e_sc, ↓e_dcN, ↓e_rank, ↓e_inLN, ↓e_izipR, ↓e_ienum, ↓e_while, ↓mupd_mupd, ↓e_for, ↓e_lc, ↓e_lcM, ↓e_wipe, ↓e_wipe0, eq_self_iff_true, true_and, List.set_cons_zero, List.set_cons_succ, id_eq, ↓reduceIte, Bool.false_eq_true, Bool.not_true, Bool.not_false])
    refine ⟨Nat.zero_le _, fun g hg => ?_⟩
    refine for_typed ns (fun i ρ M' => ∃ (gs : List Int) (mx : Int) (o : Option D), ρ = [some (.rl (ns.map D.int)), some (.ref g), some (.int mx), o] ∧ M' = mupd M g (.lst (gs.map D.int)) ∧ gs.length ≤ i ∧ 0 ≤ mx ∧ mx < 2147483647)
      ⟨[], 1, none, rfl, rfl, Nat.le_refl _, by decide, by decide⟩ (fun _ _ _ _ _ => trivial) (fun i x ρ M' hx hW => ?_) (fun ρ M' hW => ?_)
    · obtain ⟨gs, mx, o, rfl, rfl, h1, h2, h3⟩ := hW
      have hi : i < ns.length := (List.getElem?_eq_some_iff.mp hx).1
      (try simp only [↓e_var0, ↓e_varS, ↓e_C, ↓e_op, ↓e_un, ↓e_cb, ↓e_nil, ↓e_cons, ↓e_tup, ↓e_lst, ↓e_lstM, ↓e_frz, ↓e_B, ↓e_bl, ↓e_andT, ↓e_orT, ↓e_notT, ↓e_andV, ↓e_orV, ↓e_notV, ↓e_ifE, ↓e_tru, ↓e_slice, ↓e_noPart, ↓e_part, ↓e_partV, ↓e_bm, ↓e_bm0, ↓e_ty_lst, ↓e_ty_str, ↓e_next, ↓e_seq, ↓e_break, ↓e_cont, ↓e_drop, ↓e_ret, ↓e_retN, ↓e_ifS, ↓e_asg, ↓e_gname, ↓e_put0, ↓e_putS, ↓e_aug, ↓e_gsub, ↓e_gtup2, ↓e_I, ↓e_Ic, ↓e_add, ↓e_addS, ↓e_addL, ↓e_addT, ↓e_mul, ↓e_eqI, ↓e_eqS, ↓e_eqB, ↓e_ix_lst, ↓e_ix_tup, ↓e_at0, ↓e_at1, ↓e_at2, ↓e_at3, ↓e_sa0, ↓e_sa1, ↓e_sa2, ↓e_sa3, ↓e_len_lst, ↓e_len_tup, ↓e_len_str, ↓e_abs, ↓e_int, ↓e_str, ↓e_ilst, ↓e_il, ↓e_irl, ↓e_irng1, ↓e_irV, ↓e_irng2, ↓e_irV2, ↓e_yes, ↓u_frzV, ↓u_ty, ↓u_setL, ↓u_ix, ↓u_len, ↓u_append, ↓u_pop, ↓u_iref, ↓e_isi, ↓e_strS, ↓e_dnew, ↓e_dget, ↓e_dput, ↓e_sc, ↓e_dcN, ↓e_rank, ↓e_inLN, ↓e_izipR, ↓e_ienum, ↓e_while, ↓mupd_mupd, ↓e_for, ↓e_lc, ↓e_lcM, ↓e_wipe, ↓e_wipe0, eq_self_iff_true, true_and, List.set_cons_zero, List.set_cons_succ, id_eq, ↓reduceIte, Bool.false_eq_true, Bool.not_true, Bool.not_false])
      refine ⟨⟨by decide, by decide, by decide⟩, ?_⟩
      have mm : ∀ z : Int, 0 ≤ z % 2147483647 ∧ z % 2147483647 < 2147483647 := fun z => ⟨Int.emod_nonneg _ (by decide), Int.emod_lt_of_pos _ (by decide)⟩
      generalize (if x < 0 then -x else x) = y
      split
      · refine ⟨by rw [List.length_map]; exact small_line' (by omega), .inl ⟨by omega, by omega⟩, by decide, gs ++ [y], _, _, rfl, ?_, ?_, mm _⟩
        · rw [List.map_append]
          rfl
        · simp; omega
      · exact ⟨.inl ⟨by omega, by omega⟩, by decide, gs, _, _, rfl, rfl, by omega, mm _⟩
    · obtain ⟨gs, mx, o, rfl, rfl, h1, h2, h3⟩ := hW
      (try simp only [↓e_var0, ↓e_varS, ↓e_C, ↓e_op, ↓e_un, ↓e_cb, ↓e_nil, ↓e_cons, ↓e_tup, ↓e_lst, ↓e_lstM, ↓e_frz, ↓e_B, ↓e_bl, ↓e_andT, ↓e_orT, ↓e_notT, ↓e_andV, ↓e_orV, ↓e_notV, ↓e_ifE, ↓e_tru, ↓e_slice, ↓e_noPart, ↓e_part, ↓e_partV, ↓e_bm, ↓e_bm0, ↓e_ty_lst, ↓e_ty_str, ↓e_next, ↓e_seq, ↓e_break, ↓e_cont, ↓e_drop, ↓e_ret, ↓e_retN, ↓e_ifS, ↓e_asg, ↓e_gname, ↓e_put0, ↓e_putS, ↓e_aug, ↓e_gsub, ↓e_gtup2, ↓e_I, ↓e_Ic, ↓e_add, ↓e_addS, ↓e_addL, ↓e_addT, ↓e_mul, ↓e_eqI, ↓e_eqS, ↓e_eqB, ↓e_ix_lst, ↓e_ix_tup, ↓e_at0, ↓e_at1, ↓e_at2, ↓e_at3, ↓e_sa0, ↓e_sa1, ↓e_sa2, ↓e_sa3, ↓e_len_lst, ↓e_len_tup, ↓e_len_str, ↓e_abs, ↓e_int, ↓e_str, ↓e_ilst, ↓e_il, ↓e_irl, ↓e_irng1, ↓e_irV, ↓e_irng2, ↓e_irV2, ↓e_yes, ↓u_frzV, ↓u_ty, ↓u_setL, ↓u_ix, ↓u_len, ↓u_append, ↓u_pop, ↓u_iref, ↓e_isi, ↓e_strS, ↓e_dnew, ↓e_dget, ↓e_dput, ↓e_sc, ↓e_dcN, ↓e_rank, ↓e_inLN, ↓e_izipR, ↓e_ienum, ↓e_while, ↓mupd_mupd, ↓e_for, ↓e_lc, ↓e_lcM, ↓e_wipe, ↓e_wipe0, eq_self_iff_true, true_and, List.set_cons_zero, List.set_cons_succ, id_eq, ↓reduceIte, Bool.false_eq_true, Bool.not_true, Bool.not_false])
      refine ⟨small_line (by simp), fun a ha => h a _ ⟨⟨⟨g, gs, 0, mx, 0⟩, ?_, hg, ?_⟩, ?_⟩⟩
      · rintro rfl
        rw [mupd_same] at ha; cases ha
      · unfold Rn.put
        rw [mupd_comm]
        · rfl
        · rintro rfl
          rw [mupd_same] at ha; cases ha
      · cases e : M a with
        | none => rfl
        | some o =>
          rw [mupd_ne (ne_ms e hg)] at ha
          rw [ha] at e; cases e
end
end K32

namespace K32
open PySem PySem.Spec PyProof.Rows L2 DL
/-! ### drawings -/
def enR (row : List Nat) : D := .lst (row.map fun n : Nat => D.int n)
def enD (rows : List (List Nat)) : D := .lst (rows.map enR)
structure Drw (rows : List (List Nat)) : Prop where
  pos : 0 < rows.length
  lt : ∀ row ∈ rows, ∀ p ∈ row, p < rows.length
  asc : ∀ row ∈ rows, row.Pairwise (· < ·)
  sm : rows.length ≤ 128
abbrev s_law_free : Stmt := topS 9
abbrev n_law_free : List Str := ["state", "most", "size", "thin", "rows", "bare", "at", "k"]
abbrev p_law_free : List Str := ["state", "most"]
theorem sc_law_free : FnScope n_law_free p_law_free (defScope s_law_free) := ⟨rfl, rfl, rfl, by decide +kernel, rfl, by decide +kernel, by decide +kernel⟩
section
variable {P : Program} {w : World} {K : PySem.W.Frag} {mg : Str → Option Value} {base : Heap}
/-- rows below a size -/
def RowOk (n : Nat) (row : List Nat) : Prop := (∀ p ∈ row, p < n) ∧ row.Pairwise (· < ·)
def spFree : DL := fun ds M R => ∃ a most M0, ds = [.ref a, .int most] ∧ 0 < most ∧ most ≤ 100 ∧ RnAt M0 a M ∧ ∀ rows M', Drw rows → (rows.length : Int) ≤ most → RnAt M0 a M' → R (enD rows) M'
theorem ok_free {f : Addr} {fd : FuncData} {k : Nat} (F : Fun K "_law_free" "_law_free" s_law_free f fd) (B : Bt mg) (c__law_draw : CalX P w K mg base "_law_draw" 1 spDraw) : FnOk P w K mg base CX0 (1 + 1) f fd p_law_free (spOf K spFree) := by
  refine dfn F sc_law_free (fun ds M R h => ?_) (fun cdv A outer s H E ds M R hr h => ?_)
  · obtain ⟨a, most, M0, rfl, _⟩ := h
    rfl
  · have nd := sc_law_free.nd
    refine ⟨_, (dss_cons (ds_set (i := 2) nd rfl (.inr rfl) (d_add d_int (d_callX c__law_draw hr rfl (da_cons (dv 0) (da_cons (dv 1) da_nil)))))
(dss_cons (ds_set (i := 3) nd rfl (.inr rfl) (d_add d_int (d_callX c__law_draw hr rfl (da_cons (dv 0) (da_cons d_int da_nil)))))
(dss_cons (ds_lcM (lfg_name (i := 6) (by decide)) (ps_setLc (i := 4) (own := [("at", 6)]) rfl nd rfl rfl (sw_true rfl rfl rfl (by decide +kernel)) (di_rng1 (pi_range1 rfl B.range (da_cons (dv 2) da_nil))) (blkOk_by (own := [("at", 6)]) (N := n_law_free) (by rfl)) (fun _ _ _ _ _ => (pg_name (i := 6) nd rfl (.inl rfl))) (fun _ _ _ _ _ => dts_nil) (fun _ _ _ _ _ => (d_lc (lfg_name (i := 7) (by decide)) (pe_lc (own := [("k", 7)]) rfl nd (di_rng1 (pi_range1 rfl B.range (da_cons (dv 2) da_nil))) (blkOk_by (own := [("k", 7)]) (N := n_law_free) (by rfl)) (fun _ _ _ _ _ => (pg_name (i := 7) nd rfl (.inl rfl))) (fun _ _ _ _ _ => (dts_one (dt_eq hr (d_callX c__law_draw hr rfl (da_cons (dv 0) (da_cons (dv 3) da_nil))) d_int))) (fun _ _ _ _ _ => (dv 7)))))))
(dss_cons (ds_set (i := 5) nd rfl (.inl rfl) (d_callX c__law_draw hr rfl (da_cons (dv 0) (da_cons (d_add (dv 2) d_int) da_nil))))
(dss_cons (ds_if (dt_lt (dv 5) (dv 2))
(dss_one (ds_asg (d_lst da_nil) (dg_sub (pg_sub (dv 4) (dv 5) set_list))))
dss_nil)
(dss_one (ds_ret (d_frz (dv 4))))))))), ?_⟩
    obtain ⟨a, most, M0, rfl, m1, m2, hR, h⟩ := h
    simp only [dstart, List.map, List.length, List.replicate, List.cons_append, List.nil_append]
    (try simp only [↓e_var0, ↓e_varS, ↓e_C, ↓e_op, ↓e_un, ↓e_cb, ↓e_nil, ↓e_cons, ↓e_tup, ↓e_lst, ↓e_lstM, ↓e_frz, ↓e_B, ↓e_bl, ↓e_andT, ↓e_orT, ↓e_notT, ↓e_andV, ↓e_orV, ↓e_notV, ↓e_ifE, ↓e_tru, ↓e_slice, ↓e_noPart, ↓e_part, ↓e_partV, ↓e_bm, ↓e_bm0, ↓e_ty_lst, ↓e_ty_str, ↓e_next, ↓e_seq, ↓e_break, ↓e_cont, ↓e_drop, ↓e_ret, ↓e_retN, ↓e_ifS, ↓e_asg, ↓e_gname, ↓e_put0, ↓e_putS, ↓e_aug, ↓e_gsub, ↓e_gtup2, ↓e_I, ↓e_Ic, ↓e_add, ↓e_addS, ↓e_addL, ↓e_addT, ↓e_mul, ↓e_eqI, ↓e_eqS, ↓e_eqB, ↓e_ix_lst, ↓e_ix_tup, ↓e_at0, ↓e_at1, ↓e_at2, ↓e_at3, ↓e_sa0, ↓e_sa1, ↓e_sa2, ↓e_sa3, ↓e_len_lst, ↓e_len_tup, ↓e_len_str, ↓e_abs, ↓e_int, ↓e_str, ↓e_ilst, ↓e_il, ↓e_irl, ↓e_irng1, ↓e_irV, ↓e_irng2, ↓e_irV2, ↓e_yes, ↓u_frzV, ↓u_ty, ↓u_setL, ↓u_ix, ↓u_len, ↓u_append, ↓u_pop, ↓u_iref, ↓e_isi, ↓e_strS, ↓e_dnew, ↓e_dget, ↓e_dput, ↓e_sc, ↓e_dcN, ↓e_rank, ↓e_inLN, ↓e_izipR, ↓e_ienum, ↓e_while, ↓mupd_mupd, ↓e_for, ↓e_lc, ↓e_lcM, ↓e_wipe, ↓e_wipe0, eq_self_iff_true, true_and, List.set_cons_zero, List.set_cons_succ, id_eq, ↓reduceIte, Bool.false_eq_true, Bool.not_true, Bool.not_false])
    refine ⟨a, most, M0, rfl, m1, by omega, hR, fun n1 M1 l1 u1 R1 => ?_⟩
    (try simp only [↓e_var0, ↓e_varS, ↓e_C, ↓e_op, ↓e_un, ↓e_cb, ↓e_nil, ↓e_cons, ↓e_tup, ↓e_lst, ↓e_lstM, ↓e_frz, ↓e_B, ↓e_bl, ↓e_andT, ↓e_orT, ↓e_notT, ↓e_andV, ↓e_orV, ↓e_notV, ↓e_ifE, ↓e_tru, ↓e_slice, ↓e_noPart, ↓e_part, ↓e_partV, ↓e_bm, ↓e_bm0, ↓e_ty_lst, ↓e_ty_str, ↓e_next, ↓e_seq, ↓e_break, ↓e_cont, ↓e_drop, ↓e_ret, ↓e_retN, ↓e_ifS, ↓e_asg, ↓e_gname, ↓e_put0, ↓e_putS, ↓e_aug, ↓e_gsub, ↓e_gtup2, ↓e_I, ↓e_Ic, ↓e_add, ↓e_addS, ↓e_addL, ↓e_addT, ↓e_mul, ↓e_eqI, ↓e_eqS, ↓e_eqB, ↓e_ix_lst, ↓e_ix_tup, ↓e_at0, ↓e_at1, ↓e_at2, ↓e_at3, ↓e_sa0, ↓e_sa1, ↓e_sa2, ↓e_sa3, ↓e_len_lst, ↓e_len_tup, ↓e_len_str, ↓e_abs, ↓e_int, ↓e_str, ↓e_ilst, ↓e_il, ↓e_irl, ↓e_irng1, ↓e_irV, ↓e_irng2, ↓e_irV2, ↓e_yes, ↓u_frzV, ↓u_ty, ↓u_setL, ↓u_ix, ↓u_len, ↓u_append, ↓u_pop, ↓u_iref, ↓e_isi, ↓e_strS, ↓e_dnew, ↓e_dget, ↓e_dput, ↓e_sc, ↓e_dcN, ↓e_rank, ↓e_inLN, ↓e_izipR, ↓e_ienum, ↓e_while, ↓mupd_mupd, ↓e_for, ↓e_lc, ↓e_lcM, ↓e_wipe, ↓e_wipe0, eq_self_iff_true, true_and, List.set_cons_zero, List.set_cons_succ, id_eq, ↓reduceIte, Bool.false_eq_true, Bool.not_true, Bool.not_false])
    refine ⟨a, 2, M0, rfl, by decide, by decide, R1, fun n2 M2 l2 u2 R2 => ?_⟩
    (try simp only [↓e_var0, ↓e_varS, ↓e_C, ↓e_op, ↓e_un, ↓e_cb, ↓e_nil, ↓e_cons, ↓e_tup, ↓e_lst, ↓e_lstM, ↓e_frz, ↓e_B, ↓e_bl, ↓e_andT, ↓e_orT, ↓e_notT, ↓e_andV, ↓e_orV, ↓e_notV, ↓e_ifE, ↓e_tru, ↓e_slice, ↓e_noPart, ↓e_part, ↓e_partV, ↓e_bm, ↓e_bm0, ↓e_ty_lst, ↓e_ty_str, ↓e_next, ↓e_seq, ↓e_break, ↓e_cont, ↓e_drop, ↓e_ret, ↓e_retN, ↓e_ifS, ↓e_asg, ↓e_gname, ↓e_put0, ↓e_putS, ↓e_aug, ↓e_gsub, ↓e_gtup2, ↓e_I, ↓e_Ic, ↓e_add, ↓e_addS, ↓e_addL, ↓e_addT, ↓e_mul, ↓e_eqI, ↓e_eqS, ↓e_eqB, ↓e_ix_lst, ↓e_ix_tup, ↓e_at0, ↓e_at1, ↓e_at2, ↓e_at3, ↓e_sa0, ↓e_sa1, ↓e_sa2, ↓e_sa3, ↓e_len_lst, ↓e_len_tup, ↓e_len_str, ↓e_abs, ↓e_int, ↓e_str, ↓e_ilst, ↓e_il, ↓e_irl, ↓e_irng1, ↓e_irV, ↓e_irng2, ↓e_irV2, ↓e_yes, ↓u_frzV, ↓u_ty, ↓u_setL, ↓u_ix, ↓u_len, ↓u_append, ↓u_pop, ↓u_iref, ↓e_isi, ↓e_strS, ↓e_dnew, ↓e_dget, ↓e_dput, ↓e_sc, ↓e_dcN, ↓e_rank, ↓e_inLN, ↓e_izipR, ↓e_ienum, ↓e_while, ↓mupd_mupd, ↓e_for, ↓e_lc, ↓e_lcM, ↓e_wipe, ↓e_wipe0, eq_self_iff_true, true_and, List.set_cons_zero, List.set_cons_succ, id_eq, ↓reduceIte, Bool.false_eq_true, Bool.not_true, Bool.not_false])
    refine ⟨by omega, by omega, ?_⟩
    obtain ⟨N, hN⟩ : ∃ N : Nat, 1 + n1 = (N : Int) := ⟨(1 + n1).toNat, by omega⟩
    rw [hN, Int.toNat_natCast]
    have N0 : 0 < N := by omega
    have N1 : N ≤ 100 := by omega
    refine lc_inv (List.range N) (fun i acc M => RnAt M0 a M ∧ ∃ rs : List (List Nat), acc = rs.map enR ∧ rs.length = i ∧ ∀ r ∈ rs, RowOk N r) ⟨R2, [], rfl, rfl, fun _ h => nomatch h⟩ (fun _ _ _ _ _ => trivial) (fun i x acc M hx hW => ?_) (fun acc M hW => ?_)
    · obtain ⟨R3, rs, rfl, hl, hr⟩ := hW
      obtain ⟨rfl, hi⟩ := range_get hx
      (try simp only [↓e_var0, ↓e_varS, ↓e_C, ↓e_op, ↓e_un, ↓e_cb, ↓e_nil, ↓e_cons, ↓e_tup, ↓e_lst, ↓e_lstM, ↓e_frz, ↓e_B, ↓e_bl, ↓e_andT, ↓e_orT, ↓e_notT, ↓e_andV, ↓e_orV, ↓e_notV, ↓e_ifE, ↓e_tru, ↓e_slice, ↓e_noPart, ↓e_part, ↓e_partV, ↓e_bm, ↓e_bm0, ↓e_ty_lst, ↓e_ty_str, ↓e_next, ↓e_seq, ↓e_break, ↓e_cont, ↓e_drop, ↓e_ret, ↓e_retN, ↓e_ifS, ↓e_asg, ↓e_gname, ↓e_put0, ↓e_putS, ↓e_aug, ↓e_gsub, ↓e_gtup2, ↓e_I, ↓e_Ic, ↓e_add, ↓e_addS, ↓e_addL, ↓e_addT, ↓e_mul, ↓e_eqI, ↓e_eqS, ↓e_eqB, ↓e_ix_lst, ↓e_ix_tup, ↓e_at0, ↓e_at1, ↓e_at2, ↓e_at3, ↓e_sa0, ↓e_sa1, ↓e_sa2, ↓e_sa3, ↓e_len_lst, ↓e_len_tup, ↓e_len_str, ↓e_abs, ↓e_int, ↓e_str, ↓e_ilst, ↓e_il, ↓e_irl, ↓e_irng1, ↓e_irV, ↓e_irng2, ↓e_irV2, ↓e_yes, ↓u_frzV, ↓u_ty, ↓u_setL, ↓u_ix, ↓u_len, ↓u_append, ↓u_pop, ↓u_iref, ↓e_isi, ↓e_strS, ↓e_dnew, ↓e_dget, ↓e_dput, ↓e_sc, ↓e_dcN, ↓e_rank, ↓e_inLN, ↓e_izipR, ↓e_ienum, ↓e_while, ↓mupd_mupd, ↓e_for, ↓e_lc, ↓e_lcM, ↓e_wipe, ↓e_wipe0, eq_self_iff_true, true_and, List.set_cons_zero, List.set_cons_succ, id_eq, ↓reduceIte, Bool.false_eq_true, Bool.not_true, Bool.not_false])
      refine ⟨by omega, by omega, ?_⟩
      rw [Int.toNat_natCast]
      refine lc_inv (List.range N) (fun j acc M => RnAt M0 a M ∧ ∃ js : List Nat, acc = js.map (fun n : Nat => D.int n) ∧ js.length ≤ j ∧ js.Pairwise (· < ·) ∧ ∀ p ∈ js, p < j) ⟨R3, [], rfl, Nat.le_refl _, .nil, fun _ h => nomatch h⟩ (fun _ _ _ _ _ => trivial) (fun j y acc M hy hV => ?_) (fun acc M hV => ?_)
      · obtain ⟨R4, js, rfl, j1, j2, j3⟩ := hV
        obtain ⟨rfl, hj⟩ := range_get hy
        (try simp only [↓e_var0, ↓e_varS, ↓e_C, ↓e_op, ↓e_un, ↓e_cb, ↓e_nil, ↓e_cons, ↓e_tup, ↓e_lst, ↓e_lstM, ↓e_frz, ↓e_B, ↓e_bl, ↓e_andT, ↓e_orT, ↓e_notT, ↓e_andV, ↓e_orV, ↓e_notV, ↓e_ifE, ↓e_tru, ↓e_slice, ↓e_noPart, ↓e_part, ↓e_partV, ↓e_bm, ↓e_bm0, ↓e_ty_lst, ↓e_ty_str, ↓e_next, ↓e_seq, ↓e_break, ↓e_cont, ↓e_drop, ↓e_ret, ↓e_retN, ↓e_ifS, ↓e_asg, ↓e_gname, ↓e_put0, ↓e_putS, ↓e_aug, ↓e_gsub, ↓e_gtup2, ↓e_I, ↓e_Ic, ↓e_add, ↓e_addS, ↓e_addL, ↓e_addT, ↓e_mul, ↓e_eqI, ↓e_eqS, ↓e_eqB, ↓e_ix_lst, ↓e_ix_tup, ↓e_at0, ↓e_at1, ↓e_at2, ↓e_at3, ↓e_sa0, ↓e_sa1, ↓e_sa2, ↓e_sa3, ↓e_len_lst, ↓e_len_tup, ↓e_len_str, ↓e_abs, ↓e_int, ↓e_str, ↓e_ilst, ↓e_il, ↓e_irl, ↓e_irng1, ↓e_irV, ↓e_irng2, ↓e_irV2, ↓e_yes, ↓u_frzV, ↓u_ty, ↓u_setL, ↓u_ix, ↓u_len, ↓u_append, ↓u_pop, ↓u_iref, ↓e_isi, ↓e_strS, ↓e_dnew, ↓e_dget, ↓e_dput, ↓e_sc, ↓e_dcN, ↓e_rank, ↓e_inLN, ↓e_izipR, ↓e_ienum, ↓e_while, ↓mupd_mupd, ↓e_for, ↓e_lc, ↓e_lcM, ↓e_wipe, ↓e_wipe0, eq_self_iff_true, true_and, List.set_cons_zero, List.set_cons_succ, id_eq, ↓reduceIte, Bool.false_eq_true, Bool.not_true, Bool.not_false])
        refine ⟨a, 2 + n2, M0, rfl, by omega, by omega, R4, fun n3 M3 l3 u3 R5 => ?_⟩
        (try simp only [↓e_var0, ↓e_varS, ↓e_C, ↓e_op, ↓e_un, ↓e_cb, ↓e_nil, ↓e_cons, ↓e_tup, ↓e_lst, ↓e_lstM, ↓e_frz, ↓e_B, ↓e_bl, ↓e_andT, ↓e_orT, ↓e_notT, ↓e_andV, ↓e_orV, ↓e_notV, ↓e_ifE, ↓e_tru, ↓e_slice, ↓e_noPart, ↓e_part, ↓e_partV, ↓e_bm, ↓e_bm0, ↓e_ty_lst, ↓e_ty_str, ↓e_next, ↓e_seq, ↓e_break, ↓e_cont, ↓e_drop, ↓e_ret, ↓e_retN, ↓e_ifS, ↓e_asg, ↓e_gname, ↓e_put0, ↓e_putS, ↓e_aug, ↓e_gsub, ↓e_gtup2, ↓e_I, ↓e_Ic, ↓e_add, ↓e_addS, ↓e_addL, ↓e_addT, ↓e_mul, ↓e_eqI, ↓e_eqS, ↓e_eqB, ↓e_ix_lst, ↓e_ix_tup, ↓e_at0, ↓e_at1, ↓e_at2, ↓e_at3, ↓e_sa0, ↓e_sa1, ↓e_sa2, ↓e_sa3, ↓e_len_lst, ↓e_len_tup, ↓e_len_str, ↓e_abs, ↓e_int, ↓e_str, ↓e_ilst, ↓e_il, ↓e_irl, ↓e_irng1, ↓e_irV, ↓e_irng2, ↓e_irV2, ↓e_yes, ↓u_frzV, ↓u_ty, ↓u_setL, ↓u_ix, ↓u_len, ↓u_append, ↓u_pop, ↓u_iref, ↓e_isi, ↓e_strS, ↓e_dnew, ↓e_dget, ↓e_dput, ↓e_sc, ↓e_dcN, ↓e_rank, ↓e_inLN, ↓e_izipR, ↓e_ienum, ↓e_while, ↓mupd_mupd, ↓e_for, ↓e_lc, ↓e_lcM, ↓e_wipe, ↓e_wipe0, eq_self_iff_true, true_and, List.set_cons_zero, List.set_cons_succ, id_eq, ↓reduceIte, Bool.false_eq_true, Bool.not_true, Bool.not_false])
        split
        · refine ⟨by rw [List.length_map]; exact small_line' (by omega), R5, js ++ [y], by rw [List.map_append]; rfl, by simp; omega, ?_, ?_⟩
          · exact List.pairwise_append.mpr ⟨j2, List.pairwise_singleton _ _, fun p hp q hq => by
              rw [List.mem_singleton.mp hq]; exact j3 p hp⟩
          · intro p hp
            rcases List.mem_append.mp hp with hp | hp
            · have := j3 p hp; omega
            · rw [List.mem_singleton.mp hp]; omega
        · exact ⟨R5, js, rfl, by omega, j2, fun p hp => by have := j3 p hp; omega⟩
      · obtain ⟨R4, js, rfl, j1, j2, j3⟩ := hV
        rw [List.length_range] at j3
        refine ⟨by rw [List.length_map]; exact small_line' (by omega), R4, rs ++ [js], by rw [List.map_append]; rfl, by simp; omega, fun r hr' => ?_⟩
        rcases List.mem_append.mp hr' with h' | h'
        · exact hr r h'
        · rw [List.mem_singleton.mp h']; exact ⟨j3, j2⟩
    · obtain ⟨R3, rs, rfl, hl, hr⟩ := hW
      rw [List.length_range] at hl
      intro p hp
      have R3p := R3.new (o := .lst (rs.map enR)) hp
      refine ⟨a, (N : Int) + 2, mupd M0 p (.lst (rs.map enR)), rfl, by omega, by omega, R3p, fun n3 M3 l3 u3 R4 => ?_⟩
      have gp : mupd M0 p (.lst (rs.map enR)) p = some (.lst (rs.map enR)) := mupd_same
      have mp : M3 p = some (.lst (rs.map enR)) := R4.get gp
      have fin : ∀ (rs' : List (List Nat)) (M4 : MS), rs'.length = N → (∀ r ∈ rs', RowOk N r) → RnAt M0 a M4 → R (enD rs') M4 := fun rs' M4 e1 e2 e3 => h rs' M4 ⟨by omega, fun r hr' q hq => by rw [e1]; exact (e2 r hr').1 q hq, fun r hr' => (e2 r hr').2, by omega⟩ (by rw [e1]; omega) e3
      have M0p : M0 p = none := R3.free hp
      (try simp only [↓e_var0, ↓e_varS, ↓e_C, ↓e_op, ↓e_un, ↓e_cb, ↓e_nil, ↓e_cons, ↓e_tup, ↓e_lst, ↓e_lstM, ↓e_frz, ↓e_B, ↓e_bl, ↓e_andT, ↓e_orT, ↓e_notT, ↓e_andV, ↓e_orV, ↓e_notV, ↓e_ifE, ↓e_tru, ↓e_slice, ↓e_noPart, ↓e_part, ↓e_partV, ↓e_bm, ↓e_bm0, ↓e_ty_lst, ↓e_ty_str, ↓e_next, ↓e_seq, ↓e_break, ↓e_cont, ↓e_drop, ↓e_ret, ↓e_retN, ↓e_ifS, ↓e_asg, ↓e_gname, ↓e_put0, ↓e_putS, ↓e_aug, ↓e_gsub, ↓e_gtup2, ↓e_I, ↓e_Ic, ↓e_add, ↓e_addS, ↓e_addL, ↓e_addT, ↓e_mul, ↓e_eqI, ↓e_eqS, ↓e_eqB, ↓e_ix_lst, ↓e_ix_tup, ↓e_at0, ↓e_at1, ↓e_at2, ↓e_at3, ↓e_sa0, ↓e_sa1, ↓e_sa2, ↓e_sa3, ↓e_len_lst, ↓e_len_tup, ↓e_len_str, ↓e_abs, ↓e_int, ↓e_str, ↓e_ilst, ↓e_il, ↓e_irl, ↓e_irng1, ↓e_irV, ↓e_irng2, ↓e_irV2, ↓e_yes, ↓u_frzV, ↓u_ty, ↓u_setL, ↓u_ix, ↓u_len, ↓u_append, ↓u_pop, ↓u_iref, ↓e_isi, ↓e_strS, ↓e_dnew, ↓e_dget, ↓e_dput, ↓e_sc, ↓e_dcN, ↓e_rank, ↓e_inLN, ↓e_izipR, ↓e_ienum, ↓e_while, ↓mupd_mupd, ↓e_for, ↓e_lc, ↓e_lcM, ↓e_wipe, ↓e_wipe0, ↓e_frzV mp, ↓e_ty_ref mp, ↓e_setL mp, ↓e_ix_ref mp, ↓e_len_ref mp, ↓e_append mp, ↓e_pop mp, ↓e_iref mp, eq_self_iff_true, true_and, List.set_cons_zero, List.set_cons_succ, id_eq, ↓reduceIte, Bool.false_eq_true, Bool.not_true, Bool.not_false])
      split
      · rename_i q
        have q1 : n3 < (N : Int) := of_decide_eq_true q
        obtain ⟨b, rfl⟩ : ∃ b : Nat, n3 = (b : Int) := ⟨n3.toNat, by omega⟩
        refine ⟨Nat.zero_le _, ?_⟩
        rw [e_sa (show b < (rs.map enR).length by rw [List.length_map, hl]; omega)]
        (try simp only [↓e_var0, ↓e_varS, ↓e_C, ↓e_op, ↓e_un, ↓e_cb, ↓e_nil, ↓e_cons, ↓e_tup, ↓e_lst, ↓e_lstM, ↓e_frz, ↓e_B, ↓e_bl, ↓e_andT, ↓e_orT, ↓e_notT, ↓e_andV, ↓e_orV, ↓e_notV, ↓e_ifE, ↓e_tru, ↓e_slice, ↓e_noPart, ↓e_part, ↓e_partV, ↓e_bm, ↓e_bm0, ↓e_ty_lst, ↓e_ty_str, ↓e_next, ↓e_seq, ↓e_break, ↓e_cont, ↓e_drop, ↓e_ret, ↓e_retN, ↓e_ifS, ↓e_asg, ↓e_gname, ↓e_put0, ↓e_putS, ↓e_aug, ↓e_gsub, ↓e_gtup2, ↓e_I, ↓e_Ic, ↓e_add, ↓e_addS, ↓e_addL, ↓e_addT, ↓e_mul, ↓e_eqI, ↓e_eqS, ↓e_eqB, ↓e_ix_lst, ↓e_ix_tup, ↓e_at0, ↓e_at1, ↓e_at2, ↓e_at3, ↓e_sa0, ↓e_sa1, ↓e_sa2, ↓e_sa3, ↓e_len_lst, ↓e_len_tup, ↓e_len_str, ↓e_abs, ↓e_int, ↓e_str, ↓e_ilst, ↓e_il, ↓e_irl, ↓e_irng1, ↓e_irV, ↓e_irng2, ↓e_irV2, ↓e_yes, ↓u_frzV, ↓u_ty, ↓u_setL, ↓u_ix, ↓u_len, ↓u_append, ↓u_pop, ↓u_iref, ↓e_isi, ↓e_strS, ↓e_dnew, ↓e_dget, ↓e_dput, ↓e_sc, ↓e_dcN, ↓e_rank, ↓e_inLN, ↓e_izipR, ↓e_ienum, ↓e_while, ↓mupd_mupd, ↓e_for, ↓e_lc, ↓e_lcM, ↓e_wipe, ↓e_wipe0, eq_self_iff_true, true_and, List.set_cons_zero, List.set_cons_succ, id_eq, ↓reduceIte, Bool.false_eq_true, Bool.not_true, Bool.not_false])
        have e1 : (rs.map enR).set b (D.lst []) = (rs.set b []).map enR := by rw [List.map_set]; rfl
        rw [e1]
        refine fin (rs.set b []) _ (by rw [List.length_set]; exact hl) (fun r hr' => ?_) ?_
        · rcases List.mem_or_eq_of_mem_set hr' with h' | h'
          · exact hr r h'
          · rw [h']; exact ⟨fun _ z => (nomatch z), .nil⟩
        · have R5 := (R4.upd gp (u := .lst ((rs.set b []).map enR)))
          rw [mupd_mupd] at R5
          have R6 := R5.del mupd_same
          rw [mdel_mupd M0p] at R6
          exact R6
      · refine fin rs _ hl hr ?_
        have R6 := R4.del gp
        rw [mdel_mupd M0p] at R6
        exact R6
end
end K32

namespace K32
open PySem PySem.Spec PyProof.Rows L2 DL
abbrev s_law_copies : Stmt := topS 10
abbrev n_law_copies : List Str := ["state", "base", "more", "size", "image", "k", "rows", "at", "taken", "old", "twins", "may"]
abbrev p_law_copies : List Str := ["state", "base", "more"]
theorem sc_law_copies : FnScope n_law_copies p_law_copies (defScope s_law_copies) := ⟨rfl, rfl, rfl, by decide +kernel, rfl, by decide +kernel, by decide +kernel⟩
section
variable {P : Program} {w : World} {K : PySem.W.Frag} {mg : Str → Option Value} {base : Heap}
/-- images below B, the first B their own -/
structure Img (B : Nat) (im : List Nat) : Prop where
  own : ∀ k, k < B → im[k]? = some k
  lt : ∀ x ∈ im, x < B
theorem Img.start (B : Nat) : Img B (List.range B) := ⟨fun k h => by simp [h], fun x h => by simpa using h⟩
theorem Img.add {B : Nat} {im : List Nat} {j : Nat} (h : Img B im) (hj : j < B) : Img B (im ++ [j]) := ⟨fun k hk => by
  have := h.own k hk
  rw [List.getElem?_append_left (List.getElem?_eq_some_iff.mp this).1]; exact this, fun x hx => by
  rcases List.mem_append.mp hx with z | z
  · exact h.lt x z
  · rw [List.mem_singleton.mp z]; exact hj⟩
def spCopies : DL := fun ds M R => ∃ a rows more M0, ds = [.ref a, enD rows, .int more] ∧ Drw rows ∧ rows.length ≤ 40 ∧ 0 ≤ more ∧ more ≤ 60 ∧ RnAt M0 a M ∧ ∀ rows' M', Drw rows' → (rows'.length : Int) ≤ rows.length + more → RnAt M0 a M' → R (enD rows') M'
theorem ok_copies {f : Addr} {fd : FuncData} {k : Nat} (F : Fun K "_law_copies" "_law_copies" s_law_copies f fd) (B : Bt mg) (c__law_draw : CalX P w K mg base "_law_draw" 1 spDraw) : FnOk P w K mg base CX0 (1 + 1) f fd p_law_copies (spOf K spCopies) := by
  refine dfnW F sc_law_copies (fun ds M R h => ?_) (fun cdv A outer s H E ds M R hr h => ?_)
  · obtain ⟨a, rows, more, M0, rfl, _⟩ := h
    rfl
  · have nd := sc_law_copies.nd
    refine ⟨_, (dss_cons (ds_set (i := 3) nd rfl (.inl rfl) (d_add (d_len rfl B.len (da_cons (dv 1) da_nil)) (d_callX c__law_draw hr rfl (da_cons (dv 0) (da_cons (d_add (dv 2) d_int) da_nil)))))
(dss_cons (ds_set (i := 4) nd rfl (.inr rfl) (d_lcM (lfg_name (i := 5) (by decide)) (pe_lc (own := [("k", 5)]) rfl nd (di_rng1 (pi_range1 rfl B.range (da_cons (d_len rfl B.len (da_cons (dv 1) da_nil)) da_nil))) (blkOk_by (own := [("k", 5)]) (N := n_law_copies) (by rfl)) (fun _ _ _ _ _ => (pg_name (i := 5) nd rfl (.inl rfl))) (fun _ _ _ _ _ => dts_nil) (fun _ _ _ _ _ => (dv 5)))))
(dss_cons (ds_for PassesOwn.never rfl (di_rng1 (pi_range1 rfl B.range (da_cons (d_sub (dv 3) (d_len rfl B.len (da_cons (dv 1) da_nil))) da_nil))) (dg_name (i := 5) nd rfl (.inl rfl))
(dss_one (ds_expr (d_append (dv 4) (da_cons (d_callX c__law_draw hr rfl (da_cons (dv 0) (da_cons (d_len rfl B.len (da_cons (dv 1) da_nil)) da_nil))) da_nil)))))
(dss_cons (ds_set (i := 6) nd rfl (.inl rfl) (d_lstM da_nil))
(dss_cons (ds_for PassesOwn.never rfl (di_rng1 (pi_range1 rfl B.range (da_cons (dv 3) da_nil))) (dg_name (i := 7) nd rfl (.inr rfl))
(dss_cons (ds_set (i := 8) nd rfl (.inr rfl) (d_lstM da_nil))
(dss_cons (ds_for PassesOwn.never rfl (di_lst (d_sub_ix (dv 1) (d_sub_ix (dv 4) (dv 7)))) (dg_name (i := 9) nd rfl (.inr rfl))
(dss_cons (ds_lc (lfg_name (i := 5) (by decide)) (ps_setLc (i := 10) (own := [("k", 5)]) rfl nd rfl rfl (sw_true rfl rfl rfl (by decide +kernel)) (di_rng1 (pi_range1 rfl B.range (da_cons (dv 3) da_nil))) (blkOk_by (own := [("k", 5)]) (N := n_law_copies) (by rfl)) (fun _ _ _ _ _ => (pg_name (i := 5) nd rfl (.inl rfl))) (fun _ _ _ _ _ => (dts_one (dt_eq hr (d_sub_ix (dv 4) (dv 5)) (dv 9)))) (fun _ _ _ _ _ => (dv 5))))
(dss_one (ds_expr (d_append (dv 8) (da_cons (d_sub_ix (dv 10) (d_callX c__law_draw hr rfl (da_cons (dv 0) (da_cons (d_len rfl B.len (da_cons (dv 10) da_nil)) da_nil)))) da_nil))))))
(dss_cons (ds_lc (lfg_name (i := 5) (by decide)) (ps_setLc (i := 11) (own := [("k", 5)]) rfl nd rfl rfl (sw_true rfl rfl rfl (by decide +kernel)) (di_rng1 (pi_range1 rfl B.range (da_cons (dv 3) da_nil))) (blkOk_by (own := [("k", 5)]) (N := n_law_copies) (by rfl)) (fun _ _ _ _ _ => (pg_name (i := 5) nd rfl (.inl rfl))) (fun _ _ _ _ _ => (dts_one (dt_in hr (d_sub_ix (dv 4) (dv 5)) (d_sub_ix (dv 1) (d_sub_ix (dv 4) (dv 7)))))) (fun _ _ _ _ _ => (dv 5))))
(dss_one (ds_expr (d_append (dv 6) (da_cons (d_lc (lfg_name (i := 5) (by decide)) (pe_lc (own := [("k", 5)]) rfl nd (di_lst (dv 11)) (blkOk_by (own := [("k", 5)]) (N := n_law_copies) (by rfl)) (fun _ _ _ _ _ => (pg_name (i := 5) nd rfl (.inl rfl))) (fun _ _ _ _ _ => (dts_one (dt_w (dw_or (dt_in hr (dv 5) (dv 8)) (dw_or1 (dt_eq hr (d_callX c__law_draw hr rfl (da_cons (dv 0) (da_cons d_int da_nil))) d_int)))))) (fun _ _ _ _ _ => (dv 5)))) da_nil))))))))
(dss_one (ds_ret (d_frz (dv 6))))))))), ?_⟩
    obtain ⟨a, rows, more, M0, rfl, dr, sm, m1, m2, hR, h⟩ := h
    simp only [dstart, List.map, List.length, List.replicate, List.cons_append, List.nil_append, enD]
    (try simp only [↓e_var0, ↓e_varS, ↓e_C, ↓e_op, ↓e_un, ↓e_cb, ↓e_nil, ↓e_cons, ↓e_tup, ↓e_lst, ↓e_lstM, ↓e_frz, ↓e_B, ↓e_bl, ↓e_andT, ↓e_orT, ↓e_notT, ↓e_andV, ↓e_orV, ↓e_notV, ↓e_ifE, ↓e_tru, ↓e_slice, ↓e_noPart, ↓e_part, ↓e_partV, ↓e_bm, ↓e_bm0, ↓e_ty_lst, ↓e_ty_str, ↓e_next, ↓e_seq, ↓e_break, ↓e_cont, ↓e_drop, ↓e_ret, ↓e_retN, ↓e_ifS, ↓e_asg, ↓e_gname, ↓e_put0, ↓e_putS, ↓e_aug, ↓e_gsub, ↓e_gtup2, ↓e_I, ↓e_Ic, ↓e_add, ↓e_addS, ↓e_addL, ↓e_addT, ↓e_mul, ↓e_eqI, ↓e_eqS, ↓e_eqB, ↓e_ix_lst, ↓e_ix_tup, ↓e_at0, ↓e_at1, ↓e_at2, ↓e_at3, ↓e_sa0, ↓e_sa1, ↓e_sa2, ↓e_sa3, ↓e_len_lst, ↓e_len_tup, ↓e_len_str, ↓e_abs, ↓e_int, ↓e_str, ↓e_ilst, ↓e_il, ↓e_irl, ↓e_irng1, ↓e_irV, ↓e_irng2, ↓e_irV2, ↓e_yes, ↓u_frzV, ↓u_ty, ↓u_setL, ↓u_ix, ↓u_len, ↓u_append, ↓u_pop, ↓u_iref, ↓e_isi, ↓e_strS, ↓e_dnew, ↓e_dget, ↓e_dput, ↓e_sc, ↓e_dcN, ↓e_rank, ↓e_inLN, ↓e_izipR, ↓e_ienum, ↓e_while, ↓mupd_mupd, ↓e_for, ↓e_lc, ↓e_lcM, ↓e_wipe, ↓e_wipe0, eq_self_iff_true, true_and, List.set_cons_zero, List.set_cons_succ, id_eq, ↓reduceIte, Bool.false_eq_true, Bool.not_true, Bool.not_false])
    rw [List.length_map]
    refine ⟨a, more + 1, M0, rfl, by omega, by omega, hR, fun n1 M1 l1 u1 R1 => ?_⟩
    (try simp only [↓e_var0, ↓e_varS, ↓e_C, ↓e_op, ↓e_un, ↓e_cb, ↓e_nil, ↓e_cons, ↓e_tup, ↓e_lst, ↓e_lstM, ↓e_frz, ↓e_B, ↓e_bl, ↓e_andT, ↓e_orT, ↓e_notT, ↓e_andV, ↓e_orV, ↓e_notV, ↓e_ifE, ↓e_tru, ↓e_slice, ↓e_noPart, ↓e_part, ↓e_partV, ↓e_bm, ↓e_bm0, ↓e_ty_lst, ↓e_ty_str, ↓e_next, ↓e_seq, ↓e_break, ↓e_cont, ↓e_drop, ↓e_ret, ↓e_retN, ↓e_ifS, ↓e_asg, ↓e_gname, ↓e_put0, ↓e_putS, ↓e_aug, ↓e_gsub, ↓e_gtup2, ↓e_I, ↓e_Ic, ↓e_add, ↓e_addS, ↓e_addL, ↓e_addT, ↓e_mul, ↓e_eqI, ↓e_eqS, ↓e_eqB, ↓e_ix_lst, ↓e_ix_tup, ↓e_at0, ↓e_at1, ↓e_at2, ↓e_at3, ↓e_sa0, ↓e_sa1, ↓e_sa2, ↓e_sa3, ↓e_len_lst, ↓e_len_tup, ↓e_len_str, ↓e_abs, ↓e_int, ↓e_str, ↓e_ilst, ↓e_il, ↓e_irl, ↓e_irng1, ↓e_irV, ↓e_irng2, ↓e_irV2, ↓e_yes, ↓u_frzV, ↓u_ty, ↓u_setL, ↓u_ix, ↓u_len, ↓u_append, ↓u_pop, ↓u_iref, ↓e_isi, ↓e_strS, ↓e_dnew, ↓e_dget, ↓e_dput, ↓e_sc, ↓e_dcN, ↓e_rank, ↓e_inLN, ↓e_izipR, ↓e_ienum, ↓e_while, ↓mupd_mupd, ↓e_for, ↓e_lc, ↓e_lcM, ↓e_wipe, ↓e_wipe0, eq_self_iff_true, true_and, List.set_cons_zero, List.set_cons_succ, id_eq, ↓reduceIte, Bool.false_eq_true, Bool.not_true, Bool.not_false])
    obtain ⟨n, rfl⟩ : ∃ n : Nat, n1 = (n : Int) := ⟨n1.toNat, by omega⟩
    have B0 := dr.pos
    generalize hB : rows.length = Z at *
    rw [show (Z : Int) + (n : Int) - (Z : Int) = (n : Int) by omega, Int.toNat_natCast, Int.toNat_natCast]
    refine ⟨by omega, by omega, ?_⟩
    refine lc_typed1 (List.range Z) (fun k : Nat => D.int k) (small_line (by rw [List.length_range]; omega)) trivial (fun i x E' hx hE => ?_) (fun p hp => ?_)
    · (try simp only [↓e_var0, ↓e_varS, ↓e_C, ↓e_op, ↓e_un, ↓e_cb, ↓e_nil, ↓e_cons, ↓e_tup, ↓e_lst, ↓e_lstM, ↓e_frz, ↓e_B, ↓e_bl, ↓e_andT, ↓e_orT, ↓e_notT, ↓e_andV, ↓e_orV, ↓e_notV, ↓e_ifE, ↓e_tru, ↓e_slice, ↓e_noPart, ↓e_part, ↓e_partV, ↓e_bm, ↓e_bm0, ↓e_ty_lst, ↓e_ty_str, ↓e_next, ↓e_seq, ↓e_break, ↓e_cont, ↓e_drop, ↓e_ret, ↓e_retN, ↓e_ifS, ↓e_asg, ↓e_gname, ↓e_put0, ↓e_putS, ↓e_aug, ↓e_gsub, ↓e_gtup2, ↓e_I, ↓e_Ic, ↓e_add, ↓e_addS, ↓e_addL, ↓e_addT, ↓e_mul, ↓e_eqI, ↓e_eqS, ↓e_eqB, ↓e_ix_lst, ↓e_ix_tup, ↓e_at0, ↓e_at1, ↓e_at2, ↓e_at3, ↓e_sa0, ↓e_sa1, ↓e_sa2, ↓e_sa3, ↓e_len_lst, ↓e_len_tup, ↓e_len_str, ↓e_abs, ↓e_int, ↓e_str, ↓e_ilst, ↓e_il, ↓e_irl, ↓e_irng1, ↓e_irV, ↓e_irng2, ↓e_irV2, ↓e_yes, ↓u_frzV, ↓u_ty, ↓u_setL, ↓u_ix, ↓u_len, ↓u_append, ↓u_pop, ↓u_iref, ↓e_isi, ↓e_strS, ↓e_dnew, ↓e_dget, ↓e_dput, ↓e_sc, ↓e_dcN, ↓e_rank, ↓e_inLN, ↓e_izipR, ↓e_ienum, ↓e_while, ↓mupd_mupd, ↓e_for, ↓e_lc, ↓e_lcM, ↓e_wipe, ↓e_wipe0, eq_self_iff_true, true_and, List.set_cons_zero, List.set_cons_succ, id_eq, ↓reduceIte, Bool.false_eq_true, Bool.not_true, Bool.not_false])
      exact hE
    refine ⟨by omega, by omega, ?_⟩
    have R2 := R1.new (o := .lst ((List.range Z).map fun k : Nat => D.int k)) hp
    refine for_typed (List.range n) (fun i ρ M => ∃ (o : Option D) (im : List Nat), ρ = [some (.ref a), some (.lst (rows.map enR)), some (.int more), some (.int ((Z : Int) + n)), some (.ref p), o, none, none, none, none, none, none] ∧ RnAt (mupd M0 p (.lst (im.map fun k : Nat => D.int k))) a M ∧ Img Z im ∧ im.length = Z + i)
      ⟨none, List.range Z, rfl, R2, Img.start Z, by rw [List.length_range]; rfl⟩ (fun _ _ _ _ _ => trivial) (fun i x ρ M hx hW => ?_) (fun ρ M hW => ?_)
    · obtain ⟨o, im, rfl, R3, hI, hl⟩ := hW
      obtain ⟨rfl, hi⟩ := range_get hx
      have e00 := R3.get mupd_same
      (try simp only [↓e_var0, ↓e_varS, ↓e_C, ↓e_op, ↓e_un, ↓e_cb, ↓e_nil, ↓e_cons, ↓e_tup, ↓e_lst, ↓e_lstM, ↓e_frz, ↓e_B, ↓e_bl, ↓e_andT, ↓e_orT, ↓e_notT, ↓e_andV, ↓e_orV, ↓e_notV, ↓e_ifE, ↓e_tru, ↓e_slice, ↓e_noPart, ↓e_part, ↓e_partV, ↓e_bm, ↓e_bm0, ↓e_ty_lst, ↓e_ty_str, ↓e_next, ↓e_seq, ↓e_break, ↓e_cont, ↓e_drop, ↓e_ret, ↓e_retN, ↓e_ifS, ↓e_asg, ↓e_gname, ↓e_put0, ↓e_putS, ↓e_aug, ↓e_gsub, ↓e_gtup2, ↓e_I, ↓e_Ic, ↓e_add, ↓e_addS, ↓e_addL, ↓e_addT, ↓e_mul, ↓e_eqI, ↓e_eqS, ↓e_eqB, ↓e_ix_lst, ↓e_ix_tup, ↓e_at0, ↓e_at1, ↓e_at2, ↓e_at3, ↓e_sa0, ↓e_sa1, ↓e_sa2, ↓e_sa3, ↓e_len_lst, ↓e_len_tup, ↓e_len_str, ↓e_abs, ↓e_int, ↓e_str, ↓e_ilst, ↓e_il, ↓e_irl, ↓e_irng1, ↓e_irV, ↓e_irng2, ↓e_irV2, ↓e_yes, ↓u_frzV, ↓u_ty, ↓u_setL, ↓u_ix, ↓u_len, ↓u_append, ↓u_pop, ↓u_iref, ↓e_isi, ↓e_strS, ↓e_dnew, ↓e_dget, ↓e_dput, ↓e_sc, ↓e_dcN, ↓e_rank, ↓e_inLN, ↓e_izipR, ↓e_ienum, ↓e_while, ↓mupd_mupd, ↓e_for, ↓e_lc, ↓e_lcM, ↓e_wipe, ↓e_wipe0, ↓e_frzV e00, ↓e_ty_ref e00, ↓e_setL e00, ↓e_ix_ref e00, ↓e_len_ref e00, ↓e_append e00, ↓e_pop e00, ↓e_iref e00, eq_self_iff_true, true_and, List.set_cons_zero, List.set_cons_succ, id_eq, ↓reduceIte, Bool.false_eq_true, Bool.not_true, Bool.not_false])
      rw [List.length_map, hB]
      refine ⟨a, Z, _, rfl, by omega, by omega, R3, fun n2 M2 l2 u2 R4 => ?_⟩
      have e0 := R4.get mupd_same
      (try simp only [↓e_var0, ↓e_varS, ↓e_C, ↓e_op, ↓e_un, ↓e_cb, ↓e_nil, ↓e_cons, ↓e_tup, ↓e_lst, ↓e_lstM, ↓e_frz, ↓e_B, ↓e_bl, ↓e_andT, ↓e_orT, ↓e_notT, ↓e_andV, ↓e_orV, ↓e_notV, ↓e_ifE, ↓e_tru, ↓e_slice, ↓e_noPart, ↓e_part, ↓e_partV, ↓e_bm, ↓e_bm0, ↓e_ty_lst, ↓e_ty_str, ↓e_next, ↓e_seq, ↓e_break, ↓e_cont, ↓e_drop, ↓e_ret, ↓e_retN, ↓e_ifS, ↓e_asg, ↓e_gname, ↓e_put0, ↓e_putS, ↓e_aug, ↓e_gsub, ↓e_gtup2, ↓e_I, ↓e_Ic, ↓e_add, ↓e_addS, ↓e_addL, ↓e_addT, ↓e_mul, ↓e_eqI, ↓e_eqS, ↓e_eqB, ↓e_ix_lst, ↓e_ix_tup, ↓e_at0, ↓e_at1, ↓e_at2, ↓e_at3, ↓e_sa0, ↓e_sa1, ↓e_sa2, ↓e_sa3, ↓e_len_lst, ↓e_len_tup, ↓e_len_str, ↓e_abs, ↓e_int, ↓e_str, ↓e_ilst, ↓e_il, ↓e_irl, ↓e_irng1, ↓e_irV, ↓e_irng2, ↓e_irV2, ↓e_yes, ↓u_frzV, ↓u_ty, ↓u_setL, ↓u_ix, ↓u_len, ↓u_append, ↓u_pop, ↓u_iref, ↓e_isi, ↓e_strS, ↓e_dnew, ↓e_dget, ↓e_dput, ↓e_sc, ↓e_dcN, ↓e_rank, ↓e_inLN, ↓e_izipR, ↓e_ienum, ↓e_while, ↓mupd_mupd, ↓e_for, ↓e_lc, ↓e_lcM, ↓e_wipe, ↓e_wipe0, ↓e_frzV e0, ↓e_ty_ref e0, ↓e_setL e0, ↓e_ix_ref e0, ↓e_len_ref e0, ↓e_append e0, ↓e_pop e0, ↓e_iref e0, eq_self_iff_true, true_and, List.set_cons_zero, List.set_cons_succ, id_eq, ↓reduceIte, Bool.false_eq_true, Bool.not_true, Bool.not_false])
      obtain ⟨j, rfl⟩ : ∃ j : Nat, n2 = (j : Int) := ⟨n2.toNat, by omega⟩
      refine ⟨by rw [List.length_map]; exact small_line' (by omega), some (.int x), im ++ [j], rfl, ?_, hI.add (by omega), by rw [List.length_append, hl]; simp; omega⟩
      have := R4.upd (u := .lst ((im ++ [j]).map fun k : Nat => D.int k)) mupd_same
      rw [mupd_mupd] at this
      rw [List.map_append] at this ⊢
      exact this
    · obtain ⟨o, im, rfl, R3, hI, hl⟩ := hW
      rw [List.length_range] at hl
      (try simp only [↓e_var0, ↓e_varS, ↓e_C, ↓e_op, ↓e_un, ↓e_cb, ↓e_nil, ↓e_cons, ↓e_tup, ↓e_lst, ↓e_lstM, ↓e_frz, ↓e_B, ↓e_bl, ↓e_andT, ↓e_orT, ↓e_notT, ↓e_andV, ↓e_orV, ↓e_notV, ↓e_ifE, ↓e_tru, ↓e_slice, ↓e_noPart, ↓e_part, ↓e_partV, ↓e_bm, ↓e_bm0, ↓e_ty_lst, ↓e_ty_str, ↓e_next, ↓e_seq, ↓e_break, ↓e_cont, ↓e_drop, ↓e_ret, ↓e_retN, ↓e_ifS, ↓e_asg, ↓e_gname, ↓e_put0, ↓e_putS, ↓e_aug, ↓e_gsub, ↓e_gtup2, ↓e_I, ↓e_Ic, ↓e_add, ↓e_addS, ↓e_addL, ↓e_addT, ↓e_mul, ↓e_eqI, ↓e_eqS, ↓e_eqB, ↓e_ix_lst, ↓e_ix_tup, ↓e_at0, ↓e_at1, ↓e_at2, ↓e_at3, ↓e_sa0, ↓e_sa1, ↓e_sa2, ↓e_sa3, ↓e_len_lst, ↓e_len_tup, ↓e_len_str, ↓e_abs, ↓e_int, ↓e_str, ↓e_ilst, ↓e_il, ↓e_irl, ↓e_irng1, ↓e_irV, ↓e_irng2, ↓e_irV2, ↓e_yes, ↓u_frzV, ↓u_ty, ↓u_setL, ↓u_ix, ↓u_len, ↓u_append, ↓u_pop, ↓u_iref, ↓e_isi, ↓e_strS, ↓e_dnew, ↓e_dget, ↓e_dput, ↓e_sc, ↓e_dcN, ↓e_rank, ↓e_inLN, ↓e_izipR, ↓e_ienum, ↓e_while, ↓mupd_mupd, ↓e_for, ↓e_lc, ↓e_lcM, ↓e_wipe, ↓e_wipe0, eq_self_iff_true, true_and, List.set_cons_zero, List.set_cons_succ, id_eq, ↓reduceIte, Bool.false_eq_true, Bool.not_true, Bool.not_false])
      refine ⟨Nat.zero_le _, fun q hq => ?_⟩
      obtain ⟨N, hN⟩ : ∃ N : Nat, (Z : Int) + (n : Int) = (N : Int) := ⟨Z + n, by omega⟩
      rw [hN, Int.toNat_natCast]
      refine ⟨by omega, by omega, ?_⟩
      have R4 := R3.new (o := .lst (([] : List (List Nat)).map enR)) hq
      have hpq : q ≠ p := fun z => by subst z; rw [R3.get mupd_same] at hq; cases hq
      have hp0 : M0 p = none := R1.free hp
      have hq0 : M0 q = none := by have := R3.free hq; rwa [mupd_ne hpq] at this
      refine for_typed (List.range N) (fun i ρ M => ∃ (o5 o7 o8 o9 o10 o11 : Option D) (M' : MS) (rs : List (List Nat)), ρ = [some (.ref a), some (.lst (rows.map enR)), some (.int more), some (.int N), some (.ref p), o5, some (.ref q), o7, o8, o9, o10, o11] ∧ RnAt M' a M ∧ DL.Sub M0 M' ∧ M' p = some (.lst (im.map fun k : Nat => D.int k)) ∧ M' q = some (.lst (rs.map enR)) ∧ rs.length = i ∧ ∀ r ∈ rs, RowOk N r)
        ⟨o, none, none, none, none, none, _, [], rfl, R4, (DL.Sub.new (DL.Sub.refl _) _ hp0).new _ hq0, by rw [mupd_ne (Ne.symm hpq), mupd_same], mupd_same, rfl, fun _ h => nomatch h⟩ (fun _ _ _ _ _ => trivial) (fun x y ρ M hx hW => ?_) (fun ρ M hW => ?_)
      · obtain ⟨o5, o7, o8, o9, o10, o11, M', rs, rfl, R5, sb, mp, mq, hrl, hrs⟩ := hW
        obtain ⟨rfl, hi⟩ := range_get hx
        (try simp only [↓e_var0, ↓e_varS, ↓e_C, ↓e_op, ↓e_un, ↓e_cb, ↓e_nil, ↓e_cons, ↓e_tup, ↓e_lst, ↓e_lstM, ↓e_frz, ↓e_B, ↓e_bl, ↓e_andT, ↓e_orT, ↓e_notT, ↓e_andV, ↓e_orV, ↓e_notV, ↓e_ifE, ↓e_tru, ↓e_slice, ↓e_noPart, ↓e_part, ↓e_partV, ↓e_bm, ↓e_bm0, ↓e_ty_lst, ↓e_ty_str, ↓e_next, ↓e_seq, ↓e_break, ↓e_cont, ↓e_drop, ↓e_ret, ↓e_retN, ↓e_ifS, ↓e_asg, ↓e_gname, ↓e_put0, ↓e_putS, ↓e_aug, ↓e_gsub, ↓e_gtup2, ↓e_I, ↓e_Ic, ↓e_add, ↓e_addS, ↓e_addL, ↓e_addT, ↓e_mul, ↓e_eqI, ↓e_eqS, ↓e_eqB, ↓e_ix_lst, ↓e_ix_tup, ↓e_at0, ↓e_at1, ↓e_at2, ↓e_at3, ↓e_sa0, ↓e_sa1, ↓e_sa2, ↓e_sa3, ↓e_len_lst, ↓e_len_tup, ↓e_len_str, ↓e_abs, ↓e_int, ↓e_str, ↓e_ilst, ↓e_il, ↓e_irl, ↓e_irng1, ↓e_irV, ↓e_irng2, ↓e_irV2, ↓e_yes, ↓u_frzV, ↓u_ty, ↓u_setL, ↓u_ix, ↓u_len, ↓u_append, ↓u_pop, ↓u_iref, ↓e_isi, ↓e_strS, ↓e_dnew, ↓e_dget, ↓e_dput, ↓e_sc, ↓e_dcN, ↓e_rank, ↓e_inLN, ↓e_izipR, ↓e_ienum, ↓e_while, ↓mupd_mupd, ↓e_for, ↓e_lc, ↓e_lcM, ↓e_wipe, ↓e_wipe0, eq_self_iff_true, true_and, List.set_cons_zero, List.set_cons_succ, id_eq, ↓reduceIte, Bool.false_eq_true, Bool.not_true, Bool.not_false])
        refine ⟨Nat.zero_le _, fun t ht => ?_⟩
        have hlt : y < im.length := by omega
        obtain ⟨j, hj⟩ : ∃ j, im[y]? = some j := ⟨_, List.getElem?_eq_getElem hlt⟩
        have hjZ : j < rows.length := by rw [hB]; exact hI.lt j (List.mem_of_getElem? hj)
        have hrow : rows[j]? = some rows[j] := List.getElem?_eq_getElem hjZ
        have ht0 : M' t = none := R5.free ht
        have htp : t ≠ p := fun z => by subst z; rw [mp] at ht0; cases ht0
        have htq : t ≠ q := fun z => by subst z; rw [mq] at ht0; cases ht0
        have R6 := R5.new (o := .lst []) ht
        have ep := R6.get (p := p) (by rw [mupd_ne (Ne.symm htp)]; exact mp)
        (try simp only [↓e_var0, ↓e_varS, ↓e_C, ↓e_op, ↓e_un, ↓e_cb, ↓e_nil, ↓e_cons, ↓e_tup, ↓e_lst, ↓e_lstM, ↓e_frz, ↓e_B, ↓e_bl, ↓e_andT, ↓e_orT, ↓e_notT, ↓e_andV, ↓e_orV, ↓e_notV, ↓e_ifE, ↓e_tru, ↓e_slice, ↓e_noPart, ↓e_part, ↓e_partV, ↓e_bm, ↓e_bm0, ↓e_ty_lst, ↓e_ty_str, ↓e_next, ↓e_seq, ↓e_break, ↓e_cont, ↓e_drop, ↓e_ret, ↓e_retN, ↓e_ifS, ↓e_asg, ↓e_gname, ↓e_put0, ↓e_putS, ↓e_aug, ↓e_gsub, ↓e_gtup2, ↓e_I, ↓e_Ic, ↓e_add, ↓e_addS, ↓e_addL, ↓e_addT, ↓e_mul, ↓e_eqI, ↓e_eqS, ↓e_eqB, ↓e_ix_lst, ↓e_ix_tup, ↓e_at0, ↓e_at1, ↓e_at2, ↓e_at3, ↓e_sa0, ↓e_sa1, ↓e_sa2, ↓e_sa3, ↓e_len_lst, ↓e_len_tup, ↓e_len_str, ↓e_abs, ↓e_int, ↓e_str, ↓e_ilst, ↓e_il, ↓e_irl, ↓e_irng1, ↓e_irV, ↓e_irng2, ↓e_irV2, ↓e_yes, ↓u_frzV, ↓u_ty, ↓u_setL, ↓u_ix, ↓u_len, ↓u_append, ↓u_pop, ↓u_iref, ↓e_isi, ↓e_strS, ↓e_dnew, ↓e_dget, ↓e_dput, ↓e_sc, ↓e_dcN, ↓e_rank, ↓e_inLN, ↓e_izipR, ↓e_ienum, ↓e_while, ↓mupd_mupd, ↓e_for, ↓e_lc, ↓e_lcM, ↓e_wipe, ↓e_wipe0, ↓e_frzV ep, ↓e_ty_ref ep, ↓e_setL ep, ↓e_ix_ref ep, ↓e_len_ref ep, ↓e_append ep, ↓e_pop ep, ↓e_iref ep, eq_self_iff_true, true_and, List.set_cons_zero, List.set_cons_succ, id_eq, ↓reduceIte, Bool.false_eq_true, Bool.not_true, Bool.not_false])
        rw [at_map hj]
        (try simp only [↓e_var0, ↓e_varS, ↓e_C, ↓e_op, ↓e_un, ↓e_cb, ↓e_nil, ↓e_cons, ↓e_tup, ↓e_lst, ↓e_lstM, ↓e_frz, ↓e_B, ↓e_bl, ↓e_andT, ↓e_orT, ↓e_notT, ↓e_andV, ↓e_orV, ↓e_notV, ↓e_ifE, ↓e_tru, ↓e_slice, ↓e_noPart, ↓e_part, ↓e_partV, ↓e_bm, ↓e_bm0, ↓e_ty_lst, ↓e_ty_str, ↓e_next, ↓e_seq, ↓e_break, ↓e_cont, ↓e_drop, ↓e_ret, ↓e_retN, ↓e_ifS, ↓e_asg, ↓e_gname, ↓e_put0, ↓e_putS, ↓e_aug, ↓e_gsub, ↓e_gtup2, ↓e_I, ↓e_Ic, ↓e_add, ↓e_addS, ↓e_addL, ↓e_addT, ↓e_mul, ↓e_eqI, ↓e_eqS, ↓e_eqB, ↓e_ix_lst, ↓e_ix_tup, ↓e_at0, ↓e_at1, ↓e_at2, ↓e_at3, ↓e_sa0, ↓e_sa1, ↓e_sa2, ↓e_sa3, ↓e_len_lst, ↓e_len_tup, ↓e_len_str, ↓e_abs, ↓e_int, ↓e_str, ↓e_ilst, ↓e_il, ↓e_irl, ↓e_irng1, ↓e_irV, ↓e_irng2, ↓e_irV2, ↓e_yes, ↓u_frzV, ↓u_ty, ↓u_setL, ↓u_ix, ↓u_len, ↓u_append, ↓u_pop, ↓u_iref, ↓e_isi, ↓e_strS, ↓e_dnew, ↓e_dget, ↓e_dput, ↓e_sc, ↓e_dcN, ↓e_rank, ↓e_inLN, ↓e_izipR, ↓e_ienum, ↓e_while, ↓mupd_mupd, ↓e_for, ↓e_lc, ↓e_lcM, ↓e_wipe, ↓e_wipe0, eq_self_iff_true, true_and, List.set_cons_zero, List.set_cons_succ, id_eq, ↓reduceIte, Bool.false_eq_true, Bool.not_true, Bool.not_false])
        rw [at_map hrow]
        have hrl2 : ∀ v ∈ rows[j], v < Z := fun v hv => by rw [← hB]; exact dr.lt _ (List.getElem_mem hjZ) v hv
        have hrlen : rows[j].length ≤ Z := by
          have nd0 : rows[j].Nodup := (dr.asc _ (List.getElem_mem hjZ)).imp fun h => Nat.ne_of_lt h
          have := nat_nodup_len rows[j] (List.range Z) nd0 fun v hv => List.mem_range.mpr (hrl2 v hv)
          rwa [List.length_range] at this
        generalize rows[j] = row at hrow hrl2 hrlen
        rw [show enR row = .lst (row.map fun n : Nat => D.int n) from rfl]
        (try simp only [↓e_var0, ↓e_varS, ↓e_C, ↓e_op, ↓e_un, ↓e_cb, ↓e_nil, ↓e_cons, ↓e_tup, ↓e_lst, ↓e_lstM, ↓e_frz, ↓e_B, ↓e_bl, ↓e_andT, ↓e_orT, ↓e_notT, ↓e_andV, ↓e_orV, ↓e_notV, ↓e_ifE, ↓e_tru, ↓e_slice, ↓e_noPart, ↓e_part, ↓e_partV, ↓e_bm, ↓e_bm0, ↓e_ty_lst, ↓e_ty_str, ↓e_next, ↓e_seq, ↓e_break, ↓e_cont, ↓e_drop, ↓e_ret, ↓e_retN, ↓e_ifS, ↓e_asg, ↓e_gname, ↓e_put0, ↓e_putS, ↓e_aug, ↓e_gsub, ↓e_gtup2, ↓e_I, ↓e_Ic, ↓e_add, ↓e_addS, ↓e_addL, ↓e_addT, ↓e_mul, ↓e_eqI, ↓e_eqS, ↓e_eqB, ↓e_ix_lst, ↓e_ix_tup, ↓e_at0, ↓e_at1, ↓e_at2, ↓e_at3, ↓e_sa0, ↓e_sa1, ↓e_sa2, ↓e_sa3, ↓e_len_lst, ↓e_len_tup, ↓e_len_str, ↓e_abs, ↓e_int, ↓e_str, ↓e_ilst, ↓e_il, ↓e_irl, ↓e_irng1, ↓e_irV, ↓e_irng2, ↓e_irV2, ↓e_yes, ↓u_frzV, ↓u_ty, ↓u_setL, ↓u_ix, ↓u_len, ↓u_append, ↓u_pop, ↓u_iref, ↓e_isi, ↓e_strS, ↓e_dnew, ↓e_dget, ↓e_dput, ↓e_sc, ↓e_dcN, ↓e_rank, ↓e_inLN, ↓e_izipR, ↓e_ienum, ↓e_while, ↓mupd_mupd, ↓e_for, ↓e_lc, ↓e_lcM, ↓e_wipe, ↓e_wipe0, eq_self_iff_true, true_and, List.set_cons_zero, List.set_cons_succ, id_eq, ↓reduceIte, Bool.false_eq_true, Bool.not_true, Bool.not_false])
        have hNZ : Z ≤ N := by omega
        have imN : im.length = N := by omega
        refine for_typed row (fun i ρ M => ∃ (o5 o9 o10 : Option D) (M' : MS) (tk : List Nat), ρ = [some (.ref a), some (.lst (rows.map enR)), some (.int more), some (.int N), some (.ref p), o5, some (.ref q), some (.int y), some (.ref t), o9, o10, o11] ∧ RnAt M' a M ∧ DL.Sub M0 M' ∧ M' p = some (.lst (im.map fun k : Nat => D.int k)) ∧ M' q = some (.lst (rs.map enR)) ∧ M' t = some (.lst (tk.map fun k : Nat => D.int k)) ∧ tk.length = i)
          ⟨o5, o9, o10, _, [], rfl, R6, sb.new _ (sb.none ht0), by rw [mupd_ne (Ne.symm htp)]; exact mp, by rw [mupd_ne (Ne.symm htq)]; exact mq, mupd_same, rfl⟩ (fun _ _ _ _ _ => trivial) (fun i v ρ M hx2 hW => ?_) (fun ρ M hW => ?_)
        · obtain ⟨o5, o9, o10, M2, tk, rfl, R7, sb2, mp2, mq2, mt2, htl⟩ := hW
          have hv : v < Z := hrl2 v (List.mem_of_getElem? hx2)
          have ep2 := R7.get mp2
          have et2 := R7.get mt2
          (try simp only [↓e_var0, ↓e_varS, ↓e_C, ↓e_op, ↓e_un, ↓e_cb, ↓e_nil, ↓e_cons, ↓e_tup, ↓e_lst, ↓e_lstM, ↓e_frz, ↓e_B, ↓e_bl, ↓e_andT, ↓e_orT, ↓e_notT, ↓e_andV, ↓e_orV, ↓e_notV, ↓e_ifE, ↓e_tru, ↓e_slice, ↓e_noPart, ↓e_part, ↓e_partV, ↓e_bm, ↓e_bm0, ↓e_ty_lst, ↓e_ty_str, ↓e_next, ↓e_seq, ↓e_break, ↓e_cont, ↓e_drop, ↓e_ret, ↓e_retN, ↓e_ifS, ↓e_asg, ↓e_gname, ↓e_put0, ↓e_putS, ↓e_aug, ↓e_gsub, ↓e_gtup2, ↓e_I, ↓e_Ic, ↓e_add, ↓e_addS, ↓e_addL, ↓e_addT, ↓e_mul, ↓e_eqI, ↓e_eqS, ↓e_eqB, ↓e_ix_lst, ↓e_ix_tup, ↓e_at0, ↓e_at1, ↓e_at2, ↓e_at3, ↓e_sa0, ↓e_sa1, ↓e_sa2, ↓e_sa3, ↓e_len_lst, ↓e_len_tup, ↓e_len_str, ↓e_abs, ↓e_int, ↓e_str, ↓e_ilst, ↓e_il, ↓e_irl, ↓e_irng1, ↓e_irV, ↓e_irng2, ↓e_irV2, ↓e_yes, ↓u_frzV, ↓u_ty, ↓u_setL, ↓u_ix, ↓u_len, ↓u_append, ↓u_pop, ↓u_iref, ↓e_isi, ↓e_strS, ↓e_dnew, ↓e_dget, ↓e_dput, ↓e_sc, ↓e_dcN, ↓e_rank, ↓e_inLN, ↓e_izipR, ↓e_ienum, ↓e_while, ↓mupd_mupd, ↓e_for, ↓e_lc, ↓e_lcM, ↓e_wipe, ↓e_wipe0, ↓e_frzV ep2, ↓e_ty_ref ep2, ↓e_setL ep2, ↓e_ix_ref ep2, ↓e_len_ref ep2, ↓e_append ep2, ↓e_pop ep2, ↓e_iref ep2, eq_self_iff_true, true_and, List.set_cons_zero, List.set_cons_succ, id_eq, ↓reduceIte, Bool.false_eq_true, Bool.not_true, Bool.not_false])
          rw [Int.toNat_natCast]
          refine ⟨by omega, by omega, ?_⟩
          refine lc_typed (List.range N) (fun k => decide (im[k]? = some v)) (fun k : Nat => D.int k) (small_line (by rw [List.length_range]; omega)) trivial (fun i2 k E' Nn hk h1 h2 => ?_) ?_
          · obtain ⟨rfl, hk2⟩ := range_get hk
            obtain ⟨z, hz⟩ : ∃ z, im[k]? = some z := ⟨_, List.getElem?_eq_getElem (by omega)⟩
            (try simp only [↓e_var0, ↓e_varS, ↓e_C, ↓e_op, ↓e_un, ↓e_cb, ↓e_nil, ↓e_cons, ↓e_tup, ↓e_lst, ↓e_lstM, ↓e_frz, ↓e_B, ↓e_bl, ↓e_andT, ↓e_orT, ↓e_notT, ↓e_andV, ↓e_orV, ↓e_notV, ↓e_ifE, ↓e_tru, ↓e_slice, ↓e_noPart, ↓e_part, ↓e_partV, ↓e_bm, ↓e_bm0, ↓e_ty_lst, ↓e_ty_str, ↓e_next, ↓e_seq, ↓e_break, ↓e_cont, ↓e_drop, ↓e_ret, ↓e_retN, ↓e_ifS, ↓e_asg, ↓e_gname, ↓e_put0, ↓e_putS, ↓e_aug, ↓e_gsub, ↓e_gtup2, ↓e_I, ↓e_Ic, ↓e_add, ↓e_addS, ↓e_addL, ↓e_addT, ↓e_mul, ↓e_eqI, ↓e_eqS, ↓e_eqB, ↓e_ix_lst, ↓e_ix_tup, ↓e_at0, ↓e_at1, ↓e_at2, ↓e_at3, ↓e_sa0, ↓e_sa1, ↓e_sa2, ↓e_sa3, ↓e_len_lst, ↓e_len_tup, ↓e_len_str, ↓e_abs, ↓e_int, ↓e_str, ↓e_ilst, ↓e_il, ↓e_irl, ↓e_irng1, ↓e_irV, ↓e_irng2, ↓e_irV2, ↓e_yes, ↓u_frzV, ↓u_ty, ↓u_setL, ↓u_ix, ↓u_len, ↓u_append, ↓u_pop, ↓u_iref, ↓e_isi, ↓e_strS, ↓e_dnew, ↓e_dget, ↓e_dput, ↓e_sc, ↓e_dcN, ↓e_rank, ↓e_inLN, ↓e_izipR, ↓e_ienum, ↓e_while, ↓mupd_mupd, ↓e_for, ↓e_lc, ↓e_lcM, ↓e_wipe, ↓e_wipe0, ↓e_frzV ep2, ↓e_ty_ref ep2, ↓e_setL ep2, ↓e_ix_ref ep2, ↓e_len_ref ep2, ↓e_append ep2, ↓e_pop ep2, ↓e_iref ep2, eq_self_iff_true, true_and, List.set_cons_zero, List.set_cons_succ, id_eq, ↓reduceIte, Bool.false_eq_true, Bool.not_true, Bool.not_false])
            rw [at_map hz]
            (try simp only [↓e_var0, ↓e_varS, ↓e_C, ↓e_op, ↓e_un, ↓e_cb, ↓e_nil, ↓e_cons, ↓e_tup, ↓e_lst, ↓e_lstM, ↓e_frz, ↓e_B, ↓e_bl, ↓e_andT, ↓e_orT, ↓e_notT, ↓e_andV, ↓e_orV, ↓e_notV, ↓e_ifE, ↓e_tru, ↓e_slice, ↓e_noPart, ↓e_part, ↓e_partV, ↓e_bm, ↓e_bm0, ↓e_ty_lst, ↓e_ty_str, ↓e_next, ↓e_seq, ↓e_break, ↓e_cont, ↓e_drop, ↓e_ret, ↓e_retN, ↓e_ifS, ↓e_asg, ↓e_gname, ↓e_put0, ↓e_putS, ↓e_aug, ↓e_gsub, ↓e_gtup2, ↓e_I, ↓e_Ic, ↓e_add, ↓e_addS, ↓e_addL, ↓e_addT, ↓e_mul, ↓e_eqI, ↓e_eqS, ↓e_eqB, ↓e_ix_lst, ↓e_ix_tup, ↓e_at0, ↓e_at1, ↓e_at2, ↓e_at3, ↓e_sa0, ↓e_sa1, ↓e_sa2, ↓e_sa3, ↓e_len_lst, ↓e_len_tup, ↓e_len_str, ↓e_abs, ↓e_int, ↓e_str, ↓e_ilst, ↓e_il, ↓e_irl, ↓e_irng1, ↓e_irV, ↓e_irng2, ↓e_irV2, ↓e_yes, ↓u_frzV, ↓u_ty, ↓u_setL, ↓u_ix, ↓u_len, ↓u_append, ↓u_pop, ↓u_iref, ↓e_isi, ↓e_strS, ↓e_dnew, ↓e_dget, ↓e_dput, ↓e_sc, ↓e_dcN, ↓e_rank, ↓e_inLN, ↓e_izipR, ↓e_ienum, ↓e_while, ↓mupd_mupd, ↓e_for, ↓e_lc, ↓e_lcM, ↓e_wipe, ↓e_wipe0, eq_self_iff_true, true_and, List.set_cons_zero, List.set_cons_succ, id_eq, ↓reduceIte, Bool.false_eq_true, Bool.not_true, Bool.not_false])
            by_cases c : z = v
            · subst c
              simp only [decide_true, if_true]
              exact h1 (by simp [hz])
            · have c' : ¬ (z : Int) = (v : Int) := fun e => c (Int.ofNat.inj e)
              simp only [c', decide_false, Bool.false_eq_true, if_false]
              exact h2 (by simp [hz, c])
          generalize htw : (List.range N).filter (fun k => decide (im[k]? = some v)) = tw
          have vm : v ∈ tw := by
            rw [← htw]
            exact List.mem_filter.mpr ⟨List.mem_range.mpr (by omega), by rw [hI.own v hv]; simp⟩
          have twl : 0 < tw.length := List.length_pos_of_mem vm
          have tws : tw.length ≤ N := by
            rw [← htw]
            exact Nat.le_trans (List.length_filter_le _ _) (by rw [List.length_range]; exact Nat.le_refl _)
          (try simp only [↓e_var0, ↓e_varS, ↓e_C, ↓e_op, ↓e_un, ↓e_cb, ↓e_nil, ↓e_cons, ↓e_tup, ↓e_lst, ↓e_lstM, ↓e_frz, ↓e_B, ↓e_bl, ↓e_andT, ↓e_orT, ↓e_notT, ↓e_andV, ↓e_orV, ↓e_notV, ↓e_ifE, ↓e_tru, ↓e_slice, ↓e_noPart, ↓e_part, ↓e_partV, ↓e_bm, ↓e_bm0, ↓e_ty_lst, ↓e_ty_str, ↓e_next, ↓e_seq, ↓e_break, ↓e_cont, ↓e_drop, ↓e_ret, ↓e_retN, ↓e_ifS, ↓e_asg, ↓e_gname, ↓e_put0, ↓e_putS, ↓e_aug, ↓e_gsub, ↓e_gtup2, ↓e_I, ↓e_Ic, ↓e_add, ↓e_addS, ↓e_addL, ↓e_addT, ↓e_mul, ↓e_eqI, ↓e_eqS, ↓e_eqB, ↓e_ix_lst, ↓e_ix_tup, ↓e_at0, ↓e_at1, ↓e_at2, ↓e_at3, ↓e_sa0, ↓e_sa1, ↓e_sa2, ↓e_sa3, ↓e_len_lst, ↓e_len_tup, ↓e_len_str, ↓e_abs, ↓e_int, ↓e_str, ↓e_ilst, ↓e_il, ↓e_irl, ↓e_irng1, ↓e_irV, ↓e_irng2, ↓e_irV2, ↓e_yes, ↓u_frzV, ↓u_ty, ↓u_setL, ↓u_ix, ↓u_len, ↓u_append, ↓u_pop, ↓u_iref, ↓e_isi, ↓e_strS, ↓e_dnew, ↓e_dget, ↓e_dput, ↓e_sc, ↓e_dcN, ↓e_rank, ↓e_inLN, ↓e_izipR, ↓e_ienum, ↓e_while, ↓mupd_mupd, ↓e_for, ↓e_lc, ↓e_lcM, ↓e_wipe, ↓e_wipe0, ↓e_frzV et2, ↓e_ty_ref et2, ↓e_setL et2, ↓e_ix_ref et2, ↓e_len_ref et2, ↓e_append et2, ↓e_pop et2, ↓e_iref et2, eq_self_iff_true, true_and, List.set_cons_zero, List.set_cons_succ, id_eq, ↓reduceIte, Bool.false_eq_true, Bool.not_true, Bool.not_false])
          rw [List.length_map]
          refine ⟨a, tw.length, _, rfl, by omega, by omega, R7, fun n3 M3 l3 u3 R8 => ?_⟩
          obtain ⟨d, rfl⟩ : ∃ d : Nat, n3 = (d : Int) := ⟨n3.toNat, by omega⟩
          have hd : d < tw.length := by omega
          have et3 := R8.get mt2
          (try simp only [↓e_var0, ↓e_varS, ↓e_C, ↓e_op, ↓e_un, ↓e_cb, ↓e_nil, ↓e_cons, ↓e_tup, ↓e_lst, ↓e_lstM, ↓e_frz, ↓e_B, ↓e_bl, ↓e_andT, ↓e_orT, ↓e_notT, ↓e_andV, ↓e_orV, ↓e_notV, ↓e_ifE, ↓e_tru, ↓e_slice, ↓e_noPart, ↓e_part, ↓e_partV, ↓e_bm, ↓e_bm0, ↓e_ty_lst, ↓e_ty_str, ↓e_next, ↓e_seq, ↓e_break, ↓e_cont, ↓e_drop, ↓e_ret, ↓e_retN, ↓e_ifS, ↓e_asg, ↓e_gname, ↓e_put0, ↓e_putS, ↓e_aug, ↓e_gsub, ↓e_gtup2, ↓e_I, ↓e_Ic, ↓e_add, ↓e_addS, ↓e_addL, ↓e_addT, ↓e_mul, ↓e_eqI, ↓e_eqS, ↓e_eqB, ↓e_ix_lst, ↓e_ix_tup, ↓e_at0, ↓e_at1, ↓e_at2, ↓e_at3, ↓e_sa0, ↓e_sa1, ↓e_sa2, ↓e_sa3, ↓e_len_lst, ↓e_len_tup, ↓e_len_str, ↓e_abs, ↓e_int, ↓e_str, ↓e_ilst, ↓e_il, ↓e_irl, ↓e_irng1, ↓e_irV, ↓e_irng2, ↓e_irV2, ↓e_yes, ↓u_frzV, ↓u_ty, ↓u_setL, ↓u_ix, ↓u_len, ↓u_append, ↓u_pop, ↓u_iref, ↓e_isi, ↓e_strS, ↓e_dnew, ↓e_dget, ↓e_dput, ↓e_sc, ↓e_dcN, ↓e_rank, ↓e_inLN, ↓e_izipR, ↓e_ienum, ↓e_while, ↓mupd_mupd, ↓e_for, ↓e_lc, ↓e_lcM, ↓e_wipe, ↓e_wipe0, ↓e_frzV et3, ↓e_ty_ref et3, ↓e_setL et3, ↓e_ix_ref et3, ↓e_len_ref et3, ↓e_append et3, ↓e_pop et3, ↓e_iref et3, eq_self_iff_true, true_and, List.set_cons_zero, List.set_cons_succ, id_eq, ↓reduceIte, Bool.false_eq_true, Bool.not_true, Bool.not_false])
          rw [at_map (List.getElem?_eq_getElem hd)]
          (try simp only [↓e_var0, ↓e_varS, ↓e_C, ↓e_op, ↓e_un, ↓e_cb, ↓e_nil, ↓e_cons, ↓e_tup, ↓e_lst, ↓e_lstM, ↓e_frz, ↓e_B, ↓e_bl, ↓e_andT, ↓e_orT, ↓e_notT, ↓e_andV, ↓e_orV, ↓e_notV, ↓e_ifE, ↓e_tru, ↓e_slice, ↓e_noPart, ↓e_part, ↓e_partV, ↓e_bm, ↓e_bm0, ↓e_ty_lst, ↓e_ty_str, ↓e_next, ↓e_seq, ↓e_break, ↓e_cont, ↓e_drop, ↓e_ret, ↓e_retN, ↓e_ifS, ↓e_asg, ↓e_gname, ↓e_put0, ↓e_putS, ↓e_aug, ↓e_gsub, ↓e_gtup2, ↓e_I, ↓e_Ic, ↓e_add, ↓e_addS, ↓e_addL, ↓e_addT, ↓e_mul, ↓e_eqI, ↓e_eqS, ↓e_eqB, ↓e_ix_lst, ↓e_ix_tup, ↓e_at0, ↓e_at1, ↓e_at2, ↓e_at3, ↓e_sa0, ↓e_sa1, ↓e_sa2, ↓e_sa3, ↓e_len_lst, ↓e_len_tup, ↓e_len_str, ↓e_abs, ↓e_int, ↓e_str, ↓e_ilst, ↓e_il, ↓e_irl, ↓e_irng1, ↓e_irV, ↓e_irng2, ↓e_irV2, ↓e_yes, ↓u_frzV, ↓u_ty, ↓u_setL, ↓u_ix, ↓u_len, ↓u_append, ↓u_pop, ↓u_iref, ↓e_isi, ↓e_strS, ↓e_dnew, ↓e_dget, ↓e_dput, ↓e_sc, ↓e_dcN, ↓e_rank, ↓e_inLN, ↓e_izipR, ↓e_ienum, ↓e_while, ↓mupd_mupd, ↓e_for, ↓e_lc, ↓e_lcM, ↓e_wipe, ↓e_wipe0, ↓e_frzV et3, ↓e_ty_ref et3, ↓e_setL et3, ↓e_ix_ref et3, ↓e_len_ref et3, ↓e_append et3, ↓e_pop et3, ↓e_iref et3, eq_self_iff_true, true_and, List.set_cons_zero, List.set_cons_succ, id_eq, ↓reduceIte, Bool.false_eq_true, Bool.not_true, Bool.not_false])
          have hty : t ≠ p := htp
          refine ⟨by rw [List.length_map]; exact small_line' (by have h1 := (List.getElem?_eq_some_iff.mp hx2).1; omega), o5, some (.int v), some (.lst (tw.map fun k : Nat => D.int k)), _, tk ++ [tw[d]], rfl, R8.upd mt2, fun b u e => ?_, ?_, ?_, ?_, by simp [htl]⟩
          · have ne : b ≠ t := fun z => by subst z; rw [sb.none ht0] at e; cases e
            rw [mupd_ne ne]; exact sb2 b u e
          · rw [mupd_ne (Ne.symm htp)]; exact mp2
          · rw [mupd_ne (Ne.symm htq)]; exact mq2
          · rw [mupd_same, List.map_append]; rfl
        · obtain ⟨o5, o9, o10, M2, tk, rfl, R7, sb2, mp2, mq2, mt2, htl⟩ := hW
          have ep2 := R7.get mp2
          (try simp only [↓e_var0, ↓e_varS, ↓e_C, ↓e_op, ↓e_un, ↓e_cb, ↓e_nil, ↓e_cons, ↓e_tup, ↓e_lst, ↓e_lstM, ↓e_frz, ↓e_B, ↓e_bl, ↓e_andT, ↓e_orT, ↓e_notT, ↓e_andV, ↓e_orV, ↓e_notV, ↓e_ifE, ↓e_tru, ↓e_slice, ↓e_noPart, ↓e_part, ↓e_partV, ↓e_bm, ↓e_bm0, ↓e_ty_lst, ↓e_ty_str, ↓e_next, ↓e_seq, ↓e_break, ↓e_cont, ↓e_drop, ↓e_ret, ↓e_retN, ↓e_ifS, ↓e_asg, ↓e_gname, ↓e_put0, ↓e_putS, ↓e_aug, ↓e_gsub, ↓e_gtup2, ↓e_I, ↓e_Ic, ↓e_add, ↓e_addS, ↓e_addL, ↓e_addT, ↓e_mul, ↓e_eqI, ↓e_eqS, ↓e_eqB, ↓e_ix_lst, ↓e_ix_tup, ↓e_at0, ↓e_at1, ↓e_at2, ↓e_at3, ↓e_sa0, ↓e_sa1, ↓e_sa2, ↓e_sa3, ↓e_len_lst, ↓e_len_tup, ↓e_len_str, ↓e_abs, ↓e_int, ↓e_str, ↓e_ilst, ↓e_il, ↓e_irl, ↓e_irng1, ↓e_irV, ↓e_irng2, ↓e_irV2, ↓e_yes, ↓u_frzV, ↓u_ty, ↓u_setL, ↓u_ix, ↓u_len, ↓u_append, ↓u_pop, ↓u_iref, ↓e_isi, ↓e_strS, ↓e_dnew, ↓e_dget, ↓e_dput, ↓e_sc, ↓e_dcN, ↓e_rank, ↓e_inLN, ↓e_izipR, ↓e_ienum, ↓e_while, ↓mupd_mupd, ↓e_for, ↓e_lc, ↓e_lcM, ↓e_wipe, ↓e_wipe0, ↓e_frzV ep2, ↓e_ty_ref ep2, ↓e_setL ep2, ↓e_ix_ref ep2, ↓e_len_ref ep2, ↓e_append ep2, ↓e_pop ep2, ↓e_iref ep2, eq_self_iff_true, true_and, List.set_cons_zero, List.set_cons_succ, id_eq, ↓reduceIte, Bool.false_eq_true, Bool.not_true, Bool.not_false])
          rw [Int.toNat_natCast]
          refine ⟨by omega, by omega, ?_⟩
          refine lc_typed (List.range N) (fun k => decide (im.getD k 0 ∈ row)) (fun k : Nat => D.int k) (small_line (by rw [List.length_range]; omega)) trivial (fun i2 k E' Nn hk h1 h2 => ?_) ?_
          · obtain ⟨rfl, hk2⟩ := range_get hk
            obtain ⟨z, hz⟩ : ∃ z, im[k]? = some z := ⟨_, List.getElem?_eq_getElem (by omega)⟩
            have hgz : im.getD k 0 = z := by rw [List.getD_eq_getElem?_getD, hz]; rfl
            rw [hgz] at h1 h2
            (try simp only [↓e_var0, ↓e_varS, ↓e_C, ↓e_op, ↓e_un, ↓e_cb, ↓e_nil, ↓e_cons, ↓e_tup, ↓e_lst, ↓e_lstM, ↓e_frz, ↓e_B, ↓e_bl, ↓e_andT, ↓e_orT, ↓e_notT, ↓e_andV, ↓e_orV, ↓e_notV, ↓e_ifE, ↓e_tru, ↓e_slice, ↓e_noPart, ↓e_part, ↓e_partV, ↓e_bm, ↓e_bm0, ↓e_ty_lst, ↓e_ty_str, ↓e_next, ↓e_seq, ↓e_break, ↓e_cont, ↓e_drop, ↓e_ret, ↓e_retN, ↓e_ifS, ↓e_asg, ↓e_gname, ↓e_put0, ↓e_putS, ↓e_aug, ↓e_gsub, ↓e_gtup2, ↓e_I, ↓e_Ic, ↓e_add, ↓e_addS, ↓e_addL, ↓e_addT, ↓e_mul, ↓e_eqI, ↓e_eqS, ↓e_eqB, ↓e_ix_lst, ↓e_ix_tup, ↓e_at0, ↓e_at1, ↓e_at2, ↓e_at3, ↓e_sa0, ↓e_sa1, ↓e_sa2, ↓e_sa3, ↓e_len_lst, ↓e_len_tup, ↓e_len_str, ↓e_abs, ↓e_int, ↓e_str, ↓e_ilst, ↓e_il, ↓e_irl, ↓e_irng1, ↓e_irV, ↓e_irng2, ↓e_irV2, ↓e_yes, ↓u_frzV, ↓u_ty, ↓u_setL, ↓u_ix, ↓u_len, ↓u_append, ↓u_pop, ↓u_iref, ↓e_isi, ↓e_strS, ↓e_dnew, ↓e_dget, ↓e_dput, ↓e_sc, ↓e_dcN, ↓e_rank, ↓e_inLN, ↓e_izipR, ↓e_ienum, ↓e_while, ↓mupd_mupd, ↓e_for, ↓e_lc, ↓e_lcM, ↓e_wipe, ↓e_wipe0, ↓e_frzV ep2, ↓e_ty_ref ep2, ↓e_setL ep2, ↓e_ix_ref ep2, ↓e_len_ref ep2, ↓e_append ep2, ↓e_pop ep2, ↓e_iref ep2, eq_self_iff_true, true_and, List.set_cons_zero, List.set_cons_succ, id_eq, ↓reduceIte, Bool.false_eq_true, Bool.not_true, Bool.not_false])
            rw [at_map hz]
            (try simp only [↓e_var0, ↓e_varS, ↓e_C, ↓e_op, ↓e_un, ↓e_cb, ↓e_nil, ↓e_cons, ↓e_tup, ↓e_lst, ↓e_lstM, ↓e_frz, ↓e_B, ↓e_bl, ↓e_andT, ↓e_orT, ↓e_notT, ↓e_andV, ↓e_orV, ↓e_notV, ↓e_ifE, ↓e_tru, ↓e_slice, ↓e_noPart, ↓e_part, ↓e_partV, ↓e_bm, ↓e_bm0, ↓e_ty_lst, ↓e_ty_str, ↓e_next, ↓e_seq, ↓e_break, ↓e_cont, ↓e_drop, ↓e_ret, ↓e_retN, ↓e_ifS, ↓e_asg, ↓e_gname, ↓e_put0, ↓e_putS, ↓e_aug, ↓e_gsub, ↓e_gtup2, ↓e_I, ↓e_Ic, ↓e_add, ↓e_addS, ↓e_addL, ↓e_addT, ↓e_mul, ↓e_eqI, ↓e_eqS, ↓e_eqB, ↓e_ix_lst, ↓e_ix_tup, ↓e_at0, ↓e_at1, ↓e_at2, ↓e_at3, ↓e_sa0, ↓e_sa1, ↓e_sa2, ↓e_sa3, ↓e_len_lst, ↓e_len_tup, ↓e_len_str, ↓e_abs, ↓e_int, ↓e_str, ↓e_ilst, ↓e_il, ↓e_irl, ↓e_irng1, ↓e_irV, ↓e_irng2, ↓e_irV2, ↓e_yes, ↓u_frzV, ↓u_ty, ↓u_setL, ↓u_ix, ↓u_len, ↓u_append, ↓u_pop, ↓u_iref, ↓e_isi, ↓e_strS, ↓e_dnew, ↓e_dget, ↓e_dput, ↓e_sc, ↓e_dcN, ↓e_rank, ↓e_inLN, ↓e_izipR, ↓e_ienum, ↓e_while, ↓mupd_mupd, ↓e_for, ↓e_lc, ↓e_lcM, ↓e_wipe, ↓e_wipe0, eq_self_iff_true, true_and, List.set_cons_zero, List.set_cons_succ, id_eq, ↓reduceIte, Bool.false_eq_true, Bool.not_true, Bool.not_false])
            rw [at_map hj]
            (try simp only [↓e_var0, ↓e_varS, ↓e_C, ↓e_op, ↓e_un, ↓e_cb, ↓e_nil, ↓e_cons, ↓e_tup, ↓e_lst, ↓e_lstM, ↓e_frz, ↓e_B, ↓e_bl, ↓e_andT, ↓e_orT, ↓e_notT, ↓e_andV, ↓e_orV, ↓e_notV, ↓e_ifE, ↓e_tru, ↓e_slice, ↓e_noPart, ↓e_part, ↓e_partV, ↓e_bm, ↓e_bm0, ↓e_ty_lst, ↓e_ty_str, ↓e_next, ↓e_seq, ↓e_break, ↓e_cont, ↓e_drop, ↓e_ret, ↓e_retN, ↓e_ifS, ↓e_asg, ↓e_gname, ↓e_put0, ↓e_putS, ↓e_aug, ↓e_gsub, ↓e_gtup2, ↓e_I, ↓e_Ic, ↓e_add, ↓e_addS, ↓e_addL, ↓e_addT, ↓e_mul, ↓e_eqI, ↓e_eqS, ↓e_eqB, ↓e_ix_lst, ↓e_ix_tup, ↓e_at0, ↓e_at1, ↓e_at2, ↓e_at3, ↓e_sa0, ↓e_sa1, ↓e_sa2, ↓e_sa3, ↓e_len_lst, ↓e_len_tup, ↓e_len_str, ↓e_abs, ↓e_int, ↓e_str, ↓e_ilst, ↓e_il, ↓e_irl, ↓e_irng1, ↓e_irV, ↓e_irng2, ↓e_irV2, ↓e_yes, ↓u_frzV, ↓u_ty, ↓u_setL, ↓u_ix, ↓u_len, ↓u_append, ↓u_pop, ↓u_iref, ↓e_isi, ↓e_strS, ↓e_dnew, ↓e_dget, ↓e_dput, ↓e_sc, ↓e_dcN, ↓e_rank, ↓e_inLN, ↓e_izipR, ↓e_ienum, ↓e_while, ↓mupd_mupd, ↓e_for, ↓e_lc, ↓e_lcM, ↓e_wipe, ↓e_wipe0, eq_self_iff_true, true_and, List.set_cons_zero, List.set_cons_succ, id_eq, ↓reduceIte, Bool.false_eq_true, Bool.not_true, Bool.not_false])
            rw [at_map hrow, show enR row = .lst (row.map fun n : Nat => D.int n) from rfl]
            (try simp only [↓e_var0, ↓e_varS, ↓e_C, ↓e_op, ↓e_un, ↓e_cb, ↓e_nil, ↓e_cons, ↓e_tup, ↓e_lst, ↓e_lstM, ↓e_frz, ↓e_B, ↓e_bl, ↓e_andT, ↓e_orT, ↓e_notT, ↓e_andV, ↓e_orV, ↓e_notV, ↓e_ifE, ↓e_tru, ↓e_slice, ↓e_noPart, ↓e_part, ↓e_partV, ↓e_bm, ↓e_bm0, ↓e_ty_lst, ↓e_ty_str, ↓e_next, ↓e_seq, ↓e_break, ↓e_cont, ↓e_drop, ↓e_ret, ↓e_retN, ↓e_ifS, ↓e_asg, ↓e_gname, ↓e_put0, ↓e_putS, ↓e_aug, ↓e_gsub, ↓e_gtup2, ↓e_I, ↓e_Ic, ↓e_add, ↓e_addS, ↓e_addL, ↓e_addT, ↓e_mul, ↓e_eqI, ↓e_eqS, ↓e_eqB, ↓e_ix_lst, ↓e_ix_tup, ↓e_at0, ↓e_at1, ↓e_at2, ↓e_at3, ↓e_sa0, ↓e_sa1, ↓e_sa2, ↓e_sa3, ↓e_len_lst, ↓e_len_tup, ↓e_len_str, ↓e_abs, ↓e_int, ↓e_str, ↓e_ilst, ↓e_il, ↓e_irl, ↓e_irng1, ↓e_irV, ↓e_irng2, ↓e_irV2, ↓e_yes, ↓u_frzV, ↓u_ty, ↓u_setL, ↓u_ix, ↓u_len, ↓u_append, ↓u_pop, ↓u_iref, ↓e_isi, ↓e_strS, ↓e_dnew, ↓e_dget, ↓e_dput, ↓e_sc, ↓e_dcN, ↓e_rank, ↓e_inLN, ↓e_izipR, ↓e_ienum, ↓e_while, ↓mupd_mupd, ↓e_for, ↓e_lc, ↓e_lcM, ↓e_wipe, ↓e_wipe0, eq_self_iff_true, true_and, List.set_cons_zero, List.set_cons_succ, id_eq, ↓reduceIte, Bool.false_eq_true, Bool.not_true, Bool.not_false])
            by_cases c : z ∈ row
            · simp only [c, decide_true, if_true] at h1 ⊢
              exact h1 trivial
            · simp only [c, decide_false, Bool.false_eq_true, if_false] at h2 ⊢
              exact h2 trivial
          generalize hmy : (List.range N).filter (fun k => decide (im.getD k 0 ∈ row)) = my
          have myp : my.Pairwise (· < ·) := by rw [← hmy]; exact List.Pairwise.filter _ List.pairwise_lt_range
          have mylt : ∀ z ∈ my, z < N := fun z hz => by rw [← hmy] at hz; exact List.mem_range.mp (List.mem_filter.mp hz).1
          have myl : my.length ≤ N := by
            rw [← hmy]
            exact Nat.le_trans (List.length_filter_le _ _) (by rw [List.length_range]; exact Nat.le_refl _)
          have eq2 := R7.get mq2
          (try simp only [↓e_var0, ↓e_varS, ↓e_C, ↓e_op, ↓e_un, ↓e_cb, ↓e_nil, ↓e_cons, ↓e_tup, ↓e_lst, ↓e_lstM, ↓e_frz, ↓e_B, ↓e_bl, ↓e_andT, ↓e_orT, ↓e_notT, ↓e_andV, ↓e_orV, ↓e_notV, ↓e_ifE, ↓e_tru, ↓e_slice, ↓e_noPart, ↓e_part, ↓e_partV, ↓e_bm, ↓e_bm0, ↓e_ty_lst, ↓e_ty_str, ↓e_next, ↓e_seq, ↓e_break, ↓e_cont, ↓e_drop, ↓e_ret, ↓e_retN, ↓e_ifS, ↓e_asg, ↓e_gname, ↓e_put0, ↓e_putS, ↓e_aug, ↓e_gsub, ↓e_gtup2, ↓e_I, ↓e_Ic, ↓e_add, ↓e_addS, ↓e_addL, ↓e_addT, ↓e_mul, ↓e_eqI, ↓e_eqS, ↓e_eqB, ↓e_ix_lst, ↓e_ix_tup, ↓e_at0, ↓e_at1, ↓e_at2, ↓e_at3, ↓e_sa0, ↓e_sa1, ↓e_sa2, ↓e_sa3, ↓e_len_lst, ↓e_len_tup, ↓e_len_str, ↓e_abs, ↓e_int, ↓e_str, ↓e_ilst, ↓e_il, ↓e_irl, ↓e_irng1, ↓e_irV, ↓e_irng2, ↓e_irV2, ↓e_yes, ↓u_frzV, ↓u_ty, ↓u_setL, ↓u_ix, ↓u_len, ↓u_append, ↓u_pop, ↓u_iref, ↓e_isi, ↓e_strS, ↓e_dnew, ↓e_dget, ↓e_dput, ↓e_sc, ↓e_dcN, ↓e_rank, ↓e_inLN, ↓e_izipR, ↓e_ienum, ↓e_while, ↓mupd_mupd, ↓e_for, ↓e_lc, ↓e_lcM, ↓e_wipe, ↓e_wipe0, ↓e_frzV eq2, ↓e_ty_ref eq2, ↓e_setL eq2, ↓e_ix_ref eq2, ↓e_len_ref eq2, ↓e_append eq2, ↓e_pop eq2, ↓e_iref eq2, eq_self_iff_true, true_and, List.set_cons_zero, List.set_cons_succ, id_eq, ↓reduceIte, Bool.false_eq_true, Bool.not_true, Bool.not_false])
          refine lc_inv my (fun i acc M => RnAt M2 a M ∧ ∃ js : List Nat, acc = js.map (fun k : Nat => D.int k) ∧ js.Sublist (my.take i)) ⟨R7, [], rfl, .slnil⟩ (fun _ _ _ _ _ => trivial) (fun i z acc M hz hV => ?_) (fun acc M hV => ?_)
          · obtain ⟨R8, js, rfl, jsub⟩ := hV
            have et3 := R8.get mt2
            have hi2 : i < my.length := (List.getElem?_eq_some_iff.mp hz).1
            have jl : js.length ≤ N := Nat.le_trans jsub.length_le (by rw [List.length_take]; omega)
            have e1 : my.take (i + 1) = my.take i ++ [z] := by rw [List.take_add_one, hz]; rfl
            have keep : js.Sublist (my.take (i + 1)) := by rw [e1]; exact jsub.trans (List.sublist_append_left _ _)
            have more2 : (js ++ [z]).Sublist (my.take (i + 1)) := by rw [e1]; exact jsub.append (List.Sublist.refl _)
            (try simp only [↓e_var0, ↓e_varS, ↓e_C, ↓e_op, ↓e_un, ↓e_cb, ↓e_nil, ↓e_cons, ↓e_tup, ↓e_lst, ↓e_lstM, ↓e_frz, ↓e_B, ↓e_bl, ↓e_andT, ↓e_orT, ↓e_notT, ↓e_andV, ↓e_orV, ↓e_notV, ↓e_ifE, ↓e_tru, ↓e_slice, ↓e_noPart, ↓e_part, ↓e_partV, ↓e_bm, ↓e_bm0, ↓e_ty_lst, ↓e_ty_str, ↓e_next, ↓e_seq, ↓e_break, ↓e_cont, ↓e_drop, ↓e_ret, ↓e_retN, ↓e_ifS, ↓e_asg, ↓e_gname, ↓e_put0, ↓e_putS, ↓e_aug, ↓e_gsub, ↓e_gtup2, ↓e_I, ↓e_Ic, ↓e_add, ↓e_addS, ↓e_addL, ↓e_addT, ↓e_mul, ↓e_eqI, ↓e_eqS, ↓e_eqB, ↓e_ix_lst, ↓e_ix_tup, ↓e_at0, ↓e_at1, ↓e_at2, ↓e_at3, ↓e_sa0, ↓e_sa1, ↓e_sa2, ↓e_sa3, ↓e_len_lst, ↓e_len_tup, ↓e_len_str, ↓e_abs, ↓e_int, ↓e_str, ↓e_ilst, ↓e_il, ↓e_irl, ↓e_irng1, ↓e_irV, ↓e_irng2, ↓e_irV2, ↓e_yes, ↓u_frzV, ↓u_ty, ↓u_setL, ↓u_ix, ↓u_len, ↓u_append, ↓u_pop, ↓u_iref, ↓e_isi, ↓e_strS, ↓e_dnew, ↓e_dget, ↓e_dput, ↓e_sc, ↓e_dcN, ↓e_rank, ↓e_inLN, ↓e_izipR, ↓e_ienum, ↓e_while, ↓mupd_mupd, ↓e_for, ↓e_lc, ↓e_lcM, ↓e_wipe, ↓e_wipe0, ↓e_frzV et3, ↓e_ty_ref et3, ↓e_setL et3, ↓e_ix_ref et3, ↓e_len_ref et3, ↓e_append et3, ↓e_pop et3, ↓e_iref et3, eq_self_iff_true, true_and, List.set_cons_zero, List.set_cons_succ, id_eq, ↓reduceIte, Bool.false_eq_true, Bool.not_true, Bool.not_false, e_inRN et3 rfl])
            split
            · refine ⟨by rw [List.length_map]; exact small_line' (by omega), R8, js ++ [z], by rw [List.map_append]; rfl, more2⟩
            · refine ⟨a, 3, _, rfl, by decide, by decide, R8, fun n4 M4 l4 u4 R9 => ?_⟩
              (try simp only [↓e_var0, ↓e_varS, ↓e_C, ↓e_op, ↓e_un, ↓e_cb, ↓e_nil, ↓e_cons, ↓e_tup, ↓e_lst, ↓e_lstM, ↓e_frz, ↓e_B, ↓e_bl, ↓e_andT, ↓e_orT, ↓e_notT, ↓e_andV, ↓e_orV, ↓e_notV, ↓e_ifE, ↓e_tru, ↓e_slice, ↓e_noPart, ↓e_part, ↓e_partV, ↓e_bm, ↓e_bm0, ↓e_ty_lst, ↓e_ty_str, ↓e_next, ↓e_seq, ↓e_break, ↓e_cont, ↓e_drop, ↓e_ret, ↓e_retN, ↓e_ifS, ↓e_asg, ↓e_gname, ↓e_put0, ↓e_putS, ↓e_aug, ↓e_gsub, ↓e_gtup2, ↓e_I, ↓e_Ic, ↓e_add, ↓e_addS, ↓e_addL, ↓e_addT, ↓e_mul, ↓e_eqI, ↓e_eqS, ↓e_eqB, ↓e_ix_lst, ↓e_ix_tup, ↓e_at0, ↓e_at1, ↓e_at2, ↓e_at3, ↓e_sa0, ↓e_sa1, ↓e_sa2, ↓e_sa3, ↓e_len_lst, ↓e_len_tup, ↓e_len_str, ↓e_abs, ↓e_int, ↓e_str, ↓e_ilst, ↓e_il, ↓e_irl, ↓e_irng1, ↓e_irV, ↓e_irng2, ↓e_irV2, ↓e_yes, ↓u_frzV, ↓u_ty, ↓u_setL, ↓u_ix, ↓u_len, ↓u_append, ↓u_pop, ↓u_iref, ↓e_isi, ↓e_strS, ↓e_dnew, ↓e_dget, ↓e_dput, ↓e_sc, ↓e_dcN, ↓e_rank, ↓e_inLN, ↓e_izipR, ↓e_ienum, ↓e_while, ↓mupd_mupd, ↓e_for, ↓e_lc, ↓e_lcM, ↓e_wipe, ↓e_wipe0, eq_self_iff_true, true_and, List.set_cons_zero, List.set_cons_succ, id_eq, ↓reduceIte, Bool.false_eq_true, Bool.not_true, Bool.not_false])
              split
              · refine ⟨by rw [List.length_map]; exact small_line' (by omega), R9, js ++ [z], by rw [List.map_append]; rfl, more2⟩
              · exact ⟨R9, js, rfl, keep⟩
          · obtain ⟨R8, js, rfl, jsub⟩ := hV
            rw [List.take_length] at jsub
            have eq3 := R8.get mq2
            (try simp only [↓e_var0, ↓e_varS, ↓e_C, ↓e_op, ↓e_un, ↓e_cb, ↓e_nil, ↓e_cons, ↓e_tup, ↓e_lst, ↓e_lstM, ↓e_frz, ↓e_B, ↓e_bl, ↓e_andT, ↓e_orT, ↓e_notT, ↓e_andV, ↓e_orV, ↓e_notV, ↓e_ifE, ↓e_tru, ↓e_slice, ↓e_noPart, ↓e_part, ↓e_partV, ↓e_bm, ↓e_bm0, ↓e_ty_lst, ↓e_ty_str, ↓e_next, ↓e_seq, ↓e_break, ↓e_cont, ↓e_drop, ↓e_ret, ↓e_retN, ↓e_ifS, ↓e_asg, ↓e_gname, ↓e_put0, ↓e_putS, ↓e_aug, ↓e_gsub, ↓e_gtup2, ↓e_I, ↓e_Ic, ↓e_add, ↓e_addS, ↓e_addL, ↓e_addT, ↓e_mul, ↓e_eqI, ↓e_eqS, ↓e_eqB, ↓e_ix_lst, ↓e_ix_tup, ↓e_at0, ↓e_at1, ↓e_at2, ↓e_at3, ↓e_sa0, ↓e_sa1, ↓e_sa2, ↓e_sa3, ↓e_len_lst, ↓e_len_tup, ↓e_len_str, ↓e_abs, ↓e_int, ↓e_str, ↓e_ilst, ↓e_il, ↓e_irl, ↓e_irng1, ↓e_irV, ↓e_irng2, ↓e_irV2, ↓e_yes, ↓u_frzV, ↓u_ty, ↓u_setL, ↓u_ix, ↓u_len, ↓u_append, ↓u_pop, ↓u_iref, ↓e_isi, ↓e_strS, ↓e_dnew, ↓e_dget, ↓e_dput, ↓e_sc, ↓e_dcN, ↓e_rank, ↓e_inLN, ↓e_izipR, ↓e_ienum, ↓e_while, ↓mupd_mupd, ↓e_for, ↓e_lc, ↓e_lcM, ↓e_wipe, ↓e_wipe0, ↓e_frzV eq3, ↓e_ty_ref eq3, ↓e_setL eq3, ↓e_ix_ref eq3, ↓e_len_ref eq3, ↓e_append eq3, ↓e_pop eq3, ↓e_iref eq3, eq_self_iff_true, true_and, List.set_cons_zero, List.set_cons_succ, id_eq, ↓reduceIte, Bool.false_eq_true, Bool.not_true, Bool.not_false])
            refine ⟨by rw [List.length_map]; exact small_line' (by omega), _, _, _, _, _, _, _, rs ++ [js], rfl, R8.upd mq2, fun b u e => ?_, ?_, ?_, by simp [hrl], fun r hr' => ?_⟩
            · have ne : b ≠ q := fun z => by subst z; rw [hq0] at e; cases e
              rw [mupd_ne ne]; exact sb2 b u e
            · rw [mupd_ne (Ne.symm hpq)]; exact mp2
            · rw [mupd_same, List.map_append]; rfl
            · rcases List.mem_append.mp hr' with h' | h'
              · exact hrs r h'
              · rw [List.mem_singleton.mp h']
                exact ⟨fun z hz => mylt z (jsub.subset hz), myp.sublist jsub⟩
      · obtain ⟨o5, o7, o8, o9, o10, o11, M', rs, rfl, R5, sb, mp, mq, hrl, hrs⟩ := hW
        rw [List.length_range] at hrl
        have eq := R5.get mq
        (try simp only [↓e_var0, ↓e_varS, ↓e_C, ↓e_op, ↓e_un, ↓e_cb, ↓e_nil, ↓e_cons, ↓e_tup, ↓e_lst, ↓e_lstM, ↓e_frz, ↓e_B, ↓e_bl, ↓e_andT, ↓e_orT, ↓e_notT, ↓e_andV, ↓e_orV, ↓e_notV, ↓e_ifE, ↓e_tru, ↓e_slice, ↓e_noPart, ↓e_part, ↓e_partV, ↓e_bm, ↓e_bm0, ↓e_ty_lst, ↓e_ty_str, ↓e_next, ↓e_seq, ↓e_break, ↓e_cont, ↓e_drop, ↓e_ret, ↓e_retN, ↓e_ifS, ↓e_asg, ↓e_gname, ↓e_put0, ↓e_putS, ↓e_aug, ↓e_gsub, ↓e_gtup2, ↓e_I, ↓e_Ic, ↓e_add, ↓e_addS, ↓e_addL, ↓e_addT, ↓e_mul, ↓e_eqI, ↓e_eqS, ↓e_eqB, ↓e_ix_lst, ↓e_ix_tup, ↓e_at0, ↓e_at1, ↓e_at2, ↓e_at3, ↓e_sa0, ↓e_sa1, ↓e_sa2, ↓e_sa3, ↓e_len_lst, ↓e_len_tup, ↓e_len_str, ↓e_abs, ↓e_int, ↓e_str, ↓e_ilst, ↓e_il, ↓e_irl, ↓e_irng1, ↓e_irV, ↓e_irng2, ↓e_irV2, ↓e_yes, ↓u_frzV, ↓u_ty, ↓u_setL, ↓u_ix, ↓u_len, ↓u_append, ↓u_pop, ↓u_iref, ↓e_isi, ↓e_strS, ↓e_dnew, ↓e_dget, ↓e_dput, ↓e_sc, ↓e_dcN, ↓e_rank, ↓e_inLN, ↓e_izipR, ↓e_ienum, ↓e_while, ↓mupd_mupd, ↓e_for, ↓e_lc, ↓e_lcM, ↓e_wipe, ↓e_wipe0, ↓e_frzV eq, ↓e_ty_ref eq, ↓e_setL eq, ↓e_ix_ref eq, ↓e_len_ref eq, ↓e_append eq, ↓e_pop eq, ↓e_iref eq, eq_self_iff_true, true_and, List.set_cons_zero, List.set_cons_succ, id_eq, ↓reduceIte, Bool.false_eq_true, Bool.not_true, Bool.not_false])
        have R7 := R5.del mq
        have sb3 : DL.Sub M0 (mdel M' q) := fun b u e => by
          have ne : b ≠ q := fun z => by subst z; rw [hq0] at e; cases e
          rw [mdel_ne ne]; exact sb b u e
        obtain ⟨M2, s2, R8⟩ := R7.weak sb3
        exact ⟨M2, s2, h rs M2 ⟨by omega, fun r hr' z hz => by rw [hrl]; exact (hrs r hr').1 z hz, fun r hr' => (hrs r hr').2, by omega⟩ (by omega) R8⟩
end
end K32

namespace K32
open PySem PySem.Spec PyProof.Rows L2 DL
abbrev s_law_long : Stmt := topS 11
abbrev n_law_long : List Str := ["state", "most", "size", "rows", "mark", "at"]
abbrev p_law_long : List Str := ["state", "most"]
theorem sc_law_long : FnScope n_law_long p_law_long (defScope s_law_long) := ⟨rfl, rfl, rfl, by decide +kernel, rfl, by decide +kernel, by decide +kernel⟩
abbrev s_law_wide : Stmt := topS 12
abbrev n_law_wide : List Str := ["state", "size", "rows", "at", "many", "k"]
abbrev p_law_wide : List Str := ["state"]
theorem sc_law_wide : FnScope n_law_wide p_law_wide (defScope s_law_wide) := ⟨rfl, rfl, rfl, by decide +kernel, rfl, by decide +kernel, by decide +kernel⟩
abbrev s_law_drawing : Stmt := topS 13
abbrev n_law_drawing : List Str := ["state", "way"]
abbrev p_law_drawing : List Str := ["state"]
theorem sc_law_drawing : FnScope n_law_drawing p_law_drawing (defScope s_law_drawing) := ⟨rfl, rfl, rfl, by decide +kernel, rfl, by decide +kernel, by decide +kernel⟩
section
variable {P : Program} {w : World} {K : PySem.W.Frag} {mg : Str → Option Value} {base : Heap}
def spLong : DL := fun ds M R => ∃ a most M0, ds = [.ref a, .int most] ∧ 3 ≤ most ∧ most ≤ 128 ∧ RnAt M0 a M ∧ ∀ rows M', Drw rows → RnAt M0 a M' → R (enD rows) M'
def spWide : DL := fun ds M R => ∃ a M0, ds = [.ref a] ∧ RnAt M0 a M ∧ ∀ rows M', Drw rows → RnAt M0 a M' → R (enD rows) M'
theorem ok_long {f : Addr} {fd : FuncData} {k : Nat} (F : Fun K "_law_long" "_law_long" s_law_long f fd) (B : Bt mg) (c__law_draw : CalX P w K mg base "_law_draw" 1 spDraw) : FnOk P w K mg base CX0 (1 + 1) f fd p_law_long (spOf K spLong) := by
  refine dfnW F sc_law_long (fun ds M R h => ?_) (fun cdv A outer s H E ds M R hr h => ?_)
  · obtain ⟨a, most, M0, rfl, _⟩ := h
    rfl
  · have nd := sc_law_long.nd
    refine ⟨_, (dss_cons (ds_set (i := 2) nd rfl (.inl rfl) (d_add d_int (d_callX c__law_draw hr rfl (da_cons (dv 0) (da_cons (d_sub (dv 1) d_int) da_nil)))))
(dss_cons (ds_lcM (lfg_name (i := 5) (by decide)) (ps_setLc (i := 3) (own := [("at", 5)]) rfl nd rfl rfl (sw_true rfl rfl rfl (by decide +kernel)) (di_rng1 (pi_range1 rfl B.range (da_cons (dv 2) da_nil))) (blkOk_by (own := [("at", 5)]) (N := n_law_long) (by rfl)) (fun _ _ _ _ _ => (pg_name (i := 5) nd rfl (.inl rfl))) (fun _ _ _ _ _ => dts_nil) (fun _ _ _ _ _ => (d_lst (da_cons (d_sub (dv 5) d_int) da_nil)))))
(dss_cons (ds_asg (d_sub_ix (d_lst (da_cons (d_lst da_nil) (da_cons (d_lst (da_cons d_int da_nil)) (da_cons (d_lst (da_cons (d_sub (dv 2) d_int) da_nil)) da_nil)))) (d_callX c__law_draw hr rfl (da_cons (dv 0) (da_cons d_int da_nil)))) (dg_sub (pg_sub (dv 3) d_int set_list)))
(dss_cons (ds_set (i := 4) nd rfl (.inl rfl) (d_callX c__law_draw hr rfl (da_cons (dv 0) (da_cons (d_add (dv 2) d_int) da_nil))))
(dss_cons (ds_if (dt_lt (dv 4) (dv 2))
(dss_one (ds_asg (d_add (d_sub_ix (dv 3) (dv 4)) (d_lst (da_cons (dv 2) da_nil))) (dg_sub (pg_sub (dv 3) (dv 4) set_list))))
dss_nil)
(dss_cons (ds_expr (d_append (dv 3) (da_cons (d_lst da_nil) da_nil)))
(dss_one (ds_ret (d_frz (dv 3)))))))))), ?_⟩
    obtain ⟨a, most, M0, rfl, m1, m2, hR, h⟩ := h
    simp only [dstart, List.map, List.length, List.replicate, List.cons_append, List.nil_append]
    (try simp only [↓e_var0, ↓e_varS, ↓e_C, ↓e_op, ↓e_un, ↓e_cb, ↓e_nil, ↓e_cons, ↓e_tup, ↓e_lst, ↓e_lstM, ↓e_frz, ↓e_B, ↓e_bl, ↓e_andT, ↓e_orT, ↓e_notT, ↓e_andV, ↓e_orV, ↓e_notV, ↓e_ifE, ↓e_tru, ↓e_slice, ↓e_noPart, ↓e_part, ↓e_partV, ↓e_bm, ↓e_bm0, ↓e_ty_lst, ↓e_ty_str, ↓e_next, ↓e_seq, ↓e_break, ↓e_cont, ↓e_drop, ↓e_ret, ↓e_retN, ↓e_ifS, ↓e_asg, ↓e_gname, ↓e_put0, ↓e_putS, ↓e_aug, ↓e_gsub, ↓e_gtup2, ↓e_I, ↓e_Ic, ↓e_add, ↓e_addS, ↓e_addL, ↓e_addT, ↓e_mul, ↓e_eqI, ↓e_eqS, ↓e_eqB, ↓e_ix_lst, ↓e_ix_tup, ↓e_at0, ↓e_at1, ↓e_at2, ↓e_at3, ↓e_sa0, ↓e_sa1, ↓e_sa2, ↓e_sa3, ↓e_len_lst, ↓e_len_tup, ↓e_len_str, ↓e_abs, ↓e_int, ↓e_str, ↓e_ilst, ↓e_il, ↓e_irl, ↓e_irng1, ↓e_irV, ↓e_irng2, ↓e_irV2, ↓e_yes, ↓u_frzV, ↓u_ty, ↓u_setL, ↓u_ix, ↓u_len, ↓u_append, ↓u_pop, ↓u_iref, ↓e_isi, ↓e_strS, ↓e_dnew, ↓e_dget, ↓e_dput, ↓e_sc, ↓e_dcN, ↓e_rank, ↓e_inLN, ↓e_izipR, ↓e_ienum, ↓e_while, ↓mupd_mupd, ↓e_for, ↓e_lc, ↓e_lcM, ↓e_wipe, ↓e_wipe0, eq_self_iff_true, true_and, List.set_cons_zero, List.set_cons_succ, id_eq, ↓reduceIte, Bool.false_eq_true, Bool.not_true, Bool.not_false])
    refine ⟨a, most - 2, M0, rfl, by omega, by omega, hR, fun n1 M1 l1 u1 R1 => ?_⟩
    (try simp only [↓e_var0, ↓e_varS, ↓e_C, ↓e_op, ↓e_un, ↓e_cb, ↓e_nil, ↓e_cons, ↓e_tup, ↓e_lst, ↓e_lstM, ↓e_frz, ↓e_B, ↓e_bl, ↓e_andT, ↓e_orT, ↓e_notT, ↓e_andV, ↓e_orV, ↓e_notV, ↓e_ifE, ↓e_tru, ↓e_slice, ↓e_noPart, ↓e_part, ↓e_partV, ↓e_bm, ↓e_bm0, ↓e_ty_lst, ↓e_ty_str, ↓e_next, ↓e_seq, ↓e_break, ↓e_cont, ↓e_drop, ↓e_ret, ↓e_retN, ↓e_ifS, ↓e_asg, ↓e_gname, ↓e_put0, ↓e_putS, ↓e_aug, ↓e_gsub, ↓e_gtup2, ↓e_I, ↓e_Ic, ↓e_add, ↓e_addS, ↓e_addL, ↓e_addT, ↓e_mul, ↓e_eqI, ↓e_eqS, ↓e_eqB, ↓e_ix_lst, ↓e_ix_tup, ↓e_at0, ↓e_at1, ↓e_at2, ↓e_at3, ↓e_sa0, ↓e_sa1, ↓e_sa2, ↓e_sa3, ↓e_len_lst, ↓e_len_tup, ↓e_len_str, ↓e_abs, ↓e_int, ↓e_str, ↓e_ilst, ↓e_il, ↓e_irl, ↓e_irng1, ↓e_irV, ↓e_irng2, ↓e_irV2, ↓e_yes, ↓u_frzV, ↓u_ty, ↓u_setL, ↓u_ix, ↓u_len, ↓u_append, ↓u_pop, ↓u_iref, ↓e_isi, ↓e_strS, ↓e_dnew, ↓e_dget, ↓e_dput, ↓e_sc, ↓e_dcN, ↓e_rank, ↓e_inLN, ↓e_izipR, ↓e_ienum, ↓e_while, ↓mupd_mupd, ↓e_for, ↓e_lc, ↓e_lcM, ↓e_wipe, ↓e_wipe0, eq_self_iff_true, true_and, List.set_cons_zero, List.set_cons_succ, id_eq, ↓reduceIte, Bool.false_eq_true, Bool.not_true, Bool.not_false])
    refine ⟨by omega, by omega, ?_⟩
    obtain ⟨n, hn⟩ : ∃ n : Nat, 2 + n1 = ((n + 1 : Nat) : Int) := ⟨(1 + n1).toNat, by omega⟩
    rw [hn, Int.toNat_natCast]
    refine lc_typed1 (List.range (n + 1)) (fun k : Nat => D.lst [.int ((k : Int) - 1)]) (small_line (by rw [List.length_range]; omega)) trivial (fun i x E' hx hE => ?_) (fun p hp => ?_)
    · (try simp only [↓e_var0, ↓e_varS, ↓e_C, ↓e_op, ↓e_un, ↓e_cb, ↓e_nil, ↓e_cons, ↓e_tup, ↓e_lst, ↓e_lstM, ↓e_frz, ↓e_B, ↓e_bl, ↓e_andT, ↓e_orT, ↓e_notT, ↓e_andV, ↓e_orV, ↓e_notV, ↓e_ifE, ↓e_tru, ↓e_slice, ↓e_noPart, ↓e_part, ↓e_partV, ↓e_bm, ↓e_bm0, ↓e_ty_lst, ↓e_ty_str, ↓e_next, ↓e_seq, ↓e_break, ↓e_cont, ↓e_drop, ↓e_ret, ↓e_retN, ↓e_ifS, ↓e_asg, ↓e_gname, ↓e_put0, ↓e_putS, ↓e_aug, ↓e_gsub, ↓e_gtup2, ↓e_I, ↓e_Ic, ↓e_add, ↓e_addS, ↓e_addL, ↓e_addT, ↓e_mul, ↓e_eqI, ↓e_eqS, ↓e_eqB, ↓e_ix_lst, ↓e_ix_tup, ↓e_at0, ↓e_at1, ↓e_at2, ↓e_at3, ↓e_sa0, ↓e_sa1, ↓e_sa2, ↓e_sa3, ↓e_len_lst, ↓e_len_tup, ↓e_len_str, ↓e_abs, ↓e_int, ↓e_str, ↓e_ilst, ↓e_il, ↓e_irl, ↓e_irng1, ↓e_irV, ↓e_irng2, ↓e_irV2, ↓e_yes, ↓u_frzV, ↓u_ty, ↓u_setL, ↓u_ix, ↓u_len, ↓u_append, ↓u_pop, ↓u_iref, ↓e_isi, ↓e_strS, ↓e_dnew, ↓e_dget, ↓e_dput, ↓e_sc, ↓e_dcN, ↓e_rank, ↓e_inLN, ↓e_izipR, ↓e_ienum, ↓e_while, ↓mupd_mupd, ↓e_for, ↓e_lc, ↓e_lcM, ↓e_wipe, ↓e_wipe0, eq_self_iff_true, true_and, List.set_cons_zero, List.set_cons_succ, id_eq, ↓reduceIte, Bool.false_eq_true, Bool.not_true, Bool.not_false])
      exact ⟨small_line (by simp), hE⟩
    have R2 := R1.new (o := .lst ((List.range (n + 1)).map fun k : Nat => D.lst [.int ((k : Int) - 1)])) hp
    have hp0 : M0 p = none := R1.free hp
    (try simp only [↓e_var0, ↓e_varS, ↓e_C, ↓e_op, ↓e_un, ↓e_cb, ↓e_nil, ↓e_cons, ↓e_tup, ↓e_lst, ↓e_lstM, ↓e_frz, ↓e_B, ↓e_bl, ↓e_andT, ↓e_orT, ↓e_notT, ↓e_andV, ↓e_orV, ↓e_notV, ↓e_ifE, ↓e_tru, ↓e_slice, ↓e_noPart, ↓e_part, ↓e_partV, ↓e_bm, ↓e_bm0, ↓e_ty_lst, ↓e_ty_str, ↓e_next, ↓e_seq, ↓e_break, ↓e_cont, ↓e_drop, ↓e_ret, ↓e_retN, ↓e_ifS, ↓e_asg, ↓e_gname, ↓e_put0, ↓e_putS, ↓e_aug, ↓e_gsub, ↓e_gtup2, ↓e_I, ↓e_Ic, ↓e_add, ↓e_addS, ↓e_addL, ↓e_addT, ↓e_mul, ↓e_eqI, ↓e_eqS, ↓e_eqB, ↓e_ix_lst, ↓e_ix_tup, ↓e_at0, ↓e_at1, ↓e_at2, ↓e_at3, ↓e_sa0, ↓e_sa1, ↓e_sa2, ↓e_sa3, ↓e_len_lst, ↓e_len_tup, ↓e_len_str, ↓e_abs, ↓e_int, ↓e_str, ↓e_ilst, ↓e_il, ↓e_irl, ↓e_irng1, ↓e_irV, ↓e_irng2, ↓e_irV2, ↓e_yes, ↓u_frzV, ↓u_ty, ↓u_setL, ↓u_ix, ↓u_len, ↓u_append, ↓u_pop, ↓u_iref, ↓e_isi, ↓e_strS, ↓e_dnew, ↓e_dget, ↓e_dput, ↓e_sc, ↓e_dcN, ↓e_rank, ↓e_inLN, ↓e_izipR, ↓e_ienum, ↓e_while, ↓mupd_mupd, ↓e_for, ↓e_lc, ↓e_lcM, ↓e_wipe, ↓e_wipe0, eq_self_iff_true, true_and, List.set_cons_zero, List.set_cons_succ, id_eq, ↓reduceIte, Bool.false_eq_true, Bool.not_true, Bool.not_false])
    refine ⟨small_line (by simp), small_line (by simp), small_line (by simp), small_line (by simp), ?_⟩
    refine ⟨a, 3, _, rfl, by decide, by decide, R2, fun n2 M2 l2 u2 R3 => ?_⟩
    have ep := R3.get mupd_same
    (try simp only [↓e_var0, ↓e_varS, ↓e_C, ↓e_op, ↓e_un, ↓e_cb, ↓e_nil, ↓e_cons, ↓e_tup, ↓e_lst, ↓e_lstM, ↓e_frz, ↓e_B, ↓e_bl, ↓e_andT, ↓e_orT, ↓e_notT, ↓e_andV, ↓e_orV, ↓e_notV, ↓e_ifE, ↓e_tru, ↓e_slice, ↓e_noPart, ↓e_part, ↓e_partV, ↓e_bm, ↓e_bm0, ↓e_ty_lst, ↓e_ty_str, ↓e_next, ↓e_seq, ↓e_break, ↓e_cont, ↓e_drop, ↓e_ret, ↓e_retN, ↓e_ifS, ↓e_asg, ↓e_gname, ↓e_put0, ↓e_putS, ↓e_aug, ↓e_gsub, ↓e_gtup2, ↓e_I, ↓e_Ic, ↓e_add, ↓e_addS, ↓e_addL, ↓e_addT, ↓e_mul, ↓e_eqI, ↓e_eqS, ↓e_eqB, ↓e_ix_lst, ↓e_ix_tup, ↓e_at0, ↓e_at1, ↓e_at2, ↓e_at3, ↓e_sa0, ↓e_sa1, ↓e_sa2, ↓e_sa3, ↓e_len_lst, ↓e_len_tup, ↓e_len_str, ↓e_abs, ↓e_int, ↓e_str, ↓e_ilst, ↓e_il, ↓e_irl, ↓e_irng1, ↓e_irV, ↓e_irng2, ↓e_irV2, ↓e_yes, ↓u_frzV, ↓u_ty, ↓u_setL, ↓u_ix, ↓u_len, ↓u_append, ↓u_pop, ↓u_iref, ↓e_isi, ↓e_strS, ↓e_dnew, ↓e_dget, ↓e_dput, ↓e_sc, ↓e_dcN, ↓e_rank, ↓e_inLN, ↓e_izipR, ↓e_ienum, ↓e_while, ↓mupd_mupd, ↓e_for, ↓e_lc, ↓e_lcM, ↓e_wipe, ↓e_wipe0, ↓e_frzV ep, ↓e_ty_ref ep, ↓e_setL ep, ↓e_ix_ref ep, ↓e_len_ref ep, ↓e_append ep, ↓e_pop ep, ↓e_iref ep, eq_self_iff_true, true_and, List.set_cons_zero, List.set_cons_succ, id_eq, ↓reduceIte, Bool.false_eq_true, Bool.not_true, Bool.not_false])
    have pick : ∃ r0 : List Nat, RowOk (n + 1) r0 ∧ atI [D.lst [], D.lst [D.int 0], D.lst [D.int (((n + 1 : Nat) : Int) - 1)]] n2 = some (enR r0) := by
      have : n2 = 0 ∨ n2 = 1 ∨ n2 = 2 := by omega
      rcases this with rfl | rfl | rfl
      · exact ⟨[], ⟨fun _ h => (nomatch h), .nil⟩, rfl⟩
      · exact ⟨[0], ⟨fun z h => by rw [List.mem_singleton.mp h]; omega, List.pairwise_singleton _ _⟩, rfl⟩
      · refine ⟨[n], ⟨fun z h => by rw [List.mem_singleton.mp h]; omega, List.pairwise_singleton _ _⟩, ?_⟩
        have e : ((n + 1 : Nat) : Int) - 1 = (n : Int) := by omega
        rw [e]
        rfl
    obtain ⟨r0, ro, e0⟩ := pick
    refine ⟨_, e0, ?_⟩
    (try simp only [↓e_var0, ↓e_varS, ↓e_C, ↓e_op, ↓e_un, ↓e_cb, ↓e_nil, ↓e_cons, ↓e_tup, ↓e_lst, ↓e_lstM, ↓e_frz, ↓e_B, ↓e_bl, ↓e_andT, ↓e_orT, ↓e_notT, ↓e_andV, ↓e_orV, ↓e_notV, ↓e_ifE, ↓e_tru, ↓e_slice, ↓e_noPart, ↓e_part, ↓e_partV, ↓e_bm, ↓e_bm0, ↓e_ty_lst, ↓e_ty_str, ↓e_next, ↓e_seq, ↓e_break, ↓e_cont, ↓e_drop, ↓e_ret, ↓e_retN, ↓e_ifS, ↓e_asg, ↓e_gname, ↓e_put0, ↓e_putS, ↓e_aug, ↓e_gsub, ↓e_gtup2, ↓e_I, ↓e_Ic, ↓e_add, ↓e_addS, ↓e_addL, ↓e_addT, ↓e_mul, ↓e_eqI, ↓e_eqS, ↓e_eqB, ↓e_ix_lst, ↓e_ix_tup, ↓e_at0, ↓e_at1, ↓e_at2, ↓e_at3, ↓e_sa0, ↓e_sa1, ↓e_sa2, ↓e_sa3, ↓e_len_lst, ↓e_len_tup, ↓e_len_str, ↓e_abs, ↓e_int, ↓e_str, ↓e_ilst, ↓e_il, ↓e_irl, ↓e_irng1, ↓e_irV, ↓e_irng2, ↓e_irV2, ↓e_yes, ↓u_frzV, ↓u_ty, ↓u_setL, ↓u_ix, ↓u_len, ↓u_append, ↓u_pop, ↓u_iref, ↓e_isi, ↓e_strS, ↓e_dnew, ↓e_dget, ↓e_dput, ↓e_sc, ↓e_dcN, ↓e_rank, ↓e_inLN, ↓e_izipR, ↓e_ienum, ↓e_while, ↓mupd_mupd, ↓e_for, ↓e_lc, ↓e_lcM, ↓e_wipe, ↓e_wipe0, ↓e_frzV ep, ↓e_ty_ref ep, ↓e_setL ep, ↓e_ix_ref ep, ↓e_len_ref ep, ↓e_append ep, ↓e_pop ep, ↓e_iref ep, eq_self_iff_true, true_and, List.set_cons_zero, List.set_cons_succ, id_eq, ↓reduceIte, Bool.false_eq_true, Bool.not_true, Bool.not_false])
    rw [show (0 : Int) = ((0 : Nat) : Int) from rfl, e_sa (show 0 < ((List.range (n + 1)).map fun k : Nat => D.lst [.int ((k : Int) - 1)]).length by simp)]
    have er : ((List.range (n + 1)).map fun k : Nat => D.lst [.int ((k : Int) - 1)]).set 0 (enR r0) = (r0 :: (List.range n).map fun k => [k]).map enR := by
      rw [List.range_succ_eq_map, List.map_cons, List.set_cons_zero, List.map_cons, List.map_map, List.map_map]
      congr 1
      refine List.map_congr_left fun k _ => ?_
      show D.lst [.int (((k + 1 : Nat) : Int) - 1)] = D.lst [.int (k : Int)]
      rw [show ((k + 1 : Nat) : Int) - 1 = (k : Int) by omega]
    rw [er]
    have hrs : ∀ r ∈ r0 :: (List.range n).map (fun k => [k]), RowOk (n + 1) r := fun r hr => by
      rcases List.mem_cons.mp hr with z | z
      · rw [z]; exact ro
      · obtain ⟨k, hk, rfl⟩ := List.mem_map.mp z
        have := List.mem_range.mp hk
        exact ⟨fun z h => by rw [List.mem_singleton.mp h]; omega, List.pairwise_singleton _ _⟩
    have hrl : (r0 :: (List.range n).map (fun k => [k])).length = n + 1 := by simp
    generalize r0 :: (List.range n).map (fun k => [k]) = rs at hrs hrl
    have R4 := R3.upd (u := .lst (rs.map enR)) mupd_same
    rw [mupd_mupd] at R4
    refine ⟨a, ((n + 1 : Nat) : Int) + 1, _, rfl, by omega, by omega, R4, fun n3 M3 l3 u3 R5 => ?_⟩
    have ep2 := R5.get mupd_same
    have fin : ∀ (rs' : List (List Nat)) (M4 : MS), rs'.length = n + 1 → (∀ r ∈ rs', RowOk (n + 2) r) → RnAt (mupd M0 p (.lst ((rs' ++ [[]]).map enR))) a M4 → ∃ M2, DL.Sub M2 (mdel M4 p) ∧ R (.lst ((rs' ++ [[]]).map enR)) M2 := fun rs' M4 e1 e2 R6 => by
      have R7 := R6.del mupd_same
      rw [mdel_mupd hp0] at R7
      refine ⟨_, DL.Sub.refl _, h (rs' ++ [[]]) _ ⟨by simp, fun r hr' q hq => ?_, fun r hr' => ?_, by simp; omega⟩ R7⟩
      · rw [List.length_append, e1]
        rcases List.mem_append.mp hr' with z | z
        · exact (e2 r z).1 q hq
        · rw [List.mem_singleton.mp z] at hq; cases hq
      · rcases List.mem_append.mp hr' with z | z
        · exact (e2 r z).2
        · rw [List.mem_singleton.mp z]; exact .nil
    have wide : ∀ r, RowOk (n + 1) r → RowOk (n + 2) r := fun r q => ⟨fun z hz => Nat.lt_succ_of_lt (q.1 z hz), q.2⟩
    (try simp only [↓e_var0, ↓e_varS, ↓e_C, ↓e_op, ↓e_un, ↓e_cb, ↓e_nil, ↓e_cons, ↓e_tup, ↓e_lst, ↓e_lstM, ↓e_frz, ↓e_B, ↓e_bl, ↓e_andT, ↓e_orT, ↓e_notT, ↓e_andV, ↓e_orV, ↓e_notV, ↓e_ifE, ↓e_tru, ↓e_slice, ↓e_noPart, ↓e_part, ↓e_partV, ↓e_bm, ↓e_bm0, ↓e_ty_lst, ↓e_ty_str, ↓e_next, ↓e_seq, ↓e_break, ↓e_cont, ↓e_drop, ↓e_ret, ↓e_retN, ↓e_ifS, ↓e_asg, ↓e_gname, ↓e_put0, ↓e_putS, ↓e_aug, ↓e_gsub, ↓e_gtup2, ↓e_I, ↓e_Ic, ↓e_add, ↓e_addS, ↓e_addL, ↓e_addT, ↓e_mul, ↓e_eqI, ↓e_eqS, ↓e_eqB, ↓e_ix_lst, ↓e_ix_tup, ↓e_at0, ↓e_at1, ↓e_at2, ↓e_at3, ↓e_sa0, ↓e_sa1, ↓e_sa2, ↓e_sa3, ↓e_len_lst, ↓e_len_tup, ↓e_len_str, ↓e_abs, ↓e_int, ↓e_str, ↓e_ilst, ↓e_il, ↓e_irl, ↓e_irng1, ↓e_irV, ↓e_irng2, ↓e_irV2, ↓e_yes, ↓u_frzV, ↓u_ty, ↓u_setL, ↓u_ix, ↓u_len, ↓u_append, ↓u_pop, ↓u_iref, ↓e_isi, ↓e_strS, ↓e_dnew, ↓e_dget, ↓e_dput, ↓e_sc, ↓e_dcN, ↓e_rank, ↓e_inLN, ↓e_izipR, ↓e_ienum, ↓e_while, ↓mupd_mupd, ↓e_for, ↓e_lc, ↓e_lcM, ↓e_wipe, ↓e_wipe0, ↓e_frzV ep2, ↓e_ty_ref ep2, ↓e_setL ep2, ↓e_ix_ref ep2, ↓e_len_ref ep2, ↓e_append ep2, ↓e_pop ep2, ↓e_iref ep2, eq_self_iff_true, true_and, List.set_cons_zero, List.set_cons_succ, id_eq, ↓reduceIte, Bool.false_eq_true, Bool.not_true, Bool.not_false])
    split
    · rename_i c
      have c' := of_decide_eq_true c
      obtain ⟨b, rfl⟩ : ∃ b : Nat, n3 = (b : Int) := ⟨n3.toNat, by omega⟩
      have hb : b < rs.length := by omega
      rw [at_map (List.getElem?_eq_getElem hb)]
      have rb := hrs _ (List.getElem_mem hb)
      have rbl : rs[b].length ≤ n + 1 := by
        have nd0 : rs[b].Nodup := rb.2.imp fun h => Nat.ne_of_lt h
        have := nat_nodup_len rs[b] (List.range (n + 1)) nd0 fun v hv => List.mem_range.mpr (rb.1 v hv)
        rwa [List.length_range] at this
      rw [show enR rs[b] = .lst (rs[b].map fun n : Nat => D.int n) from rfl]
      (try simp only [↓e_var0, ↓e_varS, ↓e_C, ↓e_op, ↓e_un, ↓e_cb, ↓e_nil, ↓e_cons, ↓e_tup, ↓e_lst, ↓e_lstM, ↓e_frz, ↓e_B, ↓e_bl, ↓e_andT, ↓e_orT, ↓e_notT, ↓e_andV, ↓e_orV, ↓e_notV, ↓e_ifE, ↓e_tru, ↓e_slice, ↓e_noPart, ↓e_part, ↓e_partV, ↓e_bm, ↓e_bm0, ↓e_ty_lst, ↓e_ty_str, ↓e_next, ↓e_seq, ↓e_break, ↓e_cont, ↓e_drop, ↓e_ret, ↓e_retN, ↓e_ifS, ↓e_asg, ↓e_gname, ↓e_put0, ↓e_putS, ↓e_aug, ↓e_gsub, ↓e_gtup2, ↓e_I, ↓e_Ic, ↓e_add, ↓e_addS, ↓e_addL, ↓e_addT, ↓e_mul, ↓e_eqI, ↓e_eqS, ↓e_eqB, ↓e_ix_lst, ↓e_ix_tup, ↓e_at0, ↓e_at1, ↓e_at2, ↓e_at3, ↓e_sa0, ↓e_sa1, ↓e_sa2, ↓e_sa3, ↓e_len_lst, ↓e_len_tup, ↓e_len_str, ↓e_abs, ↓e_int, ↓e_str, ↓e_ilst, ↓e_il, ↓e_irl, ↓e_irng1, ↓e_irV, ↓e_irng2, ↓e_irV2, ↓e_yes, ↓u_frzV, ↓u_ty, ↓u_setL, ↓u_ix, ↓u_len, ↓u_append, ↓u_pop, ↓u_iref, ↓e_isi, ↓e_strS, ↓e_dnew, ↓e_dget, ↓e_dput, ↓e_sc, ↓e_dcN, ↓e_rank, ↓e_inLN, ↓e_izipR, ↓e_ienum, ↓e_while, ↓mupd_mupd, ↓e_for, ↓e_lc, ↓e_lcM, ↓e_wipe, ↓e_wipe0, ↓e_frzV ep2, ↓e_ty_ref ep2, ↓e_setL ep2, ↓e_ix_ref ep2, ↓e_len_ref ep2, ↓e_append ep2, ↓e_pop ep2, ↓e_iref ep2, eq_self_iff_true, true_and, List.set_cons_zero, List.set_cons_succ, id_eq, ↓reduceIte, Bool.false_eq_true, Bool.not_true, Bool.not_false])
      refine ⟨small_line (by simp), small_line (by simp; omega), ?_⟩
      rw [e_sa (show b < (rs.map enR).length by rw [List.length_map]; exact hb)]
      (try simp only [↓e_var0, ↓e_varS, ↓e_C, ↓e_op, ↓e_un, ↓e_cb, ↓e_nil, ↓e_cons, ↓e_tup, ↓e_lst, ↓e_lstM, ↓e_frz, ↓e_B, ↓e_bl, ↓e_andT, ↓e_orT, ↓e_notT, ↓e_andV, ↓e_orV, ↓e_notV, ↓e_ifE, ↓e_tru, ↓e_slice, ↓e_noPart, ↓e_part, ↓e_partV, ↓e_bm, ↓e_bm0, ↓e_ty_lst, ↓e_ty_str, ↓e_next, ↓e_seq, ↓e_break, ↓e_cont, ↓e_drop, ↓e_ret, ↓e_retN, ↓e_ifS, ↓e_asg, ↓e_gname, ↓e_put0, ↓e_putS, ↓e_aug, ↓e_gsub, ↓e_gtup2, ↓e_I, ↓e_Ic, ↓e_add, ↓e_addS, ↓e_addL, ↓e_addT, ↓e_mul, ↓e_eqI, ↓e_eqS, ↓e_eqB, ↓e_ix_lst, ↓e_ix_tup, ↓e_at0, ↓e_at1, ↓e_at2, ↓e_at3, ↓e_sa0, ↓e_sa1, ↓e_sa2, ↓e_sa3, ↓e_len_lst, ↓e_len_tup, ↓e_len_str, ↓e_abs, ↓e_int, ↓e_str, ↓e_ilst, ↓e_il, ↓e_irl, ↓e_irng1, ↓e_irV, ↓e_irng2, ↓e_irV2, ↓e_yes, ↓u_frzV, ↓u_ty, ↓u_setL, ↓u_ix, ↓u_len, ↓u_append, ↓u_pop, ↓u_iref, ↓e_isi, ↓e_strS, ↓e_dnew, ↓e_dget, ↓e_dput, ↓e_sc, ↓e_dcN, ↓e_rank, ↓e_inLN, ↓e_izipR, ↓e_ienum, ↓e_while, ↓mupd_mupd, ↓e_for, ↓e_lc, ↓e_lcM, ↓e_wipe, ↓e_wipe0, eq_self_iff_true, true_and, List.set_cons_zero, List.set_cons_succ, id_eq, ↓reduceIte, Bool.false_eq_true, Bool.not_true, Bool.not_false])
      refine ⟨small_line (by simp), by rw [List.length_set, List.length_map]; exact small_line' (by omega), ?_⟩
      have e1 : (rs.map enR).set b (.lst (rs[b].map (fun n : Nat => D.int n) ++ [.int ((n + 1 : Nat) : Int)])) ++ [.lst []] = (rs.set b (rs[b] ++ [n + 1]) ++ [[]]).map enR := by
        rw [List.map_append, List.map_set]
        have : enR (rs[b] ++ [n + 1]) = .lst (rs[b].map (fun n : Nat => D.int n) ++ [.int ((n + 1 : Nat) : Int)]) := by
          unfold enR
          rw [List.map_append]
          rfl
        rw [this]
        rfl
      rw [e1]
      refine fin (rs.set b (rs[b] ++ [n + 1])) _ (by rw [List.length_set]; exact hrl) (fun r hr' => ?_) ?_
      · rcases List.mem_or_eq_of_mem_set hr' with z | z
        · exact wide r (hrs r z)
        · rw [z]
          refine ⟨fun v hv => ?_, List.pairwise_append.mpr ⟨rb.2, List.pairwise_singleton _ _, fun v hv u hu => ?_⟩⟩
          · rcases List.mem_append.mp hv with y | y
            · exact Nat.lt_succ_of_lt (rb.1 v y)
            · rw [List.mem_singleton.mp y]; omega
          · rw [List.mem_singleton.mp hu]; exact rb.1 v hv
      · have R6 := R5.upd (u := .lst ((rs.set b (rs[b] ++ [n + 1]) ++ [[]]).map enR)) mupd_same
        rw [mupd_mupd] at R6
        exact R6
    · refine ⟨small_line (by simp), by rw [List.length_map]; exact small_line' (by omega), ?_⟩
      have e1 : rs.map enR ++ [.lst []] = (rs ++ [[]]).map enR := by rw [List.map_append]; rfl
      rw [e1]
      refine fin rs _ hrl (fun r hr' => wide r (hrs r hr')) ?_
      have R6 := R5.upd (u := .lst ((rs ++ [[]]).map enR)) mupd_same
      rw [mupd_mupd] at R6
      exact R6
theorem ok_wide {f : Addr} {fd : FuncData} {k : Nat} (F : Fun K "_law_wide" "_law_wide" s_law_wide f fd) (B : Bt mg) (c__law_draw : CalX P w K mg base "_law_draw" 1 spDraw) : FnOk P w K mg base CX0 (1 + 1) f fd p_law_wide (spOf K spWide) := by
  refine dfnW F sc_law_wide (fun ds M R h => ?_) (fun cdv A outer s H E ds M R hr h => ?_)
  · obtain ⟨a, M0, rfl, _⟩ := h
    rfl
  · have nd := sc_law_wide.nd
    refine ⟨_, (dss_cons (ds_set (i := 1) nd rfl (.inr rfl) (d_add d_int (d_callX c__law_draw hr rfl (da_cons (dv 0) (da_cons (d_sub_ix (d_lst (da_cons d_int (da_cons d_int (da_cons d_int da_nil)))) (d_callX c__law_draw hr rfl (da_cons (dv 0) (da_cons d_int da_nil)))) da_nil)))))
(dss_cons (ds_set (i := 2) nd rfl (.inl rfl) (d_lstM da_nil))
(dss_cons (ds_for PassesOwn.never rfl (di_rng1 (pi_range1 rfl B.range (da_cons (dv 1) da_nil))) (dg_name (i := 3) nd rfl (.inl rfl))
(dss_cons (ds_set (i := 4) nd rfl (.inl rfl) (d_callX c__law_draw hr rfl (da_cons (dv 0) (da_cons d_int da_nil))))
(dss_one (ds_expr (d_append (dv 2) (da_cons (d_sortedSet hr rfl B.sorted rfl B.set rfl (da_cons (d_lc (lfg_name (i := 5) (by decide)) (pe_lc (own := [("k", 5)]) rfl nd (di_rng1 (pi_range1 rfl B.range (da_cons (dv 4) da_nil))) (blkOk_by (own := [("k", 5)]) (N := n_law_wide) (by rfl)) (fun _ _ _ _ _ => (pg_name (i := 5) nd rfl (.inl rfl))) (fun _ _ _ _ _ => dts_nil) (fun _ _ _ _ _ => (d_intC rfl B.int (da_cons (d_callX c__law_draw hr rfl (da_cons (dv 0) (da_cons (dv 1) da_nil))) da_nil))))) da_nil)) da_nil))))))
(dss_one (ds_ret (d_frz (dv 2))))))), ?_⟩
    obtain ⟨a, M0, rfl, hR, h⟩ := h
    simp only [dstart, List.map, List.length, List.replicate, List.cons_append, List.nil_append]
    (try simp only [↓e_var0, ↓e_varS, ↓e_C, ↓e_op, ↓e_un, ↓e_cb, ↓e_nil, ↓e_cons, ↓e_tup, ↓e_lst, ↓e_lstM, ↓e_frz, ↓e_B, ↓e_bl, ↓e_andT, ↓e_orT, ↓e_notT, ↓e_andV, ↓e_orV, ↓e_notV, ↓e_ifE, ↓e_tru, ↓e_slice, ↓e_noPart, ↓e_part, ↓e_partV, ↓e_bm, ↓e_bm0, ↓e_ty_lst, ↓e_ty_str, ↓e_next, ↓e_seq, ↓e_break, ↓e_cont, ↓e_drop, ↓e_ret, ↓e_retN, ↓e_ifS, ↓e_asg, ↓e_gname, ↓e_put0, ↓e_putS, ↓e_aug, ↓e_gsub, ↓e_gtup2, ↓e_I, ↓e_Ic, ↓e_add, ↓e_addS, ↓e_addL, ↓e_addT, ↓e_mul, ↓e_eqI, ↓e_eqS, ↓e_eqB, ↓e_ix_lst, ↓e_ix_tup, ↓e_at0, ↓e_at1, ↓e_at2, ↓e_at3, ↓e_sa0, ↓e_sa1, ↓e_sa2, ↓e_sa3, ↓e_len_lst, ↓e_len_tup, ↓e_len_str, ↓e_abs, ↓e_int, ↓e_str, ↓e_ilst, ↓e_il, ↓e_irl, ↓e_irng1, ↓e_irV, ↓e_irng2, ↓e_irV2, ↓e_yes, ↓u_frzV, ↓u_ty, ↓u_setL, ↓u_ix, ↓u_len, ↓u_append, ↓u_pop, ↓u_iref, ↓e_isi, ↓e_strS, ↓e_dnew, ↓e_dget, ↓e_dput, ↓e_sc, ↓e_dcN, ↓e_rank, ↓e_inLN, ↓e_izipR, ↓e_ienum, ↓e_while, ↓mupd_mupd, ↓e_for, ↓e_lc, ↓e_lcM, ↓e_wipe, ↓e_wipe0, eq_self_iff_true, true_and, List.set_cons_zero, List.set_cons_succ, id_eq, ↓reduceIte, Bool.false_eq_true, Bool.not_true, Bool.not_false])
    refine ⟨small_line (by simp), ?_⟩
    refine ⟨a, 3, M0, rfl, by decide, by decide, hR, fun n0 M1 l0 u0 R1 => ?_⟩
    (try simp only [↓e_var0, ↓e_varS, ↓e_C, ↓e_op, ↓e_un, ↓e_cb, ↓e_nil, ↓e_cons, ↓e_tup, ↓e_lst, ↓e_lstM, ↓e_frz, ↓e_B, ↓e_bl, ↓e_andT, ↓e_orT, ↓e_notT, ↓e_andV, ↓e_orV, ↓e_notV, ↓e_ifE, ↓e_tru, ↓e_slice, ↓e_noPart, ↓e_part, ↓e_partV, ↓e_bm, ↓e_bm0, ↓e_ty_lst, ↓e_ty_str, ↓e_next, ↓e_seq, ↓e_break, ↓e_cont, ↓e_drop, ↓e_ret, ↓e_retN, ↓e_ifS, ↓e_asg, ↓e_gname, ↓e_put0, ↓e_putS, ↓e_aug, ↓e_gsub, ↓e_gtup2, ↓e_I, ↓e_Ic, ↓e_add, ↓e_addS, ↓e_addL, ↓e_addT, ↓e_mul, ↓e_eqI, ↓e_eqS, ↓e_eqB, ↓e_ix_lst, ↓e_ix_tup, ↓e_at0, ↓e_at1, ↓e_at2, ↓e_at3, ↓e_sa0, ↓e_sa1, ↓e_sa2, ↓e_sa3, ↓e_len_lst, ↓e_len_tup, ↓e_len_str, ↓e_abs, ↓e_int, ↓e_str, ↓e_ilst, ↓e_il, ↓e_irl, ↓e_irng1, ↓e_irV, ↓e_irng2, ↓e_irV2, ↓e_yes, ↓u_frzV, ↓u_ty, ↓u_setL, ↓u_ix, ↓u_len, ↓u_append, ↓u_pop, ↓u_iref, ↓e_isi, ↓e_strS, ↓e_dnew, ↓e_dget, ↓e_dput, ↓e_sc, ↓e_dcN, ↓e_rank, ↓e_inLN, ↓e_izipR, ↓e_ienum, ↓e_while, ↓mupd_mupd, ↓e_for, ↓e_lc, ↓e_lcM, ↓e_wipe, ↓e_wipe0, eq_self_iff_true, true_and, List.set_cons_zero, List.set_cons_succ, id_eq, ↓reduceIte, Bool.false_eq_true, Bool.not_true, Bool.not_false])
    have pick : ∃ m : Int, 0 < m ∧ m ≤ 90 ∧ atI [D.int 20, D.int 20, D.int 90] n0 = some (.int m) := by
      have : n0 = 0 ∨ n0 = 1 ∨ n0 = 2 := by omega
      rcases this with rfl | rfl | rfl
      · exact ⟨20, by decide, by decide, rfl⟩
      · exact ⟨20, by decide, by decide, rfl⟩
      · exact ⟨90, by decide, by decide, rfl⟩
    obtain ⟨m, m1, m2, e0⟩ := pick
    refine ⟨_, e0, ?_⟩
    (try simp only [↓e_var0, ↓e_varS, ↓e_C, ↓e_op, ↓e_un, ↓e_cb, ↓e_nil, ↓e_cons, ↓e_tup, ↓e_lst, ↓e_lstM, ↓e_frz, ↓e_B, ↓e_bl, ↓e_andT, ↓e_orT, ↓e_notT, ↓e_andV, ↓e_orV, ↓e_notV, ↓e_ifE, ↓e_tru, ↓e_slice, ↓e_noPart, ↓e_part, ↓e_partV, ↓e_bm, ↓e_bm0, ↓e_ty_lst, ↓e_ty_str, ↓e_next, ↓e_seq, ↓e_break, ↓e_cont, ↓e_drop, ↓e_ret, ↓e_retN, ↓e_ifS, ↓e_asg, ↓e_gname, ↓e_put0, ↓e_putS, ↓e_aug, ↓e_gsub, ↓e_gtup2, ↓e_I, ↓e_Ic, ↓e_add, ↓e_addS, ↓e_addL, ↓e_addT, ↓e_mul, ↓e_eqI, ↓e_eqS, ↓e_eqB, ↓e_ix_lst, ↓e_ix_tup, ↓e_at0, ↓e_at1, ↓e_at2, ↓e_at3, ↓e_sa0, ↓e_sa1, ↓e_sa2, ↓e_sa3, ↓e_len_lst, ↓e_len_tup, ↓e_len_str, ↓e_abs, ↓e_int, ↓e_str, ↓e_ilst, ↓e_il, ↓e_irl, ↓e_irng1, ↓e_irV, ↓e_irng2, ↓e_irV2, ↓e_yes, ↓u_frzV, ↓u_ty, ↓u_setL, ↓u_ix, ↓u_len, ↓u_append, ↓u_pop, ↓u_iref, ↓e_isi, ↓e_strS, ↓e_dnew, ↓e_dget, ↓e_dput, ↓e_sc, ↓e_dcN, ↓e_rank, ↓e_inLN, ↓e_izipR, ↓e_ienum, ↓e_while, ↓mupd_mupd, ↓e_for, ↓e_lc, ↓e_lcM, ↓e_wipe, ↓e_wipe0, eq_self_iff_true, true_and, List.set_cons_zero, List.set_cons_succ, id_eq, ↓reduceIte, Bool.false_eq_true, Bool.not_true, Bool.not_false])
    refine ⟨a, m, M0, rfl, by omega, by omega, R1, fun n1 M2 l1 u1 R2 => ?_⟩
    (try simp only [↓e_var0, ↓e_varS, ↓e_C, ↓e_op, ↓e_un, ↓e_cb, ↓e_nil, ↓e_cons, ↓e_tup, ↓e_lst, ↓e_lstM, ↓e_frz, ↓e_B, ↓e_bl, ↓e_andT, ↓e_orT, ↓e_notT, ↓e_andV, ↓e_orV, ↓e_notV, ↓e_ifE, ↓e_tru, ↓e_slice, ↓e_noPart, ↓e_part, ↓e_partV, ↓e_bm, ↓e_bm0, ↓e_ty_lst, ↓e_ty_str, ↓e_next, ↓e_seq, ↓e_break, ↓e_cont, ↓e_drop, ↓e_ret, ↓e_retN, ↓e_ifS, ↓e_asg, ↓e_gname, ↓e_put0, ↓e_putS, ↓e_aug, ↓e_gsub, ↓e_gtup2, ↓e_I, ↓e_Ic, ↓e_add, ↓e_addS, ↓e_addL, ↓e_addT, ↓e_mul, ↓e_eqI, ↓e_eqS, ↓e_eqB, ↓e_ix_lst, ↓e_ix_tup, ↓e_at0, ↓e_at1, ↓e_at2, ↓e_at3, ↓e_sa0, ↓e_sa1, ↓e_sa2, ↓e_sa3, ↓e_len_lst, ↓e_len_tup, ↓e_len_str, ↓e_abs, ↓e_int, ↓e_str, ↓e_ilst, ↓e_il, ↓e_irl, ↓e_irng1, ↓e_irV, ↓e_irng2, ↓e_irV2, ↓e_yes, ↓u_frzV, ↓u_ty, ↓u_setL, ↓u_ix, ↓u_len, ↓u_append, ↓u_pop, ↓u_iref, ↓e_isi, ↓e_strS, ↓e_dnew, ↓e_dget, ↓e_dput, ↓e_sc, ↓e_dcN, ↓e_rank, ↓e_inLN, ↓e_izipR, ↓e_ienum, ↓e_while, ↓mupd_mupd, ↓e_for, ↓e_lc, ↓e_lcM, ↓e_wipe, ↓e_wipe0, eq_self_iff_true, true_and, List.set_cons_zero, List.set_cons_succ, id_eq, ↓reduceIte, Bool.false_eq_true, Bool.not_true, Bool.not_false])
    refine ⟨Nat.zero_le _, fun p hp => ?_⟩
    obtain ⟨N, hN⟩ : ∃ N : Nat, 12 + n1 = (N : Int) := ⟨(12 + n1).toNat, by omega⟩
    rw [hN, Int.toNat_natCast]
    refine ⟨by omega, by omega, ?_⟩
    have hp0 : M0 p = none := R2.free hp
    have R3 := R2.new (o := .lst (([] : List (List Nat)).map enR)) hp
    refine for_typed (List.range N) (fun i ρ M => ∃ (o1 o2 o3 : Option D) (rs : List (List Nat)), ρ = [some (.ref a), some (.int N), some (.ref p), o1, o2, o3] ∧ RnAt (mupd M0 p (.lst (rs.map enR))) a M ∧ rs.length = i ∧ ∀ r ∈ rs, RowOk N r)
      ⟨none, none, none, [], rfl, R3, rfl, fun _ h => nomatch h⟩ (fun _ _ _ _ _ => trivial) (fun x y ρ M hx hW => ?_) (fun ρ M hW => ?_)
    · obtain ⟨o1, o2, o3, rs, rfl, R4, hrl, hrs⟩ := hW
      obtain ⟨rfl, hi⟩ := range_get hx
      (try simp only [↓e_var0, ↓e_varS, ↓e_C, ↓e_op, ↓e_un, ↓e_cb, ↓e_nil, ↓e_cons, ↓e_tup, ↓e_lst, ↓e_lstM, ↓e_frz, ↓e_B, ↓e_bl, ↓e_andT, ↓e_orT, ↓e_notT, ↓e_andV, ↓e_orV, ↓e_notV, ↓e_ifE, ↓e_tru, ↓e_slice, ↓e_noPart, ↓e_part, ↓e_partV, ↓e_bm, ↓e_bm0, ↓e_ty_lst, ↓e_ty_str, ↓e_next, ↓e_seq, ↓e_break, ↓e_cont, ↓e_drop, ↓e_ret, ↓e_retN, ↓e_ifS, ↓e_asg, ↓e_gname, ↓e_put0, ↓e_putS, ↓e_aug, ↓e_gsub, ↓e_gtup2, ↓e_I, ↓e_Ic, ↓e_add, ↓e_addS, ↓e_addL, ↓e_addT, ↓e_mul, ↓e_eqI, ↓e_eqS, ↓e_eqB, ↓e_ix_lst, ↓e_ix_tup, ↓e_at0, ↓e_at1, ↓e_at2, ↓e_at3, ↓e_sa0, ↓e_sa1, ↓e_sa2, ↓e_sa3, ↓e_len_lst, ↓e_len_tup, ↓e_len_str, ↓e_abs, ↓e_int, ↓e_str, ↓e_ilst, ↓e_il, ↓e_irl, ↓e_irng1, ↓e_irV, ↓e_irng2, ↓e_irV2, ↓e_yes, ↓u_frzV, ↓u_ty, ↓u_setL, ↓u_ix, ↓u_len, ↓u_append, ↓u_pop, ↓u_iref, ↓e_isi, ↓e_strS, ↓e_dnew, ↓e_dget, ↓e_dput, ↓e_sc, ↓e_dcN, ↓e_rank, ↓e_inLN, ↓e_izipR, ↓e_ienum, ↓e_while, ↓mupd_mupd, ↓e_for, ↓e_lc, ↓e_lcM, ↓e_wipe, ↓e_wipe0, eq_self_iff_true, true_and, List.set_cons_zero, List.set_cons_succ, id_eq, ↓reduceIte, Bool.false_eq_true, Bool.not_true, Bool.not_false])
      refine ⟨a, 4, _, rfl, by decide, by decide, R4, fun n2 M3 l2 u2 R5 => ?_⟩
      have ep := R5.get mupd_same
      (try simp only [↓e_var0, ↓e_varS, ↓e_C, ↓e_op, ↓e_un, ↓e_cb, ↓e_nil, ↓e_cons, ↓e_tup, ↓e_lst, ↓e_lstM, ↓e_frz, ↓e_B, ↓e_bl, ↓e_andT, ↓e_orT, ↓e_notT, ↓e_andV, ↓e_orV, ↓e_notV, ↓e_ifE, ↓e_tru, ↓e_slice, ↓e_noPart, ↓e_part, ↓e_partV, ↓e_bm, ↓e_bm0, ↓e_ty_lst, ↓e_ty_str, ↓e_next, ↓e_seq, ↓e_break, ↓e_cont, ↓e_drop, ↓e_ret, ↓e_retN, ↓e_ifS, ↓e_asg, ↓e_gname, ↓e_put0, ↓e_putS, ↓e_aug, ↓e_gsub, ↓e_gtup2, ↓e_I, ↓e_Ic, ↓e_add, ↓e_addS, ↓e_addL, ↓e_addT, ↓e_mul, ↓e_eqI, ↓e_eqS, ↓e_eqB, ↓e_ix_lst, ↓e_ix_tup, ↓e_at0, ↓e_at1, ↓e_at2, ↓e_at3, ↓e_sa0, ↓e_sa1, ↓e_sa2, ↓e_sa3, ↓e_len_lst, ↓e_len_tup, ↓e_len_str, ↓e_abs, ↓e_int, ↓e_str, ↓e_ilst, ↓e_il, ↓e_irl, ↓e_irng1, ↓e_irV, ↓e_irng2, ↓e_irV2, ↓e_yes, ↓u_frzV, ↓u_ty, ↓u_setL, ↓u_ix, ↓u_len, ↓u_append, ↓u_pop, ↓u_iref, ↓e_isi, ↓e_strS, ↓e_dnew, ↓e_dget, ↓e_dput, ↓e_sc, ↓e_dcN, ↓e_rank, ↓e_inLN, ↓e_izipR, ↓e_ienum, ↓e_while, ↓mupd_mupd, ↓e_for, ↓e_lc, ↓e_lcM, ↓e_wipe, ↓e_wipe0, ↓e_frzV ep, ↓e_ty_ref ep, ↓e_setL ep, ↓e_ix_ref ep, ↓e_len_ref ep, ↓e_append ep, ↓e_pop ep, ↓e_iref ep, eq_self_iff_true, true_and, List.set_cons_zero, List.set_cons_succ, id_eq, ↓reduceIte, Bool.false_eq_true, Bool.not_true, Bool.not_false])
      refine ⟨by omega, by omega, ?_⟩
      refine lc_inv (List.range n2.toNat) (fun i acc M => RnAt (mupd M0 p (.lst (rs.map enR))) a M ∧ ∃ js : List Nat, acc = (js.map (fun k : Nat => (k : Int))).map D.int ∧ js.length = i ∧ ∀ z ∈ js, z < N) ⟨R5, [], rfl, rfl, fun _ h => nomatch h⟩ (fun _ _ _ _ _ => trivial) (fun i z acc M hz hV => ?_) (fun acc M hV => ?_)
      · obtain ⟨R6, js, rfl, jl, jlt⟩ := hV
        have hi2 : i < n2.toNat := (range_get hz).2
        (try simp only [↓e_var0, ↓e_varS, ↓e_C, ↓e_op, ↓e_un, ↓e_cb, ↓e_nil, ↓e_cons, ↓e_tup, ↓e_lst, ↓e_lstM, ↓e_frz, ↓e_B, ↓e_bl, ↓e_andT, ↓e_orT, ↓e_notT, ↓e_andV, ↓e_orV, ↓e_notV, ↓e_ifE, ↓e_tru, ↓e_slice, ↓e_noPart, ↓e_part, ↓e_partV, ↓e_bm, ↓e_bm0, ↓e_ty_lst, ↓e_ty_str, ↓e_next, ↓e_seq, ↓e_break, ↓e_cont, ↓e_drop, ↓e_ret, ↓e_retN, ↓e_ifS, ↓e_asg, ↓e_gname, ↓e_put0, ↓e_putS, ↓e_aug, ↓e_gsub, ↓e_gtup2, ↓e_I, ↓e_Ic, ↓e_add, ↓e_addS, ↓e_addL, ↓e_addT, ↓e_mul, ↓e_eqI, ↓e_eqS, ↓e_eqB, ↓e_ix_lst, ↓e_ix_tup, ↓e_at0, ↓e_at1, ↓e_at2, ↓e_at3, ↓e_sa0, ↓e_sa1, ↓e_sa2, ↓e_sa3, ↓e_len_lst, ↓e_len_tup, ↓e_len_str, ↓e_abs, ↓e_int, ↓e_str, ↓e_ilst, ↓e_il, ↓e_irl, ↓e_irng1, ↓e_irV, ↓e_irng2, ↓e_irV2, ↓e_yes, ↓u_frzV, ↓u_ty, ↓u_setL, ↓u_ix, ↓u_len, ↓u_append, ↓u_pop, ↓u_iref, ↓e_isi, ↓e_strS, ↓e_dnew, ↓e_dget, ↓e_dput, ↓e_sc, ↓e_dcN, ↓e_rank, ↓e_inLN, ↓e_izipR, ↓e_ienum, ↓e_while, ↓mupd_mupd, ↓e_for, ↓e_lc, ↓e_lcM, ↓e_wipe, ↓e_wipe0, eq_self_iff_true, true_and, List.set_cons_zero, List.set_cons_succ, id_eq, ↓reduceIte, Bool.false_eq_true, Bool.not_true, Bool.not_false])
        refine ⟨a, N, _, rfl, by omega, by omega, R6, fun n3 M4 l3 u3 R7 => ?_⟩
        obtain ⟨d, rfl⟩ : ∃ d : Nat, n3 = (d : Int) := ⟨n3.toNat, by omega⟩
        (try simp only [↓e_var0, ↓e_varS, ↓e_C, ↓e_op, ↓e_un, ↓e_cb, ↓e_nil, ↓e_cons, ↓e_tup, ↓e_lst, ↓e_lstM, ↓e_frz, ↓e_B, ↓e_bl, ↓e_andT, ↓e_orT, ↓e_notT, ↓e_andV, ↓e_orV, ↓e_notV, ↓e_ifE, ↓e_tru, ↓e_slice, ↓e_noPart, ↓e_part, ↓e_partV, ↓e_bm, ↓e_bm0, ↓e_ty_lst, ↓e_ty_str, ↓e_next, ↓e_seq, ↓e_break, ↓e_cont, ↓e_drop, ↓e_ret, ↓e_retN, ↓e_ifS, ↓e_asg, ↓e_gname, ↓e_put0, ↓e_putS, ↓e_aug, ↓e_gsub, ↓e_gtup2, ↓e_I, ↓e_Ic, ↓e_add, ↓e_addS, ↓e_addL, ↓e_addT, ↓e_mul, ↓e_eqI, ↓e_eqS, ↓e_eqB, ↓e_ix_lst, ↓e_ix_tup, ↓e_at0, ↓e_at1, ↓e_at2, ↓e_at3, ↓e_sa0, ↓e_sa1, ↓e_sa2, ↓e_sa3, ↓e_len_lst, ↓e_len_tup, ↓e_len_str, ↓e_abs, ↓e_int, ↓e_str, ↓e_ilst, ↓e_il, ↓e_irl, ↓e_irng1, ↓e_irV, ↓e_irng2, ↓e_irV2, ↓e_yes, ↓u_frzV, ↓u_ty, ↓u_setL, ↓u_ix, ↓u_len, ↓u_append, ↓u_pop, ↓u_iref, ↓e_isi, ↓e_strS, ↓e_dnew, ↓e_dget, ↓e_dput, ↓e_sc, ↓e_dcN, ↓e_rank, ↓e_inLN, ↓e_izipR, ↓e_ienum, ↓e_while, ↓mupd_mupd, ↓e_for, ↓e_lc, ↓e_lcM, ↓e_wipe, ↓e_wipe0, eq_self_iff_true, true_and, List.set_cons_zero, List.set_cons_succ, id_eq, ↓reduceIte, Bool.false_eq_true, Bool.not_true, Bool.not_false])
        refine ⟨by rw [List.length_map, List.length_map]; exact small_line' (by omega), R7, js ++ [d], by rw [List.map_append, List.map_append]; rfl, by simp [jl], fun v hv => ?_⟩
        rcases List.mem_append.mp hv with q | q
        · exact jlt v q
        · rw [List.mem_singleton.mp q]; omega
      · obtain ⟨R6, js, rfl, jl, jlt⟩ := hV
        rw [List.length_range] at jl
        refine ⟨_, _, rfl, rfl, by rw [List.length_map]; omega, fun ns' hs => ?_⟩
        obtain ⟨r, rfl, r1, r2⟩ := isSet_nat hs
        have ep2 := R6.get mupd_same
        (try simp only [↓e_var0, ↓e_varS, ↓e_C, ↓e_op, ↓e_un, ↓e_cb, ↓e_nil, ↓e_cons, ↓e_tup, ↓e_lst, ↓e_lstM, ↓e_frz, ↓e_B, ↓e_bl, ↓e_andT, ↓e_orT, ↓e_notT, ↓e_andV, ↓e_orV, ↓e_notV, ↓e_ifE, ↓e_tru, ↓e_slice, ↓e_noPart, ↓e_part, ↓e_partV, ↓e_bm, ↓e_bm0, ↓e_ty_lst, ↓e_ty_str, ↓e_next, ↓e_seq, ↓e_break, ↓e_cont, ↓e_drop, ↓e_ret, ↓e_retN, ↓e_ifS, ↓e_asg, ↓e_gname, ↓e_put0, ↓e_putS, ↓e_aug, ↓e_gsub, ↓e_gtup2, ↓e_I, ↓e_Ic, ↓e_add, ↓e_addS, ↓e_addL, ↓e_addT, ↓e_mul, ↓e_eqI, ↓e_eqS, ↓e_eqB, ↓e_ix_lst, ↓e_ix_tup, ↓e_at0, ↓e_at1, ↓e_at2, ↓e_at3, ↓e_sa0, ↓e_sa1, ↓e_sa2, ↓e_sa3, ↓e_len_lst, ↓e_len_tup, ↓e_len_str, ↓e_abs, ↓e_int, ↓e_str, ↓e_ilst, ↓e_il, ↓e_irl, ↓e_irng1, ↓e_irV, ↓e_irng2, ↓e_irV2, ↓e_yes, ↓u_frzV, ↓u_ty, ↓u_setL, ↓u_ix, ↓u_len, ↓u_append, ↓u_pop, ↓u_iref, ↓e_isi, ↓e_strS, ↓e_dnew, ↓e_dget, ↓e_dput, ↓e_sc, ↓e_dcN, ↓e_rank, ↓e_inLN, ↓e_izipR, ↓e_ienum, ↓e_while, ↓mupd_mupd, ↓e_for, ↓e_lc, ↓e_lcM, ↓e_wipe, ↓e_wipe0, ↓e_frzV ep2, ↓e_ty_ref ep2, ↓e_setL ep2, ↓e_ix_ref ep2, ↓e_len_ref ep2, ↓e_append ep2, ↓e_pop ep2, ↓e_iref ep2, eq_self_iff_true, true_and, List.set_cons_zero, List.set_cons_succ, id_eq, ↓reduceIte, Bool.false_eq_true, Bool.not_true, Bool.not_false])
        have e1 : rs.map enR ++ [.lst ((r.map (fun k : Nat => (k : Int))).map D.int)] = (rs ++ [r]).map enR := by rw [List.map_append, ← nats_ints]; rfl
        rw [e1]
        have R7 := R6.upd (u := .lst ((rs ++ [r]).map enR)) mupd_same
        rw [mupd_mupd] at R7
        refine ⟨by rw [List.length_map]; exact small_line' (by omega), _, _, _, rs ++ [r], rfl, R7, by simp [hrl], fun z hz => ?_⟩
        rcases List.mem_append.mp hz with q | q
        · exact hrs z q
        · rw [List.mem_singleton.mp q]
          exact ⟨fun v hv => jlt v ((r2 v).mp hv), r1⟩
    · obtain ⟨o1, o2, o3, rs, rfl, R4, hrl, hrs⟩ := hW
      rw [List.length_range] at hrl
      have ep := R4.get mupd_same
      (try simp only [↓e_var0, ↓e_varS, ↓e_C, ↓e_op, ↓e_un, ↓e_cb, ↓e_nil, ↓e_cons, ↓e_tup, ↓e_lst, ↓e_lstM, ↓e_frz, ↓e_B, ↓e_bl, ↓e_andT, ↓e_orT, ↓e_notT, ↓e_andV, ↓e_orV, ↓e_notV, ↓e_ifE, ↓e_tru, ↓e_slice, ↓e_noPart, ↓e_part, ↓e_partV, ↓e_bm, ↓e_bm0, ↓e_ty_lst, ↓e_ty_str, ↓e_next, ↓e_seq, ↓e_break, ↓e_cont, ↓e_drop, ↓e_ret, ↓e_retN, ↓e_ifS, ↓e_asg, ↓e_gname, ↓e_put0, ↓e_putS, ↓e_aug, ↓e_gsub, ↓e_gtup2, ↓e_I, ↓e_Ic, ↓e_add, ↓e_addS, ↓e_addL, ↓e_addT, ↓e_mul, ↓e_eqI, ↓e_eqS, ↓e_eqB, ↓e_ix_lst, ↓e_ix_tup, ↓e_at0, ↓e_at1, ↓e_at2, ↓e_at3, ↓e_sa0, ↓e_sa1, ↓e_sa2, ↓e_sa3, ↓e_len_lst, ↓e_len_tup, ↓e_len_str, ↓e_abs, ↓e_int, ↓e_str, ↓e_ilst, ↓e_il, ↓e_irl, ↓e_irng1, ↓e_irV, ↓e_irng2, ↓e_irV2, ↓e_yes, ↓u_frzV, ↓u_ty, ↓u_setL, ↓u_ix, ↓u_len, ↓u_append, ↓u_pop, ↓u_iref, ↓e_isi, ↓e_strS, ↓e_dnew, ↓e_dget, ↓e_dput, ↓e_sc, ↓e_dcN, ↓e_rank, ↓e_inLN, ↓e_izipR, ↓e_ienum, ↓e_while, ↓mupd_mupd, ↓e_for, ↓e_lc, ↓e_lcM, ↓e_wipe, ↓e_wipe0, ↓e_frzV ep, ↓e_ty_ref ep, ↓e_setL ep, ↓e_ix_ref ep, ↓e_len_ref ep, ↓e_append ep, ↓e_pop ep, ↓e_iref ep, eq_self_iff_true, true_and, List.set_cons_zero, List.set_cons_succ, id_eq, ↓reduceIte, Bool.false_eq_true, Bool.not_true, Bool.not_false])
      have R7 := R4.del mupd_same
      rw [mdel_mupd hp0] at R7
      exact ⟨_, DL.Sub.refl _, h rs _ ⟨by omega, fun r hr' z hz => by rw [hrl]; exact (hrs r hr').1 z hz, fun r hr' => (hrs r hr').2, by omega⟩ R7⟩
def spDrawing : DL := fun ds M R => ∃ a M0, ds = [.ref a] ∧ RnAt M0 a M ∧ ∀ rows M', Drw rows → RnAt M0 a M' → R (enD rows) M'
theorem ok_drawing {f : Addr} {fd : FuncData} {k : Nat} (F : Fun K "_law_drawing" "_law_drawing" s_law_drawing f fd) (B : Bt mg) (c__law_draw : CalX P w K mg base "_law_draw" 1 spDraw) (c__law_free : CalX P w K mg base "_law_free" 2 spFree) (c__law_copies : CalX P w K mg base "_law_copies" 2 spCopies)
    (c__law_long : CalX P w K mg base "_law_long" 2 spLong) (c__law_wide : CalX P w K mg base "_law_wide" 2 spWide) : FnOk P w K mg base CX0 (2 + 1) f fd p_law_drawing (spOf K spDrawing) := by
  refine dfn F sc_law_drawing (fun ds M R h => ?_) (fun cdv A outer s H E ds M R hr h => ?_)
  · obtain ⟨a, M0, rfl, _⟩ := h
    rfl
  · have nd := sc_law_drawing.nd
    refine ⟨_, (dss_cons (ds_set (i := 1) nd rfl (.inl rfl) (d_callX c__law_draw hr rfl (da_cons (dv 0) (da_cons d_int da_nil))))
(dss_cons (ds_if (dt_eq hr (dv 1) d_int)
(dss_one (ds_ret (d_callX c__law_long hr rfl (da_cons (dv 0) (da_cons d_int da_nil)))))
dss_nil)
(dss_cons (ds_if (dt_eq hr (dv 1) d_int)
(dss_one (ds_ret (d_callX c__law_wide hr rfl (da_cons (dv 0) da_nil))))
dss_nil)
(dss_cons (ds_if (dt_eq hr (dv 1) d_int)
(dss_one (ds_ret (d_callX c__law_copies hr rfl (da_cons (dv 0) (da_cons (d_callX c__law_free hr rfl (da_cons (dv 0) (da_cons d_int da_nil))) (da_cons d_int da_nil))))))
dss_nil)
(dss_cons (ds_if (dt_lt (dv 1) d_int)
(dss_one (ds_ret (d_callX c__law_long hr rfl (da_cons (dv 0) (da_cons d_int da_nil)))))
dss_nil)
(dss_cons (ds_if (dt_lt (dv 1) d_int)
(dss_one (ds_ret (d_callX c__law_free hr rfl (da_cons (dv 0) (da_cons d_int da_nil)))))
dss_nil)
(dss_one (ds_ret (d_callX c__law_copies hr rfl (da_cons (dv 0) (da_cons (d_callX c__law_free hr rfl (da_cons (dv 0) (da_cons d_int da_nil))) (da_cons d_int da_nil)))))))))))), ?_⟩
    obtain ⟨a, M0, rfl, hR, h⟩ := h
    simp only [dstart, List.map, List.length, List.replicate, List.cons_append, List.nil_append]
    (try simp only [↓e_var0, ↓e_varS, ↓e_C, ↓e_op, ↓e_un, ↓e_cb, ↓e_nil, ↓e_cons, ↓e_tup, ↓e_lst, ↓e_lstM, ↓e_frz, ↓e_B, ↓e_bl, ↓e_andT, ↓e_orT, ↓e_notT, ↓e_andV, ↓e_orV, ↓e_notV, ↓e_ifE, ↓e_tru, ↓e_slice, ↓e_noPart, ↓e_part, ↓e_partV, ↓e_bm, ↓e_bm0, ↓e_ty_lst, ↓e_ty_str, ↓e_next, ↓e_seq, ↓e_break, ↓e_cont, ↓e_drop, ↓e_ret, ↓e_retN, ↓e_ifS, ↓e_asg, ↓e_gname, ↓e_put0, ↓e_putS, ↓e_aug, ↓e_gsub, ↓e_gtup2, ↓e_I, ↓e_Ic, ↓e_add, ↓e_addS, ↓e_addL, ↓e_addT, ↓e_mul, ↓e_eqI, ↓e_eqS, ↓e_eqB, ↓e_ix_lst, ↓e_ix_tup, ↓e_at0, ↓e_at1, ↓e_at2, ↓e_at3, ↓e_sa0, ↓e_sa1, ↓e_sa2, ↓e_sa3, ↓e_len_lst, ↓e_len_tup, ↓e_len_str, ↓e_abs, ↓e_int, ↓e_str, ↓e_ilst, ↓e_il, ↓e_irl, ↓e_irng1, ↓e_irV, ↓e_irng2, ↓e_irV2, ↓e_yes, ↓u_frzV, ↓u_ty, ↓u_setL, ↓u_ix, ↓u_len, ↓u_append, ↓u_pop, ↓u_iref, ↓e_isi, ↓e_strS, ↓e_dnew, ↓e_dget, ↓e_dput, ↓e_sc, ↓e_dcN, ↓e_rank, ↓e_inLN, ↓e_izipR, ↓e_ienum, ↓e_while, ↓mupd_mupd, ↓e_for, ↓e_lc, ↓e_lcM, ↓e_wipe, ↓e_wipe0, eq_self_iff_true, true_and, List.set_cons_zero, List.set_cons_succ, id_eq, ↓reduceIte, Bool.false_eq_true, Bool.not_true, Bool.not_false])
    refine ⟨a, 30, M0, rfl, by decide, by decide, hR, fun n0 M1 l0 u0 R1 => ?_⟩
    (try simp only [↓e_var0, ↓e_varS, ↓e_C, ↓e_op, ↓e_un, ↓e_cb, ↓e_nil, ↓e_cons, ↓e_tup, ↓e_lst, ↓e_lstM, ↓e_frz, ↓e_B, ↓e_bl, ↓e_andT, ↓e_orT, ↓e_notT, ↓e_andV, ↓e_orV, ↓e_notV, ↓e_ifE, ↓e_tru, ↓e_slice, ↓e_noPart, ↓e_part, ↓e_partV, ↓e_bm, ↓e_bm0, ↓e_ty_lst, ↓e_ty_str, ↓e_next, ↓e_seq, ↓e_break, ↓e_cont, ↓e_drop, ↓e_ret, ↓e_retN, ↓e_ifS, ↓e_asg, ↓e_gname, ↓e_put0, ↓e_putS, ↓e_aug, ↓e_gsub, ↓e_gtup2, ↓e_I, ↓e_Ic, ↓e_add, ↓e_addS, ↓e_addL, ↓e_addT, ↓e_mul, ↓e_eqI, ↓e_eqS, ↓e_eqB, ↓e_ix_lst, ↓e_ix_tup, ↓e_at0, ↓e_at1, ↓e_at2, ↓e_at3, ↓e_sa0, ↓e_sa1, ↓e_sa2, ↓e_sa3, ↓e_len_lst, ↓e_len_tup, ↓e_len_str, ↓e_abs, ↓e_int, ↓e_str, ↓e_ilst, ↓e_il, ↓e_irl, ↓e_irng1, ↓e_irV, ↓e_irng2, ↓e_irV2, ↓e_yes, ↓u_frzV, ↓u_ty, ↓u_setL, ↓u_ix, ↓u_len, ↓u_append, ↓u_pop, ↓u_iref, ↓e_isi, ↓e_strS, ↓e_dnew, ↓e_dget, ↓e_dput, ↓e_sc, ↓e_dcN, ↓e_rank, ↓e_inLN, ↓e_izipR, ↓e_ienum, ↓e_while, ↓mupd_mupd, ↓e_for, ↓e_lc, ↓e_lcM, ↓e_wipe, ↓e_wipe0, eq_self_iff_true, true_and, List.set_cons_zero, List.set_cons_succ, id_eq, ↓reduceIte, Bool.false_eq_true, Bool.not_true, Bool.not_false])
    split
    · exact ⟨a, 128, M0, rfl, by decide, by decide, R1, h⟩
    split
    · exact ⟨a, M0, rfl, R1, h⟩
    split
    · refine ⟨a, 8, M0, rfl, by decide, by decide, R1, fun rows M2 d hl R2 => ?_⟩
      (try simp only [↓e_var0, ↓e_varS, ↓e_C, ↓e_op, ↓e_un, ↓e_cb, ↓e_nil, ↓e_cons, ↓e_tup, ↓e_lst, ↓e_lstM, ↓e_frz, ↓e_B, ↓e_bl, ↓e_andT, ↓e_orT, ↓e_notT, ↓e_andV, ↓e_orV, ↓e_notV, ↓e_ifE, ↓e_tru, ↓e_slice, ↓e_noPart, ↓e_part, ↓e_partV, ↓e_bm, ↓e_bm0, ↓e_ty_lst, ↓e_ty_str, ↓e_next, ↓e_seq, ↓e_break, ↓e_cont, ↓e_drop, ↓e_ret, ↓e_retN, ↓e_ifS, ↓e_asg, ↓e_gname, ↓e_put0, ↓e_putS, ↓e_aug, ↓e_gsub, ↓e_gtup2, ↓e_I, ↓e_Ic, ↓e_add, ↓e_addS, ↓e_addL, ↓e_addT, ↓e_mul, ↓e_eqI, ↓e_eqS, ↓e_eqB, ↓e_ix_lst, ↓e_ix_tup, ↓e_at0, ↓e_at1, ↓e_at2, ↓e_at3, ↓e_sa0, ↓e_sa1, ↓e_sa2, ↓e_sa3, ↓e_len_lst, ↓e_len_tup, ↓e_len_str, ↓e_abs, ↓e_int, ↓e_str, ↓e_ilst, ↓e_il, ↓e_irl, ↓e_irng1, ↓e_irV, ↓e_irng2, ↓e_irV2, ↓e_yes, ↓u_frzV, ↓u_ty, ↓u_setL, ↓u_ix, ↓u_len, ↓u_append, ↓u_pop, ↓u_iref, ↓e_isi, ↓e_strS, ↓e_dnew, ↓e_dget, ↓e_dput, ↓e_sc, ↓e_dcN, ↓e_rank, ↓e_inLN, ↓e_izipR, ↓e_ienum, ↓e_while, ↓mupd_mupd, ↓e_for, ↓e_lc, ↓e_lcM, ↓e_wipe, ↓e_wipe0, eq_self_iff_true, true_and, List.set_cons_zero, List.set_cons_succ, id_eq, ↓reduceIte, Bool.false_eq_true, Bool.not_true, Bool.not_false])
      exact ⟨a, rows, 40, M0, rfl, d, by omega, by decide, by decide, R2, fun rows' M3 d' _ R3 => h rows' M3 d' R3⟩
    split
    · exact ⟨a, 24, M0, rfl, by decide, by decide, R1, h⟩
    split
    · exact ⟨a, 8, M0, rfl, by decide, by decide, R1, fun rows M2 d _ R2 => h rows M2 d R2⟩
    · refine ⟨a, 5, M0, rfl, by decide, by decide, R1, fun rows M2 d hl R2 => ?_⟩
      (try simp only [↓e_var0, ↓e_varS, ↓e_C, ↓e_op, ↓e_un, ↓e_cb, ↓e_nil, ↓e_cons, ↓e_tup, ↓e_lst, ↓e_lstM, ↓e_frz, ↓e_B, ↓e_bl, ↓e_andT, ↓e_orT, ↓e_notT, ↓e_andV, ↓e_orV, ↓e_notV, ↓e_ifE, ↓e_tru, ↓e_slice, ↓e_noPart, ↓e_part, ↓e_partV, ↓e_bm, ↓e_bm0, ↓e_ty_lst, ↓e_ty_str, ↓e_next, ↓e_seq, ↓e_break, ↓e_cont, ↓e_drop, ↓e_ret, ↓e_retN, ↓e_ifS, ↓e_asg, ↓e_gname, ↓e_put0, ↓e_putS, ↓e_aug, ↓e_gsub, ↓e_gtup2, ↓e_I, ↓e_Ic, ↓e_add, ↓e_addS, ↓e_addL, ↓e_addT, ↓e_mul, ↓e_eqI, ↓e_eqS, ↓e_eqB, ↓e_ix_lst, ↓e_ix_tup, ↓e_at0, ↓e_at1, ↓e_at2, ↓e_at3, ↓e_sa0, ↓e_sa1, ↓e_sa2, ↓e_sa3, ↓e_len_lst, ↓e_len_tup, ↓e_len_str, ↓e_abs, ↓e_int, ↓e_str, ↓e_ilst, ↓e_il, ↓e_irl, ↓e_irng1, ↓e_irV, ↓e_irng2, ↓e_irV2, ↓e_yes, ↓u_frzV, ↓u_ty, ↓u_setL, ↓u_ix, ↓u_len, ↓u_append, ↓u_pop, ↓u_iref, ↓e_isi, ↓e_strS, ↓e_dnew, ↓e_dget, ↓e_dput, ↓e_sc, ↓e_dcN, ↓e_rank, ↓e_inLN, ↓e_izipR, ↓e_ienum, ↓e_while, ↓mupd_mupd, ↓e_for, ↓e_lc, ↓e_lcM, ↓e_wipe, ↓e_wipe0, eq_self_iff_true, true_and, List.set_cons_zero, List.set_cons_succ, id_eq, ↓reduceIte, Bool.false_eq_true, Bool.not_true, Bool.not_false])
      exact ⟨a, rows, 6, M0, rfl, d, by omega, by decide, by decide, R2, fun rows' M3 d' _ R3 => h rows' M3 d' R3⟩
end
end K32

/-! K32m: rounds, plain. -/
namespace LK
/-- lists in strict order with the same members are the same -/
theorem pw_unique {α : Type} {lt : α → α → Prop} (irr : ∀ a, ¬ lt a a) (asy : ∀ a b, lt a b → ¬ lt b a) : ∀ {l m : List α}, l.Pairwise lt → m.Pairwise lt → (∀ x, x ∈ l ↔ x ∈ m) → l = m
  | [], [], _, _, _ => rfl
  | [], b :: m, _, _, h => by have := (h b).mpr List.mem_cons_self; cases this
  | a :: l, [], _, _, h => by have := (h a).mp List.mem_cons_self; cases this
  | a :: l, b :: m, hl, hm, h => by
    obtain ⟨l1, l2⟩ := List.pairwise_cons.mp hl
    obtain ⟨m1, m2⟩ := List.pairwise_cons.mp hm
    have hab : a = b := by
      rcases List.mem_cons.mp ((h a).mp List.mem_cons_self) with e | e
      · exact e
      · rcases List.mem_cons.mp ((h b).mpr List.mem_cons_self) with e' | e'
        · exact e'.symm
        · exact absurd (l1 b e') (asy _ _ (m1 a e))
    subst hab
    rw [pw_unique irr asy l2 m2 fun x => ?_]
    have hx := h x
    rw [List.mem_cons, List.mem_cons] at hx
    constructor
    · intro q
      rcases hx.mp (.inr q) with e | e
      · subst e; exact absurd (l1 x q) (irr x)
      · exact e
    · intro q
      rcases hx.mpr (.inr q) with e | e
      · subst e; exact absurd (m1 x q) (irr x)
      · exact e
theorem lex_asy (a b : List Nat) (h : a < b) : ¬ b < a := fun h' => List.lt_irrefl a (List.lt_trans h h')
abbrev Rows := List (List Nat)
def at0 (nums : List Nat) (p : Nat) : Nat := nums.getD p 0
def sset (B : Nat) (l : List Nat) : List Nat := (List.range B).filter fun k => decide (k ∈ l)
theorem sset_mem {B : Nat} {l : List Nat} {k : Nat} : k ∈ sset B l ↔ k < B ∧ k ∈ l := by
  unfold sset
  rw [List.mem_filter, List.mem_range]
  simp
theorem sset_pw (B : Nat) (l : List Nat) : (sset B l).Pairwise (· < ·) := List.Pairwise.filter _ List.pairwise_lt_range
theorem sset_of {B : Nat} {l r : List Nat} (h : ∀ k ∈ l, k < B) (h1 : r.Pairwise (· < ·)) (h2 : ∀ k, k ∈ r ↔ k ∈ l) : r = sset B l :=
  pw_unique (lt := (· < ·)) (fun _ => Nat.lt_irrefl _) (fun _ _ h => Nat.lt_asymm h) h1 (sset_pw B l) fun x => by
    rw [h2, sset_mem]
    exact ⟨fun q => ⟨h x q, q⟩, fun q => q.2⟩
def row (rows : Rows) (i : Nat) : List Nat := rows.getD i []
def krow (nums : List Nat) (rows : Rows) (i : Nat) : List Nat := at0 nums i :: sset rows.length ((row rows i).map (at0 nums))
def keys (nums : List Nat) (rows : Rows) : List (List Nat) := (List.range rows.length).map (krow nums rows)
/-- the different keys, ascending -/
structure IsOrd (ks os : List (List Nat)) : Prop where
  asc : os.Pairwise (· < ·)
  mem : ∀ k, k ∈ os ↔ k ∈ ks
theorem IsOrd.unique {ks os os' : List (List Nat)} (h : IsOrd ks os) (h' : IsOrd ks os') : os = os' :=
  pw_unique (lt := (· < ·)) (fun a => List.lt_irrefl a) lex_asy h.asc h'.asc fun x => (h.mem x).trans (h'.mem x).symm
theorem IsOrd.nodup {ks os : List (List Nat)} (h : IsOrd ks os) : os.Nodup := h.asc.imp fun {a b} q e => by subst e; exact List.lt_irrefl _ q
def next (ks os : List (List Nat)) : List Nat := ks.map fun k => os.idxOf k
/-- the numbers before round j, and how many there are -/
inductive Run (rows : Rows) : Nat → List Nat → Nat → Prop
  | zero : Run rows 0 (List.replicate rows.length 0) 1
  | succ {j : Nat} {nums : List Nat} {c : Nat} {os : List (List Nat)} : Run rows j nums c → IsOrd (keys nums rows) os → os.length ≠ c → Run rows (j + 1) (next (keys nums rows) os) os.length
/-- the numbers that the rounds give -/
def Lik (rows : Rows) (ns : List Nat) : Prop := ∃ j nums c os, Run rows j nums c ∧ IsOrd (keys nums rows) os ∧ os.length = c ∧ ns = next (keys nums rows) os
theorem Run.det {rows : Rows} {j : Nat} {nums : List Nat} {c : Nat} (h : Run rows j nums c) : ∀ {nums' : List Nat} {c' : Nat}, Run rows j nums' c' → nums = nums' ∧ c = c' := by
  induction h with
  | zero => intro n' c' h; cases h; exact ⟨rfl, rfl⟩
  | succ h1 h2 h3 ih =>
    intro n' c' h
    cases h with
    | succ h1' h2' h3' =>
      obtain ⟨rfl, rfl⟩ := ih h1'
      obtain rfl := h2.unique h2'
      exact ⟨rfl, rfl⟩
theorem Run.stop {rows : Rows} {j : Nat} {nums : List Nat} {c : Nat} {os : List (List Nat)} (h : Run rows j nums c) (o : IsOrd (keys nums rows) os) (e : os.length = c) : ∀ {k : Nat} {nums' : List Nat} {c' : Nat}, Run rows k nums' c' → k ≤ j := by
  intro k
  induction k with
  | zero => intro _ _ _; exact Nat.zero_le _
  | succ k ih =>
    intro nums' c' h'
    cases h' with
    | succ h1 h2 h3 =>
      have := ih h1
      rcases Nat.lt_or_eq_of_le this with q | q
      · exact q
      · subst q
        obtain ⟨rfl, rfl⟩ := h.det h1
        obtain rfl := o.unique h2
        exact absurd e h3
theorem Lik.det {rows : Rows} {ns ns' : List Nat} (h : Lik rows ns) (h' : Lik rows ns') : ns = ns' := by
  obtain ⟨j, nums, c, os, r, o, e, rfl⟩ := h
  obtain ⟨j', nums', c', os', r', o', e', rfl⟩ := h'
  have : j = j' := Nat.le_antisymm (r'.stop o' e' r) (r.stop o e r')
  subst this
  obtain ⟨rfl, rfl⟩ := r.det r'
  obtain rfl := o.unique o'
  rfl
/-! #### how many there are -/
structure Num (N : Nat) (nums : List Nat) (c : Nat) : Prop where
  len : nums.length = N
  lt : ∀ v ∈ nums, v < c
  all : ∀ v, v < c → v ∈ nums
theorem keys_len (nums : List Nat) (rows : Rows) : (keys nums rows).length = rows.length := by unfold keys; rw [List.length_map, List.length_range]
theorem keys_get {nums : List Nat} {rows : Rows} {i : Nat} (h : i < rows.length) : (keys nums rows)[i]? = some (krow nums rows i) := by
  unfold keys
  rw [List.getElem?_map, List.getElem?_range h]; rfl
theorem keys_mem {nums : List Nat} {rows : Rows} {k : List Nat} : k ∈ keys nums rows ↔ ∃ i, i < rows.length ∧ k = krow nums rows i := by
  unfold keys
  rw [List.mem_map]
  exact ⟨fun ⟨i, h, e⟩ => ⟨i, List.mem_range.mp h, e.symm⟩, fun ⟨i, h, e⟩ => ⟨i, List.mem_range.mpr h, e.symm⟩⟩
theorem next_num {nums : List Nat} {rows : Rows} {os : List (List Nat)} (o : IsOrd (keys nums rows) os) : Num rows.length (next (keys nums rows) os) os.length := by
  refine ⟨by unfold next; rw [List.length_map, keys_len], fun v hv => ?_, fun v hv => ?_⟩
  · obtain ⟨k, hk, rfl⟩ := List.mem_map.mp hv
    exact List.idxOf_lt_length_iff.mpr ((o.mem k).mpr hk)
  · exact List.mem_map.mpr ⟨os[v], (o.mem _).mp (List.getElem_mem hv), o.nodup.idxOf_getElem v hv⟩
theorem Run.num {rows : Rows} (h0 : 0 < rows.length) {j : Nat} {nums : List Nat} {c : Nat} (h : Run rows j nums c) : Num rows.length nums c := by
  cases h with
  | zero => exact ⟨List.length_replicate, fun v hv => by rw [List.eq_of_mem_replicate hv]; exact Nat.one_pos, fun v hv => by
      obtain rfl : v = 0 := by omega
      exact List.mem_replicate.mpr ⟨by omega, rfl⟩⟩
  | succ h1 h2 h3 => exact next_num h2
theorem at0_mem {nums : List Nat} {p : Nat} (h : p < nums.length) : at0 nums p ∈ nums := by
  unfold at0
  rw [List.getD_eq_getElem?_getD, List.getElem?_eq_getElem h]
  exact List.getElem_mem h
def hd (k : List Nat) : Nat := k.headD 0
theorem ord_heads {nums : List Nat} {rows : Rows} {os : List (List Nat)} {c : Nat} (n : Num rows.length nums c) (o : IsOrd (keys nums rows) os) : ∀ v, v < c → v ∈ os.map hd := fun v hv => by
  obtain ⟨i, hi⟩ := List.mem_iff_getElem?.mp (n.all v hv)
  have hl := (List.getElem?_eq_some_iff.mp hi).1
  rw [n.len] at hl
  refine List.mem_map.mpr ⟨krow nums rows i, (o.mem _).mpr (keys_mem.mpr ⟨i, hl, rfl⟩), ?_⟩
  show at0 nums i = v
  unfold at0
  rw [List.getD_eq_getElem?_getD, hi]; rfl
theorem ord_ge {nums : List Nat} {rows : Rows} {os : List (List Nat)} {c : Nat} (n : Num rows.length nums c) (o : IsOrd (keys nums rows) os) : c ≤ os.length := by
  have h := List.Nodup.length_le_of_subset (l₁ := List.range c) (l₂ := os.map hd) List.nodup_range fun v hv => ord_heads n o v (List.mem_range.mp hv)
  rwa [List.length_range, List.length_map] at h
theorem ord_le {nums : List Nat} {rows : Rows} {os : List (List Nat)} (o : IsOrd (keys nums rows) os) : os.length ≤ rows.length := by
  have h := List.Nodup.length_le_of_subset (l₁ := os) (l₂ := keys nums rows) o.nodup fun v hv => (o.mem v).mp hv
  rwa [keys_len] at h
theorem Run.grow {rows : Rows} (h0 : 0 < rows.length) {j : Nat} {nums : List Nat} {c : Nat} (h : Run rows j nums c) : j + 1 ≤ c ∧ c ≤ rows.length := by
  induction h with
  | zero => exact ⟨Nat.le_refl _, h0⟩
  | succ h1 h2 h3 ih =>
    have g := ord_ge (h1.num h0) h2
    exact ⟨by omega, ord_le h2⟩
/-! #### what equal numbers say -/
structure Bis (rows : Rows) (E : Nat → Nat → Prop) : Prop where
  sym : ∀ a b, E a b → E b a
  fwd : ∀ a b, a < rows.length → b < rows.length → E a b → ∀ x ∈ row rows a, ∃ y ∈ row rows b, E x y
theorem map_nodup_inj {α β : Type} {f : α → β} : ∀ {l : List α}, (l.map f).Nodup → ∀ {a b : α}, a ∈ l → b ∈ l → f a = f b → a = b
  | [], _, _, _, h, _, _ => by cases h
  | c :: l, h, a, b, ha, hb, e => by
    rw [List.map_cons, List.nodup_cons] at h
    rcases List.mem_cons.mp ha with qa | qa
    · rcases List.mem_cons.mp hb with qb | qb
      · rw [qa, qb]
      · exact absurd (List.mem_map.mpr ⟨b, qb, by rw [← e, qa]⟩) h.1
    · rcases List.mem_cons.mp hb with qb | qb
      · exact absurd (List.mem_map.mpr ⟨a, qa, by rw [e, qb]⟩) h.1
      · exact map_nodup_inj h.2 qa qb e
theorem nodup_of_cover {l m : List Nat} (hm : m.Nodup) (hs : ∀ v ∈ m, v ∈ l) (hl : l.length ≤ m.length) : l.Nodup := by
  induction m generalizing l with
  | nil =>
    cases l with
    | nil => exact List.nodup_nil
    | cons a l => simp at hl
  | cons v m ih =>
    obtain ⟨h1, h2⟩ := List.nodup_cons.mp hm
    have hv := hs v List.mem_cons_self
    have p := List.perm_cons_erase hv
    have he : (l.erase v).Nodup := by
      refine ih h2 (fun u hu => ?_) ?_
      · have hne : u ≠ v := fun e => by subst e; exact h1 hu
        exact (List.mem_erase_of_ne hne).mpr (hs u (List.mem_cons_of_mem _ hu))
      · rw [List.length_erase_of_mem hv]
        simp at hl
        omega
    have hsub : v ∉ l.erase v := fun hin => by
      have hsub : ∀ u ∈ m, u ∈ (l.erase v).erase v := fun u hu => by
        have hne : u ≠ v := fun e => by subst e; exact h1 hu
        exact (List.mem_erase_of_ne hne).mpr ((List.mem_erase_of_ne hne).mpr (hs u (List.mem_cons_of_mem _ hu)))
      have q := List.Nodup.length_le_of_subset h2 hsub
      rw [List.length_erase_of_mem hin, List.length_erase_of_mem hv] at q
      have : 0 < (l.erase v).length := List.length_pos_of_mem hin
      rw [List.length_erase_of_mem hv] at this
      simp at hl
      omega
    exact p.nodup_iff.mpr (List.nodup_cons.mpr ⟨hsub, he⟩)
theorem next_at {nums : List Nat} {rows : Rows} {os : List (List Nat)} {a : Nat} (h : a < rows.length) : at0 (next (keys nums rows) os) a = os.idxOf (krow nums rows a) := by
  unfold at0 next
  rw [List.getD_eq_getElem?_getD, List.getElem?_map, keys_get h]; rfl
/-- equal numbers: a likeness -/
theorem lik_bis {rows : Rows} (h0 : 0 < rows.length) (hr : ∀ r ∈ rows, ∀ p ∈ r, p < rows.length) {ns : List Nat} (h : Lik rows ns) : Bis rows fun a b => at0 ns a = at0 ns b := by
  obtain ⟨j, nums, c, os, r, o, e, rfl⟩ := h
  have n := r.num h0
  have hn : (os.map hd).Nodup := nodup_of_cover (m := List.range c) List.nodup_range (fun v hv => ord_heads n o v (List.mem_range.mp hv)) (by rw [List.length_map, List.length_range]; omega)
  have key : ∀ a b, a < rows.length → b < rows.length → (at0 nums a = at0 nums b ↔ krow nums rows a = krow nums rows b) := fun a b ha hb => by
    constructor
    · intro q
      exact map_nodup_inj hn ((o.mem _).mpr (keys_mem.mpr ⟨a, ha, rfl⟩)) ((o.mem _).mpr (keys_mem.mpr ⟨b, hb, rfl⟩)) q
    · intro q
      unfold krow at q
      exact (List.cons.inj q).1
  have same : ∀ a b, a < rows.length → b < rows.length → (at0 (next (keys nums rows) os) a = at0 (next (keys nums rows) os) b ↔ krow nums rows a = krow nums rows b) := fun a b ha hb => by
    rw [next_at ha, next_at hb]
    constructor
    · intro q
      have m1 := List.idxOf_lt_length_iff.mpr ((o.mem _).mpr (keys_mem.mpr ⟨a, ha, rfl⟩))
      have m2 := List.idxOf_lt_length_iff.mpr ((o.mem _).mpr (keys_mem.mpr ⟨b, hb, rfl⟩))
      rw [← List.getElem_idxOf m1, ← List.getElem_idxOf m2]
      simp only [q]
    · intro q; rw [q]
  refine ⟨fun a b q => q.symm, fun a b ha hb q x hx => ?_⟩
  have rlt : ∀ i, i < rows.length → ∀ z ∈ row rows i, z < rows.length := fun i hi z hz => by
    unfold row at hz
    rw [List.getD_eq_getElem?_getD, List.getElem?_eq_getElem hi] at hz
    exact hr _ (List.getElem_mem hi) z hz
  have hxl := rlt a ha x hx
  have q2 := (same a b ha hb).mp q
  unfold krow at q2
  have q3 := (List.cons.inj q2).2
  have cl := (r.grow h0).2
  have nlt : ∀ z, z < rows.length → at0 nums z < rows.length := fun z hz => Nat.lt_of_lt_of_le (n.lt _ (at0_mem (by rw [n.len]; exact hz))) cl
  have mx : at0 nums x ∈ sset rows.length ((row rows a).map (at0 nums)) := sset_mem.mpr ⟨nlt x hxl, List.mem_map.mpr ⟨x, hx, rfl⟩⟩
  rw [q3] at mx
  obtain ⟨y, hy, ey⟩ := List.mem_map.mp (sset_mem.mp mx).2
  have hyl := rlt b hb y hy
  exact ⟨y, hy, (same x y hxl hyl).mpr ((key x y hxl hyl).mp ey.symm)⟩
/-- what pairs alike in the weak way pairs equal numbers -/
theorem run_most {rows : Rows} (hr : ∀ r ∈ rows, ∀ p ∈ r, p < rows.length) {M : Nat → Nat → Prop} (h1 : ∀ a b, a < rows.length → b < rows.length → M a b → ∀ x ∈ row rows a, ∃ y ∈ row rows b, M x y)
    (h2 : ∀ a b, a < rows.length → b < rows.length → M a b → ∀ y ∈ row rows b, ∃ x ∈ row rows a, M y x) {j : Nat} {nums : List Nat} {c : Nat} (h : Run rows j nums c) : ∀ a b, a < rows.length → b < rows.length → M a b → krow nums rows a = krow nums rows b := by
  have rlt : ∀ i, i < rows.length → ∀ z ∈ row rows i, z < rows.length := fun i hi z hz => by
    unfold row at hz
    rw [List.getD_eq_getElem?_getD, List.getElem?_eq_getElem hi] at hz
    exact hr _ (List.getElem_mem hi) z hz
  have up : ∀ nums : List Nat, (∀ a b, a < rows.length → b < rows.length → M a b → at0 nums a = at0 nums b) → ∀ a b, a < rows.length → b < rows.length → M a b → krow nums rows a = krow nums rows b := fun nums q a b ha hb m => by
    unfold krow
    rw [q a b ha hb m]
    congr 1
    refine pw_unique (lt := (· < ·)) (fun _ => Nat.lt_irrefl _) (fun _ _ h => Nat.lt_asymm h) (sset_pw _ _) (sset_pw _ _) fun v => ?_
    rw [sset_mem, sset_mem]
    constructor
    · rintro ⟨hv, hm⟩
      obtain ⟨x, hx, rfl⟩ := List.mem_map.mp hm
      obtain ⟨y, hy, my⟩ := h1 a b ha hb m x hx
      exact ⟨hv, List.mem_map.mpr ⟨y, hy, (q x y (rlt a ha x hx) (rlt b hb y hy) my).symm⟩⟩
    · rintro ⟨hv, hm⟩
      obtain ⟨y, hy, rfl⟩ := List.mem_map.mp hm
      obtain ⟨x, hx, mx⟩ := h2 a b ha hb m y hy
      exact ⟨hv, List.mem_map.mpr ⟨x, hx, (q y x (rlt b hb y hy) (rlt a ha x hx) mx).symm⟩⟩
  induction h with
  | zero =>
    refine up _ fun a b ha hb _ => ?_
    have z : ∀ i, i < rows.length → at0 (List.replicate rows.length 0) i = 0 := fun i hi => by
      unfold at0
      rw [List.getD_eq_getElem?_getD, List.getElem?_replicate, if_pos hi]; rfl
    rw [z a ha, z b hb]
  | succ r o e ih =>
    refine up _ fun a b ha hb m => ?_
    rw [next_at ha, next_at hb, ih a b ha hb m]
theorem lik_most {rows : Rows} (hr : ∀ r ∈ rows, ∀ p ∈ r, p < rows.length) {M : Nat → Nat → Prop} (h1 : ∀ a b, a < rows.length → b < rows.length → M a b → ∀ x ∈ row rows a, ∃ y ∈ row rows b, M x y)
    (h2 : ∀ a b, a < rows.length → b < rows.length → M a b → ∀ y ∈ row rows b, ∃ x ∈ row rows a, M y x) {ns : List Nat} (h : Lik rows ns) : ∀ a b, a < rows.length → b < rows.length → M a b → at0 ns a = at0 ns b := fun a b ha hb m => by
  obtain ⟨j, nums, c, os, r, o, e, rfl⟩ := h
  rw [next_at ha, next_at hb, run_most hr h1 h2 r a b ha hb m]
theorem Lik.len {rows : Rows} {ns : List Nat} (h : Lik rows ns) : ns.length = rows.length := by
  obtain ⟨j, nums, c, os, r, o, e, rfl⟩ := h
  exact (next_num o).len
end LK

/-! K32t: keys as texts and as pairs. -/
namespace LK
open PySem L2 DL DSet
def dig (n : Nat) : List Nat := [48 + n / 100, 48 + n / 10 % 10, 48 + n % 10]
def enc3 (n : Nat) : Str := cutS (toString (1000 + (n : Int)) : Str) (some 1) none
theorem enc3_all : ((List.range 200).all fun n => (enc3 n).cps.toList == dig n) = true := by decide +kernel
theorem enc3_cps {n : Nat} (h : n < 200) : (enc3 n).cps.toList = dig n := by
  have := List.all_eq_true.mp enc3_all n (List.mem_range.mpr h)
  simpa using this
def tx (k : List Nat) : Str := Txt.join "" (k.map enc3)
theorem joinL_nil : ∀ l : List (List Nat), TL.joinL [] l = l.flatten
  | [] => rfl
  | [p] => by simp [TL.joinL]
  | p :: q :: r => by
    rw [TL.joinL, joinL_nil (q :: r)]
    simp
theorem tx_cps {k : List Nat} (h : ∀ n ∈ k, n < 200) : (tx k).cps.toList = k.flatMap dig := by
  have e : (tx k).cps.toList = TL.joinL [] ((k.map enc3).map TL.tl) := by
    unfold tx
    exact (congrArg TL.tl (TL.join_eq _ _)).trans (TL.tl_join _ _)
  rw [e, joinL_nil, List.map_map, List.flatMap_def]
  congr 1
  exact List.map_congr_left fun n hn => enc3_cps (h n hn)
theorem dig_lt {a b : Nat} (ha : a < 200) (hb : b < 200) (h : a < b) (x y : List Nat) : dig a ++ x < dig b ++ y := by
  unfold dig
  simp only [List.cons_append, List.nil_append, List.cons_lt_cons_iff]
  omega
theorem app_lt (p : List Nat) {x y : List Nat} (h : x < y) : p ++ x < p ++ y := by
  induction p with
  | nil => exact h
  | cons a p ih =>
    rw [List.cons_append, List.cons_append, List.cons_lt_cons_iff]
    exact .inr ⟨rfl, ih⟩
theorem flat_lt : ∀ {k k' : List Nat}, (∀ n ∈ k, n < 200) → (∀ n ∈ k', n < 200) → k < k' → k.flatMap dig < k'.flatMap dig
  | [], [], _, _, h => absurd h (List.lt_irrefl _)
  | [], b :: k', _, _, _ => by
    rw [List.flatMap_nil, List.flatMap_cons]
    unfold dig
    exact List.nil_lt_cons _ _
  | a :: k, [], _, _, h => by cases h
  | a :: k, b :: k', h1, h2, h => by
    rw [List.flatMap_cons, List.flatMap_cons]
    rcases List.cons_lt_cons_iff.mp h with q | ⟨rfl, q⟩
    · exact dig_lt (h1 a List.mem_cons_self) (h2 b List.mem_cons_self) q _ _
    · exact app_lt _ (flat_lt (fun n hn => h1 n (List.mem_cons_of_mem _ hn)) (fun n hn => h2 n (List.mem_cons_of_mem _ hn)) q)
theorem lex_tri (k k' : List Nat) : k < k' ∨ k = k' ∨ k' < k := by
  by_cases h : k < k'
  · exact .inl h
  · by_cases h2 : k' < k
    · exact .inr (.inr h2)
    · exact .inr (.inl (List.le_antisymm (List.not_lt.mp h2) (List.not_lt.mp h)))
theorem tx_lt {k k' : List Nat} (h1 : ∀ n ∈ k, n < 200) (h2 : ∀ n ∈ k', n < 200) (hne : tx k ≠ tx k') (hle : (tx k).cps.toList ≤ (tx k').cps.toList) : k < k' := by
  rcases lex_tri k k' with q | q | q
  · exact q
  · exact absurd (by rw [q]) hne
  · rw [tx_cps h1, tx_cps h2] at hle
    exact absurd (flat_lt h2 h1 q) (List.not_lt.mpr hle)
theorem tx_inj {k k' : List Nat} (h1 : ∀ n ∈ k, n < 200) (h2 : ∀ n ∈ k', n < 200) (e : tx k = tx k') : k = k' := by
  have e' : k.flatMap dig = k'.flatMap dig := by rw [← tx_cps h1, ← tx_cps h2, e]
  rcases lex_tri k k' with q | q | q
  · have := flat_lt h1 h2 q
    rw [e'] at this
    exact absurd this (List.lt_irrefl _)
  · exact q
  · have := flat_lt h2 h1 q
    rw [e'] at this
    exact absurd this (List.lt_irrefl _)
theorem chosen {α β : Type} {f : α → β} {ks : List α} : ∀ {l : List β}, (∀ x ∈ l, ∃ k ∈ ks, x = f k) → ∃ os : List α, l = os.map f ∧ ∀ k ∈ os, k ∈ ks
  | [], _ => ⟨[], rfl, fun _ h => nomatch h⟩
  | x :: l, h => by
    obtain ⟨k, hk, rfl⟩ := h x List.mem_cons_self
    obtain ⟨os, rfl, ho⟩ := chosen (l := l) fun y hy => h y (List.mem_cons_of_mem _ hy)
    exact ⟨k :: os, rfl, fun j hj => (List.mem_cons.mp hj).elim (fun e => e ▸ hk) (ho j)⟩
theorem ord_texts {ks : List (List Nat)} (hk : ∀ k ∈ ks, ∀ n ∈ k, n < 200) {l : List Str} (h : IsSetS (ks.map tx) l) : ∃ os, l = os.map tx ∧ IsOrd ks os := by
  obtain ⟨h1, h2, h3⟩ := h
  obtain ⟨os, rfl, ho⟩ := chosen (f := tx) (ks := ks) (l := l) fun x hx => by
    obtain ⟨k, hk, e⟩ := List.mem_map.mp ((h3 x).mp hx)
    exact ⟨k, hk, e.symm⟩
  refine ⟨os, rfl, ?_, fun k => ⟨ho k, fun q => ?_⟩⟩
  · have p := List.pairwise_map.mp (List.pairwise_and_iff.mpr ⟨h1, h2⟩)
    exact p.imp_of_mem fun {a b} ha hb q => tx_lt (hk a (ho a ha)) (hk b (ho b hb)) q.1 q.2
  · obtain ⟨k', hk', e⟩ := List.mem_map.mp ((h3 (tx k)).mpr (List.mem_map.mpr ⟨k, q, rfl⟩))
    rw [← tx_inj (hk k' (ho k' hk')) (hk k q) e]
    exact hk'
/-! #### as pairs -/
def intsOf (l : List Nat) : List Int := l.map fun n : Nat => (n : Int)
def toPk (k : List Nat) : Pk := ((hd k : Nat), intsOf k.tail)
theorem ints_lt : ∀ {k k' : List Nat}, k < k' → intsOf k < intsOf k'
  | [], [], h => absurd h (List.lt_irrefl _)
  | [], b :: k', _ => List.nil_lt_cons _ _
  | a :: k, [], h => by cases h
  | a :: k, b :: k', h => by
    show (a : Int) :: intsOf k < (b : Int) :: intsOf k'
    rw [List.cons_lt_cons_iff]
    rcases List.cons_lt_cons_iff.mp h with q | ⟨rfl, q⟩
    · exact .inl (by omega)
    · exact .inr ⟨rfl, ints_lt q⟩
theorem ints_inj {k k' : List Nat} (e : intsOf k = intsOf k') : k = k' := by
  rcases lex_tri k k' with q | q | q
  · have := ints_lt q
    rw [e] at this
    exact absurd this (List.lt_irrefl _)
  · exact q
  · have := ints_lt q
    rw [e] at this
    exact absurd this (List.lt_irrefl _)
theorem toPk_inj {k k' : List Nat} (h : k ≠ []) (h' : k' ≠ []) (e : toPk k = toPk k') : k = k' := by
  cases k with
  | nil => exact absurd rfl h
  | cons a k =>
    cases k' with
    | nil => exact absurd rfl h'
    | cons b k' =>
      unfold toPk hd at e
      have e1 := congrArg Prod.fst e
      have e2 := congrArg Prod.snd e
      simp only [List.headD_cons, List.tail_cons] at e1 e2
      rw [ints_inj e2, Int.ofNat.inj e1]
theorem toPk_lt {k k' : List Nat} (h : k ≠ []) (h' : k' ≠ []) (hne : toPk k ≠ toPk k') (hle : pLe (toPk k) (toPk k')) : k < k' := by
  rcases lex_tri k k' with q | q | q
  · exact q
  · exact absurd (by rw [q]) hne
  · exfalso
    cases k with
    | nil => exact h rfl
    | cons a k =>
      cases k' with
      | nil => exact h' rfl
      | cons b k' =>
        unfold toPk hd pLe at hle
        simp only [List.headD_cons, List.tail_cons] at hle
        rcases List.cons_lt_cons_iff.mp q with r | ⟨rfl, r⟩
        · rcases hle with z | ⟨z, _⟩ <;> omega
        · rcases hle with z | ⟨_, z⟩
          · omega
          · exact absurd (ints_lt r) (List.not_lt.mpr z)
theorem ord_pairs {ks : List (List Nat)} (hk : ∀ k ∈ ks, k ≠ []) {l : List Pk} (h : IsSetP (ks.map toPk) l) : ∃ os, l = os.map toPk ∧ IsOrd ks os := by
  obtain ⟨h1, h2, h3⟩ := h
  obtain ⟨os, rfl, ho⟩ := chosen (f := toPk) (ks := ks) (l := l) fun x hx => by
    obtain ⟨k, hk, e⟩ := List.mem_map.mp ((h3 x).mp hx)
    exact ⟨k, hk, e.symm⟩
  refine ⟨os, rfl, ?_, fun k => ⟨ho k, fun q => ?_⟩⟩
  · have p := List.pairwise_map.mp (List.pairwise_and_iff.mpr ⟨h1, h2⟩)
    exact p.imp_of_mem fun {a b} ha hb q => toPk_lt (hk a (ho a ha)) (hk b (ho b hb)) q.1 q.2
  · obtain ⟨k', hk', e⟩ := List.mem_map.mp ((h3 (toPk k)).mpr (List.mem_map.mpr ⟨k, q, rfl⟩))
    rw [← toPk_inj (hk k' (ho k' hk')) (hk k q) e]
    exact hk'
theorem enc3_len {n : Nat} (h : n < 200) : (enc3 n).length = 3 := by
  have e : (enc3 n).length = (enc3 n).cps.toList.length := TL.len_tl _
  rw [e, enc3_cps h]; rfl
theorem enc3_sum : ∀ {k : List Nat}, (∀ n ∈ k, n < 200) → ((k.map enc3).map (·.length)).sum = 3 * k.length
  | [], _ => rfl
  | a :: k, h => by
    rw [List.map_cons, List.map_cons, List.sum_cons, enc3_sum fun n hn => h n (List.mem_cons_of_mem _ hn), enc3_len (h a List.mem_cons_self), List.length_cons]
    omega
end LK

namespace K32
open PySem PySem.Spec PyProof.Rows L2 DL LK
theorem str_all : ((List.range 200).all fun n => decide ((toString (1000 + (n : Int)) : Str).length ≤ 1000) && decide ((1000 + (n : Int)).natAbs.log2 < 1920)) = true := by decide +kernel
theorem str_ok {n : Nat} (h : n < 200) : (toString (1000 + (n : Int)) : Str).length ≤ sizeLine ∧ (1000 + (n : Int)).natAbs.log2 < 1920 := by
  have := List.all_eq_true.mp str_all n (List.mem_range.mpr h)
  simp only [Bool.and_eq_true, decide_eq_true_eq] at this
  exact ⟨small_line (by omega), this.2⟩
abbrev enN (ns : List Nat) : D := .lst (ns.map fun n : Nat => D.int n)
theorem num_lt {rows : List (List Nat)} (dr : Drw rows) {j : Nat} {nums : List Nat} {c : Nat} (h : Run rows j nums c) {i : Nat} (hi : i < rows.length) : at0 nums i < rows.length := by
  have n := h.num dr.pos
  exact Nat.lt_of_lt_of_le (n.lt _ (at0_mem (by rw [n.len]; exact hi))) (h.grow dr.pos).2
theorem row_lt {rows : List (List Nat)} (dr : Drw rows) {i : Nat} (hi : i < rows.length) : ∀ z ∈ row rows i, z < rows.length := fun z hz => by
  unfold row at hz
  rw [List.getD_eq_getElem?_getD, List.getElem?_eq_getElem hi] at hz
  exact dr.lt _ (List.getElem_mem hi) z hz
theorem krow_lt {rows : List (List Nat)} (dr : Drw rows) {j : Nat} {nums : List Nat} {c : Nat} (h : Run rows j nums c) {i : Nat} (hi : i < rows.length) : ∀ n ∈ krow nums rows i, n < 200 := fun n hn => by
  have := dr.sm
  rcases List.mem_cons.mp hn with e | e
  · have := num_lt dr h hi
    omega
  · have := (sset_mem.mp e).1
    omega
theorem krow_len {nums : List Nat} {rows : List (List Nat)} (i : Nat) : (krow nums rows i).length ≤ rows.length + 1 := by
  unfold krow sset
  rw [List.length_cons]
  have := List.length_filter_le (fun k => decide (k ∈ (row rows i).map (at0 nums))) (List.range rows.length)
  rw [List.length_range] at this
  omega
theorem rows_at {rows : List (List Nat)} {i : Nat} (h : i < rows.length) : rows[i]? = some (row rows i) := by
  unfold row
  rw [List.getD_eq_getElem?_getD, List.getElem?_eq_getElem h]; rfl
theorem nums_at {nums : List Nat} {i : Nat} (h : i < nums.length) : nums[i]? = some (at0 nums i) := by
  unfold at0
  rw [List.getD_eq_getElem?_getD, List.getElem?_eq_getElem h]; rfl
theorem putD_new {kds : List (Key × D)} {k : Key} {d : D} (h : ∀ q ∈ kds, q.1 ≠ k) : putD kds k d = kds ++ [(k, d)] := by
  unfold putD
  rw [if_neg]
  intro c
  obtain ⟨q, hq, e⟩ := List.any_eq_true.mp c
  exact h q hq (of_decide_eq_true e)
theorem valD_range {f : Nat → Key} {g : Nat → D} {n i : Nat} (hi : i < n) (inj : ∀ j, j < n → f j = f i → j = i) : valD ((List.range n).map fun j => (f j, g j)) (f i) = some (g i) := by
  induction n with
  | zero => omega
  | succ n ih =>
    unfold valD at ih ⊢
    rw [List.range_succ, List.map_append, List.find?_append]
    by_cases c : i < n
    · have := ih c fun j hj e => inj j (by omega) e
      cases q : ((List.range n).map fun j => (f j, g j)).find? fun z => decide (z.1 = f i) with
      | none => rw [q] at this; cases this
      | some z => rw [q] at this; exact this
    · obtain rfl : i = n := by omega
      have : ((List.range i).map fun j => (f j, g j)).find? (fun z => decide (z.1 = f i)) = none := by
        rw [List.find?_eq_none]
        intro z hz
        obtain ⟨j, hj, rfl⟩ := List.mem_map.mp hz
        have hj := List.mem_range.mp hj
        intro e
        have := inj j (by omega) (of_decide_eq_true e)
        omega
      rw [this]
      simp
abbrev s_law_rounds : Stmt := topS 14
abbrev n_law_rounds : List Str := ["drawing", "numbers", "count", "turn", "keys", "at", "held", "order", "index", "k", "row", "place", "number", "key"]
abbrev p_law_rounds : List Str := ["drawing"]
theorem sc_law_rounds : FnScope n_law_rounds p_law_rounds (defScope s_law_rounds) := ⟨rfl, rfl, rfl, by decide +kernel, rfl, by decide +kernel, by decide +kernel⟩
section
variable {P : Program} {w : World} {K : PySem.W.Frag} {mg : Str → Option Value} {base : Heap}
def spRounds : DL := fun ds M R => ∃ rows, ds = [enD rows] ∧ Drw rows ∧ ∀ ns : List Nat, Lik rows ns → R (enN ns) M
theorem ok_rounds {f : Addr} {fd : FuncData} {k : Nat} (F : Fun K "_law_rounds" "_law_rounds" s_law_rounds f fd) (B : Bt mg) : FnOk P w K mg base CX0 (1 + 1) f fd p_law_rounds (spOf K spRounds) := by
  refine dfnW F sc_law_rounds (fun ds M R h => ?_) (fun cdv A outer s H E ds M R hr h => ?_)
  · obtain ⟨rows, rfl, _⟩ := h
    rfl
  · have nd := sc_law_rounds.nd
    refine ⟨_, (dss_cons (ds_set (i := 1) nd rfl (.inr rfl) (d_lc (lfg_name (i := 10) (by decide)) (pe_lc (own := [("row", 10)]) rfl nd (di_lst (dv 0)) (blkOk_by (own := [("row", 10)]) (N := n_law_rounds) (by rfl)) (fun _ _ _ _ _ => (pg_name (i := 10) nd rfl (.inl rfl))) (fun _ _ _ _ _ => dts_nil) (fun _ _ _ _ _ => d_int))))
(dss_cons (ds_set (i := 2) nd rfl (.inl rfl) d_int)
(dss_cons (ds_for PassesOwn.never rfl (di_rng1 (pi_range1 rfl B.range (da_cons (d_add (d_len rfl B.len (da_cons (dv 0) da_nil)) d_int) da_nil))) (dg_name (i := 3) nd rfl (.inl rfl))
(dss_cons (ds_set (i := 4) nd rfl (.inl rfl) (d_lstM da_nil))
(dss_cons (ds_for PassesOwn.never rfl (di_rng1 (pi_range1 rfl B.range (da_cons (d_len rfl B.len (da_cons (dv 0) da_nil)) da_nil))) (dg_name (i := 5) nd rfl (.inl rfl))
(dss_cons (ds_set (i := 6) nd rfl (.inl rfl) (d_sortedSet hr rfl B.sorted rfl B.set rfl (da_cons (d_lc (lfg_name (i := 11) (by decide)) (pe_lc (own := [("place", 11)]) rfl nd (di_lst (d_sub_ix (dv 0) (dv 5))) (blkOk_by (own := [("place", 11)]) (N := n_law_rounds) (by rfl)) (fun _ _ _ _ _ => (pg_name (i := 11) nd rfl (.inl rfl))) (fun _ _ _ _ _ => dts_nil) (fun _ _ _ _ _ => (d_intC rfl B.int (da_cons (d_sub_ix (dv 1) (dv 11)) da_nil))))) da_nil)))
(dss_one (ds_expr (d_append (dv 4) (da_cons (d_join d_str (da_cons (d_lc (lfg_name (i := 12) (by decide)) (pe_lc (own := [("number", 12)]) rfl nd (di_lst (d_add (d_lst (da_cons (d_sub_ix (dv 1) (dv 5)) da_nil)) (dv 6))) (blkOk_by (own := [("number", 12)]) (N := n_law_rounds) (by rfl)) (fun _ _ _ _ _ => (pg_name (i := 12) nd rfl (.inl rfl))) (fun _ _ _ _ _ => dts_nil) (fun _ _ _ _ _ => (d_slice (d_strC rfl B.str (da_cons (d_add d_int (dv 12)) da_nil)) (do_some d_int) do_none)))) da_nil)) da_nil))))))
(dss_cons (ds_set (i := 7) nd rfl (.inl rfl) (d_sortedSetS hr rfl B.sorted rfl B.set rfl (da_cons (d_lc (lfg_name (i := 13) (by decide)) (pe_lc (own := [("key", 13)]) rfl nd (di_lst (dv 4)) (blkOk_by (own := [("key", 13)]) (N := n_law_rounds) (by rfl)) (fun _ _ _ _ _ => (pg_name (i := 13) nd rfl (.inl rfl))) (fun _ _ _ _ _ => dts_nil) (fun _ _ _ _ _ => (d_strS rfl B.str (da_cons (dv 13) da_nil))))) da_nil)))
(dss_cons (ds_set (i := 8) nd rfl (.inr rfl) d_dict0M)
(dss_cons (ds_for PassesOwn.never rfl (di_rng1 (pi_range1 rfl B.range (da_cons (d_len rfl B.len (da_cons (dv 7) da_nil)) da_nil))) (dg_name (i := 9) nd rfl (.inl rfl))
(dss_one (ds_dput hr (dv 8) (d_sub_ix (dv 7) (dv 9)) (dv 9))))
(dss_cons (ds_set (i := 1) nd rfl (.inr rfl) (d_lc (lfg_name (i := 13) (by decide)) (pe_lc (own := [("key", 13)]) rfl nd (di_lst (dv 4)) (blkOk_by (own := [("key", 13)]) (N := n_law_rounds) (by rfl)) (fun _ _ _ _ _ => (pg_name (i := 13) nd rfl (.inl rfl))) (fun _ _ _ _ _ => dts_nil) (fun _ _ _ _ _ => (d_dget hr (dv 8) (dv 13))))))
(dss_cons (ds_if (dt_eq hr (d_len rfl B.len (da_cons (dv 7) da_nil)) (dv 2))
(dss_one (ds_ret (dv 1)))
dss_nil)
(dss_one (ds_set (i := 2) nd rfl (.inl rfl) (d_len rfl B.len (da_cons (dv 7) da_nil))))))))))))
(dss_one (ds_ret (dv 1)))))), ?_⟩
    obtain ⟨rows, rfl, dr, h⟩ := h
    simp only [dstart, List.map, List.length, List.replicate, List.cons_append, List.nil_append, enD]
    have sm := dr.sm
    have pos := dr.pos
    (try simp only [↓e_var0, ↓e_varS, ↓e_C, ↓e_op, ↓e_un, ↓e_cb, ↓e_nil, ↓e_cons, ↓e_tup, ↓e_lst, ↓e_lstM, ↓e_frz, ↓e_B, ↓e_bl, ↓e_andT, ↓e_orT, ↓e_notT, ↓e_andV, ↓e_orV, ↓e_notV, ↓e_ifE, ↓e_tru, ↓e_slice, ↓e_noPart, ↓e_part, ↓e_partV, ↓e_bm, ↓e_bm0, ↓e_ty_lst, ↓e_ty_str, ↓e_next, ↓e_seq, ↓e_break, ↓e_cont, ↓e_drop, ↓e_ret, ↓e_retN, ↓e_ifS, ↓e_asg, ↓e_gname, ↓e_put0, ↓e_putS, ↓e_aug, ↓e_gsub, ↓e_gtup2, ↓e_I, ↓e_Ic, ↓e_add, ↓e_addS, ↓e_addL, ↓e_addT, ↓e_mul, ↓e_eqI, ↓e_eqS, ↓e_eqB, ↓e_ix_lst, ↓e_ix_tup, ↓e_at0, ↓e_at1, ↓e_at2, ↓e_at3, ↓e_sa0, ↓e_sa1, ↓e_sa2, ↓e_sa3, ↓e_len_lst, ↓e_len_tup, ↓e_len_str, ↓e_abs, ↓e_int, ↓e_str, ↓e_ilst, ↓e_il, ↓e_irl, ↓e_irng1, ↓e_irV, ↓e_irng2, ↓e_irV2, ↓e_yes, ↓u_frzV, ↓u_ty, ↓u_setL, ↓u_ix, ↓u_len, ↓u_append, ↓u_pop, ↓u_iref, ↓e_isi, ↓e_strS, ↓e_dnew, ↓e_dget, ↓e_dput, ↓e_sc, ↓e_dcN, ↓e_rank, ↓e_inLN, ↓e_izipR, ↓e_ienum, ↓e_while, ↓mupd_mupd, ↓e_for, ↓e_lc, ↓e_lcM, ↓e_wipe, ↓e_wipe0, eq_self_iff_true, true_and, List.set_cons_zero, List.set_cons_succ, id_eq, ↓reduceIte, Bool.false_eq_true, Bool.not_true, Bool.not_false])
    refine lc_typed1 rows (fun _ => D.int 0) (small_line (by omega)) trivial (fun i x E' hx hE => ?_) ?_
    · (try simp only [↓e_var0, ↓e_varS, ↓e_C, ↓e_op, ↓e_un, ↓e_cb, ↓e_nil, ↓e_cons, ↓e_tup, ↓e_lst, ↓e_lstM, ↓e_frz, ↓e_B, ↓e_bl, ↓e_andT, ↓e_orT, ↓e_notT, ↓e_andV, ↓e_orV, ↓e_notV, ↓e_ifE, ↓e_tru, ↓e_slice, ↓e_noPart, ↓e_part, ↓e_partV, ↓e_bm, ↓e_bm0, ↓e_ty_lst, ↓e_ty_str, ↓e_next, ↓e_seq, ↓e_break, ↓e_cont, ↓e_drop, ↓e_ret, ↓e_retN, ↓e_ifS, ↓e_asg, ↓e_gname, ↓e_put0, ↓e_putS, ↓e_aug, ↓e_gsub, ↓e_gtup2, ↓e_I, ↓e_Ic, ↓e_add, ↓e_addS, ↓e_addL, ↓e_addT, ↓e_mul, ↓e_eqI, ↓e_eqS, ↓e_eqB, ↓e_ix_lst, ↓e_ix_tup, ↓e_at0, ↓e_at1, ↓e_at2, ↓e_at3, ↓e_sa0, ↓e_sa1, ↓e_sa2, ↓e_sa3, ↓e_len_lst, ↓e_len_tup, ↓e_len_str, ↓e_abs, ↓e_int, ↓e_str, ↓e_ilst, ↓e_il, ↓e_irl, ↓e_irng1, ↓e_irV, ↓e_irng2, ↓e_irV2, ↓e_yes, ↓u_frzV, ↓u_ty, ↓u_setL, ↓u_ix, ↓u_len, ↓u_append, ↓u_pop, ↓u_iref, ↓e_isi, ↓e_strS, ↓e_dnew, ↓e_dget, ↓e_dput, ↓e_sc, ↓e_dcN, ↓e_rank, ↓e_inLN, ↓e_izipR, ↓e_ienum, ↓e_while, ↓mupd_mupd, ↓e_for, ↓e_lc, ↓e_lcM, ↓e_wipe, ↓e_wipe0, eq_self_iff_true, true_and, List.set_cons_zero, List.set_cons_succ, id_eq, ↓reduceIte, Bool.false_eq_true, Bool.not_true, Bool.not_false])
      exact hE
    have e0 : rows.map (fun _ => D.int 0) = (List.replicate rows.length 0).map fun n : Nat => D.int n := by
      rw [List.map_replicate, List.map_const']; rfl
    rw [List.length_map]
    refine ⟨by omega, by omega, ?_⟩
    rw [show ((rows.length : Int) + 1).toNat = rows.length + 1 by omega, e0]
    refine for_typed (List.range (rows.length + 1)) (fun j ρ M' => ∃ (nums : List Nat) (c : Nat) (o3 o4 o5 o6 o7 o8 o9 : Option D), ρ = [some (.lst (rows.map enR)), some (enN nums), some (.int c), o3, o4, o5, o6, o7, o8, o9, none, none, none, none] ∧ Run rows j nums c ∧ DL.Sub M M')
      ⟨_, 1, none, none, none, none, none, none, none, rfl, .zero, DL.Sub.refl _⟩ (fun _ _ _ _ _ => trivial) (fun j y ρ M1 hx hW => ?_) (fun ρ M1 hW => ?_)
    · obtain ⟨nums, c, o3, o4, o5, o6, o7, o8, o9, rfl, run, sb⟩ := hW
      obtain ⟨rfl, hj⟩ := range_get hx
      have nl := (run.num pos).len
      (try simp only [↓e_var0, ↓e_varS, ↓e_C, ↓e_op, ↓e_un, ↓e_cb, ↓e_nil, ↓e_cons, ↓e_tup, ↓e_lst, ↓e_lstM, ↓e_frz, ↓e_B, ↓e_bl, ↓e_andT, ↓e_orT, ↓e_notT, ↓e_andV, ↓e_orV, ↓e_notV, ↓e_ifE, ↓e_tru, ↓e_slice, ↓e_noPart, ↓e_part, ↓e_partV, ↓e_bm, ↓e_bm0, ↓e_ty_lst, ↓e_ty_str, ↓e_next, ↓e_seq, ↓e_break, ↓e_cont, ↓e_drop, ↓e_ret, ↓e_retN, ↓e_ifS, ↓e_asg, ↓e_gname, ↓e_put0, ↓e_putS, ↓e_aug, ↓e_gsub, ↓e_gtup2, ↓e_I, ↓e_Ic, ↓e_add, ↓e_addS, ↓e_addL, ↓e_addT, ↓e_mul, ↓e_eqI, ↓e_eqS, ↓e_eqB, ↓e_ix_lst, ↓e_ix_tup, ↓e_at0, ↓e_at1, ↓e_at2, ↓e_at3, ↓e_sa0, ↓e_sa1, ↓e_sa2, ↓e_sa3, ↓e_len_lst, ↓e_len_tup, ↓e_len_str, ↓e_abs, ↓e_int, ↓e_str, ↓e_ilst, ↓e_il, ↓e_irl, ↓e_irng1, ↓e_irV, ↓e_irng2, ↓e_irV2, ↓e_yes, ↓u_frzV, ↓u_ty, ↓u_setL, ↓u_ix, ↓u_len, ↓u_append, ↓u_pop, ↓u_iref, ↓e_isi, ↓e_strS, ↓e_dnew, ↓e_dget, ↓e_dput, ↓e_sc, ↓e_dcN, ↓e_rank, ↓e_inLN, ↓e_izipR, ↓e_ienum, ↓e_while, ↓mupd_mupd, ↓e_for, ↓e_lc, ↓e_lcM, ↓e_wipe, ↓e_wipe0, eq_self_iff_true, true_and, List.set_cons_zero, List.set_cons_succ, id_eq, ↓reduceIte, Bool.false_eq_true, Bool.not_true, Bool.not_false])
      refine ⟨Nat.zero_le _, fun q hq => ?_⟩
      rw [List.length_map]
      refine ⟨by omega, by omega, ?_⟩
      rw [Int.toNat_natCast]
      have hq0 : M q = none := sb.none hq
      refine for_typed (List.range rows.length) (fun i ρ M' => ∃ (o5 o6 : Option D), ρ = [some (.lst (rows.map enR)), some (enN nums), some (.int c), some (.int y), some (.ref q), o5, o6, o7, o8, o9, none, none, none, none] ∧ M' q = some (.lst (((List.range i).map fun i => tx (krow nums rows i)).map D.str)) ∧ DL.Sub M M')
        ⟨o5, o6, rfl, mupd_same, sb.new _ hq0⟩ (fun _ _ _ _ _ => trivial) (fun i z ρ M2 hx hW => ?_) (fun ρ M2 hW => ?_)
      · obtain ⟨o5, o6, rfl, mq, sb2⟩ := hW
        obtain ⟨rfl, hi⟩ := range_get hx
        (try simp only [↓e_var0, ↓e_varS, ↓e_C, ↓e_op, ↓e_un, ↓e_cb, ↓e_nil, ↓e_cons, ↓e_tup, ↓e_lst, ↓e_lstM, ↓e_frz, ↓e_B, ↓e_bl, ↓e_andT, ↓e_orT, ↓e_notT, ↓e_andV, ↓e_orV, ↓e_notV, ↓e_ifE, ↓e_tru, ↓e_slice, ↓e_noPart, ↓e_part, ↓e_partV, ↓e_bm, ↓e_bm0, ↓e_ty_lst, ↓e_ty_str, ↓e_next, ↓e_seq, ↓e_break, ↓e_cont, ↓e_drop, ↓e_ret, ↓e_retN, ↓e_ifS, ↓e_asg, ↓e_gname, ↓e_put0, ↓e_putS, ↓e_aug, ↓e_gsub, ↓e_gtup2, ↓e_I, ↓e_Ic, ↓e_add, ↓e_addS, ↓e_addL, ↓e_addT, ↓e_mul, ↓e_eqI, ↓e_eqS, ↓e_eqB, ↓e_ix_lst, ↓e_ix_tup, ↓e_at0, ↓e_at1, ↓e_at2, ↓e_at3, ↓e_sa0, ↓e_sa1, ↓e_sa2, ↓e_sa3, ↓e_len_lst, ↓e_len_tup, ↓e_len_str, ↓e_abs, ↓e_int, ↓e_str, ↓e_ilst, ↓e_il, ↓e_irl, ↓e_irng1, ↓e_irV, ↓e_irng2, ↓e_irV2, ↓e_yes, ↓u_frzV, ↓u_ty, ↓u_setL, ↓u_ix, ↓u_len, ↓u_append, ↓u_pop, ↓u_iref, ↓e_isi, ↓e_strS, ↓e_dnew, ↓e_dget, ↓e_dput, ↓e_sc, ↓e_dcN, ↓e_rank, ↓e_inLN, ↓e_izipR, ↓e_ienum, ↓e_while, ↓mupd_mupd, ↓e_for, ↓e_lc, ↓e_lcM, ↓e_wipe, ↓e_wipe0, eq_self_iff_true, true_and, List.set_cons_zero, List.set_cons_succ, id_eq, ↓reduceIte, Bool.false_eq_true, Bool.not_true, Bool.not_false])
        rw [at_map (rows_at hi), show enR (row rows z) = .lst ((row rows z).map fun n : Nat => D.int n) from rfl]
        (try simp only [↓e_var0, ↓e_varS, ↓e_C, ↓e_op, ↓e_un, ↓e_cb, ↓e_nil, ↓e_cons, ↓e_tup, ↓e_lst, ↓e_lstM, ↓e_frz, ↓e_B, ↓e_bl, ↓e_andT, ↓e_orT, ↓e_notT, ↓e_andV, ↓e_orV, ↓e_notV, ↓e_ifE, ↓e_tru, ↓e_slice, ↓e_noPart, ↓e_part, ↓e_partV, ↓e_bm, ↓e_bm0, ↓e_ty_lst, ↓e_ty_str, ↓e_next, ↓e_seq, ↓e_break, ↓e_cont, ↓e_drop, ↓e_ret, ↓e_retN, ↓e_ifS, ↓e_asg, ↓e_gname, ↓e_put0, ↓e_putS, ↓e_aug, ↓e_gsub, ↓e_gtup2, ↓e_I, ↓e_Ic, ↓e_add, ↓e_addS, ↓e_addL, ↓e_addT, ↓e_mul, ↓e_eqI, ↓e_eqS, ↓e_eqB, ↓e_ix_lst, ↓e_ix_tup, ↓e_at0, ↓e_at1, ↓e_at2, ↓e_at3, ↓e_sa0, ↓e_sa1, ↓e_sa2, ↓e_sa3, ↓e_len_lst, ↓e_len_tup, ↓e_len_str, ↓e_abs, ↓e_int, ↓e_str, ↓e_ilst, ↓e_il, ↓e_irl, ↓e_irng1, ↓e_irV, ↓e_irng2, ↓e_irV2, ↓e_yes, ↓u_frzV, ↓u_ty, ↓u_setL, ↓u_ix, ↓u_len, ↓u_append, ↓u_pop, ↓u_iref, ↓e_isi, ↓e_strS, ↓e_dnew, ↓e_dget, ↓e_dput, ↓e_sc, ↓e_dcN, ↓e_rank, ↓e_inLN, ↓e_izipR, ↓e_ienum, ↓e_while, ↓mupd_mupd, ↓e_for, ↓e_lc, ↓e_lcM, ↓e_wipe, ↓e_wipe0, eq_self_iff_true, true_and, List.set_cons_zero, List.set_cons_succ, id_eq, ↓reduceIte, Bool.false_eq_true, Bool.not_true, Bool.not_false])
        have rl := row_lt dr hi
        have rlen : (row rows z).length ≤ rows.length := by
          have hmem : row rows z ∈ rows := List.mem_of_getElem? (rows_at hi)
          have nd0 : (row rows z).Nodup := (dr.asc _ hmem).imp fun h => Nat.ne_of_lt h
          have := nat_nodup_len (row rows z) (List.range rows.length) nd0 fun v hv => List.mem_range.mpr (rl v hv)
          rwa [List.length_range] at this
        refine lc_typed1 (row rows z) (fun p => D.int (at0 nums p)) (small_line (by omega)) trivial (fun i2 p E' hp hE => ?_) ?_
        · have hpl := rl p (List.mem_of_getElem? hp)
          (try simp only [↓e_var0, ↓e_varS, ↓e_C, ↓e_op, ↓e_un, ↓e_cb, ↓e_nil, ↓e_cons, ↓e_tup, ↓e_lst, ↓e_lstM, ↓e_frz, ↓e_B, ↓e_bl, ↓e_andT, ↓e_orT, ↓e_notT, ↓e_andV, ↓e_orV, ↓e_notV, ↓e_ifE, ↓e_tru, ↓e_slice, ↓e_noPart, ↓e_part, ↓e_partV, ↓e_bm, ↓e_bm0, ↓e_ty_lst, ↓e_ty_str, ↓e_next, ↓e_seq, ↓e_break, ↓e_cont, ↓e_drop, ↓e_ret, ↓e_retN, ↓e_ifS, ↓e_asg, ↓e_gname, ↓e_put0, ↓e_putS, ↓e_aug, ↓e_gsub, ↓e_gtup2, ↓e_I, ↓e_Ic, ↓e_add, ↓e_addS, ↓e_addL, ↓e_addT, ↓e_mul, ↓e_eqI, ↓e_eqS, ↓e_eqB, ↓e_ix_lst, ↓e_ix_tup, ↓e_at0, ↓e_at1, ↓e_at2, ↓e_at3, ↓e_sa0, ↓e_sa1, ↓e_sa2, ↓e_sa3, ↓e_len_lst, ↓e_len_tup, ↓e_len_str, ↓e_abs, ↓e_int, ↓e_str, ↓e_ilst, ↓e_il, ↓e_irl, ↓e_irng1, ↓e_irV, ↓e_irng2, ↓e_irV2, ↓e_yes, ↓u_frzV, ↓u_ty, ↓u_setL, ↓u_ix, ↓u_len, ↓u_append, ↓u_pop, ↓u_iref, ↓e_isi, ↓e_strS, ↓e_dnew, ↓e_dget, ↓e_dput, ↓e_sc, ↓e_dcN, ↓e_rank, ↓e_inLN, ↓e_izipR, ↓e_ienum, ↓e_while, ↓mupd_mupd, ↓e_for, ↓e_lc, ↓e_lcM, ↓e_wipe, ↓e_wipe0, eq_self_iff_true, true_and, List.set_cons_zero, List.set_cons_succ, id_eq, ↓reduceIte, Bool.false_eq_true, Bool.not_true, Bool.not_false])
          rw [at_map (nums_at (by rw [nl]; exact hpl))]
          (try simp only [↓e_var0, ↓e_varS, ↓e_C, ↓e_op, ↓e_un, ↓e_cb, ↓e_nil, ↓e_cons, ↓e_tup, ↓e_lst, ↓e_lstM, ↓e_frz, ↓e_B, ↓e_bl, ↓e_andT, ↓e_orT, ↓e_notT, ↓e_andV, ↓e_orV, ↓e_notV, ↓e_ifE, ↓e_tru, ↓e_slice, ↓e_noPart, ↓e_part, ↓e_partV, ↓e_bm, ↓e_bm0, ↓e_ty_lst, ↓e_ty_str, ↓e_next, ↓e_seq, ↓e_break, ↓e_cont, ↓e_drop, ↓e_ret, ↓e_retN, ↓e_ifS, ↓e_asg, ↓e_gname, ↓e_put0, ↓e_putS, ↓e_aug, ↓e_gsub, ↓e_gtup2, ↓e_I, ↓e_Ic, ↓e_add, ↓e_addS, ↓e_addL, ↓e_addT, ↓e_mul, ↓e_eqI, ↓e_eqS, ↓e_eqB, ↓e_ix_lst, ↓e_ix_tup, ↓e_at0, ↓e_at1, ↓e_at2, ↓e_at3, ↓e_sa0, ↓e_sa1, ↓e_sa2, ↓e_sa3, ↓e_len_lst, ↓e_len_tup, ↓e_len_str, ↓e_abs, ↓e_int, ↓e_str, ↓e_ilst, ↓e_il, ↓e_irl, ↓e_irng1, ↓e_irV, ↓e_irng2, ↓e_irV2, ↓e_yes, ↓u_frzV, ↓u_ty, ↓u_setL, ↓u_ix, ↓u_len, ↓u_append, ↓u_pop, ↓u_iref, ↓e_isi, ↓e_strS, ↓e_dnew, ↓e_dget, ↓e_dput, ↓e_sc, ↓e_dcN, ↓e_rank, ↓e_inLN, ↓e_izipR, ↓e_ienum, ↓e_while, ↓mupd_mupd, ↓e_for, ↓e_lc, ↓e_lcM, ↓e_wipe, ↓e_wipe0, eq_self_iff_true, true_and, List.set_cons_zero, List.set_cons_succ, id_eq, ↓reduceIte, Bool.false_eq_true, Bool.not_true, Bool.not_false])
          exact hE
        refine ⟨_, (row rows z).map fun p => (at0 nums p : Int), rfl, by show some _ = some _; rw [List.map_map]; rfl, by rw [List.length_map]; omega, fun ns' hs => ?_⟩
        have hs2 : IsSet (((row rows z).map (at0 nums)).map fun k : Nat => (k : Int)) ns' := by rw [List.map_map]; exact hs
        obtain ⟨r, rfl, r1, r2⟩ := isSet_nat hs2
        obtain rfl := sset_of (B := rows.length) (l := (row rows z).map (at0 nums)) (fun v hv => by
          obtain ⟨p, hp, rfl⟩ := List.mem_map.mp hv
          exact num_lt dr run (rl p hp)) r1 r2
        (try simp only [↓e_var0, ↓e_varS, ↓e_C, ↓e_op, ↓e_un, ↓e_cb, ↓e_nil, ↓e_cons, ↓e_tup, ↓e_lst, ↓e_lstM, ↓e_frz, ↓e_B, ↓e_bl, ↓e_andT, ↓e_orT, ↓e_notT, ↓e_andV, ↓e_orV, ↓e_notV, ↓e_ifE, ↓e_tru, ↓e_slice, ↓e_noPart, ↓e_part, ↓e_partV, ↓e_bm, ↓e_bm0, ↓e_ty_lst, ↓e_ty_str, ↓e_next, ↓e_seq, ↓e_break, ↓e_cont, ↓e_drop, ↓e_ret, ↓e_retN, ↓e_ifS, ↓e_asg, ↓e_gname, ↓e_put0, ↓e_putS, ↓e_aug, ↓e_gsub, ↓e_gtup2, ↓e_I, ↓e_Ic, ↓e_add, ↓e_addS, ↓e_addL, ↓e_addT, ↓e_mul, ↓e_eqI, ↓e_eqS, ↓e_eqB, ↓e_ix_lst, ↓e_ix_tup, ↓e_at0, ↓e_at1, ↓e_at2, ↓e_at3, ↓e_sa0, ↓e_sa1, ↓e_sa2, ↓e_sa3, ↓e_len_lst, ↓e_len_tup, ↓e_len_str, ↓e_abs, ↓e_int, ↓e_str, ↓e_ilst, ↓e_il, ↓e_irl, ↓e_irng1, ↓e_irV, ↓e_irng2, ↓e_irV2, ↓e_yes, ↓u_frzV, ↓u_ty, ↓u_setL, ↓u_ix, ↓u_len, ↓u_append, ↓u_pop, ↓u_iref, ↓e_isi, ↓e_strS, ↓e_dnew, ↓e_dget, ↓e_dput, ↓e_sc, ↓e_dcN, ↓e_rank, ↓e_inLN, ↓e_izipR, ↓e_ienum, ↓e_while, ↓mupd_mupd, ↓e_for, ↓e_lc, ↓e_lcM, ↓e_wipe, ↓e_wipe0, ↓e_frzV mq, ↓e_ty_ref mq, ↓e_setL mq, ↓e_ix_ref mq, ↓e_len_ref mq, ↓e_append mq, ↓e_pop mq, ↓e_iref mq, eq_self_iff_true, true_and, List.set_cons_zero, List.set_cons_succ, id_eq, ↓reduceIte, Bool.false_eq_true, Bool.not_true, Bool.not_false])
        rw [at_map (nums_at (by rw [nl]; exact hi))]
        (try simp only [↓e_var0, ↓e_varS, ↓e_C, ↓e_op, ↓e_un, ↓e_cb, ↓e_nil, ↓e_cons, ↓e_tup, ↓e_lst, ↓e_lstM, ↓e_frz, ↓e_B, ↓e_bl, ↓e_andT, ↓e_orT, ↓e_notT, ↓e_andV, ↓e_orV, ↓e_notV, ↓e_ifE, ↓e_tru, ↓e_slice, ↓e_noPart, ↓e_part, ↓e_partV, ↓e_bm, ↓e_bm0, ↓e_ty_lst, ↓e_ty_str, ↓e_next, ↓e_seq, ↓e_break, ↓e_cont, ↓e_drop, ↓e_ret, ↓e_retN, ↓e_ifS, ↓e_asg, ↓e_gname, ↓e_put0, ↓e_putS, ↓e_aug, ↓e_gsub, ↓e_gtup2, ↓e_I, ↓e_Ic, ↓e_add, ↓e_addS, ↓e_addL, ↓e_addT, ↓e_mul, ↓e_eqI, ↓e_eqS, ↓e_eqB, ↓e_ix_lst, ↓e_ix_tup, ↓e_at0, ↓e_at1, ↓e_at2, ↓e_at3, ↓e_sa0, ↓e_sa1, ↓e_sa2, ↓e_sa3, ↓e_len_lst, ↓e_len_tup, ↓e_len_str, ↓e_abs, ↓e_int, ↓e_str, ↓e_ilst, ↓e_il, ↓e_irl, ↓e_irng1, ↓e_irV, ↓e_irng2, ↓e_irV2, ↓e_yes, ↓u_frzV, ↓u_ty, ↓u_setL, ↓u_ix, ↓u_len, ↓u_append, ↓u_pop, ↓u_iref, ↓e_isi, ↓e_strS, ↓e_dnew, ↓e_dget, ↓e_dput, ↓e_sc, ↓e_dcN, ↓e_rank, ↓e_inLN, ↓e_izipR, ↓e_ienum, ↓e_while, ↓mupd_mupd, ↓e_for, ↓e_lc, ↓e_lcM, ↓e_wipe, ↓e_wipe0, eq_self_iff_true, true_and, List.set_cons_zero, List.set_cons_succ, id_eq, ↓reduceIte, Bool.false_eq_true, Bool.not_true, Bool.not_false])
        refine ⟨small_line (by simp), small_line (by
          have := krow_len (nums := nums) (rows := rows) z
          unfold krow at this
          simp at this ⊢
          omega), ?_⟩
        have ek : [D.int (at0 nums z : Nat)] ++ ((sset rows.length ((row rows z).map (at0 nums))).map fun k : Nat => (k : Int)).map D.int = (krow nums rows z).map fun n : Nat => D.int n := by
          rw [← nats_ints]; rfl
        rw [ek]
        have k2 := krow_lt dr run hi
        refine lc_typed1 (krow nums rows z) (fun n => D.str (enc3 n)) (small_line (by have := krow_len (nums := nums) (rows := rows) z; omega)) trivial (fun i2 n E' hn hE => ?_) ?_
        · have hn2 := k2 n (List.mem_of_getElem? hn)
          (try simp only [↓e_var0, ↓e_varS, ↓e_C, ↓e_op, ↓e_un, ↓e_cb, ↓e_nil, ↓e_cons, ↓e_tup, ↓e_lst, ↓e_lstM, ↓e_frz, ↓e_B, ↓e_bl, ↓e_andT, ↓e_orT, ↓e_notT, ↓e_andV, ↓e_orV, ↓e_notV, ↓e_ifE, ↓e_tru, ↓e_slice, ↓e_noPart, ↓e_part, ↓e_partV, ↓e_bm, ↓e_bm0, ↓e_ty_lst, ↓e_ty_str, ↓e_next, ↓e_seq, ↓e_break, ↓e_cont, ↓e_drop, ↓e_ret, ↓e_retN, ↓e_ifS, ↓e_asg, ↓e_gname, ↓e_put0, ↓e_putS, ↓e_aug, ↓e_gsub, ↓e_gtup2, ↓e_I, ↓e_Ic, ↓e_add, ↓e_addS, ↓e_addL, ↓e_addT, ↓e_mul, ↓e_eqI, ↓e_eqS, ↓e_eqB, ↓e_ix_lst, ↓e_ix_tup, ↓e_at0, ↓e_at1, ↓e_at2, ↓e_at3, ↓e_sa0, ↓e_sa1, ↓e_sa2, ↓e_sa3, ↓e_len_lst, ↓e_len_tup, ↓e_len_str, ↓e_abs, ↓e_int, ↓e_str, ↓e_ilst, ↓e_il, ↓e_irl, ↓e_irng1, ↓e_irV, ↓e_irng2, ↓e_irV2, ↓e_yes, ↓u_frzV, ↓u_ty, ↓u_setL, ↓u_ix, ↓u_len, ↓u_append, ↓u_pop, ↓u_iref, ↓e_isi, ↓e_strS, ↓e_dnew, ↓e_dget, ↓e_dput, ↓e_sc, ↓e_dcN, ↓e_rank, ↓e_inLN, ↓e_izipR, ↓e_ienum, ↓e_while, ↓mupd_mupd, ↓e_for, ↓e_lc, ↓e_lcM, ↓e_wipe, ↓e_wipe0, eq_self_iff_true, true_and, List.set_cons_zero, List.set_cons_succ, id_eq, ↓reduceIte, Bool.false_eq_true, Bool.not_true, Bool.not_false])
          exact ⟨(str_ok hn2).2, (str_ok hn2).1, hE⟩
        have k3 := krow_len (nums := nums) (rows := rows) z
        refine ⟨"", _, (krow nums rows z).map enc3, rfl, rfl, by show some _ = some _; rw [List.map_map]; rfl, ?_, ?_⟩
        · rw [enc3_sum k2]
          show _ + _ * 0 ≤ _
          omega
        (try simp only [↓e_var0, ↓e_varS, ↓e_C, ↓e_op, ↓e_un, ↓e_cb, ↓e_nil, ↓e_cons, ↓e_tup, ↓e_lst, ↓e_lstM, ↓e_frz, ↓e_B, ↓e_bl, ↓e_andT, ↓e_orT, ↓e_notT, ↓e_andV, ↓e_orV, ↓e_notV, ↓e_ifE, ↓e_tru, ↓e_slice, ↓e_noPart, ↓e_part, ↓e_partV, ↓e_bm, ↓e_bm0, ↓e_ty_lst, ↓e_ty_str, ↓e_next, ↓e_seq, ↓e_break, ↓e_cont, ↓e_drop, ↓e_ret, ↓e_retN, ↓e_ifS, ↓e_asg, ↓e_gname, ↓e_put0, ↓e_putS, ↓e_aug, ↓e_gsub, ↓e_gtup2, ↓e_I, ↓e_Ic, ↓e_add, ↓e_addS, ↓e_addL, ↓e_addT, ↓e_mul, ↓e_eqI, ↓e_eqS, ↓e_eqB, ↓e_ix_lst, ↓e_ix_tup, ↓e_at0, ↓e_at1, ↓e_at2, ↓e_at3, ↓e_sa0, ↓e_sa1, ↓e_sa2, ↓e_sa3, ↓e_len_lst, ↓e_len_tup, ↓e_len_str, ↓e_abs, ↓e_int, ↓e_str, ↓e_ilst, ↓e_il, ↓e_irl, ↓e_irng1, ↓e_irV, ↓e_irng2, ↓e_irV2, ↓e_yes, ↓u_frzV, ↓u_ty, ↓u_setL, ↓u_ix, ↓u_len, ↓u_append, ↓u_pop, ↓u_iref, ↓e_isi, ↓e_strS, ↓e_dnew, ↓e_dget, ↓e_dput, ↓e_sc, ↓e_dcN, ↓e_rank, ↓e_inLN, ↓e_izipR, ↓e_ienum, ↓e_while, ↓mupd_mupd, ↓e_for, ↓e_lc, ↓e_lcM, ↓e_wipe, ↓e_wipe0, ↓e_frzV mq, ↓e_ty_ref mq, ↓e_setL mq, ↓e_ix_ref mq, ↓e_len_ref mq, ↓e_append mq, ↓e_pop mq, ↓e_iref mq, eq_self_iff_true, true_and, List.set_cons_zero, List.set_cons_succ, id_eq, ↓reduceIte, Bool.false_eq_true, Bool.not_true, Bool.not_false])
        refine ⟨by rw [List.length_map, List.length_map, List.length_range]; exact small_line' (by omega), _, _, rfl, ?_, fun b u e => ?_⟩
        · rw [mupd_same, List.range_succ, List.map_append, List.map_append]
          rfl
        · have ne : b ≠ q := fun z => by subst z; rw [hq0] at e; cases e
          rw [mupd_ne ne]; exact sb2 b u e
      · obtain ⟨o5, o6, rfl, mq, sb2⟩ := hW
        rw [List.length_range] at mq
        have ekx : (List.range rows.length).map (fun i => tx (krow nums rows i)) = (keys nums rows).map tx := by
          unfold keys; rw [List.map_map]; rfl
        rw [ekx] at mq
        have klen := keys_len nums rows
        have ktx : ∀ k ∈ keys nums rows, ∀ n ∈ k, n < 200 := fun k hk => by
          obtain ⟨i, hi, rfl⟩ := keys_mem.mp hk
          exact krow_lt dr run hi
        (try simp only [↓e_var0, ↓e_varS, ↓e_C, ↓e_op, ↓e_un, ↓e_cb, ↓e_nil, ↓e_cons, ↓e_tup, ↓e_lst, ↓e_lstM, ↓e_frz, ↓e_B, ↓e_bl, ↓e_andT, ↓e_orT, ↓e_notT, ↓e_andV, ↓e_orV, ↓e_notV, ↓e_ifE, ↓e_tru, ↓e_slice, ↓e_noPart, ↓e_part, ↓e_partV, ↓e_bm, ↓e_bm0, ↓e_ty_lst, ↓e_ty_str, ↓e_next, ↓e_seq, ↓e_break, ↓e_cont, ↓e_drop, ↓e_ret, ↓e_retN, ↓e_ifS, ↓e_asg, ↓e_gname, ↓e_put0, ↓e_putS, ↓e_aug, ↓e_gsub, ↓e_gtup2, ↓e_I, ↓e_Ic, ↓e_add, ↓e_addS, ↓e_addL, ↓e_addT, ↓e_mul, ↓e_eqI, ↓e_eqS, ↓e_eqB, ↓e_ix_lst, ↓e_ix_tup, ↓e_at0, ↓e_at1, ↓e_at2, ↓e_at3, ↓e_sa0, ↓e_sa1, ↓e_sa2, ↓e_sa3, ↓e_len_lst, ↓e_len_tup, ↓e_len_str, ↓e_abs, ↓e_int, ↓e_str, ↓e_ilst, ↓e_il, ↓e_irl, ↓e_irng1, ↓e_irV, ↓e_irng2, ↓e_irV2, ↓e_yes, ↓u_frzV, ↓u_ty, ↓u_setL, ↓u_ix, ↓u_len, ↓u_append, ↓u_pop, ↓u_iref, ↓e_isi, ↓e_strS, ↓e_dnew, ↓e_dget, ↓e_dput, ↓e_sc, ↓e_dcN, ↓e_rank, ↓e_inLN, ↓e_izipR, ↓e_ienum, ↓e_while, ↓mupd_mupd, ↓e_for, ↓e_lc, ↓e_lcM, ↓e_wipe, ↓e_wipe0, ↓e_frzV mq, ↓e_ty_ref mq, ↓e_setL mq, ↓e_ix_ref mq, ↓e_len_ref mq, ↓e_append mq, ↓e_pop mq, ↓e_iref mq, eq_self_iff_true, true_and, List.set_cons_zero, List.set_cons_succ, id_eq, ↓reduceIte, Bool.false_eq_true, Bool.not_true, Bool.not_false])
        refine lc_typed1 ((keys nums rows).map tx) D.str (small_line (by rw [List.length_map]; omega)) mq (fun i2 t E' ht hE => ?_) ?_
        · (try simp only [↓e_var0, ↓e_varS, ↓e_C, ↓e_op, ↓e_un, ↓e_cb, ↓e_nil, ↓e_cons, ↓e_tup, ↓e_lst, ↓e_lstM, ↓e_frz, ↓e_B, ↓e_bl, ↓e_andT, ↓e_orT, ↓e_notT, ↓e_andV, ↓e_orV, ↓e_notV, ↓e_ifE, ↓e_tru, ↓e_slice, ↓e_noPart, ↓e_part, ↓e_partV, ↓e_bm, ↓e_bm0, ↓e_ty_lst, ↓e_ty_str, ↓e_next, ↓e_seq, ↓e_break, ↓e_cont, ↓e_drop, ↓e_ret, ↓e_retN, ↓e_ifS, ↓e_asg, ↓e_gname, ↓e_put0, ↓e_putS, ↓e_aug, ↓e_gsub, ↓e_gtup2, ↓e_I, ↓e_Ic, ↓e_add, ↓e_addS, ↓e_addL, ↓e_addT, ↓e_mul, ↓e_eqI, ↓e_eqS, ↓e_eqB, ↓e_ix_lst, ↓e_ix_tup, ↓e_at0, ↓e_at1, ↓e_at2, ↓e_at3, ↓e_sa0, ↓e_sa1, ↓e_sa2, ↓e_sa3, ↓e_len_lst, ↓e_len_tup, ↓e_len_str, ↓e_abs, ↓e_int, ↓e_str, ↓e_ilst, ↓e_il, ↓e_irl, ↓e_irng1, ↓e_irV, ↓e_irng2, ↓e_irV2, ↓e_yes, ↓u_frzV, ↓u_ty, ↓u_setL, ↓u_ix, ↓u_len, ↓u_append, ↓u_pop, ↓u_iref, ↓e_isi, ↓e_strS, ↓e_dnew, ↓e_dget, ↓e_dput, ↓e_sc, ↓e_dcN, ↓e_rank, ↓e_inLN, ↓e_izipR, ↓e_ienum, ↓e_while, ↓mupd_mupd, ↓e_for, ↓e_lc, ↓e_lcM, ↓e_wipe, ↓e_wipe0, eq_self_iff_true, true_and, List.set_cons_zero, List.set_cons_succ, id_eq, ↓reduceIte, Bool.false_eq_true, Bool.not_true, Bool.not_false])
          exact hE
        refine ⟨_, (keys nums rows).map tx, rfl, rfl, by rw [List.length_map]; omega, fun l hl => ?_⟩
        obtain ⟨os, rfl, io⟩ := ord_texts ktx hl
        have osl := ord_le io
        intro p hp
        have hp0 : M p = none := sb2.none hp
        have hpq : p ≠ q := fun z => by subst z; rw [mq] at hp; cases hp
        (try simp only [↓e_var0, ↓e_varS, ↓e_C, ↓e_op, ↓e_un, ↓e_cb, ↓e_nil, ↓e_cons, ↓e_tup, ↓e_lst, ↓e_lstM, ↓e_frz, ↓e_B, ↓e_bl, ↓e_andT, ↓e_orT, ↓e_notT, ↓e_andV, ↓e_orV, ↓e_notV, ↓e_ifE, ↓e_tru, ↓e_slice, ↓e_noPart, ↓e_part, ↓e_partV, ↓e_bm, ↓e_bm0, ↓e_ty_lst, ↓e_ty_str, ↓e_next, ↓e_seq, ↓e_break, ↓e_cont, ↓e_drop, ↓e_ret, ↓e_retN, ↓e_ifS, ↓e_asg, ↓e_gname, ↓e_put0, ↓e_putS, ↓e_aug, ↓e_gsub, ↓e_gtup2, ↓e_I, ↓e_Ic, ↓e_add, ↓e_addS, ↓e_addL, ↓e_addT, ↓e_mul, ↓e_eqI, ↓e_eqS, ↓e_eqB, ↓e_ix_lst, ↓e_ix_tup, ↓e_at0, ↓e_at1, ↓e_at2, ↓e_at3, ↓e_sa0, ↓e_sa1, ↓e_sa2, ↓e_sa3, ↓e_len_lst, ↓e_len_tup, ↓e_len_str, ↓e_abs, ↓e_int, ↓e_str, ↓e_ilst, ↓e_il, ↓e_irl, ↓e_irng1, ↓e_irV, ↓e_irng2, ↓e_irV2, ↓e_yes, ↓u_frzV, ↓u_ty, ↓u_setL, ↓u_ix, ↓u_len, ↓u_append, ↓u_pop, ↓u_iref, ↓e_isi, ↓e_strS, ↓e_dnew, ↓e_dget, ↓e_dput, ↓e_sc, ↓e_dcN, ↓e_rank, ↓e_inLN, ↓e_izipR, ↓e_ienum, ↓e_while, ↓mupd_mupd, ↓e_for, ↓e_lc, ↓e_lcM, ↓e_wipe, ↓e_wipe0, eq_self_iff_true, true_and, List.set_cons_zero, List.set_cons_succ, id_eq, ↓reduceIte, Bool.false_eq_true, Bool.not_true, Bool.not_false])
        rw [List.length_map, List.length_map]
        refine ⟨by omega, by omega, ?_⟩
        rw [Int.toNat_natCast]
        have osin : ∀ i j, i < os.length → j < os.length → tx (os.getD i []) = tx (os.getD j []) → i = j := fun i j hi hj e => by
          have gi : os.getD i [] = os[i] := by rw [List.getD_eq_getElem?_getD, List.getElem?_eq_getElem hi]; rfl
          have gj : os.getD j [] = os[j] := by rw [List.getD_eq_getElem?_getD, List.getElem?_eq_getElem hj]; rfl
          rw [gi, gj] at e
          have := tx_inj (ktx _ ((io.mem _).mp (List.getElem_mem hi))) (ktx _ ((io.mem _).mp (List.getElem_mem hj))) e
          rw [← io.nodup.idxOf_getElem i hi, ← io.nodup.idxOf_getElem j hj, this]
        refine for_typed (List.range os.length) (fun i ρ M' => ∃ (o9 : Option D), ρ = [some (.lst (rows.map enR)), some (enN nums), some (.int c), some (.int y), some (.ref q), o5, o6, some (.lst ((os.map tx).map D.str)), some (.ref p), o9, none, none, none, none] ∧ M' p = some (.dK ((List.range i).map fun i => (Sum.inr (tx (os.getD i [])), D.int i))) ∧ M' q = some (.lst (((keys nums rows).map tx).map D.str)) ∧ DL.Sub M M')
          ⟨o9, rfl, mupd_same, by rw [mupd_ne (Ne.symm hpq)]; exact mq, sb2.new _ hp0⟩ (fun _ _ _ _ _ => trivial) (fun i z ρ M3 hx hW => ?_) (fun ρ M3 hW => ?_)
        · obtain ⟨o9, rfl, mp, mq3, sb3⟩ := hW
          obtain ⟨rfl, hi⟩ := range_get hx
          (try simp only [↓e_var0, ↓e_varS, ↓e_C, ↓e_op, ↓e_un, ↓e_cb, ↓e_nil, ↓e_cons, ↓e_tup, ↓e_lst, ↓e_lstM, ↓e_frz, ↓e_B, ↓e_bl, ↓e_andT, ↓e_orT, ↓e_notT, ↓e_andV, ↓e_orV, ↓e_notV, ↓e_ifE, ↓e_tru, ↓e_slice, ↓e_noPart, ↓e_part, ↓e_partV, ↓e_bm, ↓e_bm0, ↓e_ty_lst, ↓e_ty_str, ↓e_next, ↓e_seq, ↓e_break, ↓e_cont, ↓e_drop, ↓e_ret, ↓e_retN, ↓e_ifS, ↓e_asg, ↓e_gname, ↓e_put0, ↓e_putS, ↓e_aug, ↓e_gsub, ↓e_gtup2, ↓e_I, ↓e_Ic, ↓e_add, ↓e_addS, ↓e_addL, ↓e_addT, ↓e_mul, ↓e_eqI, ↓e_eqS, ↓e_eqB, ↓e_ix_lst, ↓e_ix_tup, ↓e_at0, ↓e_at1, ↓e_at2, ↓e_at3, ↓e_sa0, ↓e_sa1, ↓e_sa2, ↓e_sa3, ↓e_len_lst, ↓e_len_tup, ↓e_len_str, ↓e_abs, ↓e_int, ↓e_str, ↓e_ilst, ↓e_il, ↓e_irl, ↓e_irng1, ↓e_irV, ↓e_irng2, ↓e_irV2, ↓e_yes, ↓u_frzV, ↓u_ty, ↓u_setL, ↓u_ix, ↓u_len, ↓u_append, ↓u_pop, ↓u_iref, ↓e_isi, ↓e_strS, ↓e_dnew, ↓e_dget, ↓e_dput, ↓e_sc, ↓e_dcN, ↓e_rank, ↓e_inLN, ↓e_izipR, ↓e_ienum, ↓e_while, ↓mupd_mupd, ↓e_for, ↓e_lc, ↓e_lcM, ↓e_wipe, ↓e_wipe0, eq_self_iff_true, true_and, List.set_cons_zero, List.set_cons_succ, id_eq, ↓reduceIte, Bool.false_eq_true, Bool.not_true, Bool.not_false])
          have ogz : (os.map tx)[z]? = some (tx (os.getD z [])) := by
            rw [List.getElem?_map, List.getD_eq_getElem?_getD, List.getElem?_eq_getElem hi]; rfl
          rw [at_map ogz]
          refine ⟨p, _, Sum.inr (tx (os.getD z [])), rfl, mp, rfl, by rw [List.length_map, List.length_range]; exact small_line' (by omega), some (.int z), rfl, ?_, ?_, fun b u e => ?_⟩
          · rw [mupd_same, putD_new, List.range_succ, List.map_append]
            · rfl
            · intro x hx
              obtain ⟨j, hj, rfl⟩ := List.mem_map.mp hx
              have hj := List.mem_range.mp hj
              intro e
              injection e with e
              have := osin j z (by omega) hi e
              omega
          · rw [mupd_ne (Ne.symm hpq)]; exact mq3
          · have ne : b ≠ p := fun z => by subst z; rw [hp0] at e; cases e
            rw [mupd_ne ne]; exact sb3 b u e
        · obtain ⟨o9, rfl, mp, mq3, sb3⟩ := hW
          rw [List.length_range] at mp
          (try simp only [↓e_var0, ↓e_varS, ↓e_C, ↓e_op, ↓e_un, ↓e_cb, ↓e_nil, ↓e_cons, ↓e_tup, ↓e_lst, ↓e_lstM, ↓e_frz, ↓e_B, ↓e_bl, ↓e_andT, ↓e_orT, ↓e_notT, ↓e_andV, ↓e_orV, ↓e_notV, ↓e_ifE, ↓e_tru, ↓e_slice, ↓e_noPart, ↓e_part, ↓e_partV, ↓e_bm, ↓e_bm0, ↓e_ty_lst, ↓e_ty_str, ↓e_next, ↓e_seq, ↓e_break, ↓e_cont, ↓e_drop, ↓e_ret, ↓e_retN, ↓e_ifS, ↓e_asg, ↓e_gname, ↓e_put0, ↓e_putS, ↓e_aug, ↓e_gsub, ↓e_gtup2, ↓e_I, ↓e_Ic, ↓e_add, ↓e_addS, ↓e_addL, ↓e_addT, ↓e_mul, ↓e_eqI, ↓e_eqS, ↓e_eqB, ↓e_ix_lst, ↓e_ix_tup, ↓e_at0, ↓e_at1, ↓e_at2, ↓e_at3, ↓e_sa0, ↓e_sa1, ↓e_sa2, ↓e_sa3, ↓e_len_lst, ↓e_len_tup, ↓e_len_str, ↓e_abs, ↓e_int, ↓e_str, ↓e_ilst, ↓e_il, ↓e_irl, ↓e_irng1, ↓e_irV, ↓e_irng2, ↓e_irV2, ↓e_yes, ↓u_frzV, ↓u_ty, ↓u_setL, ↓u_ix, ↓u_len, ↓u_append, ↓u_pop, ↓u_iref, ↓e_isi, ↓e_strS, ↓e_dnew, ↓e_dget, ↓e_dput, ↓e_sc, ↓e_dcN, ↓e_rank, ↓e_inLN, ↓e_izipR, ↓e_ienum, ↓e_while, ↓mupd_mupd, ↓e_for, ↓e_lc, ↓e_lcM, ↓e_wipe, ↓e_wipe0, ↓e_frzV mq3, ↓e_ty_ref mq3, ↓e_setL mq3, ↓e_ix_ref mq3, ↓e_len_ref mq3, ↓e_append mq3, ↓e_pop mq3, ↓e_iref mq3, eq_self_iff_true, true_and, List.set_cons_zero, List.set_cons_succ, id_eq, ↓reduceIte, Bool.false_eq_true, Bool.not_true, Bool.not_false])
          rw [List.map_map]
          refine lc_typed1 (keys nums rows) (fun k => D.int (os.idxOf k : Nat)) (small_line (by omega)) (by rw [← List.map_map]; exact mq3) (fun i2 k E' hk hE => ?_) ?_
          · have hk1 := List.mem_of_getElem? hk
            have hk2 : os.idxOf k < os.length := List.idxOf_lt_length_iff.mpr ((io.mem k).mpr hk1)
            have hk3 : os.getD (os.idxOf k) [] = k := by
              rw [List.getD_eq_getElem?_getD, List.getElem?_eq_getElem hk2]
              exact List.getElem_idxOf hk2
            (try simp only [↓e_var0, ↓e_varS, ↓e_C, ↓e_op, ↓e_un, ↓e_cb, ↓e_nil, ↓e_cons, ↓e_tup, ↓e_lst, ↓e_lstM, ↓e_frz, ↓e_B, ↓e_bl, ↓e_andT, ↓e_orT, ↓e_notT, ↓e_andV, ↓e_orV, ↓e_notV, ↓e_ifE, ↓e_tru, ↓e_slice, ↓e_noPart, ↓e_part, ↓e_partV, ↓e_bm, ↓e_bm0, ↓e_ty_lst, ↓e_ty_str, ↓e_next, ↓e_seq, ↓e_break, ↓e_cont, ↓e_drop, ↓e_ret, ↓e_retN, ↓e_ifS, ↓e_asg, ↓e_gname, ↓e_put0, ↓e_putS, ↓e_aug, ↓e_gsub, ↓e_gtup2, ↓e_I, ↓e_Ic, ↓e_add, ↓e_addS, ↓e_addL, ↓e_addT, ↓e_mul, ↓e_eqI, ↓e_eqS, ↓e_eqB, ↓e_ix_lst, ↓e_ix_tup, ↓e_at0, ↓e_at1, ↓e_at2, ↓e_at3, ↓e_sa0, ↓e_sa1, ↓e_sa2, ↓e_sa3, ↓e_len_lst, ↓e_len_tup, ↓e_len_str, ↓e_abs, ↓e_int, ↓e_str, ↓e_ilst, ↓e_il, ↓e_irl, ↓e_irng1, ↓e_irV, ↓e_irng2, ↓e_irV2, ↓e_yes, ↓u_frzV, ↓u_ty, ↓u_setL, ↓u_ix, ↓u_len, ↓u_append, ↓u_pop, ↓u_iref, ↓e_isi, ↓e_strS, ↓e_dnew, ↓e_dget, ↓e_dput, ↓e_sc, ↓e_dcN, ↓e_rank, ↓e_inLN, ↓e_izipR, ↓e_ienum, ↓e_while, ↓mupd_mupd, ↓e_for, ↓e_lc, ↓e_lcM, ↓e_wipe, ↓e_wipe0, eq_self_iff_true, true_and, List.set_cons_zero, List.set_cons_succ, id_eq, ↓reduceIte, Bool.false_eq_true, Bool.not_true, Bool.not_false])
            refine ⟨(List.range os.length).map fun i => (Sum.inr (tx (os.getD i [])), D.int i), Sum.inr (tx k), D.int (os.idxOf k : Nat), by unfold dkOf; simp only [mp], rfl, ?_, hE⟩
            have := valD_range (f := fun i => (Sum.inr (tx (os.getD i [])) : Key)) (g := fun i => D.int (i : Nat)) hk2 fun j hj e => osin j _ hj hk2 (by injection e)
            simp only [hk3] at this
            exact this
          have enx : (keys nums rows).map (fun k => D.int (os.idxOf k : Nat)) = (next (keys nums rows) os).map fun n : Nat => D.int n := by
            unfold LK.next; rw [List.map_map]; rfl
          rw [enx]
          (try simp only [↓e_var0, ↓e_varS, ↓e_C, ↓e_op, ↓e_un, ↓e_cb, ↓e_nil, ↓e_cons, ↓e_tup, ↓e_lst, ↓e_lstM, ↓e_frz, ↓e_B, ↓e_bl, ↓e_andT, ↓e_orT, ↓e_notT, ↓e_andV, ↓e_orV, ↓e_notV, ↓e_ifE, ↓e_tru, ↓e_slice, ↓e_noPart, ↓e_part, ↓e_partV, ↓e_bm, ↓e_bm0, ↓e_ty_lst, ↓e_ty_str, ↓e_next, ↓e_seq, ↓e_break, ↓e_cont, ↓e_drop, ↓e_ret, ↓e_retN, ↓e_ifS, ↓e_asg, ↓e_gname, ↓e_put0, ↓e_putS, ↓e_aug, ↓e_gsub, ↓e_gtup2, ↓e_I, ↓e_Ic, ↓e_add, ↓e_addS, ↓e_addL, ↓e_addT, ↓e_mul, ↓e_eqI, ↓e_eqS, ↓e_eqB, ↓e_ix_lst, ↓e_ix_tup, ↓e_at0, ↓e_at1, ↓e_at2, ↓e_at3, ↓e_sa0, ↓e_sa1, ↓e_sa2, ↓e_sa3, ↓e_len_lst, ↓e_len_tup, ↓e_len_str, ↓e_abs, ↓e_int, ↓e_str, ↓e_ilst, ↓e_il, ↓e_irl, ↓e_irng1, ↓e_irV, ↓e_irng2, ↓e_irV2, ↓e_yes, ↓u_frzV, ↓u_ty, ↓u_setL, ↓u_ix, ↓u_len, ↓u_append, ↓u_pop, ↓u_iref, ↓e_isi, ↓e_strS, ↓e_dnew, ↓e_dget, ↓e_dput, ↓e_sc, ↓e_dcN, ↓e_rank, ↓e_inLN, ↓e_izipR, ↓e_ienum, ↓e_while, ↓mupd_mupd, ↓e_for, ↓e_lc, ↓e_lcM, ↓e_wipe, ↓e_wipe0, eq_self_iff_true, true_and, List.set_cons_zero, List.set_cons_succ, id_eq, ↓reduceIte, Bool.false_eq_true, Bool.not_true, Bool.not_false])
          simp only [List.length_map]
          split
          · rename_i ce
            have ce' : (os.length : Int) = (c : Int) := by simpa using ce
            exact ⟨M, sb3, h _ ⟨y, nums, c, os, run, io, by omega, rfl⟩⟩
          · rename_i ce
            have ce' : ¬ (os.length : Int) = (c : Int) := by simpa using ce
            exact ⟨_, os.length, _, _, _, _, _, _, _, rfl, run.succ io (by omega), sb3⟩
    · obtain ⟨nums, c, o3, o4, o5, o6, o7, o8, o9, rfl, run, sb⟩ := hW
      rw [List.length_range] at run
      have := run.grow pos
      omega
end
end K32

namespace K32
open PySem PySem.Spec PyProof.Rows L2 DL LK DSet
abbrev snumbers_held : Stmt := topS 1
abbrev nnumbers_held : List Str := ["row", "numbers", "held"]
abbrev pnumbers_held : List Str := ["row", "numbers"]
theorem scnumbers_held : FnScope nnumbers_held pnumbers_held (defScope snumbers_held) := ⟨rfl, rfl, rfl, by decide +kernel, rfl, by decide +kernel, by decide +kernel⟩
abbrev sranks_of : Stmt := topS 2
abbrev nranks_of : List Str := ["pairs", "rank", "at", "pair"]
abbrev pranks_of : List Str := ["pairs"]
theorem scranks_of : FnScope nranks_of pranks_of (defScope sranks_of) := ⟨rfl, rfl, rfl, by decide +kernel, rfl, by decide +kernel, by decide +kernel⟩
abbrev slikeness_of : Stmt := topS 3
abbrev nlikeness_of : List Str := ["drawing", "numbers", "count", "row", "number"]
abbrev plikeness_of : List Str := ["drawing"]
theorem sclikeness_of : FnScope nlikeness_of plikeness_of (defScope slikeness_of) := ⟨rfl, rfl, rfl, by decide +kernel, rfl, by decide +kernel, by decide +kernel⟩
abbrev ssame_set : Stmt := topS 4
abbrev nsame_set : List Str := ["drawing", "a", "b", "numbers"]
abbrev psame_set : List Str := ["drawing", "a", "b"]
theorem scsame_set : FnScope nsame_set psame_set (defScope ssame_set) := ⟨rfl, rfl, rfl, by decide +kernel, rfl, by decide +kernel, by decide +kernel⟩
abbrev sis_member : Stmt := topS 5
abbrev nis_member : List Str := ["drawing", "a", "b", "numbers", "held"]
abbrev pis_member : List Str := ["drawing", "a", "b"]
theorem scis_member : FnScope nis_member pis_member (defScope sis_member) := ⟨rfl, rfl, rfl, by decide +kernel, rfl, by decide +kernel, by decide +kernel⟩
section
variable {P : Program} {w : World} {K : PySem.W.Frag} {mg : Str → Option Value} {base : Heap}
abbrev moN (ns : List Nat) : MO := .lst (ns.map fun n : Nat => D.int n)
def spHeld : DL := fun ds M R => ∃ (r : List Nat) (a : Addr) (nums : List Nat) (Bd : Nat), ds = [enR r, .ref a] ∧ M a = some (moN nums) ∧ r.length ≤ 1000 ∧ (∀ p ∈ r, p < nums.length) ∧ (∀ p ∈ r, at0 nums p < Bd) ∧ R (.tup ((sset Bd (r.map (at0 nums))).map fun n : Nat => D.int n)) M
theorem ok_held {f : Addr} {fd : FuncData} {k : Nat} (F : Fun K "numbers_held" "numbers_held" snumbers_held f fd) (B : Bt mg) : FnOk P w K mg base CX0 (k + 1) f fd pnumbers_held (spOf K spHeld) := by
  refine dfn F scnumbers_held (fun ds M R h => ?_) (fun cdv A outer s H E ds M R hr h => ?_)
  · obtain ⟨r, a, nums, Bd, rfl, _⟩ := h
    rfl
  · have nd := scnumbers_held.nd
    refine ⟨_, (dss_one (ds_ret (d_tuple rfl B.tuple (da_cons (d_sortedSet1 hr rfl rfl B.sorted (lfg_name (i := 2) (by decide)) (pe_scD (own := [("held", 2)]) rfl nd (di_lst (dv 0)) (blkOk_by (own := [("held", 2)]) (N := nnumbers_held) (by rfl)) (fun _ _ _ _ _ => (pg_name (i := 2) nd rfl (.inl rfl))) (fun _ _ _ _ _ => dts_nil) (fun _ _ _ _ _ => (d_sub_ix (dv 1) (dv 2))))) da_nil)))), ?_⟩
    obtain ⟨r, a, nums, Bd, rfl, ha, hl, h1, h2, h⟩ := h
    simp only [dstart, List.map, List.length, List.replicate, List.cons_append, List.nil_append]
    rw [show enR r = .lst (r.map fun n : Nat => D.int n) from rfl]
    (try simp only [↓e_var0, ↓e_varS, ↓e_C, ↓e_op, ↓e_un, ↓e_cb, ↓e_nil, ↓e_cons, ↓e_tup, ↓e_lst, ↓e_lstM, ↓e_frz, ↓e_B, ↓e_bl, ↓e_andT, ↓e_orT, ↓e_notT, ↓e_andV, ↓e_orV, ↓e_notV, ↓e_ifE, ↓e_tru, ↓e_slice, ↓e_noPart, ↓e_part, ↓e_partV, ↓e_bm, ↓e_bm0, ↓e_ty_lst, ↓e_ty_str, ↓e_next, ↓e_seq, ↓e_break, ↓e_cont, ↓e_drop, ↓e_ret, ↓e_retN, ↓e_ifS, ↓e_asg, ↓e_gname, ↓e_put0, ↓e_putS, ↓e_aug, ↓e_gsub, ↓e_gtup2, ↓e_I, ↓e_Ic, ↓e_add, ↓e_addS, ↓e_addL, ↓e_addT, ↓e_mul, ↓e_eqI, ↓e_eqS, ↓e_eqB, ↓e_ix_lst, ↓e_ix_tup, ↓e_at0, ↓e_at1, ↓e_at2, ↓e_at3, ↓e_sa0, ↓e_sa1, ↓e_sa2, ↓e_sa3, ↓e_len_lst, ↓e_len_tup, ↓e_len_str, ↓e_abs, ↓e_int, ↓e_str, ↓e_ilst, ↓e_il, ↓e_irl, ↓e_irng1, ↓e_irV, ↓e_irng2, ↓e_irV2, ↓e_yes, ↓u_frzV, ↓u_ty, ↓u_setL, ↓u_ix, ↓u_len, ↓u_append, ↓u_pop, ↓u_iref, ↓e_isi, ↓e_strS, ↓e_dnew, ↓e_dget, ↓e_dput, ↓e_sc, ↓e_dcN, ↓e_rank, ↓e_inLN, ↓e_izipR, ↓e_ienum, ↓e_while, ↓mupd_mupd, ↓e_for, ↓e_lc, ↓e_lcM, ↓e_wipe, ↓e_wipe0, eq_self_iff_true, true_and, List.set_cons_zero, List.set_cons_succ, id_eq, ↓reduceIte, Bool.false_eq_true, Bool.not_true, Bool.not_false])
    refine sc_typed1 r (fun p => (at0 nums p : Int)) (by omega) trivial (fun i p E' hp hE => ?_) (fun ns' hs => ?_)
    · have hpl := h1 p (List.mem_of_getElem? hp)
      (try simp only [↓e_var0, ↓e_varS, ↓e_C, ↓e_op, ↓e_un, ↓e_cb, ↓e_nil, ↓e_cons, ↓e_tup, ↓e_lst, ↓e_lstM, ↓e_frz, ↓e_B, ↓e_bl, ↓e_andT, ↓e_orT, ↓e_notT, ↓e_andV, ↓e_orV, ↓e_notV, ↓e_ifE, ↓e_tru, ↓e_slice, ↓e_noPart, ↓e_part, ↓e_partV, ↓e_bm, ↓e_bm0, ↓e_ty_lst, ↓e_ty_str, ↓e_next, ↓e_seq, ↓e_break, ↓e_cont, ↓e_drop, ↓e_ret, ↓e_retN, ↓e_ifS, ↓e_asg, ↓e_gname, ↓e_put0, ↓e_putS, ↓e_aug, ↓e_gsub, ↓e_gtup2, ↓e_I, ↓e_Ic, ↓e_add, ↓e_addS, ↓e_addL, ↓e_addT, ↓e_mul, ↓e_eqI, ↓e_eqS, ↓e_eqB, ↓e_ix_lst, ↓e_ix_tup, ↓e_at0, ↓e_at1, ↓e_at2, ↓e_at3, ↓e_sa0, ↓e_sa1, ↓e_sa2, ↓e_sa3, ↓e_len_lst, ↓e_len_tup, ↓e_len_str, ↓e_abs, ↓e_int, ↓e_str, ↓e_ilst, ↓e_il, ↓e_irl, ↓e_irng1, ↓e_irV, ↓e_irng2, ↓e_irV2, ↓e_yes, ↓u_frzV, ↓u_ty, ↓u_setL, ↓u_ix, ↓u_len, ↓u_append, ↓u_pop, ↓u_iref, ↓e_isi, ↓e_strS, ↓e_dnew, ↓e_dget, ↓e_dput, ↓e_sc, ↓e_dcN, ↓e_rank, ↓e_inLN, ↓e_izipR, ↓e_ienum, ↓e_while, ↓mupd_mupd, ↓e_for, ↓e_lc, ↓e_lcM, ↓e_wipe, ↓e_wipe0, ↓e_frzV ha, ↓e_ty_ref ha, ↓e_setL ha, ↓e_ix_ref ha, ↓e_len_ref ha, ↓e_append ha, ↓e_pop ha, ↓e_iref ha, eq_self_iff_true, true_and, List.set_cons_zero, List.set_cons_succ, id_eq, ↓reduceIte, Bool.false_eq_true, Bool.not_true, Bool.not_false])
      rw [at_map (nums_at hpl)]
      (try simp only [↓e_var0, ↓e_varS, ↓e_C, ↓e_op, ↓e_un, ↓e_cb, ↓e_nil, ↓e_cons, ↓e_tup, ↓e_lst, ↓e_lstM, ↓e_frz, ↓e_B, ↓e_bl, ↓e_andT, ↓e_orT, ↓e_notT, ↓e_andV, ↓e_orV, ↓e_notV, ↓e_ifE, ↓e_tru, ↓e_slice, ↓e_noPart, ↓e_part, ↓e_partV, ↓e_bm, ↓e_bm0, ↓e_ty_lst, ↓e_ty_str, ↓e_next, ↓e_seq, ↓e_break, ↓e_cont, ↓e_drop, ↓e_ret, ↓e_retN, ↓e_ifS, ↓e_asg, ↓e_gname, ↓e_put0, ↓e_putS, ↓e_aug, ↓e_gsub, ↓e_gtup2, ↓e_I, ↓e_Ic, ↓e_add, ↓e_addS, ↓e_addL, ↓e_addT, ↓e_mul, ↓e_eqI, ↓e_eqS, ↓e_eqB, ↓e_ix_lst, ↓e_ix_tup, ↓e_at0, ↓e_at1, ↓e_at2, ↓e_at3, ↓e_sa0, ↓e_sa1, ↓e_sa2, ↓e_sa3, ↓e_len_lst, ↓e_len_tup, ↓e_len_str, ↓e_abs, ↓e_int, ↓e_str, ↓e_ilst, ↓e_il, ↓e_irl, ↓e_irng1, ↓e_irV, ↓e_irng2, ↓e_irV2, ↓e_yes, ↓u_frzV, ↓u_ty, ↓u_setL, ↓u_ix, ↓u_len, ↓u_append, ↓u_pop, ↓u_iref, ↓e_isi, ↓e_strS, ↓e_dnew, ↓e_dget, ↓e_dput, ↓e_sc, ↓e_dcN, ↓e_rank, ↓e_inLN, ↓e_izipR, ↓e_ienum, ↓e_while, ↓mupd_mupd, ↓e_for, ↓e_lc, ↓e_lcM, ↓e_wipe, ↓e_wipe0, eq_self_iff_true, true_and, List.set_cons_zero, List.set_cons_succ, id_eq, ↓reduceIte, Bool.false_eq_true, Bool.not_true, Bool.not_false])
      exact hE
    · have hs2 : IsSet ((r.map (at0 nums)).map fun k : Nat => (k : Int)) ns' := by rw [List.map_map]; exact hs
      obtain ⟨r', rfl, r1, r2⟩ := isSet_nat hs2
      obtain rfl := sset_of (B := Bd) (l := r.map (at0 nums)) (fun v hv => by
        obtain ⟨p, hp, rfl⟩ := List.mem_map.mp hv
        exact h2 p hp) r1 r2
      (try simp only [↓e_var0, ↓e_varS, ↓e_C, ↓e_op, ↓e_un, ↓e_cb, ↓e_nil, ↓e_cons, ↓e_tup, ↓e_lst, ↓e_lstM, ↓e_frz, ↓e_B, ↓e_bl, ↓e_andT, ↓e_orT, ↓e_notT, ↓e_andV, ↓e_orV, ↓e_notV, ↓e_ifE, ↓e_tru, ↓e_slice, ↓e_noPart, ↓e_part, ↓e_partV, ↓e_bm, ↓e_bm0, ↓e_ty_lst, ↓e_ty_str, ↓e_next, ↓e_seq, ↓e_break, ↓e_cont, ↓e_drop, ↓e_ret, ↓e_retN, ↓e_ifS, ↓e_asg, ↓e_gname, ↓e_put0, ↓e_putS, ↓e_aug, ↓e_gsub, ↓e_gtup2, ↓e_I, ↓e_Ic, ↓e_add, ↓e_addS, ↓e_addL, ↓e_addT, ↓e_mul, ↓e_eqI, ↓e_eqS, ↓e_eqB, ↓e_ix_lst, ↓e_ix_tup, ↓e_at0, ↓e_at1, ↓e_at2, ↓e_at3, ↓e_sa0, ↓e_sa1, ↓e_sa2, ↓e_sa3, ↓e_len_lst, ↓e_len_tup, ↓e_len_str, ↓e_abs, ↓e_int, ↓e_str, ↓e_ilst, ↓e_il, ↓e_irl, ↓e_irng1, ↓e_irV, ↓e_irng2, ↓e_irV2, ↓e_yes, ↓u_frzV, ↓u_ty, ↓u_setL, ↓u_ix, ↓u_len, ↓u_append, ↓u_pop, ↓u_iref, ↓e_isi, ↓e_strS, ↓e_dnew, ↓e_dget, ↓e_dput, ↓e_sc, ↓e_dcN, ↓e_rank, ↓e_inLN, ↓e_izipR, ↓e_ienum, ↓e_while, ↓mupd_mupd, ↓e_for, ↓e_lc, ↓e_lcM, ↓e_wipe, ↓e_wipe0, eq_self_iff_true, true_and, List.set_cons_zero, List.set_cons_succ, id_eq, ↓reduceIte, Bool.false_eq_true, Bool.not_true, Bool.not_false])
      refine ⟨_, _, rfl, rfl, ?_⟩
      rw [← nats_ints]
      exact h
theorem ok_ranks {f : Addr} {fd : FuncData} {k : Nat} (F : Fun K "ranks_of" "ranks_of" sranks_of f fd) (B : Bt mg) : FnOk P w K mg base CX0 (k + 1) f fd pranks_of (spOf K fun ds M R => ∃ ks : List (List Nat), ds = [.lst ((ks.map toPk).map pk)] ∧ ks.length ≤ 200 ∧ (∀ k ∈ ks, k ≠ []) ∧ ∀ os, IsOrd ks os → ∀ p, M p = none → R (.ref p) (mupd M p (moN (next ks os)))) := by
  refine dfn F scranks_of (fun ds M R h => ?_) (fun cdv A outer s H E ds M R hr h => ?_)
  · obtain ⟨ks, rfl, _⟩ := h
    rfl
  · have nd := scranks_of.nd
    refine ⟨_, (dss_cons (ds_set (i := 1) nd rfl (.inr rfl) (d_dcN (lfg_tup2 (i := 2) (j := 3) (by decide) (by decide)) (pe_dcN (own := [("at", 2), ("pair", 3)]) hr rfl nd (di_enum (pi_enum rfl B.enumerate (da_cons (d_sortedSetT hr rfl B.sorted rfl B.set rfl (da_cons (dv 0) da_nil)) da_nil))) (blkOk_by (own := [("at", 2), ("pair", 3)]) (N := nranks_of) (by rfl)) (fun _ _ _ _ _ => (pg_tup rfl (pgs_cons (pg_name (i := 2) nd rfl (.inl rfl)) (pgs_cons (pg_name (i := 3) nd rfl (.inl rfl)) pgs_nil)))) (fun _ _ _ _ _ => dts_nil) (fun _ _ _ _ _ => (dv 3)) (fun _ _ _ _ _ => (dv 2)))))
(dss_one (ds_ret (d_lcM (lfg_name (i := 3) (by decide)) (pe_lc (own := [("pair", 3)]) rfl nd (di_lst (dv 0)) (blkOk_by (own := [("pair", 3)]) (N := nranks_of) (by rfl)) (fun _ _ _ _ _ => (pg_name (i := 3) nd rfl (.inl rfl))) (fun _ _ _ _ _ => dts_nil) (fun _ _ _ _ _ => (d_rank (P := P) (w := w) rfl rfl hr (dv 1) (dv 3)))))))), ?_⟩
    obtain ⟨ks, rfl, hl, hne, h⟩ := h
    simp only [dstart, List.map, List.length, List.replicate, List.cons_append, List.nil_append]
    (try simp only [↓e_var0, ↓e_varS, ↓e_C, ↓e_op, ↓e_un, ↓e_cb, ↓e_nil, ↓e_cons, ↓e_tup, ↓e_lst, ↓e_lstM, ↓e_frz, ↓e_B, ↓e_bl, ↓e_andT, ↓e_orT, ↓e_notT, ↓e_andV, ↓e_orV, ↓e_notV, ↓e_ifE, ↓e_tru, ↓e_slice, ↓e_noPart, ↓e_part, ↓e_partV, ↓e_bm, ↓e_bm0, ↓e_ty_lst, ↓e_ty_str, ↓e_next, ↓e_seq, ↓e_break, ↓e_cont, ↓e_drop, ↓e_ret, ↓e_retN, ↓e_ifS, ↓e_asg, ↓e_gname, ↓e_put0, ↓e_putS, ↓e_aug, ↓e_gsub, ↓e_gtup2, ↓e_I, ↓e_Ic, ↓e_add, ↓e_addS, ↓e_addL, ↓e_addT, ↓e_mul, ↓e_eqI, ↓e_eqS, ↓e_eqB, ↓e_ix_lst, ↓e_ix_tup, ↓e_at0, ↓e_at1, ↓e_at2, ↓e_at3, ↓e_sa0, ↓e_sa1, ↓e_sa2, ↓e_sa3, ↓e_len_lst, ↓e_len_tup, ↓e_len_str, ↓e_abs, ↓e_int, ↓e_str, ↓e_ilst, ↓e_il, ↓e_irl, ↓e_irng1, ↓e_irV, ↓e_irng2, ↓e_irV2, ↓e_yes, ↓u_frzV, ↓u_ty, ↓u_setL, ↓u_ix, ↓u_len, ↓u_append, ↓u_pop, ↓u_iref, ↓e_isi, ↓e_strS, ↓e_dnew, ↓e_dget, ↓e_dput, ↓e_sc, ↓e_dcN, ↓e_rank, ↓e_inLN, ↓e_izipR, ↓e_ienum, ↓e_while, ↓mupd_mupd, ↓e_for, ↓e_lc, ↓e_lcM, ↓e_wipe, ↓e_wipe0, eq_self_iff_true, true_and, List.set_cons_zero, List.set_cons_succ, id_eq, ↓reduceIte, Bool.false_eq_true, Bool.not_true, Bool.not_false])
    refine ⟨_, ks.map toPk, rfl, rfl, by rw [List.length_map]; omega, fun ps' hs => ?_⟩
    obtain ⟨os, rfl, io⟩ := ord_pairs hne hs
    have osl : os.length ≤ ks.length := List.Nodup.length_le_of_subset io.nodup fun v hv => (io.mem v).mp hv
    refine ⟨_, rfl, .inl ⟨_, rfl, ?_⟩⟩
    have pkin : ∀ i j, i < os.length → j < os.length → toPk (os.getD i []) = toPk (os.getD j []) → i = j := fun i j hi hj e => by
      have gi : os.getD i [] = os[i] := by rw [List.getD_eq_getElem?_getD, List.getElem?_eq_getElem hi]; rfl
      have gj : os.getD j [] = os[j] := by rw [List.getD_eq_getElem?_getD, List.getElem?_eq_getElem hj]; rfl
      rw [gi, gj] at e
      have := toPk_inj (hne _ ((io.mem _).mp (List.getElem_mem hi))) (hne _ ((io.mem _).mp (List.getElem_mem hj))) e
      rw [← io.nodup.idxOf_getElem i hi, ← io.nodup.idxOf_getElem j hj, this]
    refine ⟨fun i acc M' => M' = M ∧ acc = (List.range i).map fun j => (toPk (os.getD j []), (j : Int)), ⟨rfl, rfl⟩, fun _ _ _ _ _ => trivial, fun i x acc M' hx hW => ?_, fun acc M' hW => ?_⟩
    · obtain ⟨rfl, rfl⟩ := hW
      rw [List.getElem?_mapIdx] at hx
      obtain ⟨d, hd, rfl⟩ := Option.map_eq_some_iff.mp hx
      rw [List.map_map, List.getElem?_map] at hd
      obtain ⟨o, ho, rfl⟩ := Option.map_eq_some_iff.mp hd
      have hi : i < os.length := (List.getElem?_eq_some_iff.mp ho).1
      have ego : os.getD i [] = o := by rw [List.getD_eq_getElem?_getD, ho]; rfl
      (try simp only [↓e_var0, ↓e_varS, ↓e_C, ↓e_op, ↓e_un, ↓e_cb, ↓e_nil, ↓e_cons, ↓e_tup, ↓e_lst, ↓e_lstM, ↓e_frz, ↓e_B, ↓e_bl, ↓e_andT, ↓e_orT, ↓e_notT, ↓e_andV, ↓e_orV, ↓e_notV, ↓e_ifE, ↓e_tru, ↓e_slice, ↓e_noPart, ↓e_part, ↓e_partV, ↓e_bm, ↓e_bm0, ↓e_ty_lst, ↓e_ty_str, ↓e_next, ↓e_seq, ↓e_break, ↓e_cont, ↓e_drop, ↓e_ret, ↓e_retN, ↓e_ifS, ↓e_asg, ↓e_gname, ↓e_put0, ↓e_putS, ↓e_aug, ↓e_gsub, ↓e_gtup2, ↓e_I, ↓e_Ic, ↓e_add, ↓e_addS, ↓e_addL, ↓e_addT, ↓e_mul, ↓e_eqI, ↓e_eqS, ↓e_eqB, ↓e_ix_lst, ↓e_ix_tup, ↓e_at0, ↓e_at1, ↓e_at2, ↓e_at3, ↓e_sa0, ↓e_sa1, ↓e_sa2, ↓e_sa3, ↓e_len_lst, ↓e_len_tup, ↓e_len_str, ↓e_abs, ↓e_int, ↓e_str, ↓e_ilst, ↓e_il, ↓e_irl, ↓e_irng1, ↓e_irV, ↓e_irng2, ↓e_irV2, ↓e_yes, ↓u_frzV, ↓u_ty, ↓u_setL, ↓u_ix, ↓u_len, ↓u_append, ↓u_pop, ↓u_iref, ↓e_isi, ↓e_strS, ↓e_dnew, ↓e_dget, ↓e_dput, ↓e_sc, ↓e_dcN, ↓e_rank, ↓e_inLN, ↓e_izipR, ↓e_ienum, ↓e_while, ↓mupd_mupd, ↓e_for, ↓e_lc, ↓e_lcM, ↓e_wipe, ↓e_wipe0, eq_self_iff_true, true_and, List.set_cons_zero, List.set_cons_succ, id_eq, ↓reduceIte, Bool.false_eq_true, Bool.not_true, Bool.not_false])
      refine ⟨toPk o, i, rfl, rfl, ?_, by rw [List.length_map, List.length_range]; exact small_line' (by omega), ?_⟩
      · intro hm
        rw [List.map_map] at hm
        obtain ⟨j, hj, e⟩ := List.mem_map.mp hm
        have hj := List.mem_range.mp hj
        have := pkin j i (by omega) hi (by rw [ego]; exact e)
        omega
      · rw [List.range_succ, List.map_append, ← ego]; rfl
    · obtain ⟨rfl, rfl⟩ := hW
      rw [List.length_mapIdx, List.length_map, List.length_map, List.map_map]
      refine lc_typed1 ks (fun k => D.int (os.idxOf k : Nat)) (small_line (by omega)) trivial (fun i k E' hk hE => ?_) (fun p hp => ?_)
      · have hk1 := List.mem_of_getElem? hk
        have hk2 : os.idxOf k < os.length := List.idxOf_lt_length_iff.mpr ((io.mem k).mpr hk1)
        have hk3 : os.getD (os.idxOf k) [] = k := by
          rw [List.getD_eq_getElem?_getD, List.getElem?_eq_getElem hk2]
          exact List.getElem_idxOf hk2
        (try simp only [↓e_var0, ↓e_varS, ↓e_C, ↓e_op, ↓e_un, ↓e_cb, ↓e_nil, ↓e_cons, ↓e_tup, ↓e_lst, ↓e_lstM, ↓e_frz, ↓e_B, ↓e_bl, ↓e_andT, ↓e_orT, ↓e_notT, ↓e_andV, ↓e_orV, ↓e_notV, ↓e_ifE, ↓e_tru, ↓e_slice, ↓e_noPart, ↓e_part, ↓e_partV, ↓e_bm, ↓e_bm0, ↓e_ty_lst, ↓e_ty_str, ↓e_next, ↓e_seq, ↓e_break, ↓e_cont, ↓e_drop, ↓e_ret, ↓e_retN, ↓e_ifS, ↓e_asg, ↓e_gname, ↓e_put0, ↓e_putS, ↓e_aug, ↓e_gsub, ↓e_gtup2, ↓e_I, ↓e_Ic, ↓e_add, ↓e_addS, ↓e_addL, ↓e_addT, ↓e_mul, ↓e_eqI, ↓e_eqS, ↓e_eqB, ↓e_ix_lst, ↓e_ix_tup, ↓e_at0, ↓e_at1, ↓e_at2, ↓e_at3, ↓e_sa0, ↓e_sa1, ↓e_sa2, ↓e_sa3, ↓e_len_lst, ↓e_len_tup, ↓e_len_str, ↓e_abs, ↓e_int, ↓e_str, ↓e_ilst, ↓e_il, ↓e_irl, ↓e_irng1, ↓e_irV, ↓e_irng2, ↓e_irV2, ↓e_yes, ↓u_frzV, ↓u_ty, ↓u_setL, ↓u_ix, ↓u_len, ↓u_append, ↓u_pop, ↓u_iref, ↓e_isi, ↓e_strS, ↓e_dnew, ↓e_dget, ↓e_dput, ↓e_sc, ↓e_dcN, ↓e_rank, ↓e_inLN, ↓e_izipR, ↓e_ienum, ↓e_while, ↓mupd_mupd, ↓e_for, ↓e_lc, ↓e_lcM, ↓e_wipe, ↓e_wipe0, eq_self_iff_true, true_and, List.set_cons_zero, List.set_cons_succ, id_eq, ↓reduceIte, Bool.false_eq_true, Bool.not_true, Bool.not_false])
        refine ⟨_, toPk k, (os.idxOf k : Nat), rfl, rfl, ?_, hE⟩
        exact List.mem_map.mpr ⟨os.idxOf k, List.mem_range.mpr hk2, by rw [hk3]⟩
      · have := h os io p hp
        unfold moN LK.next at this
        rw [List.map_map] at this
        exact this
def spLike : DL := fun ds M R => ∃ rows, ds = [enD rows] ∧ Drw rows ∧ ∀ ns p, Lik rows ns → M p = none → R (.ref p) (mupd M p (moN ns))
abbrev spRanks : DL := fun ds M R => ∃ ks : List (List Nat), ds = [.lst ((ks.map toPk).map pk)] ∧ ks.length ≤ 200 ∧ (∀ k ∈ ks, k ≠ []) ∧ ∀ os, IsOrd ks os → ∀ p, M p = none → R (.ref p) (mupd M p (moN (next ks os)))
theorem ok_like {f : Addr} {fd : FuncData} {k : Nat} (F : Fun K "likeness_of" "likeness_of" slikeness_of f fd) (B : Bt mg) (c_numbers_held : CalX P w K mg base "numbers_held" 1 spHeld) (c_ranks_of : CalX P w K mg base "ranks_of" 1 spRanks) : FnOk P w K mg base CX0 (1 + 1) f fd plikeness_of (spOf K spLike) := by
  refine dfnW F sclikeness_of (fun ds M R h => ?_) (fun cdv A outer s H E ds M R hr h => ?_)
  · obtain ⟨rows, rfl, _⟩ := h
    rfl
  · have nd := sclikeness_of.nd
    refine ⟨_, (dss_cons (ds_set (i := 1) nd rfl (.inr rfl) (d_lcM (lfg_name (i := 3) (by decide)) (pe_lc (own := [("row", 3)]) rfl nd (di_lst (dv 0)) (blkOk_by (own := [("row", 3)]) (N := nlikeness_of) (by rfl)) (fun _ _ _ _ _ => (pg_name (i := 3) nd rfl (.inl rfl))) (fun _ _ _ _ _ => dts_nil) (fun _ _ _ _ _ => d_int))))
(dss_cons (ds_set (i := 2) nd rfl (.inl rfl) d_int)
(dss_cons (ds_while PassesOwn.never (dt_gt (d_add (d_max rfl rfl B.max (da_cons (dv 1) da_nil)) d_int) (dv 2))
(dss_cons (ds_set (i := 2) nd rfl (.inl rfl) (d_add (d_max rfl rfl B.max (da_cons (dv 1) da_nil)) d_int))
(dss_one (ds_set (i := 1) nd rfl (.inr rfl) (d_callX c_ranks_of hr rfl (da_cons (d_lc (lfg_tup2 (i := 4) (j := 3) (by decide) (by decide)) (pe_lc (own := [("number", 4), ("row", 3)]) rfl nd (di_zipR (pi_zip rfl B.zip (da_cons (dv 1) (da_cons (dv 0) da_nil)))) (blkOk_by (own := [("number", 4), ("row", 3)]) (N := nlikeness_of) (by rfl)) (fun _ _ _ _ _ => (pg_tup rfl (pgs_cons (pg_name (i := 4) nd rfl (.inl rfl)) (pgs_cons (pg_name (i := 3) nd rfl (.inl rfl)) pgs_nil)))) (fun _ _ _ _ _ => dts_nil) (fun _ _ _ _ _ => (d_tup (da_cons (dv 4) (da_cons (d_callX c_numbers_held hr rfl (da_cons (dv 3) (da_cons (dv 1) da_nil))) da_nil)))))) da_nil))))))
(dss_one (ds_ret (dv 1)))))), ?_⟩
    obtain ⟨rows, rfl, dr, h⟩ := h
    simp only [dstart, List.map, List.length, List.replicate, List.cons_append, List.nil_append, enD]
    have sm := dr.sm
    have pos := dr.pos
    (try simp only [↓e_var0, ↓e_varS, ↓e_C, ↓e_op, ↓e_un, ↓e_cb, ↓e_nil, ↓e_cons, ↓e_tup, ↓e_lst, ↓e_lstM, ↓e_frz, ↓e_B, ↓e_bl, ↓e_andT, ↓e_orT, ↓e_notT, ↓e_andV, ↓e_orV, ↓e_notV, ↓e_ifE, ↓e_tru, ↓e_slice, ↓e_noPart, ↓e_part, ↓e_partV, ↓e_bm, ↓e_bm0, ↓e_ty_lst, ↓e_ty_str, ↓e_next, ↓e_seq, ↓e_break, ↓e_cont, ↓e_drop, ↓e_ret, ↓e_retN, ↓e_ifS, ↓e_asg, ↓e_gname, ↓e_put0, ↓e_putS, ↓e_aug, ↓e_gsub, ↓e_gtup2, ↓e_I, ↓e_Ic, ↓e_add, ↓e_addS, ↓e_addL, ↓e_addT, ↓e_mul, ↓e_eqI, ↓e_eqS, ↓e_eqB, ↓e_ix_lst, ↓e_ix_tup, ↓e_at0, ↓e_at1, ↓e_at2, ↓e_at3, ↓e_sa0, ↓e_sa1, ↓e_sa2, ↓e_sa3, ↓e_len_lst, ↓e_len_tup, ↓e_len_str, ↓e_abs, ↓e_int, ↓e_str, ↓e_ilst, ↓e_il, ↓e_irl, ↓e_irng1, ↓e_irV, ↓e_irng2, ↓e_irV2, ↓e_yes, ↓u_frzV, ↓u_ty, ↓u_setL, ↓u_ix, ↓u_len, ↓u_append, ↓u_pop, ↓u_iref, ↓e_isi, ↓e_strS, ↓e_dnew, ↓e_dget, ↓e_dput, ↓e_sc, ↓e_dcN, ↓e_rank, ↓e_inLN, ↓e_izipR, ↓e_ienum, ↓e_while, ↓mupd_mupd, ↓e_for, ↓e_lc, ↓e_lcM, ↓e_wipe, ↓e_wipe0, eq_self_iff_true, true_and, List.set_cons_zero, List.set_cons_succ, id_eq, ↓reduceIte, Bool.false_eq_true, Bool.not_true, Bool.not_false])
    refine lc_typed1 rows (fun _ => D.int 0) (small_line (by omega)) trivial (fun i x E' hx hE => ?_) (fun p hp => ?_)
    · (try simp only [↓e_var0, ↓e_varS, ↓e_C, ↓e_op, ↓e_un, ↓e_cb, ↓e_nil, ↓e_cons, ↓e_tup, ↓e_lst, ↓e_lstM, ↓e_frz, ↓e_B, ↓e_bl, ↓e_andT, ↓e_orT, ↓e_notT, ↓e_andV, ↓e_orV, ↓e_notV, ↓e_ifE, ↓e_tru, ↓e_slice, ↓e_noPart, ↓e_part, ↓e_partV, ↓e_bm, ↓e_bm0, ↓e_ty_lst, ↓e_ty_str, ↓e_next, ↓e_seq, ↓e_break, ↓e_cont, ↓e_drop, ↓e_ret, ↓e_retN, ↓e_ifS, ↓e_asg, ↓e_gname, ↓e_put0, ↓e_putS, ↓e_aug, ↓e_gsub, ↓e_gtup2, ↓e_I, ↓e_Ic, ↓e_add, ↓e_addS, ↓e_addL, ↓e_addT, ↓e_mul, ↓e_eqI, ↓e_eqS, ↓e_eqB, ↓e_ix_lst, ↓e_ix_tup, ↓e_at0, ↓e_at1, ↓e_at2, ↓e_at3, ↓e_sa0, ↓e_sa1, ↓e_sa2, ↓e_sa3, ↓e_len_lst, ↓e_len_tup, ↓e_len_str, ↓e_abs, ↓e_int, ↓e_str, ↓e_ilst, ↓e_il, ↓e_irl, ↓e_irng1, ↓e_irV, ↓e_irng2, ↓e_irV2, ↓e_yes, ↓u_frzV, ↓u_ty, ↓u_setL, ↓u_ix, ↓u_len, ↓u_append, ↓u_pop, ↓u_iref, ↓e_isi, ↓e_strS, ↓e_dnew, ↓e_dget, ↓e_dput, ↓e_sc, ↓e_dcN, ↓e_rank, ↓e_inLN, ↓e_izipR, ↓e_ienum, ↓e_while, ↓mupd_mupd, ↓e_for, ↓e_lc, ↓e_lcM, ↓e_wipe, ↓e_wipe0, eq_self_iff_true, true_and, List.set_cons_zero, List.set_cons_succ, id_eq, ↓reduceIte, Bool.false_eq_true, Bool.not_true, Bool.not_false])
      exact hE
    have e0 : rows.map (fun _ => D.int 0) = (List.replicate rows.length 0).map fun n : Nat => D.int n := by
      rw [List.map_replicate, List.map_const']; rfl
    rw [e0]
    refine ⟨fun m ρ M' => ∃ (q : Addr) (nums : List Nat) (cnt e : Nat) (o3 o4 : Option D), ρ = [some (.lst (rows.map enR)), some (.ref q), some (.int cnt), o3, o4] ∧ M' q = some (moN nums) ∧ M q = none ∧ DL.Sub M M' ∧ Num rows.length nums e ∧
      ((m = 400 ∧ cnt = 0 ∧ e = 1 ∧ Run rows 0 nums 1) ∨ ∃ j nums0 c os, m = 300 - j ∧ Run rows j nums0 c ∧ IsOrd (keys nums0 rows) os ∧ nums = next (keys nums0 rows) os ∧ cnt = c ∧ e = os.length), ⟨400, p, _, 0, 1, none, none, rfl, mupd_same, hp, (DL.Sub.refl M).new _ hp, (Run.zero (rows := rows)).num pos, .inl ⟨rfl, rfl, rfl, .zero⟩⟩, fun m ρ M' hW => ?_⟩
    obtain ⟨q, nums, cnt, e, o3, o4, rfl, mq, mq0, sb, nm, hst⟩ := hW
    have nl := nm.len
    have epos : 0 < e := by
      have := nm.lt _ (at0_mem (p := 0) (by omega))
      omega
    have mx : ∀ m : Int, m ∈ nums.map (fun n : Nat => (n : Int)) → (∀ y ∈ nums.map (fun n : Nat => (n : Int)), y ≤ m) → m = (e : Int) - 1 := fun m hm hmax => by
      obtain ⟨v, hv, rfl⟩ := List.mem_map.mp hm
      have h1 := nm.lt v hv
      have h2 := hmax _ (List.mem_map.mpr ⟨e - 1, nm.all _ (by omega), rfl⟩)
      omega
    have mql : lsOf M' (.ref q) = some ((nums.map fun n : Nat => (n : Int)).map D.int) := by rw [← nats_ints]; exact lsOf_ref mq
    (try simp only [↓e_var0, ↓e_varS, ↓e_C, ↓e_op, ↓e_un, ↓e_cb, ↓e_nil, ↓e_cons, ↓e_tup, ↓e_lst, ↓e_lstM, ↓e_frz, ↓e_B, ↓e_bl, ↓e_andT, ↓e_orT, ↓e_notT, ↓e_andV, ↓e_orV, ↓e_notV, ↓e_ifE, ↓e_tru, ↓e_slice, ↓e_noPart, ↓e_part, ↓e_partV, ↓e_bm, ↓e_bm0, ↓e_ty_lst, ↓e_ty_str, ↓e_next, ↓e_seq, ↓e_break, ↓e_cont, ↓e_drop, ↓e_ret, ↓e_retN, ↓e_ifS, ↓e_asg, ↓e_gname, ↓e_put0, ↓e_putS, ↓e_aug, ↓e_gsub, ↓e_gtup2, ↓e_I, ↓e_Ic, ↓e_add, ↓e_addS, ↓e_addL, ↓e_addT, ↓e_mul, ↓e_eqI, ↓e_eqS, ↓e_eqB, ↓e_ix_lst, ↓e_ix_tup, ↓e_at0, ↓e_at1, ↓e_at2, ↓e_at3, ↓e_sa0, ↓e_sa1, ↓e_sa2, ↓e_sa3, ↓e_len_lst, ↓e_len_tup, ↓e_len_str, ↓e_abs, ↓e_int, ↓e_str, ↓e_ilst, ↓e_il, ↓e_irl, ↓e_irng1, ↓e_irV, ↓e_irng2, ↓e_irV2, ↓e_yes, ↓u_frzV, ↓u_ty, ↓u_setL, ↓u_ix, ↓u_len, ↓u_append, ↓u_pop, ↓u_iref, ↓e_isi, ↓e_strS, ↓e_dnew, ↓e_dget, ↓e_dput, ↓e_sc, ↓e_dcN, ↓e_rank, ↓e_inLN, ↓e_izipR, ↓e_ienum, ↓e_while, ↓mupd_mupd, ↓e_for, ↓e_lc, ↓e_lcM, ↓e_wipe, ↓e_wipe0, eq_self_iff_true, true_and, List.set_cons_zero, List.set_cons_succ, id_eq, ↓reduceIte, Bool.false_eq_true, Bool.not_true, Bool.not_false])
    refine ⟨_, _, rfl, mql, by rw [List.length_map]; omega, fun m1 h1 h2 => ?_⟩
    obtain rfl := mx m1 h1 h2
    (try simp only [↓e_var0, ↓e_varS, ↓e_C, ↓e_op, ↓e_un, ↓e_cb, ↓e_nil, ↓e_cons, ↓e_tup, ↓e_lst, ↓e_lstM, ↓e_frz, ↓e_B, ↓e_bl, ↓e_andT, ↓e_orT, ↓e_notT, ↓e_andV, ↓e_orV, ↓e_notV, ↓e_ifE, ↓e_tru, ↓e_slice, ↓e_noPart, ↓e_part, ↓e_partV, ↓e_bm, ↓e_bm0, ↓e_ty_lst, ↓e_ty_str, ↓e_next, ↓e_seq, ↓e_break, ↓e_cont, ↓e_drop, ↓e_ret, ↓e_retN, ↓e_ifS, ↓e_asg, ↓e_gname, ↓e_put0, ↓e_putS, ↓e_aug, ↓e_gsub, ↓e_gtup2, ↓e_I, ↓e_Ic, ↓e_add, ↓e_addS, ↓e_addL, ↓e_addT, ↓e_mul, ↓e_eqI, ↓e_eqS, ↓e_eqB, ↓e_ix_lst, ↓e_ix_tup, ↓e_at0, ↓e_at1, ↓e_at2, ↓e_at3, ↓e_sa0, ↓e_sa1, ↓e_sa2, ↓e_sa3, ↓e_len_lst, ↓e_len_tup, ↓e_len_str, ↓e_abs, ↓e_int, ↓e_str, ↓e_ilst, ↓e_il, ↓e_irl, ↓e_irng1, ↓e_irV, ↓e_irng2, ↓e_irV2, ↓e_yes, ↓u_frzV, ↓u_ty, ↓u_setL, ↓u_ix, ↓u_len, ↓u_append, ↓u_pop, ↓u_iref, ↓e_isi, ↓e_strS, ↓e_dnew, ↓e_dget, ↓e_dput, ↓e_sc, ↓e_dcN, ↓e_rank, ↓e_inLN, ↓e_izipR, ↓e_ienum, ↓e_while, ↓mupd_mupd, ↓e_for, ↓e_lc, ↓e_lcM, ↓e_wipe, ↓e_wipe0, eq_self_iff_true, true_and, List.set_cons_zero, List.set_cons_succ, id_eq, ↓reduceIte, Bool.false_eq_true, Bool.not_true, Bool.not_false])
    split
    · rename_i cgt
      have cgt' : (cnt : Int) < e := by
        have := of_decide_eq_true cgt
        omega
      refine ⟨_, _, rfl, mql, by rw [List.length_map]; omega, fun m2 h1 h2 => ?_⟩
      obtain rfl := mx m2 h1 h2
      (try simp only [↓e_var0, ↓e_varS, ↓e_C, ↓e_op, ↓e_un, ↓e_cb, ↓e_nil, ↓e_cons, ↓e_tup, ↓e_lst, ↓e_lstM, ↓e_frz, ↓e_B, ↓e_bl, ↓e_andT, ↓e_orT, ↓e_notT, ↓e_andV, ↓e_orV, ↓e_notV, ↓e_ifE, ↓e_tru, ↓e_slice, ↓e_noPart, ↓e_part, ↓e_partV, ↓e_bm, ↓e_bm0, ↓e_ty_lst, ↓e_ty_str, ↓e_next, ↓e_seq, ↓e_break, ↓e_cont, ↓e_drop, ↓e_ret, ↓e_retN, ↓e_ifS, ↓e_asg, ↓e_gname, ↓e_put0, ↓e_putS, ↓e_aug, ↓e_gsub, ↓e_gtup2, ↓e_I, ↓e_Ic, ↓e_add, ↓e_addS, ↓e_addL, ↓e_addT, ↓e_mul, ↓e_eqI, ↓e_eqS, ↓e_eqB, ↓e_ix_lst, ↓e_ix_tup, ↓e_at0, ↓e_at1, ↓e_at2, ↓e_at3, ↓e_sa0, ↓e_sa1, ↓e_sa2, ↓e_sa3, ↓e_len_lst, ↓e_len_tup, ↓e_len_str, ↓e_abs, ↓e_int, ↓e_str, ↓e_ilst, ↓e_il, ↓e_irl, ↓e_irng1, ↓e_irV, ↓e_irng2, ↓e_irV2, ↓e_yes, ↓u_frzV, ↓u_ty, ↓u_setL, ↓u_ix, ↓u_len, ↓u_append, ↓u_pop, ↓u_iref, ↓e_isi, ↓e_strS, ↓e_dnew, ↓e_dget, ↓e_dput, ↓e_sc, ↓e_dcN, ↓e_rank, ↓e_inLN, ↓e_izipR, ↓e_ienum, ↓e_while, ↓mupd_mupd, ↓e_for, ↓e_lc, ↓e_lcM, ↓e_wipe, ↓e_wipe0, eq_self_iff_true, true_and, List.set_cons_zero, List.set_cons_succ, id_eq, ↓reduceIte, Bool.false_eq_true, Bool.not_true, Bool.not_false])
      refine ⟨_, _, _, _, rfl, lsOf_ref mq, rfl, ?_⟩
      have ez : List.zipWith (fun x y => D.tup [x, y]) (nums.map fun n : Nat => D.int n) (rows.map enR) = (List.range rows.length).map fun i => D.tup [.int (at0 nums i : Nat), enR (row rows i)] := by
        apply List.ext_getElem?
        intro i
        rw [List.getElem?_zipWith, List.getElem?_map, List.getElem?_map, List.getElem?_map]
        by_cases hi : i < rows.length
        · rw [nums_at (by rw [nl]; exact hi), rows_at hi, List.getElem?_range hi]; rfl
        · rw [List.getElem?_eq_none (l := nums) (by omega), List.getElem?_eq_none (l := List.range rows.length) (by rw [List.length_range]; omega)]; rfl
      rw [ez]
      have cl : ∀ i, i < rows.length → at0 nums i < rows.length := fun i hi => by
        have h1 := nm.lt _ (at0_mem (nums := nums) (p := i) (by omega))
        have h2 : e ≤ rows.length := by
          rcases hst with ⟨_, _, rfl, _⟩ | ⟨j, nums0, c, os, _, run, io, _, _, rfl⟩
          · exact pos
          · exact ord_le io
        omega
      refine lc_typed1 (List.range rows.length) (fun i => pk (toPk (krow nums rows i))) (small_line (by rw [List.length_range]; omega)) ⟨lsOf_ref mq, rfl⟩ (fun i2 i E' hi hE => ?_) ?_
      · have hi2 : i < rows.length := List.mem_range.mp (List.mem_of_getElem? hi)
        have rl := row_lt dr hi2
        have rlen : (row rows i).length ≤ rows.length := by
          have hmem : row rows i ∈ rows := List.mem_of_getElem? (rows_at hi2)
          have nd0 : (row rows i).Nodup := (dr.asc _ hmem).imp fun h => Nat.ne_of_lt h
          have := nat_nodup_len (row rows i) (List.range rows.length) nd0 fun v hv => List.mem_range.mpr (rl v hv)
          rwa [List.length_range] at this
        (try simp only [↓e_var0, ↓e_varS, ↓e_C, ↓e_op, ↓e_un, ↓e_cb, ↓e_nil, ↓e_cons, ↓e_tup, ↓e_lst, ↓e_lstM, ↓e_frz, ↓e_B, ↓e_bl, ↓e_andT, ↓e_orT, ↓e_notT, ↓e_andV, ↓e_orV, ↓e_notV, ↓e_ifE, ↓e_tru, ↓e_slice, ↓e_noPart, ↓e_part, ↓e_partV, ↓e_bm, ↓e_bm0, ↓e_ty_lst, ↓e_ty_str, ↓e_next, ↓e_seq, ↓e_break, ↓e_cont, ↓e_drop, ↓e_ret, ↓e_retN, ↓e_ifS, ↓e_asg, ↓e_gname, ↓e_put0, ↓e_putS, ↓e_aug, ↓e_gsub, ↓e_gtup2, ↓e_I, ↓e_Ic, ↓e_add, ↓e_addS, ↓e_addL, ↓e_addT, ↓e_mul, ↓e_eqI, ↓e_eqS, ↓e_eqB, ↓e_ix_lst, ↓e_ix_tup, ↓e_at0, ↓e_at1, ↓e_at2, ↓e_at3, ↓e_sa0, ↓e_sa1, ↓e_sa2, ↓e_sa3, ↓e_len_lst, ↓e_len_tup, ↓e_len_str, ↓e_abs, ↓e_int, ↓e_str, ↓e_ilst, ↓e_il, ↓e_irl, ↓e_irng1, ↓e_irV, ↓e_irng2, ↓e_irV2, ↓e_yes, ↓u_frzV, ↓u_ty, ↓u_setL, ↓u_ix, ↓u_len, ↓u_append, ↓u_pop, ↓u_iref, ↓e_isi, ↓e_strS, ↓e_dnew, ↓e_dget, ↓e_dput, ↓e_sc, ↓e_dcN, ↓e_rank, ↓e_inLN, ↓e_izipR, ↓e_ienum, ↓e_while, ↓mupd_mupd, ↓e_for, ↓e_lc, ↓e_lcM, ↓e_wipe, ↓e_wipe0, eq_self_iff_true, true_and, List.set_cons_zero, List.set_cons_succ, id_eq, ↓reduceIte, Bool.false_eq_true, Bool.not_true, Bool.not_false])
        refine ⟨row rows i, q, nums, rows.length, rfl, mq, by omega, fun z hz => by rw [nl]; exact rl z hz, fun z hz => cl z (rl z hz), ?_⟩
        (try simp only [↓e_var0, ↓e_varS, ↓e_C, ↓e_op, ↓e_un, ↓e_cb, ↓e_nil, ↓e_cons, ↓e_tup, ↓e_lst, ↓e_lstM, ↓e_frz, ↓e_B, ↓e_bl, ↓e_andT, ↓e_orT, ↓e_notT, ↓e_andV, ↓e_orV, ↓e_notV, ↓e_ifE, ↓e_tru, ↓e_slice, ↓e_noPart, ↓e_part, ↓e_partV, ↓e_bm, ↓e_bm0, ↓e_ty_lst, ↓e_ty_str, ↓e_next, ↓e_seq, ↓e_break, ↓e_cont, ↓e_drop, ↓e_ret, ↓e_retN, ↓e_ifS, ↓e_asg, ↓e_gname, ↓e_put0, ↓e_putS, ↓e_aug, ↓e_gsub, ↓e_gtup2, ↓e_I, ↓e_Ic, ↓e_add, ↓e_addS, ↓e_addL, ↓e_addT, ↓e_mul, ↓e_eqI, ↓e_eqS, ↓e_eqB, ↓e_ix_lst, ↓e_ix_tup, ↓e_at0, ↓e_at1, ↓e_at2, ↓e_at3, ↓e_sa0, ↓e_sa1, ↓e_sa2, ↓e_sa3, ↓e_len_lst, ↓e_len_tup, ↓e_len_str, ↓e_abs, ↓e_int, ↓e_str, ↓e_ilst, ↓e_il, ↓e_irl, ↓e_irng1, ↓e_irV, ↓e_irng2, ↓e_irV2, ↓e_yes, ↓u_frzV, ↓u_ty, ↓u_setL, ↓u_ix, ↓u_len, ↓u_append, ↓u_pop, ↓u_iref, ↓e_isi, ↓e_strS, ↓e_dnew, ↓e_dget, ↓e_dput, ↓e_sc, ↓e_dcN, ↓e_rank, ↓e_inLN, ↓e_izipR, ↓e_ienum, ↓e_while, ↓mupd_mupd, ↓e_for, ↓e_lc, ↓e_lcM, ↓e_wipe, ↓e_wipe0, eq_self_iff_true, true_and, List.set_cons_zero, List.set_cons_succ, id_eq, ↓reduceIte, Bool.false_eq_true, Bool.not_true, Bool.not_false])
        rw [nats_ints]
        exact ⟨small_line (by simp), hE⟩
      have hnek : ∀ k ∈ keys nums rows, k ≠ [] := fun k hk => by
        obtain ⟨i, _, rfl⟩ := keys_mem.mp hk
        exact fun z => (nomatch z)
      refine ⟨keys nums rows, by unfold keys; rw [List.map_map, List.map_map]; rfl, by rw [keys_len]; omega, hnek, fun os io q' hq' => ?_⟩
      (try simp only [↓e_var0, ↓e_varS, ↓e_C, ↓e_op, ↓e_un, ↓e_cb, ↓e_nil, ↓e_cons, ↓e_tup, ↓e_lst, ↓e_lstM, ↓e_frz, ↓e_B, ↓e_bl, ↓e_andT, ↓e_orT, ↓e_notT, ↓e_andV, ↓e_orV, ↓e_notV, ↓e_ifE, ↓e_tru, ↓e_slice, ↓e_noPart, ↓e_part, ↓e_partV, ↓e_bm, ↓e_bm0, ↓e_ty_lst, ↓e_ty_str, ↓e_next, ↓e_seq, ↓e_break, ↓e_cont, ↓e_drop, ↓e_ret, ↓e_retN, ↓e_ifS, ↓e_asg, ↓e_gname, ↓e_put0, ↓e_putS, ↓e_aug, ↓e_gsub, ↓e_gtup2, ↓e_I, ↓e_Ic, ↓e_add, ↓e_addS, ↓e_addL, ↓e_addT, ↓e_mul, ↓e_eqI, ↓e_eqS, ↓e_eqB, ↓e_ix_lst, ↓e_ix_tup, ↓e_at0, ↓e_at1, ↓e_at2, ↓e_at3, ↓e_sa0, ↓e_sa1, ↓e_sa2, ↓e_sa3, ↓e_len_lst, ↓e_len_tup, ↓e_len_str, ↓e_abs, ↓e_int, ↓e_str, ↓e_ilst, ↓e_il, ↓e_irl, ↓e_irng1, ↓e_irV, ↓e_irng2, ↓e_irV2, ↓e_yes, ↓u_frzV, ↓u_ty, ↓u_setL, ↓u_ix, ↓u_len, ↓u_append, ↓u_pop, ↓u_iref, ↓e_isi, ↓e_strS, ↓e_dnew, ↓e_dget, ↓e_dput, ↓e_sc, ↓e_dcN, ↓e_rank, ↓e_inLN, ↓e_izipR, ↓e_ienum, ↓e_while, ↓mupd_mupd, ↓e_for, ↓e_lc, ↓e_lcM, ↓e_wipe, ↓e_wipe0, eq_self_iff_true, true_and, List.set_cons_zero, List.set_cons_succ, id_eq, ↓reduceIte, Bool.false_eq_true, Bool.not_true, Bool.not_false])
      have hq0 : M q' = none := sb.none hq'
      rcases hst with ⟨rfl, rfl, rfl, run⟩ | ⟨j, nums0, c, os0, rfl, run, io0, rfl, rfl, rfl⟩
      · exact ⟨300, by omega, q', _, 1, os.length, _, _, rfl, mupd_same, hq0, sb.new _ hq0, next_num io, .inr ⟨0, nums, 1, os, rfl, run, io, rfl, rfl, rfl⟩⟩
      · have run2 := run.succ io0 (by omega)
        have gr := run2.grow pos
        exact ⟨300 - (j + 1), by omega, q', _, os0.length, os.length, _, _, by rw [show (os0.length : Int) - 1 + 1 = os0.length by omega], mupd_same, hq0, sb.new _ hq0, next_num io, .inr ⟨j + 1, _, os0.length, os, rfl, run2, io, rfl, rfl, rfl⟩⟩
    · rename_i cgt
      have cgt' : (e : Int) ≤ cnt := by
        have : ¬ ((cnt : Int) < (e : Int) - 1 + 1) := fun z => cgt (decide_eq_true z)
        omega
      rcases hst with ⟨rfl, rfl, rfl, run⟩ | ⟨j, nums0, c, os0, rfl, run, io0, rfl, rfl, rfl⟩
      · omega
      · have ge := ord_ge (run.num pos) io0
        exact ⟨_, sb.put mq, h _ q ⟨j, nums0, cnt, os0, run, io0, by omega, rfl⟩ mq0⟩
def spSame : DL := fun ds M R => ∃ (rows : List (List Nat)) (a b : Nat), ds = [enD rows, .int a, .int b] ∧ Drw rows ∧ a < rows.length ∧ b < rows.length ∧ ∀ ns, Lik rows ns → R (.bl (decide (at0 ns a = at0 ns b))) M
def spMember : DL := fun ds M R => ∃ (rows : List (List Nat)) (a b : Nat), ds = [enD rows, .int a, .int b] ∧ Drw rows ∧ a < rows.length ∧ b < rows.length ∧ ∀ ns, Lik rows ns → R (.bl (decide (at0 ns a ∈ (row rows b).map (at0 ns)))) M
theorem ok_same {f : Addr} {fd : FuncData} {k : Nat} (F : Fun K "same_set" "same_set" ssame_set f fd) (B : Bt mg) (c_likeness_of : CalX P w K mg base "likeness_of" 2 spLike) : FnOk P w K mg base CX0 (2 + 1) f fd psame_set (spOf K spSame) := by
  refine dfnW F scsame_set (fun ds M R h => ?_) (fun cdv A outer s H E ds M R hr h => ?_)
  · obtain ⟨rows, a, b, rfl, _⟩ := h
    rfl
  · have nd := scsame_set.nd
    refine ⟨_, (dss_cons (ds_set (i := 3) nd rfl (.inl rfl) (d_callX c_likeness_of hr rfl (da_cons (dv 0) da_nil)))
(dss_one (ds_ret (d_eq hr (d_sub_ix (dv 3) (dv 1)) (d_sub_ix (dv 3) (dv 2)))))), ?_⟩
    obtain ⟨rows, a, b, rfl, dr, ha, hb, h⟩ := h
    simp only [dstart, List.map, List.length, List.replicate, List.cons_append, List.nil_append]
    (try simp only [↓e_var0, ↓e_varS, ↓e_C, ↓e_op, ↓e_un, ↓e_cb, ↓e_nil, ↓e_cons, ↓e_tup, ↓e_lst, ↓e_lstM, ↓e_frz, ↓e_B, ↓e_bl, ↓e_andT, ↓e_orT, ↓e_notT, ↓e_andV, ↓e_orV, ↓e_notV, ↓e_ifE, ↓e_tru, ↓e_slice, ↓e_noPart, ↓e_part, ↓e_partV, ↓e_bm, ↓e_bm0, ↓e_ty_lst, ↓e_ty_str, ↓e_next, ↓e_seq, ↓e_break, ↓e_cont, ↓e_drop, ↓e_ret, ↓e_retN, ↓e_ifS, ↓e_asg, ↓e_gname, ↓e_put0, ↓e_putS, ↓e_aug, ↓e_gsub, ↓e_gtup2, ↓e_I, ↓e_Ic, ↓e_add, ↓e_addS, ↓e_addL, ↓e_addT, ↓e_mul, ↓e_eqI, ↓e_eqS, ↓e_eqB, ↓e_ix_lst, ↓e_ix_tup, ↓e_at0, ↓e_at1, ↓e_at2, ↓e_at3, ↓e_sa0, ↓e_sa1, ↓e_sa2, ↓e_sa3, ↓e_len_lst, ↓e_len_tup, ↓e_len_str, ↓e_abs, ↓e_int, ↓e_str, ↓e_ilst, ↓e_il, ↓e_irl, ↓e_irng1, ↓e_irV, ↓e_irng2, ↓e_irV2, ↓e_yes, ↓u_frzV, ↓u_ty, ↓u_setL, ↓u_ix, ↓u_len, ↓u_append, ↓u_pop, ↓u_iref, ↓e_isi, ↓e_strS, ↓e_dnew, ↓e_dget, ↓e_dput, ↓e_sc, ↓e_dcN, ↓e_rank, ↓e_inLN, ↓e_izipR, ↓e_ienum, ↓e_while, ↓mupd_mupd, ↓e_for, ↓e_lc, ↓e_lcM, ↓e_wipe, ↓e_wipe0, eq_self_iff_true, true_and, List.set_cons_zero, List.set_cons_succ, id_eq, ↓reduceIte, Bool.false_eq_true, Bool.not_true, Bool.not_false])
    refine ⟨rows, rfl, dr, fun ns p lk hp => ?_⟩
    have nl := lk.len
    have ep : mupd M p (moN ns) p = some (moN ns) := mupd_same
    (try simp only [↓e_var0, ↓e_varS, ↓e_C, ↓e_op, ↓e_un, ↓e_cb, ↓e_nil, ↓e_cons, ↓e_tup, ↓e_lst, ↓e_lstM, ↓e_frz, ↓e_B, ↓e_bl, ↓e_andT, ↓e_orT, ↓e_notT, ↓e_andV, ↓e_orV, ↓e_notV, ↓e_ifE, ↓e_tru, ↓e_slice, ↓e_noPart, ↓e_part, ↓e_partV, ↓e_bm, ↓e_bm0, ↓e_ty_lst, ↓e_ty_str, ↓e_next, ↓e_seq, ↓e_break, ↓e_cont, ↓e_drop, ↓e_ret, ↓e_retN, ↓e_ifS, ↓e_asg, ↓e_gname, ↓e_put0, ↓e_putS, ↓e_aug, ↓e_gsub, ↓e_gtup2, ↓e_I, ↓e_Ic, ↓e_add, ↓e_addS, ↓e_addL, ↓e_addT, ↓e_mul, ↓e_eqI, ↓e_eqS, ↓e_eqB, ↓e_ix_lst, ↓e_ix_tup, ↓e_at0, ↓e_at1, ↓e_at2, ↓e_at3, ↓e_sa0, ↓e_sa1, ↓e_sa2, ↓e_sa3, ↓e_len_lst, ↓e_len_tup, ↓e_len_str, ↓e_abs, ↓e_int, ↓e_str, ↓e_ilst, ↓e_il, ↓e_irl, ↓e_irng1, ↓e_irV, ↓e_irng2, ↓e_irV2, ↓e_yes, ↓u_frzV, ↓u_ty, ↓u_setL, ↓u_ix, ↓u_len, ↓u_append, ↓u_pop, ↓u_iref, ↓e_isi, ↓e_strS, ↓e_dnew, ↓e_dget, ↓e_dput, ↓e_sc, ↓e_dcN, ↓e_rank, ↓e_inLN, ↓e_izipR, ↓e_ienum, ↓e_while, ↓mupd_mupd, ↓e_for, ↓e_lc, ↓e_lcM, ↓e_wipe, ↓e_wipe0, ↓e_frzV ep, ↓e_ty_ref ep, ↓e_setL ep, ↓e_ix_ref ep, ↓e_len_ref ep, ↓e_append ep, ↓e_pop ep, ↓e_iref ep, eq_self_iff_true, true_and, List.set_cons_zero, List.set_cons_succ, id_eq, ↓reduceIte, Bool.false_eq_true, Bool.not_true, Bool.not_false])
    rw [at_map (nums_at (by rw [nl]; exact ha))]
    (try simp only [↓e_var0, ↓e_varS, ↓e_C, ↓e_op, ↓e_un, ↓e_cb, ↓e_nil, ↓e_cons, ↓e_tup, ↓e_lst, ↓e_lstM, ↓e_frz, ↓e_B, ↓e_bl, ↓e_andT, ↓e_orT, ↓e_notT, ↓e_andV, ↓e_orV, ↓e_notV, ↓e_ifE, ↓e_tru, ↓e_slice, ↓e_noPart, ↓e_part, ↓e_partV, ↓e_bm, ↓e_bm0, ↓e_ty_lst, ↓e_ty_str, ↓e_next, ↓e_seq, ↓e_break, ↓e_cont, ↓e_drop, ↓e_ret, ↓e_retN, ↓e_ifS, ↓e_asg, ↓e_gname, ↓e_put0, ↓e_putS, ↓e_aug, ↓e_gsub, ↓e_gtup2, ↓e_I, ↓e_Ic, ↓e_add, ↓e_addS, ↓e_addL, ↓e_addT, ↓e_mul, ↓e_eqI, ↓e_eqS, ↓e_eqB, ↓e_ix_lst, ↓e_ix_tup, ↓e_at0, ↓e_at1, ↓e_at2, ↓e_at3, ↓e_sa0, ↓e_sa1, ↓e_sa2, ↓e_sa3, ↓e_len_lst, ↓e_len_tup, ↓e_len_str, ↓e_abs, ↓e_int, ↓e_str, ↓e_ilst, ↓e_il, ↓e_irl, ↓e_irng1, ↓e_irV, ↓e_irng2, ↓e_irV2, ↓e_yes, ↓u_frzV, ↓u_ty, ↓u_setL, ↓u_ix, ↓u_len, ↓u_append, ↓u_pop, ↓u_iref, ↓e_isi, ↓e_strS, ↓e_dnew, ↓e_dget, ↓e_dput, ↓e_sc, ↓e_dcN, ↓e_rank, ↓e_inLN, ↓e_izipR, ↓e_ienum, ↓e_while, ↓mupd_mupd, ↓e_for, ↓e_lc, ↓e_lcM, ↓e_wipe, ↓e_wipe0, ↓e_frzV ep, ↓e_ty_ref ep, ↓e_setL ep, ↓e_ix_ref ep, ↓e_len_ref ep, ↓e_append ep, ↓e_pop ep, ↓e_iref ep, eq_self_iff_true, true_and, List.set_cons_zero, List.set_cons_succ, id_eq, ↓reduceIte, Bool.false_eq_true, Bool.not_true, Bool.not_false])
    rw [at_map (nums_at (by rw [nl]; exact hb))]
    (try simp only [↓e_var0, ↓e_varS, ↓e_C, ↓e_op, ↓e_un, ↓e_cb, ↓e_nil, ↓e_cons, ↓e_tup, ↓e_lst, ↓e_lstM, ↓e_frz, ↓e_B, ↓e_bl, ↓e_andT, ↓e_orT, ↓e_notT, ↓e_andV, ↓e_orV, ↓e_notV, ↓e_ifE, ↓e_tru, ↓e_slice, ↓e_noPart, ↓e_part, ↓e_partV, ↓e_bm, ↓e_bm0, ↓e_ty_lst, ↓e_ty_str, ↓e_next, ↓e_seq, ↓e_break, ↓e_cont, ↓e_drop, ↓e_ret, ↓e_retN, ↓e_ifS, ↓e_asg, ↓e_gname, ↓e_put0, ↓e_putS, ↓e_aug, ↓e_gsub, ↓e_gtup2, ↓e_I, ↓e_Ic, ↓e_add, ↓e_addS, ↓e_addL, ↓e_addT, ↓e_mul, ↓e_eqI, ↓e_eqS, ↓e_eqB, ↓e_ix_lst, ↓e_ix_tup, ↓e_at0, ↓e_at1, ↓e_at2, ↓e_at3, ↓e_sa0, ↓e_sa1, ↓e_sa2, ↓e_sa3, ↓e_len_lst, ↓e_len_tup, ↓e_len_str, ↓e_abs, ↓e_int, ↓e_str, ↓e_ilst, ↓e_il, ↓e_irl, ↓e_irng1, ↓e_irV, ↓e_irng2, ↓e_irV2, ↓e_yes, ↓u_frzV, ↓u_ty, ↓u_setL, ↓u_ix, ↓u_len, ↓u_append, ↓u_pop, ↓u_iref, ↓e_isi, ↓e_strS, ↓e_dnew, ↓e_dget, ↓e_dput, ↓e_sc, ↓e_dcN, ↓e_rank, ↓e_inLN, ↓e_izipR, ↓e_ienum, ↓e_while, ↓mupd_mupd, ↓e_for, ↓e_lc, ↓e_lcM, ↓e_wipe, ↓e_wipe0, eq_self_iff_true, true_and, List.set_cons_zero, List.set_cons_succ, id_eq, ↓reduceIte, Bool.false_eq_true, Bool.not_true, Bool.not_false])
    refine ⟨M, (DL.Sub.refl M).new _ hp, ?_⟩
    have := h ns lk
    by_cases c : at0 ns a = at0 ns b
    · simpa [c] using this
    · have c' : ¬ ((at0 ns a : Nat) : Int) = (at0 ns b : Nat) := fun z => c (Int.ofNat.inj z)
      simpa [c, c'] using this
theorem ok_member {f : Addr} {fd : FuncData} {k : Nat} (F : Fun K "is_member" "is_member" sis_member f fd) (B : Bt mg) (c_likeness_of : CalX P w K mg base "likeness_of" 2 spLike) : FnOk P w K mg base CX0 (2 + 1) f fd pis_member (spOf K spMember) := by
  refine dfnW F scis_member (fun ds M R h => ?_) (fun cdv A outer s H E ds M R hr h => ?_)
  · obtain ⟨rows, a, b, rfl, _⟩ := h
    rfl
  · have nd := scis_member.nd
    refine ⟨_, (dss_cons (ds_set (i := 3) nd rfl (.inr rfl) (d_callX c_likeness_of hr rfl (da_cons (dv 0) da_nil)))
(dss_one (ds_ret (d_any rfl rfl B.any (da_cons (d_lc (lfg_name (i := 4) (by decide)) (pe_lc (own := [("held", 4)]) rfl nd (di_lst (d_sub_ix (dv 0) (dv 2))) (blkOk_by (own := [("held", 4)]) (N := nis_member) (by rfl)) (fun _ _ _ _ _ => (pg_name (i := 4) nd rfl (.inl rfl))) (fun _ _ _ _ _ => dts_nil) (fun _ _ _ _ _ => (d_eq hr (d_sub_ix (dv 3) (dv 4)) (d_sub_ix (dv 3) (dv 1)))))) da_nil))))), ?_⟩
    obtain ⟨rows, a, b, rfl, dr, ha, hb, h⟩ := h
    simp only [dstart, List.map, List.length, List.replicate, List.cons_append, List.nil_append]
    (try simp only [↓e_var0, ↓e_varS, ↓e_C, ↓e_op, ↓e_un, ↓e_cb, ↓e_nil, ↓e_cons, ↓e_tup, ↓e_lst, ↓e_lstM, ↓e_frz, ↓e_B, ↓e_bl, ↓e_andT, ↓e_orT, ↓e_notT, ↓e_andV, ↓e_orV, ↓e_notV, ↓e_ifE, ↓e_tru, ↓e_slice, ↓e_noPart, ↓e_part, ↓e_partV, ↓e_bm, ↓e_bm0, ↓e_ty_lst, ↓e_ty_str, ↓e_next, ↓e_seq, ↓e_break, ↓e_cont, ↓e_drop, ↓e_ret, ↓e_retN, ↓e_ifS, ↓e_asg, ↓e_gname, ↓e_put0, ↓e_putS, ↓e_aug, ↓e_gsub, ↓e_gtup2, ↓e_I, ↓e_Ic, ↓e_add, ↓e_addS, ↓e_addL, ↓e_addT, ↓e_mul, ↓e_eqI, ↓e_eqS, ↓e_eqB, ↓e_ix_lst, ↓e_ix_tup, ↓e_at0, ↓e_at1, ↓e_at2, ↓e_at3, ↓e_sa0, ↓e_sa1, ↓e_sa2, ↓e_sa3, ↓e_len_lst, ↓e_len_tup, ↓e_len_str, ↓e_abs, ↓e_int, ↓e_str, ↓e_ilst, ↓e_il, ↓e_irl, ↓e_irng1, ↓e_irV, ↓e_irng2, ↓e_irV2, ↓e_yes, ↓u_frzV, ↓u_ty, ↓u_setL, ↓u_ix, ↓u_len, ↓u_append, ↓u_pop, ↓u_iref, ↓e_isi, ↓e_strS, ↓e_dnew, ↓e_dget, ↓e_dput, ↓e_sc, ↓e_dcN, ↓e_rank, ↓e_inLN, ↓e_izipR, ↓e_ienum, ↓e_while, ↓mupd_mupd, ↓e_for, ↓e_lc, ↓e_lcM, ↓e_wipe, ↓e_wipe0, eq_self_iff_true, true_and, List.set_cons_zero, List.set_cons_succ, id_eq, ↓reduceIte, Bool.false_eq_true, Bool.not_true, Bool.not_false])
    refine ⟨rows, rfl, dr, fun ns p lk hp => ?_⟩
    have nl := lk.len
    have ep : mupd M p (moN ns) p = some (moN ns) := mupd_same
    have sm := dr.sm
    have rl := row_lt dr hb
    have rlen : (row rows b).length ≤ rows.length := by
      have hmem : row rows b ∈ rows := List.mem_of_getElem? (rows_at hb)
      have nd0 : (row rows b).Nodup := (dr.asc _ hmem).imp fun h => Nat.ne_of_lt h
      have := nat_nodup_len (row rows b) (List.range rows.length) nd0 fun v hv => List.mem_range.mpr (rl v hv)
      rwa [List.length_range] at this
    simp only [enD]
    (try simp only [↓e_var0, ↓e_varS, ↓e_C, ↓e_op, ↓e_un, ↓e_cb, ↓e_nil, ↓e_cons, ↓e_tup, ↓e_lst, ↓e_lstM, ↓e_frz, ↓e_B, ↓e_bl, ↓e_andT, ↓e_orT, ↓e_notT, ↓e_andV, ↓e_orV, ↓e_notV, ↓e_ifE, ↓e_tru, ↓e_slice, ↓e_noPart, ↓e_part, ↓e_partV, ↓e_bm, ↓e_bm0, ↓e_ty_lst, ↓e_ty_str, ↓e_next, ↓e_seq, ↓e_break, ↓e_cont, ↓e_drop, ↓e_ret, ↓e_retN, ↓e_ifS, ↓e_asg, ↓e_gname, ↓e_put0, ↓e_putS, ↓e_aug, ↓e_gsub, ↓e_gtup2, ↓e_I, ↓e_Ic, ↓e_add, ↓e_addS, ↓e_addL, ↓e_addT, ↓e_mul, ↓e_eqI, ↓e_eqS, ↓e_eqB, ↓e_ix_lst, ↓e_ix_tup, ↓e_at0, ↓e_at1, ↓e_at2, ↓e_at3, ↓e_sa0, ↓e_sa1, ↓e_sa2, ↓e_sa3, ↓e_len_lst, ↓e_len_tup, ↓e_len_str, ↓e_abs, ↓e_int, ↓e_str, ↓e_ilst, ↓e_il, ↓e_irl, ↓e_irng1, ↓e_irV, ↓e_irng2, ↓e_irV2, ↓e_yes, ↓u_frzV, ↓u_ty, ↓u_setL, ↓u_ix, ↓u_len, ↓u_append, ↓u_pop, ↓u_iref, ↓e_isi, ↓e_strS, ↓e_dnew, ↓e_dget, ↓e_dput, ↓e_sc, ↓e_dcN, ↓e_rank, ↓e_inLN, ↓e_izipR, ↓e_ienum, ↓e_while, ↓mupd_mupd, ↓e_for, ↓e_lc, ↓e_lcM, ↓e_wipe, ↓e_wipe0, ↓e_frzV ep, ↓e_ty_ref ep, ↓e_setL ep, ↓e_ix_ref ep, ↓e_len_ref ep, ↓e_append ep, ↓e_pop ep, ↓e_iref ep, eq_self_iff_true, true_and, List.set_cons_zero, List.set_cons_succ, id_eq, ↓reduceIte, Bool.false_eq_true, Bool.not_true, Bool.not_false])
    rw [at_map (rows_at hb), show enR (row rows b) = .lst ((row rows b).map fun n : Nat => D.int n) from rfl]
    (try simp only [↓e_var0, ↓e_varS, ↓e_C, ↓e_op, ↓e_un, ↓e_cb, ↓e_nil, ↓e_cons, ↓e_tup, ↓e_lst, ↓e_lstM, ↓e_frz, ↓e_B, ↓e_bl, ↓e_andT, ↓e_orT, ↓e_notT, ↓e_andV, ↓e_orV, ↓e_notV, ↓e_ifE, ↓e_tru, ↓e_slice, ↓e_noPart, ↓e_part, ↓e_partV, ↓e_bm, ↓e_bm0, ↓e_ty_lst, ↓e_ty_str, ↓e_next, ↓e_seq, ↓e_break, ↓e_cont, ↓e_drop, ↓e_ret, ↓e_retN, ↓e_ifS, ↓e_asg, ↓e_gname, ↓e_put0, ↓e_putS, ↓e_aug, ↓e_gsub, ↓e_gtup2, ↓e_I, ↓e_Ic, ↓e_add, ↓e_addS, ↓e_addL, ↓e_addT, ↓e_mul, ↓e_eqI, ↓e_eqS, ↓e_eqB, ↓e_ix_lst, ↓e_ix_tup, ↓e_at0, ↓e_at1, ↓e_at2, ↓e_at3, ↓e_sa0, ↓e_sa1, ↓e_sa2, ↓e_sa3, ↓e_len_lst, ↓e_len_tup, ↓e_len_str, ↓e_abs, ↓e_int, ↓e_str, ↓e_ilst, ↓e_il, ↓e_irl, ↓e_irng1, ↓e_irV, ↓e_irng2, ↓e_irV2, ↓e_yes, ↓u_frzV, ↓u_ty, ↓u_setL, ↓u_ix, ↓u_len, ↓u_append, ↓u_pop, ↓u_iref, ↓e_isi, ↓e_strS, ↓e_dnew, ↓e_dget, ↓e_dput, ↓e_sc, ↓e_dcN, ↓e_rank, ↓e_inLN, ↓e_izipR, ↓e_ienum, ↓e_while, ↓mupd_mupd, ↓e_for, ↓e_lc, ↓e_lcM, ↓e_wipe, ↓e_wipe0, eq_self_iff_true, true_and, List.set_cons_zero, List.set_cons_succ, id_eq, ↓reduceIte, Bool.false_eq_true, Bool.not_true, Bool.not_false])
    refine lc_typed1 (row rows b) (fun z => D.bl (decide (((at0 ns z : Nat) : Int) = (at0 ns a : Nat)))) (small_line (by omega)) trivial (fun i z E' hz hE => ?_) ?_
    · have hzl := rl z (List.mem_of_getElem? hz)
      (try simp only [↓e_var0, ↓e_varS, ↓e_C, ↓e_op, ↓e_un, ↓e_cb, ↓e_nil, ↓e_cons, ↓e_tup, ↓e_lst, ↓e_lstM, ↓e_frz, ↓e_B, ↓e_bl, ↓e_andT, ↓e_orT, ↓e_notT, ↓e_andV, ↓e_orV, ↓e_notV, ↓e_ifE, ↓e_tru, ↓e_slice, ↓e_noPart, ↓e_part, ↓e_partV, ↓e_bm, ↓e_bm0, ↓e_ty_lst, ↓e_ty_str, ↓e_next, ↓e_seq, ↓e_break, ↓e_cont, ↓e_drop, ↓e_ret, ↓e_retN, ↓e_ifS, ↓e_asg, ↓e_gname, ↓e_put0, ↓e_putS, ↓e_aug, ↓e_gsub, ↓e_gtup2, ↓e_I, ↓e_Ic, ↓e_add, ↓e_addS, ↓e_addL, ↓e_addT, ↓e_mul, ↓e_eqI, ↓e_eqS, ↓e_eqB, ↓e_ix_lst, ↓e_ix_tup, ↓e_at0, ↓e_at1, ↓e_at2, ↓e_at3, ↓e_sa0, ↓e_sa1, ↓e_sa2, ↓e_sa3, ↓e_len_lst, ↓e_len_tup, ↓e_len_str, ↓e_abs, ↓e_int, ↓e_str, ↓e_ilst, ↓e_il, ↓e_irl, ↓e_irng1, ↓e_irV, ↓e_irng2, ↓e_irV2, ↓e_yes, ↓u_frzV, ↓u_ty, ↓u_setL, ↓u_ix, ↓u_len, ↓u_append, ↓u_pop, ↓u_iref, ↓e_isi, ↓e_strS, ↓e_dnew, ↓e_dget, ↓e_dput, ↓e_sc, ↓e_dcN, ↓e_rank, ↓e_inLN, ↓e_izipR, ↓e_ienum, ↓e_while, ↓mupd_mupd, ↓e_for, ↓e_lc, ↓e_lcM, ↓e_wipe, ↓e_wipe0, ↓e_frzV ep, ↓e_ty_ref ep, ↓e_setL ep, ↓e_ix_ref ep, ↓e_len_ref ep, ↓e_append ep, ↓e_pop ep, ↓e_iref ep, eq_self_iff_true, true_and, List.set_cons_zero, List.set_cons_succ, id_eq, ↓reduceIte, Bool.false_eq_true, Bool.not_true, Bool.not_false])
      rw [at_map (nums_at (by rw [nl]; exact hzl))]
      (try simp only [↓e_var0, ↓e_varS, ↓e_C, ↓e_op, ↓e_un, ↓e_cb, ↓e_nil, ↓e_cons, ↓e_tup, ↓e_lst, ↓e_lstM, ↓e_frz, ↓e_B, ↓e_bl, ↓e_andT, ↓e_orT, ↓e_notT, ↓e_andV, ↓e_orV, ↓e_notV, ↓e_ifE, ↓e_tru, ↓e_slice, ↓e_noPart, ↓e_part, ↓e_partV, ↓e_bm, ↓e_bm0, ↓e_ty_lst, ↓e_ty_str, ↓e_next, ↓e_seq, ↓e_break, ↓e_cont, ↓e_drop, ↓e_ret, ↓e_retN, ↓e_ifS, ↓e_asg, ↓e_gname, ↓e_put0, ↓e_putS, ↓e_aug, ↓e_gsub, ↓e_gtup2, ↓e_I, ↓e_Ic, ↓e_add, ↓e_addS, ↓e_addL, ↓e_addT, ↓e_mul, ↓e_eqI, ↓e_eqS, ↓e_eqB, ↓e_ix_lst, ↓e_ix_tup, ↓e_at0, ↓e_at1, ↓e_at2, ↓e_at3, ↓e_sa0, ↓e_sa1, ↓e_sa2, ↓e_sa3, ↓e_len_lst, ↓e_len_tup, ↓e_len_str, ↓e_abs, ↓e_int, ↓e_str, ↓e_ilst, ↓e_il, ↓e_irl, ↓e_irng1, ↓e_irV, ↓e_irng2, ↓e_irV2, ↓e_yes, ↓u_frzV, ↓u_ty, ↓u_setL, ↓u_ix, ↓u_len, ↓u_append, ↓u_pop, ↓u_iref, ↓e_isi, ↓e_strS, ↓e_dnew, ↓e_dget, ↓e_dput, ↓e_sc, ↓e_dcN, ↓e_rank, ↓e_inLN, ↓e_izipR, ↓e_ienum, ↓e_while, ↓mupd_mupd, ↓e_for, ↓e_lc, ↓e_lcM, ↓e_wipe, ↓e_wipe0, ↓e_frzV ep, ↓e_ty_ref ep, ↓e_setL ep, ↓e_ix_ref ep, ↓e_len_ref ep, ↓e_append ep, ↓e_pop ep, ↓e_iref ep, eq_self_iff_true, true_and, List.set_cons_zero, List.set_cons_succ, id_eq, ↓reduceIte, Bool.false_eq_true, Bool.not_true, Bool.not_false])
      rw [at_map (nums_at (by rw [nl]; exact ha))]
      (try simp only [↓e_var0, ↓e_varS, ↓e_C, ↓e_op, ↓e_un, ↓e_cb, ↓e_nil, ↓e_cons, ↓e_tup, ↓e_lst, ↓e_lstM, ↓e_frz, ↓e_B, ↓e_bl, ↓e_andT, ↓e_orT, ↓e_notT, ↓e_andV, ↓e_orV, ↓e_notV, ↓e_ifE, ↓e_tru, ↓e_slice, ↓e_noPart, ↓e_part, ↓e_partV, ↓e_bm, ↓e_bm0, ↓e_ty_lst, ↓e_ty_str, ↓e_next, ↓e_seq, ↓e_break, ↓e_cont, ↓e_drop, ↓e_ret, ↓e_retN, ↓e_ifS, ↓e_asg, ↓e_gname, ↓e_put0, ↓e_putS, ↓e_aug, ↓e_gsub, ↓e_gtup2, ↓e_I, ↓e_Ic, ↓e_add, ↓e_addS, ↓e_addL, ↓e_addT, ↓e_mul, ↓e_eqI, ↓e_eqS, ↓e_eqB, ↓e_ix_lst, ↓e_ix_tup, ↓e_at0, ↓e_at1, ↓e_at2, ↓e_at3, ↓e_sa0, ↓e_sa1, ↓e_sa2, ↓e_sa3, ↓e_len_lst, ↓e_len_tup, ↓e_len_str, ↓e_abs, ↓e_int, ↓e_str, ↓e_ilst, ↓e_il, ↓e_irl, ↓e_irng1, ↓e_irV, ↓e_irng2, ↓e_irV2, ↓e_yes, ↓u_frzV, ↓u_ty, ↓u_setL, ↓u_ix, ↓u_len, ↓u_append, ↓u_pop, ↓u_iref, ↓e_isi, ↓e_strS, ↓e_dnew, ↓e_dget, ↓e_dput, ↓e_sc, ↓e_dcN, ↓e_rank, ↓e_inLN, ↓e_izipR, ↓e_ienum, ↓e_while, ↓mupd_mupd, ↓e_for, ↓e_lc, ↓e_lcM, ↓e_wipe, ↓e_wipe0, eq_self_iff_true, true_and, List.set_cons_zero, List.set_cons_succ, id_eq, ↓reduceIte, Bool.false_eq_true, Bool.not_true, Bool.not_false])
      exact hE
    refine ⟨_, (row rows b).map fun z => decide (((at0 ns z : Nat) : Int) = (at0 ns a : Nat)), rfl, by show some _ = some _; rw [List.map_map]; rfl, M, (DL.Sub.refl M).new _ hp, ?_⟩
    have e : ((row rows b).map fun z => decide (((at0 ns z : Nat) : Int) = (at0 ns a : Nat))).any id = decide (at0 ns a ∈ (row rows b).map (at0 ns)) := by
      rw [Bool.eq_iff_iff, List.any_eq_true, decide_eq_true_eq, List.mem_map]
      constructor
      · rintro ⟨x, hx, hx2⟩
        obtain ⟨z, hz, rfl⟩ := List.mem_map.mp hx
        exact ⟨z, hz, Int.ofNat.inj (of_decide_eq_true hx2)⟩
      · rintro ⟨z, hz, e⟩
        exact ⟨_, List.mem_map.mpr ⟨z, hz, rfl⟩, decide_eq_true (by rw [e])⟩
    rw [e]
    exact h ns lk
end
end K32

/-! K32p: masks, plain. -/
namespace LK
open PySem PyProof.Rows
def bm (f : Nat → Bool) : Nat → Nat
  | 0 => 0
  | n + 1 => bm f n + if f n = true then 2 ^ n else 0
theorem bm_lt (f : Nat → Bool) : ∀ n, bm f n < 2 ^ n
  | 0 => Nat.one_pos
  | n + 1 => by
    have h := bm_lt f n
    unfold bm
    rw [Nat.pow_succ]
    split <;> omega
theorem bm_bit (f : Nat → Bool) : ∀ n b, (bm f n).testBit b = (decide (b < n) && f b)
  | 0, b => by simp [bm]
  | n + 1, b => by
    have h := bm_lt f n
    have ih := bm_bit f n b
    unfold bm
    by_cases c : f n = true
    · rw [if_pos c, Nat.add_comm]
      by_cases e : b = n
      · subst e
        rw [Nat.testBit_two_pow_add_eq, ih]
        simp [c]
      · by_cases l : b < n
        · rw [Nat.testBit_two_pow_add_gt l, ih]
          simp [l, Nat.lt_succ_of_lt l]
        · have g : n < b := by omega
          have z : (2 ^ n + bm f n).testBit b = false := by
            apply Nat.testBit_lt_two_pow
            have : 2 ^ (n + 1) ≤ 2 ^ b := Nat.pow_le_pow_right (by decide) g
            rw [Nat.pow_succ] at this
            omega
          rw [z]
          have : ¬ b < n + 1 := by omega
          simp [this]
    · rw [if_neg c, Nat.add_zero, ih]
      by_cases e : b = n
      · subst e
        have c' : f b = false := by simpa using c
        simp [c']
      · by_cases l : b < n
        · simp [l, Nat.lt_succ_of_lt l]
        · have : ¬ b < n + 1 := by omega
          simp [l, this]
theorem bm_all : ∀ n, bm (fun _ => true) n = 2 ^ n - 1
  | 0 => rfl
  | n + 1 => by
    have := bm_all n
    have p : 0 < 2 ^ n := Nat.two_pow_pos n
    unfold bm
    rw [this, if_pos rfl, Nat.pow_succ]
    omega
theorem bm_congr {f g : Nat → Bool} : ∀ {n}, (∀ k, k < n → f k = g k) → bm f n = bm g n
  | 0, _ => rfl
  | n + 1, h => by
    unfold bm
    rw [bm_congr (n := n) fun k hk => h k (by omega), h n (by omega)]
theorem bm_put {f g : Nat → Bool} {p : Nat} : ∀ {n}, p < n → f p = false → g p = true → (∀ k, k < n → k ≠ p → g k = f k) → bm g n = bm f n + 2 ^ p
  | 0, h, _, _, _ => absurd h (Nat.not_lt_zero _)
  | n + 1, h, h1, h2, h3 => by
    unfold bm
    by_cases e : p = n
    · subst e
      rw [bm_congr (f := g) (g := f) fun k hk => h3 k (by omega) (by omega), if_pos h2, h1]
      simp
    · rw [bm_put (n := n) (by omega) h1 h2 fun k hk hne => h3 k (by omega) hne, h3 n (by omega) (fun z => e z.symm)]
      omega
theorem rowsum {n : Nat} : ∀ {r : List Nat}, r.Nodup → (∀ p ∈ r, p < n) → (r.map fun p => 2 ^ p).sum = bm (fun k => decide (k ∈ r)) n
  | [], _, _ => by
    have : ∀ n, bm (fun k => decide (k ∈ ([] : List Nat))) n = 0 := by
      intro n
      induction n with
      | zero => rfl
      | succ n ih => unfold bm; rw [ih]; simp
    rw [this]; rfl
  | p :: r, h, h2 => by
    obtain ⟨a, b⟩ := List.nodup_cons.mp h
    rw [List.map_cons, List.sum_cons, rowsum b fun q hq => h2 q (List.mem_cons_of_mem _ hq), bm_put (f := fun k => decide (k ∈ r)) (g := fun k => decide (k ∈ p :: r)) (p := p) (h2 p List.mem_cons_self) (by simp [a]) (by simp) fun k _ hk => by simp [hk]]
    omega
theorem bm_and {f g : Nat → Bool} {n : Nat} : (Builtin.bitAnd (bm f n) (bm g n) = 0) ↔ ∀ y, y < n → ¬ (f y = true ∧ g y = true) := by
  have e : Builtin.bitAnd (bm f n) (bm g n) = ((bm f n &&& bm g n : Nat) : Int) := by
    unfold Builtin.bitAnd
    simp
  rw [e]
  constructor
  · intro h y hy ⟨h1, h2⟩
    have h0 : bm f n &&& bm g n = 0 := Int.ofNat.inj h
    have t := congrArg (fun z => Nat.testBit z y) h0
    simp only [Nat.testBit_and, bm_bit, Nat.zero_testBit] at t
    simp [hy, h1, h2] at t
  · intro h
    have : bm f n &&& bm g n = 0 := Nat.eq_of_testBit_eq fun y => by
      rw [Nat.testBit_and, bm_bit, bm_bit, Nat.zero_testBit]
      by_cases hy : y < n
      · have := h y hy
        cases h1 : f y <;> cases h2 : g y <;> simp [h1, h2] at this ⊢
      · simp [hy]
    rw [this]; rfl
theorem bm_one {f : Nat → Bool} {n b : Nat} (hb : b < n) : (Builtin.bitAnd ((bm f n : Int) / 2 ^ b) 1 = 1) ↔ f b = true := by
  rw [bitAnd_m1]
  have e : ((bm f n : Int) / 2 ^ b) % 2 = ((bm f n / 2 ^ b % 2 : Nat) : Int) := by
    rw [Int.natCast_emod, Int.natCast_ediv, Int.natCast_pow]; rfl
  rw [e]
  have t := bm_bit f n b
  rw [Nat.testBit_eq_decide_div_mod_eq] at t
  constructor
  · intro h
    have h' : bm f n / 2 ^ b % 2 = 1 := Int.ofNat.inj h
    rw [h'] at t
    simpa [hb] using t.symm
  · intro h
    rw [h] at t
    have : bm f n / 2 ^ b % 2 = 1 := by simpa [hb] using t
    rw [this]; rfl
theorem bm_xor {f g : Nat → Bool} {n b : Nat} (hb : b < n) (h1 : f b = true) (h2 : g b = false) (h3 : ∀ k, k < n → k ≠ b → f k = g k) : Builtin.bitXor (bm f n) (2 ^ b) = (bm g n : Int) := by
  rw [bitXor_and]
  have e0 : ∀ t : Nat, Builtin.bitAnd (bm f n) (t : Int) = ((bm f n &&& t : Nat) : Int) := fun t => by
    unfold Builtin.bitAnd
    simp
  have e := e0 (2 ^ b)
  have e2 : bm f n &&& 2 ^ b = 2 ^ b := Nat.eq_of_testBit_eq fun y => by
    rw [Nat.testBit_and, bm_bit, Nat.testBit_two_pow]
    by_cases c : b = y
    · subst c; simp [hb, h1]
    · simp [c]
  have e3 := bm_put (f := g) (g := f) (p := b) hb h2 h1 h3
  rw [e2] at e
  have c : ((2 ^ b : Nat) : Int) = (2 : Int) ^ b := by rw [Int.natCast_pow]; rfl
  rw [c] at e
  rw [e, e3, Int.natCast_add, c]
  omega
/-! #### how many pairs -/
def prs (N : Nat) : List (Nat × Nat) := (List.range N).flatMap fun a => (List.range N).map fun b => (a, b)
theorem prs_mem {N a b : Nat} : (a, b) ∈ prs N ↔ a < N ∧ b < N := by
  unfold prs
  rw [List.mem_flatMap]
  constructor
  · rintro ⟨x, hx, h⟩
    obtain ⟨y, hy, e⟩ := List.mem_map.mp h
    injection e with e1 e2
    subst e1 e2
    exact ⟨List.mem_range.mp hx, List.mem_range.mp hy⟩
  · rintro ⟨h1, h2⟩
    exact ⟨a, List.mem_range.mpr h1, List.mem_map.mpr ⟨b, List.mem_range.mpr h2, rfl⟩⟩
theorem prs_len (N : Nat) : (prs N).length = N * N := by
  unfold prs
  rw [List.length_flatMap]
  have : ∀ l : List Nat, (l.map fun a => ((List.range N).map fun b => (a, b)).length).sum = l.length * N := by
    intro l
    induction l with
    | nil => simp
    | cons a l ih => rw [List.map_cons, List.sum_cons, ih, List.length_map, List.length_range, List.length_cons, Nat.succ_mul]; omega
  rw [this, List.length_range]
abbrev Rel := Nat → Nat → Bool
def cnt (N : Nat) (M : Rel) : Nat := (prs N).countP fun p => M p.1 p.2
theorem countP_lt {α : Type} {f g : α → Bool} : ∀ {l : List α}, (∀ x ∈ l, f x = true → g x = true) → (∃ x ∈ l, g x = true ∧ f x = false) → l.countP f < l.countP g
  | [], _, h => by obtain ⟨x, hx, _⟩ := h; cases hx
  | a :: l, h, h2 => by
    rw [List.countP_cons, List.countP_cons]
    have mono : l.countP f ≤ l.countP g := List.countP_mono_left fun x hx => h x (List.mem_cons_of_mem _ hx)
    obtain ⟨x, hx, g1, f1⟩ := h2
    rcases List.mem_cons.mp hx with e | e
    · subst e
      rw [if_pos g1, if_neg (by simp [f1])]
      omega
    · have := countP_lt (l := l) (fun x hx => h x (List.mem_cons_of_mem _ hx)) ⟨x, e, g1, f1⟩
      have ha := h a List.mem_cons_self
      by_cases c : f a = true
      · rw [if_pos c, if_pos (ha c)]; omega
      · rw [if_neg c]
        split <;> omega
def flip (M : Rel) (a b : Nat) : Rel := fun x y => if x = a ∧ y = b then false else M x y
theorem flip_cnt {N : Nat} {M : Rel} {a b : Nat} (ha : a < N) (hb : b < N) (h : M a b = true) : cnt N (flip M a b) < cnt N M := by
  refine countP_lt (fun p _ q => ?_) ⟨(a, b), prs_mem.mpr ⟨ha, hb⟩, h, by simp [flip]⟩
  unfold flip at q
  split at q
  · cases q
  · exact q
/-- nothing is lost at a, b -/
def Safe (rows : Rows) (M : Rel) (a b : Nat) : Prop := (∀ x ∈ row rows a, ∃ y ∈ row rows b, M x y = true) ∧ ∀ y ∈ row rows b, ∃ x ∈ row rows a, M y x = true
def lostB (rows : Rows) (M : Rel) (b x : Nat) : Bool := (row rows b).all fun y => !M x y
theorem lostB_iff {rows : Rows} {M : Rel} {b x : Nat} : lostB rows M b x = true ↔ ∀ y ∈ row rows b, M x y = false := by
  unfold lostB
  rw [List.all_eq_true]
  simp
theorem safe_iff {rows : Rows} {M : Rel} {a b : Nat} : Safe rows M a b ↔ (row rows a).filter (lostB rows M b) ++ (row rows b).filter (lostB rows M a) = [] := by
  unfold Safe
  rw [List.append_eq_nil_iff, List.filter_eq_nil_iff, List.filter_eq_nil_iff]
  simp only [lostB_iff]
  constructor
  · rintro ⟨h1, h2⟩
    refine ⟨fun x hx q => ?_, fun y hy q => ?_⟩
    · obtain ⟨y, hy, e⟩ := h1 x hx
      rw [q y hy] at e; cases e
    · obtain ⟨x, hx, e⟩ := h2 y hy
      rw [q x hx] at e; cases e
  · rintro ⟨h1, h2⟩
    refine ⟨fun x hx => ?_, fun y hy => ?_⟩
    · refine Classical.byContradiction fun c => h1 x hx fun y hy => ?_
      cases e : M x y with
      | false => rfl
      | true => exact absurd ⟨y, hy, e⟩ c
    · refine Classical.byContradiction fun c => h2 y hy fun x hx => ?_
      cases e : M y x with
      | false => rfl
      | true => exact absurd ⟨x, hx, e⟩ c
/-- the pairs of equal numbers are never lost; what loses nothing is equal -/
theorem bis_safe {rows : Rows} {E : Nat → Nat → Prop} (B : Bis rows E) {M : Rel} (hE : ∀ a b, a < rows.length → b < rows.length → E a b → M a b = true) (hr : ∀ i, i < rows.length → ∀ z ∈ row rows i, z < rows.length) {a b : Nat} (ha : a < rows.length) (hb : b < rows.length) (e : E a b) : Safe rows M a b := by
  refine ⟨fun x hx => ?_, fun y hy => ?_⟩
  · obtain ⟨y, hy, q⟩ := B.fwd a b ha hb e x hx
    exact ⟨y, hy, hE x y (hr a ha x hx) (hr b hb y hy) q⟩
  · obtain ⟨x, hx, q⟩ := B.fwd b a hb ha (B.sym _ _ e) y hy
    exact ⟨x, hx, hE y x (hr b hb y hy) (hr a ha x hx) q⟩
end LK

namespace K32
open PySem PySem.Spec PyProof.Rows L2 DL LK DSet
abbrev s_law_paired : Stmt := topS 15
abbrev n_law_paired : List Str := ["drawing", "size", "bits", "masks", "turn", "struck", "a", "b", "lost", "row", "place"]
abbrev p_law_paired : List Str := ["drawing"]
theorem sc_law_paired : FnScope n_law_paired p_law_paired (defScope s_law_paired) := ⟨rfl, rfl, rfl, by decide +kernel, rfl, by decide +kernel, by decide +kernel⟩
section
variable {P : Program} {w : World} {K : PySem.W.Frag} {mg : Str → Option Value} {base : Heap}
abbrev enM (N : Nat) (Mr : Rel) : List D := (List.range N).map fun a => D.int (bm (Mr a) N : Nat)
def eqR (ns : List Nat) : Rel := fun a b => decide (at0 ns a = at0 ns b)
def spPaired : DL := fun ds M R => ∃ rows ns, ds = [enD rows] ∧ Drw rows ∧ rows.length ≤ 11 ∧ Lik rows ns ∧ R (.lst (enM rows.length (eqR ns))) M
theorem ok_paired {f : Addr} {fd : FuncData} {k : Nat} (F : Fun K "_law_paired" "_law_paired" s_law_paired f fd) (B : Bt mg) : FnOk P w K mg base CX0 (k + 1) f fd p_law_paired (spOf K spPaired) := by
  refine dfnW F sc_law_paired (fun ds M R h => ?_) (fun cdv A outer s H E ds M R hr h => ?_)
  · obtain ⟨rows, ns, rfl, _⟩ := h
    rfl
  · have nd := sc_law_paired.nd
    refine ⟨_, (dss_cons (ds_set (i := 1) nd rfl (.inr rfl) (d_len rfl B.len (da_cons (dv 0) da_nil)))
(dss_cons (ds_set (i := 2) nd rfl (.inr rfl) (d_lc (lfg_name (i := 9) (by decide)) (pe_lc (own := [("row", 9)]) rfl nd (di_lst (dv 0)) (blkOk_by (own := [("row", 9)]) (N := n_law_paired) (by rfl)) (fun _ _ _ _ _ => (pg_name (i := 9) nd rfl (.inl rfl))) (fun _ _ _ _ _ => dts_nil) (fun _ _ _ _ _ => (d_sum rfl rfl B.sum (da_cons (d_lc (lfg_name (i := 10) (by decide)) (pe_lc (own := [("place", 10)]) rfl nd (di_lst (dv 9)) (blkOk_by (own := [("place", 10)]) (N := n_law_paired) (by rfl)) (fun _ _ _ _ _ => (pg_name (i := 10) nd rfl (.inl rfl))) (fun _ _ _ _ _ => dts_nil) (fun _ _ _ _ _ => (d_shl d_int (dv 10))))) da_nil))))))
(dss_cons (ds_set (i := 3) nd rfl (.inr rfl) (d_lcM (lfg_name (i := 9) (by decide)) (pe_lc (own := [("row", 9)]) rfl nd (di_lst (dv 0)) (blkOk_by (own := [("row", 9)]) (N := n_law_paired) (by rfl)) (fun _ _ _ _ _ => (pg_name (i := 9) nd rfl (.inl rfl))) (fun _ _ _ _ _ => dts_nil) (fun _ _ _ _ _ => (d_sub (d_shl d_int (dv 1)) d_int)))))
(dss_cons (ds_for PassesOwn.never rfl (di_rng1 (pi_range1 rfl B.range (da_cons (d_mul (dv 1) (dv 1)) da_nil))) (dg_name (i := 4) nd rfl (.inl rfl))
(dss_cons (ds_set (i := 5) nd rfl (.inl rfl) d_bl)
(dss_cons (ds_for PassesOwn.never rfl (di_rng1 (pi_range1 rfl B.range (da_cons (dv 1) da_nil))) (dg_name (i := 6) nd rfl (.inr rfl))
(dss_one (ds_for PassesOwn.never rfl (di_rng1 (pi_range1 rfl B.range (da_cons (dv 1) da_nil))) (dg_name (i := 7) nd rfl (.inr rfl))
(dss_one (ds_if (dt_eq hr (d_and2 (d_shr (d_sub_ix (dv 3) (dv 6)) (dv 7)) d_int) d_int)
(dss_cons (ds_lc (lfg_name (i := 10) (by decide)) (ps_setLc (i := 8) (own := [("place", 10)]) rfl nd rfl rfl (sw_true rfl rfl rfl (by decide +kernel)) (di_lst (d_sub_ix (dv 0) (dv 6))) (blkOk_by (own := [("place", 10)]) (N := n_law_paired) (by rfl)) (fun _ _ _ _ _ => (pg_name (i := 10) nd rfl (.inl rfl))) (fun _ _ _ _ _ => (dts_one (dt_eq hr (d_and2 (d_sub_ix (dv 3) (dv 10)) (d_sub_ix (dv 2) (dv 7))) d_int))) (fun _ _ _ _ _ => (dv 10))))
(dss_cons (ds_set (i := 8) nd rfl (.inl rfl) (d_add (dv 8) (d_lc (lfg_name (i := 10) (by decide)) (pe_lc (own := [("place", 10)]) rfl nd (di_lst (d_sub_ix (dv 0) (dv 7))) (blkOk_by (own := [("place", 10)]) (N := n_law_paired) (by rfl)) (fun _ _ _ _ _ => (pg_name (i := 10) nd rfl (.inl rfl))) (fun _ _ _ _ _ => (dts_one (dt_eq hr (d_and2 (d_sub_ix (dv 3) (dv 10)) (d_sub_ix (dv 2) (dv 6))) d_int))) (fun _ _ _ _ _ => (dv 10))))))
(dss_one (ds_if (dt_gt (d_len rfl B.len (da_cons (dv 8) da_nil)) d_int)
(dss_cons (ds_asg (d_xor2 (d_sub_ix (dv 3) (dv 6)) (d_shl d_int (dv 7))) (dg_sub (pg_sub (dv 3) (dv 6) set_list)))
(dss_one (ds_set (i := 5) nd rfl (.inl rfl) d_bl)))
dss_nil))))
dss_nil)))))
(dss_one (ds_if (dt_not (dt_val (dv 5)))
(dss_one (ds_ret (d_frz (dv 3))))
dss_nil)))))
(dss_one (ds_ret (d_frz (dv 3)))))))), ?_⟩
    obtain ⟨rows, ns, rfl, dr, sm, lk, h⟩ := h
    simp only [dstart, List.map, List.length, List.replicate, List.cons_append, List.nil_append, enD]
    have pos := dr.pos
    have er : rows.map enR = (List.range rows.length).map fun i => enR (row rows i) := by
      apply List.ext_getElem?
      intro i
      rw [List.getElem?_map, List.getElem?_map]
      by_cases hi : i < rows.length
      · rw [rows_at hi, List.getElem?_range hi]; rfl
      · rw [List.getElem?_eq_none (l := rows) (by omega), List.getElem?_eq_none (l := List.range rows.length) (by rw [List.length_range]; omega)]; rfl
    have hlt := fun i hi => row_lt dr (i := i) hi
    have hnd : ∀ i, i < rows.length → (row rows i).Nodup := fun i hi => (dr.asc _ (List.mem_of_getElem? (rows_at hi))).imp fun h => Nat.ne_of_lt h
    have hlen : ∀ i, i < rows.length → (row rows i).length ≤ 11 := fun i hi => by
      have := nat_nodup_len (row rows i) (List.range rows.length) (hnd i hi) fun v hv => List.mem_range.mpr (hlt i hi v hv)
      rw [List.length_range] at this
      omega
    have hbis := lik_bis pos dr.lt lk
    have e1 : ((List.range rows.length).map fun i => enR (row rows i)).length = rows.length := by rw [List.length_map, List.length_range]
    rw [er]
    generalize hN : rows.length = N at *
    (try simp only [↓e_var0, ↓e_varS, ↓e_C, ↓e_op, ↓e_un, ↓e_cb, ↓e_nil, ↓e_cons, ↓e_tup, ↓e_lst, ↓e_lstM, ↓e_frz, ↓e_B, ↓e_bl, ↓e_andT, ↓e_orT, ↓e_notT, ↓e_andV, ↓e_orV, ↓e_notV, ↓e_ifE, ↓e_tru, ↓e_slice, ↓e_noPart, ↓e_part, ↓e_partV, ↓e_bm, ↓e_bm0, ↓e_ty_lst, ↓e_ty_str, ↓e_next, ↓e_seq, ↓e_break, ↓e_cont, ↓e_drop, ↓e_ret, ↓e_retN, ↓e_ifS, ↓e_asg, ↓e_gname, ↓e_put0, ↓e_putS, ↓e_aug, ↓e_gsub, ↓e_gtup2, ↓e_I, ↓e_Ic, ↓e_add, ↓e_addS, ↓e_addL, ↓e_addT, ↓e_mul, ↓e_eqI, ↓e_eqS, ↓e_eqB, ↓e_ix_lst, ↓e_ix_tup, ↓e_at0, ↓e_at1, ↓e_at2, ↓e_at3, ↓e_sa0, ↓e_sa1, ↓e_sa2, ↓e_sa3, ↓e_len_lst, ↓e_len_tup, ↓e_len_str, ↓e_abs, ↓e_int, ↓e_str, ↓e_ilst, ↓e_il, ↓e_irl, ↓e_irng1, ↓e_irV, ↓e_irng2, ↓e_irV2, ↓e_yes, ↓u_frzV, ↓u_ty, ↓u_setL, ↓u_ix, ↓u_len, ↓u_append, ↓u_pop, ↓u_iref, ↓e_isi, ↓e_strS, ↓e_dnew, ↓e_dget, ↓e_dput, ↓e_sc, ↓e_dcN, ↓e_rank, ↓e_inLN, ↓e_izipR, ↓e_ienum, ↓e_while, ↓mupd_mupd, ↓e_for, ↓e_lc, ↓e_lcM, ↓e_wipe, ↓e_wipe0, eq_self_iff_true, true_and, List.set_cons_zero, List.set_cons_succ, id_eq, ↓reduceIte, Bool.false_eq_true, Bool.not_true, Bool.not_false])
    rw [e1]
    refine lc_typed1 (List.range N) (fun i => D.int (bm (fun k => decide (k ∈ row rows i)) N : Nat)) (small_line (by rw [List.length_range]; omega)) trivial (fun i2 i E' hi hE => ?_) ?_
    · have hi2 : i < N := List.mem_range.mp (List.mem_of_getElem? hi)
      rw [show enR (row rows i) = .lst ((row rows i).map fun n : Nat => D.int n) from rfl]
      (try simp only [↓e_var0, ↓e_varS, ↓e_C, ↓e_op, ↓e_un, ↓e_cb, ↓e_nil, ↓e_cons, ↓e_tup, ↓e_lst, ↓e_lstM, ↓e_frz, ↓e_B, ↓e_bl, ↓e_andT, ↓e_orT, ↓e_notT, ↓e_andV, ↓e_orV, ↓e_notV, ↓e_ifE, ↓e_tru, ↓e_slice, ↓e_noPart, ↓e_part, ↓e_partV, ↓e_bm, ↓e_bm0, ↓e_ty_lst, ↓e_ty_str, ↓e_next, ↓e_seq, ↓e_break, ↓e_cont, ↓e_drop, ↓e_ret, ↓e_retN, ↓e_ifS, ↓e_asg, ↓e_gname, ↓e_put0, ↓e_putS, ↓e_aug, ↓e_gsub, ↓e_gtup2, ↓e_I, ↓e_Ic, ↓e_add, ↓e_addS, ↓e_addL, ↓e_addT, ↓e_mul, ↓e_eqI, ↓e_eqS, ↓e_eqB, ↓e_ix_lst, ↓e_ix_tup, ↓e_at0, ↓e_at1, ↓e_at2, ↓e_at3, ↓e_sa0, ↓e_sa1, ↓e_sa2, ↓e_sa3, ↓e_len_lst, ↓e_len_tup, ↓e_len_str, ↓e_abs, ↓e_int, ↓e_str, ↓e_ilst, ↓e_il, ↓e_irl, ↓e_irng1, ↓e_irV, ↓e_irng2, ↓e_irV2, ↓e_yes, ↓u_frzV, ↓u_ty, ↓u_setL, ↓u_ix, ↓u_len, ↓u_append, ↓u_pop, ↓u_iref, ↓e_isi, ↓e_strS, ↓e_dnew, ↓e_dget, ↓e_dput, ↓e_sc, ↓e_dcN, ↓e_rank, ↓e_inLN, ↓e_izipR, ↓e_ienum, ↓e_while, ↓mupd_mupd, ↓e_for, ↓e_lc, ↓e_lcM, ↓e_wipe, ↓e_wipe0, eq_self_iff_true, true_and, List.set_cons_zero, List.set_cons_succ, id_eq, ↓reduceIte, Bool.false_eq_true, Bool.not_true, Bool.not_false])
      refine lc_typed1 (row rows i) (fun p => D.int ((2 ^ p : Nat) : Int)) (small_line (by have := hlen i hi2; omega)) trivial (fun i3 p E2 hp hE2 => ?_) ?_
      · have hpl := hlt i hi2 p (List.mem_of_getElem? hp)
        (try simp only [↓e_var0, ↓e_varS, ↓e_C, ↓e_op, ↓e_un, ↓e_cb, ↓e_nil, ↓e_cons, ↓e_tup, ↓e_lst, ↓e_lstM, ↓e_frz, ↓e_B, ↓e_bl, ↓e_andT, ↓e_orT, ↓e_notT, ↓e_andV, ↓e_orV, ↓e_notV, ↓e_ifE, ↓e_tru, ↓e_slice, ↓e_noPart, ↓e_part, ↓e_partV, ↓e_bm, ↓e_bm0, ↓e_ty_lst, ↓e_ty_str, ↓e_next, ↓e_seq, ↓e_break, ↓e_cont, ↓e_drop, ↓e_ret, ↓e_retN, ↓e_ifS, ↓e_asg, ↓e_gname, ↓e_put0, ↓e_putS, ↓e_aug, ↓e_gsub, ↓e_gtup2, ↓e_I, ↓e_Ic, ↓e_add, ↓e_addS, ↓e_addL, ↓e_addT, ↓e_mul, ↓e_eqI, ↓e_eqS, ↓e_eqB, ↓e_ix_lst, ↓e_ix_tup, ↓e_at0, ↓e_at1, ↓e_at2, ↓e_at3, ↓e_sa0, ↓e_sa1, ↓e_sa2, ↓e_sa3, ↓e_len_lst, ↓e_len_tup, ↓e_len_str, ↓e_abs, ↓e_int, ↓e_str, ↓e_ilst, ↓e_il, ↓e_irl, ↓e_irng1, ↓e_irV, ↓e_irng2, ↓e_irV2, ↓e_yes, ↓u_frzV, ↓u_ty, ↓u_setL, ↓u_ix, ↓u_len, ↓u_append, ↓u_pop, ↓u_iref, ↓e_isi, ↓e_strS, ↓e_dnew, ↓e_dget, ↓e_dput, ↓e_sc, ↓e_dcN, ↓e_rank, ↓e_inLN, ↓e_izipR, ↓e_ienum, ↓e_while, ↓mupd_mupd, ↓e_for, ↓e_lc, ↓e_lcM, ↓e_wipe, ↓e_wipe0, eq_self_iff_true, true_and, List.set_cons_zero, List.set_cons_succ, id_eq, ↓reduceIte, Bool.false_eq_true, Bool.not_true, Bool.not_false])
        refine ⟨⟨by omega, by omega, by decide⟩, ?_⟩
        rw [Int.toNat_natCast, Int.one_mul, show ((2 : Int) ^ p) = ((2 ^ p : Nat) : Int) by rw [Int.natCast_pow]; rfl]
        exact hE2
      refine ⟨_, (row rows i).map fun p => ((2 ^ p : Nat) : Int), rfl, by show some _ = some _; rw [List.map_map]; rfl, ?_⟩
      have es : ∀ l : List Nat, (l.map fun p => ((2 ^ p : Nat) : Int)).sum = ((l.map fun p => 2 ^ p).sum : Nat) := by
        intro l
        induction l with
        | nil => rfl
        | cons a l ih => rw [List.map_cons, List.map_cons, List.sum_cons, List.sum_cons, ih, Int.natCast_add]
      rw [es, rowsum (hnd i hi2) (hlt i hi2)]
      exact hE
    refine lc_typed1 (List.range N) (fun i => D.int (bm ((fun _ _ => true : Rel) i) N : Nat)) (small_line (by rw [List.length_range]; omega)) trivial (fun i2 i E' hi hE => ?_) (fun p hp => ?_)
    · (try simp only [↓e_var0, ↓e_varS, ↓e_C, ↓e_op, ↓e_un, ↓e_cb, ↓e_nil, ↓e_cons, ↓e_tup, ↓e_lst, ↓e_lstM, ↓e_frz, ↓e_B, ↓e_bl, ↓e_andT, ↓e_orT, ↓e_notT, ↓e_andV, ↓e_orV, ↓e_notV, ↓e_ifE, ↓e_tru, ↓e_slice, ↓e_noPart, ↓e_part, ↓e_partV, ↓e_bm, ↓e_bm0, ↓e_ty_lst, ↓e_ty_str, ↓e_next, ↓e_seq, ↓e_break, ↓e_cont, ↓e_drop, ↓e_ret, ↓e_retN, ↓e_ifS, ↓e_asg, ↓e_gname, ↓e_put0, ↓e_putS, ↓e_aug, ↓e_gsub, ↓e_gtup2, ↓e_I, ↓e_Ic, ↓e_add, ↓e_addS, ↓e_addL, ↓e_addT, ↓e_mul, ↓e_eqI, ↓e_eqS, ↓e_eqB, ↓e_ix_lst, ↓e_ix_tup, ↓e_at0, ↓e_at1, ↓e_at2, ↓e_at3, ↓e_sa0, ↓e_sa1, ↓e_sa2, ↓e_sa3, ↓e_len_lst, ↓e_len_tup, ↓e_len_str, ↓e_abs, ↓e_int, ↓e_str, ↓e_ilst, ↓e_il, ↓e_irl, ↓e_irng1, ↓e_irV, ↓e_irng2, ↓e_irV2, ↓e_yes, ↓u_frzV, ↓u_ty, ↓u_setL, ↓u_ix, ↓u_len, ↓u_append, ↓u_pop, ↓u_iref, ↓e_isi, ↓e_strS, ↓e_dnew, ↓e_dget, ↓e_dput, ↓e_sc, ↓e_dcN, ↓e_rank, ↓e_inLN, ↓e_izipR, ↓e_ienum, ↓e_while, ↓mupd_mupd, ↓e_for, ↓e_lc, ↓e_lcM, ↓e_wipe, ↓e_wipe0, eq_self_iff_true, true_and, List.set_cons_zero, List.set_cons_succ, id_eq, ↓reduceIte, Bool.false_eq_true, Bool.not_true, Bool.not_false])
      refine ⟨⟨by omega, by omega, by decide⟩, ?_⟩
      have : (1 : Int) * 2 ^ ((N : Int)).toNat - 1 = (bm (fun _ => true) N : Nat) := by
        rw [Int.toNat_natCast, bm_all, Int.one_mul, Int.natCast_sub (Nat.two_pow_pos N), Int.natCast_pow]; rfl
      rw [this]
      exact hE
    have NN : N * N ≤ 121 := Nat.mul_le_mul sm sm
    rw [show ((N : Int) * (N : Int)) = ((N * N : Nat) : Int) by rw [Int.natCast_mul]]
    refine ⟨.inl ⟨by omega, by omega⟩, by omega, by omega, ?_⟩
    rw [Int.toNat_natCast]
    generalize hbits : (List.range N).map (fun i => D.int (bm (fun k => decide (k ∈ row rows i)) N : Nat)) = enB
    have bit_at : ∀ {b : Nat} {kk : D → Prop}, b < N → (dAt enB (b : Int) kk = kk (D.int (bm (fun k => decide (k ∈ row rows b)) N : Nat))) := fun {b kk} hb => by
      rw [← hbits, at_map (List.getElem?_range hb)]
    refine for_typed (List.range (N * N)) (fun i ρ M' => ∃ (o4 o5 o6 o7 o8 : Option D) (Mr : Rel), ρ = [some (.lst ((List.range N).map fun i => enR (row rows i))), some (.int N), some (.lst enB), some (.ref p), o4, o5, o6, o7, o8, none, none] ∧ M' p = some (.lst (enM N Mr)) ∧ DL.Sub M M' ∧ (∀ a b, a < N → b < N → eqR ns a b = true → Mr a b = true) ∧ LK.cnt N Mr + i ≤ N * N)
      ⟨none, none, none, none, none, _, rfl, mupd_same, (DL.Sub.refl M).new _ hp, fun _ _ _ _ _ => rfl, by
        have := List.countP_le_length (p := fun q : Nat × Nat => (fun _ _ => true : Rel) q.1 q.2) (l := prs N)
        rw [prs_len] at this
        exact this⟩ (fun _ _ _ _ _ => trivial) (fun y0 y ρ M1 hx hW => ?_) (fun ρ M1 hW => ?_)
    · obtain ⟨o4, o5, o6, o7, o8, Mr, rfl, mp, sb, hE, hc⟩ := hW
      obtain ⟨rfl, hy⟩ := range_get hx
      (try simp only [↓e_var0, ↓e_varS, ↓e_C, ↓e_op, ↓e_un, ↓e_cb, ↓e_nil, ↓e_cons, ↓e_tup, ↓e_lst, ↓e_lstM, ↓e_frz, ↓e_B, ↓e_bl, ↓e_andT, ↓e_orT, ↓e_notT, ↓e_andV, ↓e_orV, ↓e_notV, ↓e_ifE, ↓e_tru, ↓e_slice, ↓e_noPart, ↓e_part, ↓e_partV, ↓e_bm, ↓e_bm0, ↓e_ty_lst, ↓e_ty_str, ↓e_next, ↓e_seq, ↓e_break, ↓e_cont, ↓e_drop, ↓e_ret, ↓e_retN, ↓e_ifS, ↓e_asg, ↓e_gname, ↓e_put0, ↓e_putS, ↓e_aug, ↓e_gsub, ↓e_gtup2, ↓e_I, ↓e_Ic, ↓e_add, ↓e_addS, ↓e_addL, ↓e_addT, ↓e_mul, ↓e_eqI, ↓e_eqS, ↓e_eqB, ↓e_ix_lst, ↓e_ix_tup, ↓e_at0, ↓e_at1, ↓e_at2, ↓e_at3, ↓e_sa0, ↓e_sa1, ↓e_sa2, ↓e_sa3, ↓e_len_lst, ↓e_len_tup, ↓e_len_str, ↓e_abs, ↓e_int, ↓e_str, ↓e_ilst, ↓e_il, ↓e_irl, ↓e_irng1, ↓e_irV, ↓e_irng2, ↓e_irV2, ↓e_yes, ↓u_frzV, ↓u_ty, ↓u_setL, ↓u_ix, ↓u_len, ↓u_append, ↓u_pop, ↓u_iref, ↓e_isi, ↓e_strS, ↓e_dnew, ↓e_dget, ↓e_dput, ↓e_sc, ↓e_dcN, ↓e_rank, ↓e_inLN, ↓e_izipR, ↓e_ienum, ↓e_while, ↓mupd_mupd, ↓e_for, ↓e_lc, ↓e_lcM, ↓e_wipe, ↓e_wipe0, eq_self_iff_true, true_and, List.set_cons_zero, List.set_cons_succ, id_eq, ↓reduceIte, Bool.false_eq_true, Bool.not_true, Bool.not_false])
      rw [Int.toNat_natCast]
      refine ⟨by omega, by omega, ?_⟩
      refine for_typed (List.range N) (fun i ρ M' => ∃ (st : Bool) (o6 o7 o8 : Option D) (Mq : Rel), ρ = [some (.lst ((List.range N).map fun i => enR (row rows i))), some (.int N), some (.lst enB), some (.ref p), some (.int y), some (.bl st), o6, o7, o8, none, none] ∧ M' p = some (.lst (enM N Mq)) ∧ DL.Sub M M' ∧ (∀ a b, a < N → b < N → eqR ns a b = true → Mq a b = true) ∧ (st = true → LK.cnt N Mq + 1 + y ≤ N * N) ∧ (st = false → Mq = Mr ∧ ∀ a b, a < i → b < N → Mr a b = true → Safe rows Mr a b))
        ⟨false, o6, o7, o8, Mr, rfl, mp, sb, hE, (fun z => (nomatch z)), fun _ => ⟨rfl, fun a b h => absurd h (Nat.not_lt_zero _)⟩⟩ (fun _ _ _ _ _ => trivial) (fun a0 a ρ M2 hx2 hW => ?_) (fun ρ M2 hW => ?_)
      · obtain ⟨st, o6, o7, o8, Mq, rfl, mp, sb, hE, hst1, hst0⟩ := hW
        obtain ⟨rfl, ha⟩ := range_get hx2
        (try simp only [↓e_var0, ↓e_varS, ↓e_C, ↓e_op, ↓e_un, ↓e_cb, ↓e_nil, ↓e_cons, ↓e_tup, ↓e_lst, ↓e_lstM, ↓e_frz, ↓e_B, ↓e_bl, ↓e_andT, ↓e_orT, ↓e_notT, ↓e_andV, ↓e_orV, ↓e_notV, ↓e_ifE, ↓e_tru, ↓e_slice, ↓e_noPart, ↓e_part, ↓e_partV, ↓e_bm, ↓e_bm0, ↓e_ty_lst, ↓e_ty_str, ↓e_next, ↓e_seq, ↓e_break, ↓e_cont, ↓e_drop, ↓e_ret, ↓e_retN, ↓e_ifS, ↓e_asg, ↓e_gname, ↓e_put0, ↓e_putS, ↓e_aug, ↓e_gsub, ↓e_gtup2, ↓e_I, ↓e_Ic, ↓e_add, ↓e_addS, ↓e_addL, ↓e_addT, ↓e_mul, ↓e_eqI, ↓e_eqS, ↓e_eqB, ↓e_ix_lst, ↓e_ix_tup, ↓e_at0, ↓e_at1, ↓e_at2, ↓e_at3, ↓e_sa0, ↓e_sa1, ↓e_sa2, ↓e_sa3, ↓e_len_lst, ↓e_len_tup, ↓e_len_str, ↓e_abs, ↓e_int, ↓e_str, ↓e_ilst, ↓e_il, ↓e_irl, ↓e_irng1, ↓e_irV, ↓e_irng2, ↓e_irV2, ↓e_yes, ↓u_frzV, ↓u_ty, ↓u_setL, ↓u_ix, ↓u_len, ↓u_append, ↓u_pop, ↓u_iref, ↓e_isi, ↓e_strS, ↓e_dnew, ↓e_dget, ↓e_dput, ↓e_sc, ↓e_dcN, ↓e_rank, ↓e_inLN, ↓e_izipR, ↓e_ienum, ↓e_while, ↓mupd_mupd, ↓e_for, ↓e_lc, ↓e_lcM, ↓e_wipe, ↓e_wipe0, eq_self_iff_true, true_and, List.set_cons_zero, List.set_cons_succ, id_eq, ↓reduceIte, Bool.false_eq_true, Bool.not_true, Bool.not_false])
        rw [Int.toNat_natCast]
        refine ⟨by omega, by omega, ?_⟩
        refine for_typed (List.range N) (fun j ρ M' => ∃ (st : Bool) (o7 o8 : Option D) (Mq : Rel), ρ = [some (.lst ((List.range N).map fun i => enR (row rows i))), some (.int N), some (.lst enB), some (.ref p), some (.int y), some (.bl st), some (.int a), o7, o8, none, none] ∧ M' p = some (.lst (enM N Mq)) ∧ DL.Sub M M' ∧ (∀ a b, a < N → b < N → eqR ns a b = true → Mq a b = true) ∧ (st = true → LK.cnt N Mq + 1 + y ≤ N * N) ∧ (st = false → Mq = Mr ∧ (∀ a' b, a' < a → b < N → Mr a' b = true → Safe rows Mr a' b) ∧ ∀ b, b < j → Mr a b = true → Safe rows Mr a b))
          ⟨st, o7, o8, Mq, rfl, mp, sb, hE, hst1, fun z => ⟨(hst0 z).1, (hst0 z).2, fun b h => absurd h (Nat.not_lt_zero _)⟩⟩ (fun _ _ _ _ _ => trivial) (fun b0 b ρ M3 hx3 hW => ?_) (fun ρ M3 hW => ?_)
        · obtain ⟨st, o7, o8, Mq, rfl, mp, sb, hE, hst1, hst0⟩ := hW
          obtain ⟨rfl, hb⟩ := range_get hx3
          have ma : ∀ {x : Nat} {kk : D → Prop}, x < N → (dAt (enM N Mq) (x : Int) kk = kk (D.int (bm (Mq x) N : Nat))) := fun {x kk} hx => at_map (List.getElem?_range hx)
          have ra : ∀ {x : Nat} {kk : D → Prop}, x < N → (dAt ((List.range N).map fun i => enR (row rows i)) (x : Int) kk = kk (.lst ((row rows x).map fun n : Nat => D.int n))) := fun {x kk} hx => at_map (List.getElem?_range hx)
          (try simp only [↓e_var0, ↓e_varS, ↓e_C, ↓e_op, ↓e_un, ↓e_cb, ↓e_nil, ↓e_cons, ↓e_tup, ↓e_lst, ↓e_lstM, ↓e_frz, ↓e_B, ↓e_bl, ↓e_andT, ↓e_orT, ↓e_notT, ↓e_andV, ↓e_orV, ↓e_notV, ↓e_ifE, ↓e_tru, ↓e_slice, ↓e_noPart, ↓e_part, ↓e_partV, ↓e_bm, ↓e_bm0, ↓e_ty_lst, ↓e_ty_str, ↓e_next, ↓e_seq, ↓e_break, ↓e_cont, ↓e_drop, ↓e_ret, ↓e_retN, ↓e_ifS, ↓e_asg, ↓e_gname, ↓e_put0, ↓e_putS, ↓e_aug, ↓e_gsub, ↓e_gtup2, ↓e_I, ↓e_Ic, ↓e_add, ↓e_addS, ↓e_addL, ↓e_addT, ↓e_mul, ↓e_eqI, ↓e_eqS, ↓e_eqB, ↓e_ix_lst, ↓e_ix_tup, ↓e_at0, ↓e_at1, ↓e_at2, ↓e_at3, ↓e_sa0, ↓e_sa1, ↓e_sa2, ↓e_sa3, ↓e_len_lst, ↓e_len_tup, ↓e_len_str, ↓e_abs, ↓e_int, ↓e_str, ↓e_ilst, ↓e_il, ↓e_irl, ↓e_irng1, ↓e_irV, ↓e_irng2, ↓e_irV2, ↓e_yes, ↓u_frzV, ↓u_ty, ↓u_setL, ↓u_ix, ↓u_len, ↓u_append, ↓u_pop, ↓u_iref, ↓e_isi, ↓e_strS, ↓e_dnew, ↓e_dget, ↓e_dput, ↓e_sc, ↓e_dcN, ↓e_rank, ↓e_inLN, ↓e_izipR, ↓e_ienum, ↓e_while, ↓mupd_mupd, ↓e_for, ↓e_lc, ↓e_lcM, ↓e_wipe, ↓e_wipe0, ↓e_frzV mp, ↓e_ty_ref mp, ↓e_setL mp, ↓e_ix_ref mp, ↓e_len_ref mp, ↓e_append mp, ↓e_pop mp, ↓e_iref mp, eq_self_iff_true, true_and, List.set_cons_zero, List.set_cons_succ, id_eq, ↓reduceIte, Bool.false_eq_true, Bool.not_true, Bool.not_false])
          rw [ma ha]
          (try simp only [↓e_var0, ↓e_varS, ↓e_C, ↓e_op, ↓e_un, ↓e_cb, ↓e_nil, ↓e_cons, ↓e_tup, ↓e_lst, ↓e_lstM, ↓e_frz, ↓e_B, ↓e_bl, ↓e_andT, ↓e_orT, ↓e_notT, ↓e_andV, ↓e_orV, ↓e_notV, ↓e_ifE, ↓e_tru, ↓e_slice, ↓e_noPart, ↓e_part, ↓e_partV, ↓e_bm, ↓e_bm0, ↓e_ty_lst, ↓e_ty_str, ↓e_next, ↓e_seq, ↓e_break, ↓e_cont, ↓e_drop, ↓e_ret, ↓e_retN, ↓e_ifS, ↓e_asg, ↓e_gname, ↓e_put0, ↓e_putS, ↓e_aug, ↓e_gsub, ↓e_gtup2, ↓e_I, ↓e_Ic, ↓e_add, ↓e_addS, ↓e_addL, ↓e_addT, ↓e_mul, ↓e_eqI, ↓e_eqS, ↓e_eqB, ↓e_ix_lst, ↓e_ix_tup, ↓e_at0, ↓e_at1, ↓e_at2, ↓e_at3, ↓e_sa0, ↓e_sa1, ↓e_sa2, ↓e_sa3, ↓e_len_lst, ↓e_len_tup, ↓e_len_str, ↓e_abs, ↓e_int, ↓e_str, ↓e_ilst, ↓e_il, ↓e_irl, ↓e_irng1, ↓e_irV, ↓e_irng2, ↓e_irV2, ↓e_yes, ↓u_frzV, ↓u_ty, ↓u_setL, ↓u_ix, ↓u_len, ↓u_append, ↓u_pop, ↓u_iref, ↓e_isi, ↓e_strS, ↓e_dnew, ↓e_dget, ↓e_dput, ↓e_sc, ↓e_dcN, ↓e_rank, ↓e_inLN, ↓e_izipR, ↓e_ienum, ↓e_while, ↓mupd_mupd, ↓e_for, ↓e_lc, ↓e_lcM, ↓e_wipe, ↓e_wipe0, eq_self_iff_true, true_and, List.set_cons_zero, List.set_cons_succ, id_eq, ↓reduceIte, Bool.false_eq_true, Bool.not_true, Bool.not_false])
          refine ⟨by omega, ?_⟩
          rw [Int.toNat_natCast]
          split
          · rename_i c1
            have hm : Mq a b = true := (bm_one (f := Mq a) hb).mp (by simpa using c1)
            rw [ra ha]
            (try simp only [↓e_var0, ↓e_varS, ↓e_C, ↓e_op, ↓e_un, ↓e_cb, ↓e_nil, ↓e_cons, ↓e_tup, ↓e_lst, ↓e_lstM, ↓e_frz, ↓e_B, ↓e_bl, ↓e_andT, ↓e_orT, ↓e_notT, ↓e_andV, ↓e_orV, ↓e_notV, ↓e_ifE, ↓e_tru, ↓e_slice, ↓e_noPart, ↓e_part, ↓e_partV, ↓e_bm, ↓e_bm0, ↓e_ty_lst, ↓e_ty_str, ↓e_next, ↓e_seq, ↓e_break, ↓e_cont, ↓e_drop, ↓e_ret, ↓e_retN, ↓e_ifS, ↓e_asg, ↓e_gname, ↓e_put0, ↓e_putS, ↓e_aug, ↓e_gsub, ↓e_gtup2, ↓e_I, ↓e_Ic, ↓e_add, ↓e_addS, ↓e_addL, ↓e_addT, ↓e_mul, ↓e_eqI, ↓e_eqS, ↓e_eqB, ↓e_ix_lst, ↓e_ix_tup, ↓e_at0, ↓e_at1, ↓e_at2, ↓e_at3, ↓e_sa0, ↓e_sa1, ↓e_sa2, ↓e_sa3, ↓e_len_lst, ↓e_len_tup, ↓e_len_str, ↓e_abs, ↓e_int, ↓e_str, ↓e_ilst, ↓e_il, ↓e_irl, ↓e_irng1, ↓e_irV, ↓e_irng2, ↓e_irV2, ↓e_yes, ↓u_frzV, ↓u_ty, ↓u_setL, ↓u_ix, ↓u_len, ↓u_append, ↓u_pop, ↓u_iref, ↓e_isi, ↓e_strS, ↓e_dnew, ↓e_dget, ↓e_dput, ↓e_sc, ↓e_dcN, ↓e_rank, ↓e_inLN, ↓e_izipR, ↓e_ienum, ↓e_while, ↓mupd_mupd, ↓e_for, ↓e_lc, ↓e_lcM, ↓e_wipe, ↓e_wipe0, ↓e_frzV mp, ↓e_ty_ref mp, ↓e_setL mp, ↓e_ix_ref mp, ↓e_len_ref mp, ↓e_append mp, ↓e_pop mp, ↓e_iref mp, eq_self_iff_true, true_and, List.set_cons_zero, List.set_cons_succ, id_eq, ↓reduceIte, Bool.false_eq_true, Bool.not_true, Bool.not_false])
            refine lc_typed (row rows a) (lostB rows Mq b) (fun n : Nat => D.int n) (small_line (by have := hlen a ha; omega)) trivial (fun i2 x E' Nn hxm h1 h2 => ?_) ?_
            · have hxl := hlt a ha x (List.mem_of_getElem? hxm)
              (try simp only [↓e_var0, ↓e_varS, ↓e_C, ↓e_op, ↓e_un, ↓e_cb, ↓e_nil, ↓e_cons, ↓e_tup, ↓e_lst, ↓e_lstM, ↓e_frz, ↓e_B, ↓e_bl, ↓e_andT, ↓e_orT, ↓e_notT, ↓e_andV, ↓e_orV, ↓e_notV, ↓e_ifE, ↓e_tru, ↓e_slice, ↓e_noPart, ↓e_part, ↓e_partV, ↓e_bm, ↓e_bm0, ↓e_ty_lst, ↓e_ty_str, ↓e_next, ↓e_seq, ↓e_break, ↓e_cont, ↓e_drop, ↓e_ret, ↓e_retN, ↓e_ifS, ↓e_asg, ↓e_gname, ↓e_put0, ↓e_putS, ↓e_aug, ↓e_gsub, ↓e_gtup2, ↓e_I, ↓e_Ic, ↓e_add, ↓e_addS, ↓e_addL, ↓e_addT, ↓e_mul, ↓e_eqI, ↓e_eqS, ↓e_eqB, ↓e_ix_lst, ↓e_ix_tup, ↓e_at0, ↓e_at1, ↓e_at2, ↓e_at3, ↓e_sa0, ↓e_sa1, ↓e_sa2, ↓e_sa3, ↓e_len_lst, ↓e_len_tup, ↓e_len_str, ↓e_abs, ↓e_int, ↓e_str, ↓e_ilst, ↓e_il, ↓e_irl, ↓e_irng1, ↓e_irV, ↓e_irng2, ↓e_irV2, ↓e_yes, ↓u_frzV, ↓u_ty, ↓u_setL, ↓u_ix, ↓u_len, ↓u_append, ↓u_pop, ↓u_iref, ↓e_isi, ↓e_strS, ↓e_dnew, ↓e_dget, ↓e_dput, ↓e_sc, ↓e_dcN, ↓e_rank, ↓e_inLN, ↓e_izipR, ↓e_ienum, ↓e_while, ↓mupd_mupd, ↓e_for, ↓e_lc, ↓e_lcM, ↓e_wipe, ↓e_wipe0, ↓e_frzV mp, ↓e_ty_ref mp, ↓e_setL mp, ↓e_ix_ref mp, ↓e_len_ref mp, ↓e_append mp, ↓e_pop mp, ↓e_iref mp, eq_self_iff_true, true_and, List.set_cons_zero, List.set_cons_succ, id_eq, ↓reduceIte, Bool.false_eq_true, Bool.not_true, Bool.not_false])
              rw [ma hxl]
              (try simp only [↓e_var0, ↓e_varS, ↓e_C, ↓e_op, ↓e_un, ↓e_cb, ↓e_nil, ↓e_cons, ↓e_tup, ↓e_lst, ↓e_lstM, ↓e_frz, ↓e_B, ↓e_bl, ↓e_andT, ↓e_orT, ↓e_notT, ↓e_andV, ↓e_orV, ↓e_notV, ↓e_ifE, ↓e_tru, ↓e_slice, ↓e_noPart, ↓e_part, ↓e_partV, ↓e_bm, ↓e_bm0, ↓e_ty_lst, ↓e_ty_str, ↓e_next, ↓e_seq, ↓e_break, ↓e_cont, ↓e_drop, ↓e_ret, ↓e_retN, ↓e_ifS, ↓e_asg, ↓e_gname, ↓e_put0, ↓e_putS, ↓e_aug, ↓e_gsub, ↓e_gtup2, ↓e_I, ↓e_Ic, ↓e_add, ↓e_addS, ↓e_addL, ↓e_addT, ↓e_mul, ↓e_eqI, ↓e_eqS, ↓e_eqB, ↓e_ix_lst, ↓e_ix_tup, ↓e_at0, ↓e_at1, ↓e_at2, ↓e_at3, ↓e_sa0, ↓e_sa1, ↓e_sa2, ↓e_sa3, ↓e_len_lst, ↓e_len_tup, ↓e_len_str, ↓e_abs, ↓e_int, ↓e_str, ↓e_ilst, ↓e_il, ↓e_irl, ↓e_irng1, ↓e_irV, ↓e_irng2, ↓e_irV2, ↓e_yes, ↓u_frzV, ↓u_ty, ↓u_setL, ↓u_ix, ↓u_len, ↓u_append, ↓u_pop, ↓u_iref, ↓e_isi, ↓e_strS, ↓e_dnew, ↓e_dget, ↓e_dput, ↓e_sc, ↓e_dcN, ↓e_rank, ↓e_inLN, ↓e_izipR, ↓e_ienum, ↓e_while, ↓mupd_mupd, ↓e_for, ↓e_lc, ↓e_lcM, ↓e_wipe, ↓e_wipe0, eq_self_iff_true, true_and, List.set_cons_zero, List.set_cons_succ, id_eq, ↓reduceIte, Bool.false_eq_true, Bool.not_true, Bool.not_false])
              rw [bit_at hb]
              (try simp only [↓e_var0, ↓e_varS, ↓e_C, ↓e_op, ↓e_un, ↓e_cb, ↓e_nil, ↓e_cons, ↓e_tup, ↓e_lst, ↓e_lstM, ↓e_frz, ↓e_B, ↓e_bl, ↓e_andT, ↓e_orT, ↓e_notT, ↓e_andV, ↓e_orV, ↓e_notV, ↓e_ifE, ↓e_tru, ↓e_slice, ↓e_noPart, ↓e_part, ↓e_partV, ↓e_bm, ↓e_bm0, ↓e_ty_lst, ↓e_ty_str, ↓e_next, ↓e_seq, ↓e_break, ↓e_cont, ↓e_drop, ↓e_ret, ↓e_retN, ↓e_ifS, ↓e_asg, ↓e_gname, ↓e_put0, ↓e_putS, ↓e_aug, ↓e_gsub, ↓e_gtup2, ↓e_I, ↓e_Ic, ↓e_add, ↓e_addS, ↓e_addL, ↓e_addT, ↓e_mul, ↓e_eqI, ↓e_eqS, ↓e_eqB, ↓e_ix_lst, ↓e_ix_tup, ↓e_at0, ↓e_at1, ↓e_at2, ↓e_at3, ↓e_sa0, ↓e_sa1, ↓e_sa2, ↓e_sa3, ↓e_len_lst, ↓e_len_tup, ↓e_len_str, ↓e_abs, ↓e_int, ↓e_str, ↓e_ilst, ↓e_il, ↓e_irl, ↓e_irng1, ↓e_irV, ↓e_irng2, ↓e_irV2, ↓e_yes, ↓u_frzV, ↓u_ty, ↓u_setL, ↓u_ix, ↓u_len, ↓u_append, ↓u_pop, ↓u_iref, ↓e_isi, ↓e_strS, ↓e_dnew, ↓e_dget, ↓e_dput, ↓e_sc, ↓e_dcN, ↓e_rank, ↓e_inLN, ↓e_izipR, ↓e_ienum, ↓e_while, ↓mupd_mupd, ↓e_for, ↓e_lc, ↓e_lcM, ↓e_wipe, ↓e_wipe0, eq_self_iff_true, true_and, List.set_cons_zero, List.set_cons_succ, id_eq, ↓reduceIte, Bool.false_eq_true, Bool.not_true, Bool.not_false])
              have eqv : (Builtin.bitAnd (bm (Mq x) N : Nat) (bm (fun k => decide (k ∈ row rows b)) N : Nat) = 0) ↔ lostB rows Mq b x = true := by
                rw [bm_and, lostB_iff]
                constructor
                · intro q y hy
                  have := q y (hlt b hb y hy)
                  cases e : Mq x y with
                  | false => rfl
                  | true => exact absurd ⟨e, decide_eq_true hy⟩ this
                · intro q y hy ⟨z1, z2⟩
                  rw [q y (of_decide_eq_true z2)] at z1
                  cases z1
              by_cases c : lostB rows Mq b x = true
              · simp only [eqv, c, decide_true, if_true]
                exact h1 c
              · simp only [eqv, c, decide_false, Bool.false_eq_true, if_false]
                exact h2 (by simpa using c)
            (try simp only [↓e_var0, ↓e_varS, ↓e_C, ↓e_op, ↓e_un, ↓e_cb, ↓e_nil, ↓e_cons, ↓e_tup, ↓e_lst, ↓e_lstM, ↓e_frz, ↓e_B, ↓e_bl, ↓e_andT, ↓e_orT, ↓e_notT, ↓e_andV, ↓e_orV, ↓e_notV, ↓e_ifE, ↓e_tru, ↓e_slice, ↓e_noPart, ↓e_part, ↓e_partV, ↓e_bm, ↓e_bm0, ↓e_ty_lst, ↓e_ty_str, ↓e_next, ↓e_seq, ↓e_break, ↓e_cont, ↓e_drop, ↓e_ret, ↓e_retN, ↓e_ifS, ↓e_asg, ↓e_gname, ↓e_put0, ↓e_putS, ↓e_aug, ↓e_gsub, ↓e_gtup2, ↓e_I, ↓e_Ic, ↓e_add, ↓e_addS, ↓e_addL, ↓e_addT, ↓e_mul, ↓e_eqI, ↓e_eqS, ↓e_eqB, ↓e_ix_lst, ↓e_ix_tup, ↓e_at0, ↓e_at1, ↓e_at2, ↓e_at3, ↓e_sa0, ↓e_sa1, ↓e_sa2, ↓e_sa3, ↓e_len_lst, ↓e_len_tup, ↓e_len_str, ↓e_abs, ↓e_int, ↓e_str, ↓e_ilst, ↓e_il, ↓e_irl, ↓e_irng1, ↓e_irV, ↓e_irng2, ↓e_irV2, ↓e_yes, ↓u_frzV, ↓u_ty, ↓u_setL, ↓u_ix, ↓u_len, ↓u_append, ↓u_pop, ↓u_iref, ↓e_isi, ↓e_strS, ↓e_dnew, ↓e_dget, ↓e_dput, ↓e_sc, ↓e_dcN, ↓e_rank, ↓e_inLN, ↓e_izipR, ↓e_ienum, ↓e_while, ↓mupd_mupd, ↓e_for, ↓e_lc, ↓e_lcM, ↓e_wipe, ↓e_wipe0, ↓e_frzV mp, ↓e_ty_ref mp, ↓e_setL mp, ↓e_ix_ref mp, ↓e_len_ref mp, ↓e_append mp, ↓e_pop mp, ↓e_iref mp, eq_self_iff_true, true_and, List.set_cons_zero, List.set_cons_succ, id_eq, ↓reduceIte, Bool.false_eq_true, Bool.not_true, Bool.not_false])
            rw [ra hb]
            (try simp only [↓e_var0, ↓e_varS, ↓e_C, ↓e_op, ↓e_un, ↓e_cb, ↓e_nil, ↓e_cons, ↓e_tup, ↓e_lst, ↓e_lstM, ↓e_frz, ↓e_B, ↓e_bl, ↓e_andT, ↓e_orT, ↓e_notT, ↓e_andV, ↓e_orV, ↓e_notV, ↓e_ifE, ↓e_tru, ↓e_slice, ↓e_noPart, ↓e_part, ↓e_partV, ↓e_bm, ↓e_bm0, ↓e_ty_lst, ↓e_ty_str, ↓e_next, ↓e_seq, ↓e_break, ↓e_cont, ↓e_drop, ↓e_ret, ↓e_retN, ↓e_ifS, ↓e_asg, ↓e_gname, ↓e_put0, ↓e_putS, ↓e_aug, ↓e_gsub, ↓e_gtup2, ↓e_I, ↓e_Ic, ↓e_add, ↓e_addS, ↓e_addL, ↓e_addT, ↓e_mul, ↓e_eqI, ↓e_eqS, ↓e_eqB, ↓e_ix_lst, ↓e_ix_tup, ↓e_at0, ↓e_at1, ↓e_at2, ↓e_at3, ↓e_sa0, ↓e_sa1, ↓e_sa2, ↓e_sa3, ↓e_len_lst, ↓e_len_tup, ↓e_len_str, ↓e_abs, ↓e_int, ↓e_str, ↓e_ilst, ↓e_il, ↓e_irl, ↓e_irng1, ↓e_irV, ↓e_irng2, ↓e_irV2, ↓e_yes, ↓u_frzV, ↓u_ty, ↓u_setL, ↓u_ix, ↓u_len, ↓u_append, ↓u_pop, ↓u_iref, ↓e_isi, ↓e_strS, ↓e_dnew, ↓e_dget, ↓e_dput, ↓e_sc, ↓e_dcN, ↓e_rank, ↓e_inLN, ↓e_izipR, ↓e_ienum, ↓e_while, ↓mupd_mupd, ↓e_for, ↓e_lc, ↓e_lcM, ↓e_wipe, ↓e_wipe0, ↓e_frzV mp, ↓e_ty_ref mp, ↓e_setL mp, ↓e_ix_ref mp, ↓e_len_ref mp, ↓e_append mp, ↓e_pop mp, ↓e_iref mp, eq_self_iff_true, true_and, List.set_cons_zero, List.set_cons_succ, id_eq, ↓reduceIte, Bool.false_eq_true, Bool.not_true, Bool.not_false])
            refine lc_typed (row rows b) (lostB rows Mq a) (fun n : Nat => D.int n) (small_line (by have := hlen b hb; omega)) trivial (fun i2 x E' Nn hxm h1 h2 => ?_) ?_
            · have hxl := hlt b hb x (List.mem_of_getElem? hxm)
              (try simp only [↓e_var0, ↓e_varS, ↓e_C, ↓e_op, ↓e_un, ↓e_cb, ↓e_nil, ↓e_cons, ↓e_tup, ↓e_lst, ↓e_lstM, ↓e_frz, ↓e_B, ↓e_bl, ↓e_andT, ↓e_orT, ↓e_notT, ↓e_andV, ↓e_orV, ↓e_notV, ↓e_ifE, ↓e_tru, ↓e_slice, ↓e_noPart, ↓e_part, ↓e_partV, ↓e_bm, ↓e_bm0, ↓e_ty_lst, ↓e_ty_str, ↓e_next, ↓e_seq, ↓e_break, ↓e_cont, ↓e_drop, ↓e_ret, ↓e_retN, ↓e_ifS, ↓e_asg, ↓e_gname, ↓e_put0, ↓e_putS, ↓e_aug, ↓e_gsub, ↓e_gtup2, ↓e_I, ↓e_Ic, ↓e_add, ↓e_addS, ↓e_addL, ↓e_addT, ↓e_mul, ↓e_eqI, ↓e_eqS, ↓e_eqB, ↓e_ix_lst, ↓e_ix_tup, ↓e_at0, ↓e_at1, ↓e_at2, ↓e_at3, ↓e_sa0, ↓e_sa1, ↓e_sa2, ↓e_sa3, ↓e_len_lst, ↓e_len_tup, ↓e_len_str, ↓e_abs, ↓e_int, ↓e_str, ↓e_ilst, ↓e_il, ↓e_irl, ↓e_irng1, ↓e_irV, ↓e_irng2, ↓e_irV2, ↓e_yes, ↓u_frzV, ↓u_ty, ↓u_setL, ↓u_ix, ↓u_len, ↓u_append, ↓u_pop, ↓u_iref, ↓e_isi, ↓e_strS, ↓e_dnew, ↓e_dget, ↓e_dput, ↓e_sc, ↓e_dcN, ↓e_rank, ↓e_inLN, ↓e_izipR, ↓e_ienum, ↓e_while, ↓mupd_mupd, ↓e_for, ↓e_lc, ↓e_lcM, ↓e_wipe, ↓e_wipe0, ↓e_frzV mp, ↓e_ty_ref mp, ↓e_setL mp, ↓e_ix_ref mp, ↓e_len_ref mp, ↓e_append mp, ↓e_pop mp, ↓e_iref mp, eq_self_iff_true, true_and, List.set_cons_zero, List.set_cons_succ, id_eq, ↓reduceIte, Bool.false_eq_true, Bool.not_true, Bool.not_false])
              rw [ma hxl]
              (try simp only [↓e_var0, ↓e_varS, ↓e_C, ↓e_op, ↓e_un, ↓e_cb, ↓e_nil, ↓e_cons, ↓e_tup, ↓e_lst, ↓e_lstM, ↓e_frz, ↓e_B, ↓e_bl, ↓e_andT, ↓e_orT, ↓e_notT, ↓e_andV, ↓e_orV, ↓e_notV, ↓e_ifE, ↓e_tru, ↓e_slice, ↓e_noPart, ↓e_part, ↓e_partV, ↓e_bm, ↓e_bm0, ↓e_ty_lst, ↓e_ty_str, ↓e_next, ↓e_seq, ↓e_break, ↓e_cont, ↓e_drop, ↓e_ret, ↓e_retN, ↓e_ifS, ↓e_asg, ↓e_gname, ↓e_put0, ↓e_putS, ↓e_aug, ↓e_gsub, ↓e_gtup2, ↓e_I, ↓e_Ic, ↓e_add, ↓e_addS, ↓e_addL, ↓e_addT, ↓e_mul, ↓e_eqI, ↓e_eqS, ↓e_eqB, ↓e_ix_lst, ↓e_ix_tup, ↓e_at0, ↓e_at1, ↓e_at2, ↓e_at3, ↓e_sa0, ↓e_sa1, ↓e_sa2, ↓e_sa3, ↓e_len_lst, ↓e_len_tup, ↓e_len_str, ↓e_abs, ↓e_int, ↓e_str, ↓e_ilst, ↓e_il, ↓e_irl, ↓e_irng1, ↓e_irV, ↓e_irng2, ↓e_irV2, ↓e_yes, ↓u_frzV, ↓u_ty, ↓u_setL, ↓u_ix, ↓u_len, ↓u_append, ↓u_pop, ↓u_iref, ↓e_isi, ↓e_strS, ↓e_dnew, ↓e_dget, ↓e_dput, ↓e_sc, ↓e_dcN, ↓e_rank, ↓e_inLN, ↓e_izipR, ↓e_ienum, ↓e_while, ↓mupd_mupd, ↓e_for, ↓e_lc, ↓e_lcM, ↓e_wipe, ↓e_wipe0, eq_self_iff_true, true_and, List.set_cons_zero, List.set_cons_succ, id_eq, ↓reduceIte, Bool.false_eq_true, Bool.not_true, Bool.not_false])
              rw [bit_at ha]
              (try simp only [↓e_var0, ↓e_varS, ↓e_C, ↓e_op, ↓e_un, ↓e_cb, ↓e_nil, ↓e_cons, ↓e_tup, ↓e_lst, ↓e_lstM, ↓e_frz, ↓e_B, ↓e_bl, ↓e_andT, ↓e_orT, ↓e_notT, ↓e_andV, ↓e_orV, ↓e_notV, ↓e_ifE, ↓e_tru, ↓e_slice, ↓e_noPart, ↓e_part, ↓e_partV, ↓e_bm, ↓e_bm0, ↓e_ty_lst, ↓e_ty_str, ↓e_next, ↓e_seq, ↓e_break, ↓e_cont, ↓e_drop, ↓e_ret, ↓e_retN, ↓e_ifS, ↓e_asg, ↓e_gname, ↓e_put0, ↓e_putS, ↓e_aug, ↓e_gsub, ↓e_gtup2, ↓e_I, ↓e_Ic, ↓e_add, ↓e_addS, ↓e_addL, ↓e_addT, ↓e_mul, ↓e_eqI, ↓e_eqS, ↓e_eqB, ↓e_ix_lst, ↓e_ix_tup, ↓e_at0, ↓e_at1, ↓e_at2, ↓e_at3, ↓e_sa0, ↓e_sa1, ↓e_sa2, ↓e_sa3, ↓e_len_lst, ↓e_len_tup, ↓e_len_str, ↓e_abs, ↓e_int, ↓e_str, ↓e_ilst, ↓e_il, ↓e_irl, ↓e_irng1, ↓e_irV, ↓e_irng2, ↓e_irV2, ↓e_yes, ↓u_frzV, ↓u_ty, ↓u_setL, ↓u_ix, ↓u_len, ↓u_append, ↓u_pop, ↓u_iref, ↓e_isi, ↓e_strS, ↓e_dnew, ↓e_dget, ↓e_dput, ↓e_sc, ↓e_dcN, ↓e_rank, ↓e_inLN, ↓e_izipR, ↓e_ienum, ↓e_while, ↓mupd_mupd, ↓e_for, ↓e_lc, ↓e_lcM, ↓e_wipe, ↓e_wipe0, eq_self_iff_true, true_and, List.set_cons_zero, List.set_cons_succ, id_eq, ↓reduceIte, Bool.false_eq_true, Bool.not_true, Bool.not_false])
              have eqv : (Builtin.bitAnd (bm (Mq x) N : Nat) (bm (fun k => decide (k ∈ row rows a)) N : Nat) = 0) ↔ lostB rows Mq a x = true := by
                rw [bm_and, lostB_iff]
                constructor
                · intro q y hy
                  have := q y (hlt a ha y hy)
                  cases e : Mq x y with
                  | false => rfl
                  | true => exact absurd ⟨e, decide_eq_true hy⟩ this
                · intro q y hy ⟨z1, z2⟩
                  rw [q y (of_decide_eq_true z2)] at z1
                  cases z1
              by_cases c : lostB rows Mq a x = true
              · simp only [eqv, c, decide_true, if_true]
                exact h1 c
              · simp only [eqv, c, decide_false, Bool.false_eq_true, if_false]
                exact h2 (by simpa using c)
            (try simp only [↓e_var0, ↓e_varS, ↓e_C, ↓e_op, ↓e_un, ↓e_cb, ↓e_nil, ↓e_cons, ↓e_tup, ↓e_lst, ↓e_lstM, ↓e_frz, ↓e_B, ↓e_bl, ↓e_andT, ↓e_orT, ↓e_notT, ↓e_andV, ↓e_orV, ↓e_notV, ↓e_ifE, ↓e_tru, ↓e_slice, ↓e_noPart, ↓e_part, ↓e_partV, ↓e_bm, ↓e_bm0, ↓e_ty_lst, ↓e_ty_str, ↓e_next, ↓e_seq, ↓e_break, ↓e_cont, ↓e_drop, ↓e_ret, ↓e_retN, ↓e_ifS, ↓e_asg, ↓e_gname, ↓e_put0, ↓e_putS, ↓e_aug, ↓e_gsub, ↓e_gtup2, ↓e_I, ↓e_Ic, ↓e_add, ↓e_addS, ↓e_addL, ↓e_addT, ↓e_mul, ↓e_eqI, ↓e_eqS, ↓e_eqB, ↓e_ix_lst, ↓e_ix_tup, ↓e_at0, ↓e_at1, ↓e_at2, ↓e_at3, ↓e_sa0, ↓e_sa1, ↓e_sa2, ↓e_sa3, ↓e_len_lst, ↓e_len_tup, ↓e_len_str, ↓e_abs, ↓e_int, ↓e_str, ↓e_ilst, ↓e_il, ↓e_irl, ↓e_irng1, ↓e_irV, ↓e_irng2, ↓e_irV2, ↓e_yes, ↓u_frzV, ↓u_ty, ↓u_setL, ↓u_ix, ↓u_len, ↓u_append, ↓u_pop, ↓u_iref, ↓e_isi, ↓e_strS, ↓e_dnew, ↓e_dget, ↓e_dput, ↓e_sc, ↓e_dcN, ↓e_rank, ↓e_inLN, ↓e_izipR, ↓e_ienum, ↓e_while, ↓mupd_mupd, ↓e_for, ↓e_lc, ↓e_lcM, ↓e_wipe, ↓e_wipe0, ↓e_frzV mp, ↓e_ty_ref mp, ↓e_setL mp, ↓e_ix_ref mp, ↓e_len_ref mp, ↓e_append mp, ↓e_pop mp, ↓e_iref mp, eq_self_iff_true, true_and, List.set_cons_zero, List.set_cons_succ, id_eq, ↓reduceIte, Bool.false_eq_true, Bool.not_true, Bool.not_false])
            have l1 : ((row rows a).filter (lostB rows Mq b)).length ≤ 11 := Nat.le_trans (List.length_filter_le _ _) (hlen a ha)
            have l2 : ((row rows b).filter (lostB rows Mq a)).length ≤ 11 := Nat.le_trans (List.length_filter_le _ _) (hlen b hb)
            refine ⟨small_line (by rw [List.length_map, List.length_map]; omega), ?_⟩
            rw [List.length_append, List.length_map, List.length_map]
            have sf := safe_iff (rows := rows) (M := Mq) (a := a) (b := b)
            split
            · rename_i c2
              have c2' : ¬ Safe rows Mq a b := fun z => by
                have z' := congrArg List.length (sf.mp z)
                rw [List.length_append, List.length_nil] at z'
                have := of_decide_eq_true c2
                omega
              rw [ma ha]
              (try simp only [↓e_var0, ↓e_varS, ↓e_C, ↓e_op, ↓e_un, ↓e_cb, ↓e_nil, ↓e_cons, ↓e_tup, ↓e_lst, ↓e_lstM, ↓e_frz, ↓e_B, ↓e_bl, ↓e_andT, ↓e_orT, ↓e_notT, ↓e_andV, ↓e_orV, ↓e_notV, ↓e_ifE, ↓e_tru, ↓e_slice, ↓e_noPart, ↓e_part, ↓e_partV, ↓e_bm, ↓e_bm0, ↓e_ty_lst, ↓e_ty_str, ↓e_next, ↓e_seq, ↓e_break, ↓e_cont, ↓e_drop, ↓e_ret, ↓e_retN, ↓e_ifS, ↓e_asg, ↓e_gname, ↓e_put0, ↓e_putS, ↓e_aug, ↓e_gsub, ↓e_gtup2, ↓e_I, ↓e_Ic, ↓e_add, ↓e_addS, ↓e_addL, ↓e_addT, ↓e_mul, ↓e_eqI, ↓e_eqS, ↓e_eqB, ↓e_ix_lst, ↓e_ix_tup, ↓e_at0, ↓e_at1, ↓e_at2, ↓e_at3, ↓e_sa0, ↓e_sa1, ↓e_sa2, ↓e_sa3, ↓e_len_lst, ↓e_len_tup, ↓e_len_str, ↓e_abs, ↓e_int, ↓e_str, ↓e_ilst, ↓e_il, ↓e_irl, ↓e_irng1, ↓e_irV, ↓e_irng2, ↓e_irV2, ↓e_yes, ↓u_frzV, ↓u_ty, ↓u_setL, ↓u_ix, ↓u_len, ↓u_append, ↓u_pop, ↓u_iref, ↓e_isi, ↓e_strS, ↓e_dnew, ↓e_dget, ↓e_dput, ↓e_sc, ↓e_dcN, ↓e_rank, ↓e_inLN, ↓e_izipR, ↓e_ienum, ↓e_while, ↓mupd_mupd, ↓e_for, ↓e_lc, ↓e_lcM, ↓e_wipe, ↓e_wipe0, ↓e_frzV mp, ↓e_ty_ref mp, ↓e_setL mp, ↓e_ix_ref mp, ↓e_len_ref mp, ↓e_append mp, ↓e_pop mp, ↓e_iref mp, eq_self_iff_true, true_and, List.set_cons_zero, List.set_cons_succ, id_eq, ↓reduceIte, Bool.false_eq_true, Bool.not_true, Bool.not_false])
              refine ⟨⟨by omega, by omega, by decide⟩, ?_⟩
              rw [e_sa (show a < (enM N Mq).length by rw [List.length_map, List.length_range]; exact ha)]
              (try simp only [↓e_var0, ↓e_varS, ↓e_C, ↓e_op, ↓e_un, ↓e_cb, ↓e_nil, ↓e_cons, ↓e_tup, ↓e_lst, ↓e_lstM, ↓e_frz, ↓e_B, ↓e_bl, ↓e_andT, ↓e_orT, ↓e_notT, ↓e_andV, ↓e_orV, ↓e_notV, ↓e_ifE, ↓e_tru, ↓e_slice, ↓e_noPart, ↓e_part, ↓e_partV, ↓e_bm, ↓e_bm0, ↓e_ty_lst, ↓e_ty_str, ↓e_next, ↓e_seq, ↓e_break, ↓e_cont, ↓e_drop, ↓e_ret, ↓e_retN, ↓e_ifS, ↓e_asg, ↓e_gname, ↓e_put0, ↓e_putS, ↓e_aug, ↓e_gsub, ↓e_gtup2, ↓e_I, ↓e_Ic, ↓e_add, ↓e_addS, ↓e_addL, ↓e_addT, ↓e_mul, ↓e_eqI, ↓e_eqS, ↓e_eqB, ↓e_ix_lst, ↓e_ix_tup, ↓e_at0, ↓e_at1, ↓e_at2, ↓e_at3, ↓e_sa0, ↓e_sa1, ↓e_sa2, ↓e_sa3, ↓e_len_lst, ↓e_len_tup, ↓e_len_str, ↓e_abs, ↓e_int, ↓e_str, ↓e_ilst, ↓e_il, ↓e_irl, ↓e_irng1, ↓e_irV, ↓e_irng2, ↓e_irV2, ↓e_yes, ↓u_frzV, ↓u_ty, ↓u_setL, ↓u_ix, ↓u_len, ↓u_append, ↓u_pop, ↓u_iref, ↓e_isi, ↓e_strS, ↓e_dnew, ↓e_dget, ↓e_dput, ↓e_sc, ↓e_dcN, ↓e_rank, ↓e_inLN, ↓e_izipR, ↓e_ienum, ↓e_while, ↓mupd_mupd, ↓e_for, ↓e_lc, ↓e_lcM, ↓e_wipe, ↓e_wipe0, eq_self_iff_true, true_and, List.set_cons_zero, List.set_cons_succ, id_eq, ↓reduceIte, Bool.false_eq_true, Bool.not_true, Bool.not_false])
              rw [Int.one_mul, bm_xor (f := Mq a) (g := LK.flip Mq a b a) hb hm (by simp [LK.flip]) (fun k _ hk => by simp [LK.flip, hk])]
              have es : (enM N Mq).set a (D.int (bm (LK.flip Mq a b a) N : Nat)) = enM N (LK.flip Mq a b) := by
                apply List.ext_getElem?
                intro i
                rw [List.getElem?_set, List.getElem?_map, List.getElem?_map, List.length_map, List.length_range]
                by_cases hi : i < N
                · rw [List.getElem?_range hi]
                  by_cases e : a = i
                  · subst e
                    simp [ha]
                  · rw [if_neg e]
                    have e' : ∀ k, LK.flip Mq a b i k = Mq i k := fun k => by
                      have : i ≠ a := fun z => e z.symm
                      simp [LK.flip, this]
                    simp only [Option.map_some]
                    rw [bm_congr (f := LK.flip Mq a b i) (g := Mq i) fun k _ => e' k]
                · have hia : a ≠ i := fun z => hi (z ▸ ha)
                  rw [if_neg hia, List.getElem?_eq_none (l := List.range N) (by rw [List.length_range]; omega)]
                  rfl
              rw [es]
              refine ⟨true, _, _, LK.flip Mq a b, rfl, mupd_same, fun u o e => ?_, fun a' b' ha' hb' q => ?_, fun _ => ?_, (fun z => (nomatch z))⟩
              · have ne : u ≠ p := fun z => by subst z; rw [hp] at e; cases e
                rw [mupd_ne ne]; exact sb u o e
              · by_cases e : a' = a ∧ b' = b
                · obtain ⟨rfl, rfl⟩ := e
                  exact absurd (bis_safe (rows := rows) (M := Mq) hbis (fun x z hx hz q => hE x z (by rw [← hN]; exact hx) (by rw [← hN]; exact hz) (by unfold eqR; exact decide_eq_true q)) (fun i hi => by rw [hN] at hi ⊢; exact hlt i hi) (by rw [hN]; exact ha) (by rw [hN]; exact hb) (of_decide_eq_true q)) c2'
                · simp only [LK.flip, e, if_false]
                  exact hE a' b' ha' hb' q
              · have fl := flip_cnt (N := N) (M := Mq) ha hb hm
                cases hs : st with
                | true => have := hst1 hs; omega
                | false =>
                  obtain ⟨rfl, _⟩ := hst0 hs
                  omega
            · rename_i c2
              have c2' : Safe rows Mq a b := sf.mpr (List.eq_nil_of_length_eq_zero (by
                rw [List.length_append]
                have : ¬ ((0 : Int) < (((row rows a).filter (lostB rows Mq b)).length + ((row rows b).filter (lostB rows Mq a)).length : Nat)) := fun z => c2 (decide_eq_true z)
                omega))
              refine ⟨st, _, _, Mq, rfl, mp, sb, hE, hst1, fun z => ?_⟩
              obtain ⟨rfl, q1, q2⟩ := hst0 z
              refine ⟨rfl, q1, fun b' hb' m => ?_⟩
              rcases Nat.lt_or_eq_of_le (Nat.le_of_lt_succ hb') with e | e
              · exact q2 b' e m
              · rw [e]; exact c2'
          · rename_i c1
            have hm : ¬ Mq a b = true := fun z => c1 (by simpa using (bm_one (f := Mq a) hb).mpr z)
            refine ⟨st, _, _, Mq, rfl, mp, sb, hE, hst1, fun z => ?_⟩
            obtain ⟨rfl, q1, q2⟩ := hst0 z
            refine ⟨rfl, q1, fun b' hb' m => ?_⟩
            rcases Nat.lt_or_eq_of_le (Nat.le_of_lt_succ hb') with e | e
            · exact q2 b' e m
            · rw [e] at m; exact absurd m hm
        · obtain ⟨st, o7, o8, Mq, rfl, mp, sb, hE, hst1, hst0⟩ := hW
          rw [List.length_range] at hst0
          refine ⟨st, _, _, _, Mq, rfl, mp, sb, hE, hst1, fun z => ?_⟩
          obtain ⟨rfl, q1, q2⟩ := hst0 z
          refine ⟨rfl, fun a' b' ha' hb' m => ?_⟩
          rcases Nat.lt_or_eq_of_le (Nat.le_of_lt_succ ha') with e | e
          · exact q1 a' b' e hb' m
          · rw [e] at m ⊢; exact q2 b' hb' m
      · obtain ⟨st, o6, o7, o8, Mq, rfl, mp, sb, hE, hst1, hst0⟩ := hW
        rw [List.length_range] at hst0
        (try simp only [↓e_var0, ↓e_varS, ↓e_C, ↓e_op, ↓e_un, ↓e_cb, ↓e_nil, ↓e_cons, ↓e_tup, ↓e_lst, ↓e_lstM, ↓e_frz, ↓e_B, ↓e_bl, ↓e_andT, ↓e_orT, ↓e_notT, ↓e_andV, ↓e_orV, ↓e_notV, ↓e_ifE, ↓e_tru, ↓e_slice, ↓e_noPart, ↓e_part, ↓e_partV, ↓e_bm, ↓e_bm0, ↓e_ty_lst, ↓e_ty_str, ↓e_next, ↓e_seq, ↓e_break, ↓e_cont, ↓e_drop, ↓e_ret, ↓e_retN, ↓e_ifS, ↓e_asg, ↓e_gname, ↓e_put0, ↓e_putS, ↓e_aug, ↓e_gsub, ↓e_gtup2, ↓e_I, ↓e_Ic, ↓e_add, ↓e_addS, ↓e_addL, ↓e_addT, ↓e_mul, ↓e_eqI, ↓e_eqS, ↓e_eqB, ↓e_ix_lst, ↓e_ix_tup, ↓e_at0, ↓e_at1, ↓e_at2, ↓e_at3, ↓e_sa0, ↓e_sa1, ↓e_sa2, ↓e_sa3, ↓e_len_lst, ↓e_len_tup, ↓e_len_str, ↓e_abs, ↓e_int, ↓e_str, ↓e_ilst, ↓e_il, ↓e_irl, ↓e_irng1, ↓e_irV, ↓e_irng2, ↓e_irV2, ↓e_yes, ↓u_frzV, ↓u_ty, ↓u_setL, ↓u_ix, ↓u_len, ↓u_append, ↓u_pop, ↓u_iref, ↓e_isi, ↓e_strS, ↓e_dnew, ↓e_dget, ↓e_dput, ↓e_sc, ↓e_dcN, ↓e_rank, ↓e_inLN, ↓e_izipR, ↓e_ienum, ↓e_while, ↓mupd_mupd, ↓e_for, ↓e_lc, ↓e_lcM, ↓e_wipe, ↓e_wipe0, ↓e_frzV mp, ↓e_ty_ref mp, ↓e_setL mp, ↓e_ix_ref mp, ↓e_len_ref mp, ↓e_append mp, ↓e_pop mp, ↓e_iref mp, eq_self_iff_true, true_and, List.set_cons_zero, List.set_cons_succ, id_eq, ↓reduceIte, Bool.false_eq_true, Bool.not_true, Bool.not_false])
        cases hs : st with
        | true =>
          simp only [hs, Bool.not_true, Bool.false_eq_true, if_false]
          exact ⟨_, _, _, _, _, Mq, rfl, mp, sb, hE, by have := hst1 hs; omega⟩
        | false =>
          obtain ⟨rfl, q1⟩ := hst0 hs
          simp only [hs, Bool.not_false, if_true]
          have eqm : enM N Mq = enM N (eqR ns) := by
            refine List.map_congr_left fun a ha => ?_
            have ha := List.mem_range.mp ha
            congr 2
            refine bm_congr fun b hb => ?_
            cases hm : Mq a b with
            | true =>
              have := lik_most (rows := rows) dr.lt (M := fun a b => Mq a b = true) (fun a b ha hb m => (q1 a b (by rw [← hN]; exact ha) (by rw [← hN]; exact hb) m).1) (fun a b ha hb m => (q1 a b (by rw [← hN]; exact ha) (by rw [← hN]; exact hb) m).2) lk a b (by rw [hN]; exact ha) (by rw [hN]; exact hb) hm
              exact (decide_eq_true this).symm
            | false =>
              cases he : eqR ns a b with
              | false => rfl
              | true => rw [hE a b ha hb he] at hm; cases hm
          rw [eqm]
          exact ⟨M, fun u o e => by
            have ne : u ≠ p := fun z => by subst z; rw [hp] at e; cases e
            rw [mdel_ne ne]; exact sb u o e, h⟩
    · obtain ⟨o4, o5, o6, o7, o8, Mr, rfl, mp, sb, hE, hc⟩ := hW
      rw [List.length_range] at hc
      have : 0 < LK.cnt N Mr := by
        unfold LK.cnt
        rw [List.countP_pos_iff]
        exact ⟨(0, 0), prs_mem.mpr ⟨pos, pos⟩, hE 0 0 pos pos (by unfold eqR; simp)⟩
      omega
end
end K32

/-! DL15: == of lists of ints and of rows. -/
namespace DL
open PySem PySem.Spec PyProof.Rows L2
theorem py_ints (ns : List Int) : pyAll (ns.map D.int) = ns.map PyData.int := by
  rw [pyAll_map, List.map_map]
  exact List.map_congr_left fun n _ => by show py (D.int n) = _; unfold py; rfl
theorem lay_ints : ∀ ns : List Int, PyData.canLayAll0 (ns.map PyData.int) = true
  | [] => rfl
  | n :: ns => by
    show PyData.canLayAll0 (.int n :: ns.map PyData.int) = true
    unfold PyData.canLayAll0
    rw [lay_ints ns]
    rfl
theorem shaped_ints (ns : List Int) : SeqAt.shaped (.list (ns.map PyData.int)) = true := by
  unfold SeqAt.shaped
  rw [Bool.and_eq_true]
  refine ⟨by simp only [PyData.canLay0]; exact lay_ints ns, ?_⟩
  simp only [PyData.depth, W.depth_ints]
  decide
abbrev rowD (r : List Int) : D := .lst (r.map D.int)
theorem py_row (r : List Int) : py (rowD r) = .list (r.map PyData.int) := by unfold py; rw [py_ints]
theorem py_rows (rs : List (List Int)) : pyAll (rs.map rowD) = rs.map fun r => PyData.list (r.map PyData.int) := by
  rw [pyAll_map, List.map_map]
  exact List.map_congr_left fun r _ => py_row r
theorem lay_rows : ∀ rs : List (List Int), PyData.canLayAll0 (rs.map fun r => PyData.list (r.map PyData.int)) = true
  | [] => rfl
  | r :: rs => by
    show PyData.canLayAll0 (.list (r.map PyData.int) :: rs.map fun r => PyData.list (r.map PyData.int)) = true
    unfold PyData.canLayAll0
    rw [lay_rows rs]
    simp only [PyData.canLay0, lay_ints]
    rfl
theorem depth_rows : ∀ rs : List (List Int), PyData.depthAll (rs.map fun r => PyData.list (r.map PyData.int)) ≤ 1
  | [] => by decide
  | r :: rs => by
    show PyData.depthAll (.list (r.map PyData.int) :: rs.map fun r => PyData.list (r.map PyData.int)) ≤ 1
    have := depth_rows rs
    simp only [PyData.depthAll, PyData.depth, W.depth_ints]
    omega
theorem shaped_rows (rs : List (List Int)) : SeqAt.shaped (.list (rs.map fun r => PyData.list (r.map PyData.int))) = true := by
  unfold SeqAt.shaped
  rw [Bool.and_eq_true]
  refine ⟨by simp only [PyData.canLay0]; exact lay_rows rs, ?_⟩
  have := depth_rows rs
  refine decide_eq_true ?_
  simp only [PyData.depth]
  omega
theorem eqv_rows : ∀ rs qs : List (List Int), PyData.eqvAll (rs.map fun r => PyData.list (r.map PyData.int)) (qs.map fun r => PyData.list (r.map PyData.int)) = decide (rs = qs)
  | [], [] => rfl
  | [], _ :: _ => rfl
  | _ :: _, [] => rfl
  | r :: rs, q :: qs => by
    show PyData.eqvAll (.list (r.map PyData.int) :: rs.map fun r => PyData.list (r.map PyData.int)) (.list (q.map PyData.int) :: qs.map fun r => PyData.list (r.map PyData.int)) = _
    rw [W.eqv_all_cons, eqv_rows rs qs]
    show (PyData.eqvAll (r.map PyData.int) (q.map PyData.int) && _) = _
    rw [DSet.eqv_ints]
    by_cases h : r = q <;> by_cases h2 : rs = qs <;> simp [h, h2]
section
variable {M : MS} {R : D → MS → Prop} {x y : D}
theorem eq_ints {ns ms : List Int} (hx : rs M x = .lst (ns.map D.int)) (hy : rs M y = .lst (ms.map D.int)) (hs : scD x y = none) (h : R (.bl (decide (ns = ms))) M) : dEq x y M R := by
  unfold dEq dEqv
  rw [hs]
  dsimp only
  rw [hx, hy, py_row, py_row]
  refine ⟨shaped_ints _, shaped_ints _, ?_⟩
  show R (.bl (PyData.eqvAll _ _)) M
  rw [DSet.eqv_ints]
  exact h
theorem eq_rows {ns ms : List (List Int)} (hx : rs M x = .lst (ns.map rowD)) (hy : rs M y = .lst (ms.map rowD)) (hs : scD x y = none) (h : R (.bl (decide (ns = ms))) M) : dEq x y M R := by
  have e : ∀ q : List (List Int), py (.lst (q.map rowD)) = .list (q.map fun r => PyData.list (r.map PyData.int)) := fun q => by unfold py; rw [py_rows]
  unfold dEq dEqv
  rw [hs]
  dsimp only
  rw [hx, hy, e, e]
  refine ⟨shaped_rows _, shaped_rows _, ?_⟩
  show R (.bl (PyData.eqvAll _ _)) M
  rw [eqv_rows]
  exact h
end
end DL

namespace K32
open PySem PySem.Spec PyProof.Rows L2 DL LK DSet
abbrev s_law_meant : Stmt := topS 16
abbrev n_law_meant : List Str := ["drawing", "told", "masks", "a", "b"]
abbrev p_law_meant : List Str := ["drawing", "told"]
theorem sc_law_meant : FnScope n_law_meant p_law_meant (defScope s_law_meant) := ⟨rfl, rfl, rfl, by decide +kernel, rfl, by decide +kernel, by decide +kernel⟩
abbrev s_law_ints : Stmt := topS 17
abbrev n_law_ints : List Str := ["told", "due", "number"]
abbrev p_law_ints : List Str := ["told", "due"]
theorem sc_law_ints : FnScope n_law_ints p_law_ints (defScope s_law_ints) := ⟨rfl, rfl, rfl, by decide +kernel, rfl, by decide +kernel, by decide +kernel⟩
abbrev s_law_pair : Stmt := topS 18
abbrev n_law_pair : List Str := ["state", "drawing", "due", "one", "way", "places", "k", "held"]
abbrev p_law_pair : List Str := ["state", "drawing", "due"]
theorem sc_law_pair : FnScope n_law_pair p_law_pair (defScope s_law_pair) := ⟨rfl, rfl, rfl, by decide +kernel, rfl, by decide +kernel, by decide +kernel⟩
abbrev s_law_said : Stmt := topS 19
abbrev n_law_said : List Str := ["handed", "drawing", "due", "a", "b", "alike", "inside", "held"]
abbrev p_law_said : List Str := ["handed", "drawing", "due", "a", "b"]
theorem sc_law_said : FnScope n_law_said p_law_said (defScope s_law_said) := ⟨rfl, rfl, rfl, by decide +kernel, rfl, by decide +kernel, by decide +kernel⟩
abbrev slaw : Stmt := topS 20
abbrev nlaw : List Str := ["script", "state", "drawing", "due", "handed", "told", "k", "pair", "row"]
abbrev plaw : List Str := ["script"]
theorem sclaw : FnScope nlaw plaw (defScope slaw) := ⟨rfl, rfl, rfl, by decide +kernel, rfl, by decide +kernel, by decide +kernel⟩
section
variable {P : Program} {w : World} {K : PySem.W.Frag} {mg : Str → Option Value} {base : Heap}
theorem sa_zero {xs : List D} {k : Nat → Prop} (h : 0 < xs.length) : dSetAt xs 0 k = k 0 := by
  have := e_sa (k := k) h
  exact this
def spMeant : DL := fun ds M R => ∃ rows ns t, ds = [enD rows, .ref t] ∧ Drw rows ∧ rows.length ≤ 11 ∧ Lik rows ns ∧ M t = some (moN ns) ∧ R (.bl true) M
def spInts : DL := fun ds M R => ∃ ns t, ds = [.ref t, enN ns] ∧ ns.length ≤ 1000 ∧ M t = some (moN ns) ∧ R (.bl true) M
def spPair : DL := fun ds M R => ∃ a M0 rows ns, ds = [.ref a, enD rows, enN ns] ∧ RnAt M0 a M ∧ Drw rows ∧ Lik rows ns ∧ ∀ (i j : Nat) M', i < rows.length → j < rows.length → RnAt M0 a M' → R (.lst [.int i, .int j]) M'
def spSaid : DL := fun ds M R => ∃ rows ns, ∃ a b : Nat, ds = [enD rows, enD rows, enN ns, .int a, .int b] ∧ Drw rows ∧ Lik rows ns ∧ a < rows.length ∧ b < rows.length ∧ R (.bl true) M
theorem ok_meant {f : Addr} {fd : FuncData} {k : Nat} (F : Fun K "_law_meant" "_law_meant" s_law_meant f fd) (B : Bt mg) (c__law_paired : CalX P w K mg base "_law_paired" 1 spPaired) : FnOk P w K mg base CX0 (1 + 1) f fd p_law_meant (spOf K spMeant) := by
  refine dfn F sc_law_meant (fun ds M R h => ?_) (fun cdv A outer s H E ds M R hr h => ?_)
  · obtain ⟨rows, ns, t, rfl, _⟩ := h
    rfl
  · have nd := sc_law_meant.nd
    refine ⟨_, (dss_cons (ds_set (i := 2) nd rfl (.inl rfl) (d_callX c__law_paired hr rfl (da_cons (dv 0) da_nil)))
(dss_cons (ds_for PassesOwn.never rfl (di_rng1 (pi_range1 rfl B.range (da_cons (d_len rfl B.len (da_cons (dv 0) da_nil)) da_nil))) (dg_name (i := 3) nd rfl (.inl rfl))
(dss_one (ds_for PassesOwn.never rfl (di_rng1 (pi_range1 rfl B.range (da_cons (d_len rfl B.len (da_cons (dv 0) da_nil)) da_nil))) (dg_name (i := 4) nd rfl (.inl rfl))
(dss_one (ds_if (dt_ne hr (d_eq hr (d_sub_ix (dv 1) (dv 3)) (d_sub_ix (dv 1) (dv 4))) (d_eq hr (d_and2 (d_shr (d_sub_ix (dv 2) (dv 3)) (dv 4)) d_int) d_int))
(dss_one (ds_ret d_bl))
dss_nil)))))
(dss_one (ds_ret d_bl)))), ?_⟩
    obtain ⟨rows, ns, t, rfl, dr, sm, lk, mt, h⟩ := h
    simp only [dstart, List.map, List.length, List.replicate, List.cons_append, List.nil_append]
    (try simp only [↓e_var0, ↓e_varS, ↓e_C, ↓e_op, ↓e_un, ↓e_cb, ↓e_nil, ↓e_cons, ↓e_tup, ↓e_lst, ↓e_lstM, ↓e_frz, ↓e_B, ↓e_bl, ↓e_andT, ↓e_orT, ↓e_notT, ↓e_andV, ↓e_orV, ↓e_notV, ↓e_ifE, ↓e_tru, ↓e_slice, ↓e_noPart, ↓e_part, ↓e_partV, ↓e_bm, ↓e_bm0, ↓e_ty_lst, ↓e_ty_str, ↓e_next, ↓e_seq, ↓e_break, ↓e_cont, ↓e_drop, ↓e_ret, ↓e_retN, ↓e_ifS, ↓e_asg, ↓e_gname, ↓e_put0, ↓e_putS, ↓e_aug, ↓e_gsub, ↓e_gtup2, ↓e_I, ↓e_Ic, ↓e_add, ↓e_addS, ↓e_addL, ↓e_addT, ↓e_mul, ↓e_eqI, ↓e_eqS, ↓e_eqB, ↓e_ix_lst, ↓e_ix_tup, ↓e_at0, ↓e_at1, ↓e_at2, ↓e_at3, ↓e_sa0, ↓e_sa1, ↓e_sa2, ↓e_sa3, ↓e_len_lst, ↓e_len_tup, ↓e_len_str, ↓e_abs, ↓e_int, ↓e_str, ↓e_ilst, ↓e_il, ↓e_irl, ↓e_irng1, ↓e_irV, ↓e_irng2, ↓e_irV2, ↓e_yes, ↓u_frzV, ↓u_ty, ↓u_setL, ↓u_ix, ↓u_len, ↓u_append, ↓u_pop, ↓u_iref, ↓e_isi, ↓e_strS, ↓e_dnew, ↓e_dget, ↓e_dput, ↓e_sc, ↓e_dcN, ↓e_rank, ↓e_inLN, ↓e_izipR, ↓e_ienum, ↓e_while, ↓mupd_mupd, ↓e_for, ↓e_lc, ↓e_lcM, ↓e_wipe, ↓e_wipe0, eq_self_iff_true, true_and, List.set_cons_zero, List.set_cons_succ, id_eq, ↓reduceIte, Bool.false_eq_true, Bool.not_true, Bool.not_false])
    refine ⟨rows, ns, rfl, dr, sm, lk, ?_⟩
    simp only [enD]
    (try simp only [↓e_var0, ↓e_varS, ↓e_C, ↓e_op, ↓e_un, ↓e_cb, ↓e_nil, ↓e_cons, ↓e_tup, ↓e_lst, ↓e_lstM, ↓e_frz, ↓e_B, ↓e_bl, ↓e_andT, ↓e_orT, ↓e_notT, ↓e_andV, ↓e_orV, ↓e_notV, ↓e_ifE, ↓e_tru, ↓e_slice, ↓e_noPart, ↓e_part, ↓e_partV, ↓e_bm, ↓e_bm0, ↓e_ty_lst, ↓e_ty_str, ↓e_next, ↓e_seq, ↓e_break, ↓e_cont, ↓e_drop, ↓e_ret, ↓e_retN, ↓e_ifS, ↓e_asg, ↓e_gname, ↓e_put0, ↓e_putS, ↓e_aug, ↓e_gsub, ↓e_gtup2, ↓e_I, ↓e_Ic, ↓e_add, ↓e_addS, ↓e_addL, ↓e_addT, ↓e_mul, ↓e_eqI, ↓e_eqS, ↓e_eqB, ↓e_ix_lst, ↓e_ix_tup, ↓e_at0, ↓e_at1, ↓e_at2, ↓e_at3, ↓e_sa0, ↓e_sa1, ↓e_sa2, ↓e_sa3, ↓e_len_lst, ↓e_len_tup, ↓e_len_str, ↓e_abs, ↓e_int, ↓e_str, ↓e_ilst, ↓e_il, ↓e_irl, ↓e_irng1, ↓e_irV, ↓e_irng2, ↓e_irV2, ↓e_yes, ↓u_frzV, ↓u_ty, ↓u_setL, ↓u_ix, ↓u_len, ↓u_append, ↓u_pop, ↓u_iref, ↓e_isi, ↓e_strS, ↓e_dnew, ↓e_dget, ↓e_dput, ↓e_sc, ↓e_dcN, ↓e_rank, ↓e_inLN, ↓e_izipR, ↓e_ienum, ↓e_while, ↓mupd_mupd, ↓e_for, ↓e_lc, ↓e_lcM, ↓e_wipe, ↓e_wipe0, eq_self_iff_true, true_and, List.set_cons_zero, List.set_cons_succ, id_eq, ↓reduceIte, Bool.false_eq_true, Bool.not_true, Bool.not_false])
    rw [List.length_map, Int.toNat_natCast]
    refine ⟨by omega, by omega, ?_⟩
    have nl := lk.len
    refine for_typed (List.range rows.length) (fun i ρ M' => ∃ o3 o4 : Option D, ρ = [some (.lst (rows.map enR)), some (.ref t), some (.lst (enM rows.length (eqR ns))), o3, o4] ∧ M' = M) ⟨_, _, rfl, rfl⟩ (fun _ _ _ _ _ => trivial) (fun i0 a ρ M1 hx hW => ?_) (fun ρ M1 hW => ?_)
    · obtain ⟨o3, o4, rfl, rfl⟩ := hW
      obtain ⟨rfl, ha⟩ := range_get hx
      (try simp only [↓e_var0, ↓e_varS, ↓e_C, ↓e_op, ↓e_un, ↓e_cb, ↓e_nil, ↓e_cons, ↓e_tup, ↓e_lst, ↓e_lstM, ↓e_frz, ↓e_B, ↓e_bl, ↓e_andT, ↓e_orT, ↓e_notT, ↓e_andV, ↓e_orV, ↓e_notV, ↓e_ifE, ↓e_tru, ↓e_slice, ↓e_noPart, ↓e_part, ↓e_partV, ↓e_bm, ↓e_bm0, ↓e_ty_lst, ↓e_ty_str, ↓e_next, ↓e_seq, ↓e_break, ↓e_cont, ↓e_drop, ↓e_ret, ↓e_retN, ↓e_ifS, ↓e_asg, ↓e_gname, ↓e_put0, ↓e_putS, ↓e_aug, ↓e_gsub, ↓e_gtup2, ↓e_I, ↓e_Ic, ↓e_add, ↓e_addS, ↓e_addL, ↓e_addT, ↓e_mul, ↓e_eqI, ↓e_eqS, ↓e_eqB, ↓e_ix_lst, ↓e_ix_tup, ↓e_at0, ↓e_at1, ↓e_at2, ↓e_at3, ↓e_sa0, ↓e_sa1, ↓e_sa2, ↓e_sa3, ↓e_len_lst, ↓e_len_tup, ↓e_len_str, ↓e_abs, ↓e_int, ↓e_str, ↓e_ilst, ↓e_il, ↓e_irl, ↓e_irng1, ↓e_irV, ↓e_irng2, ↓e_irV2, ↓e_yes, ↓u_frzV, ↓u_ty, ↓u_setL, ↓u_ix, ↓u_len, ↓u_append, ↓u_pop, ↓u_iref, ↓e_isi, ↓e_strS, ↓e_dnew, ↓e_dget, ↓e_dput, ↓e_sc, ↓e_dcN, ↓e_rank, ↓e_inLN, ↓e_izipR, ↓e_ienum, ↓e_while, ↓mupd_mupd, ↓e_for, ↓e_lc, ↓e_lcM, ↓e_wipe, ↓e_wipe0, eq_self_iff_true, true_and, List.set_cons_zero, List.set_cons_succ, id_eq, ↓reduceIte, Bool.false_eq_true, Bool.not_true, Bool.not_false])
      rw [List.length_map, Int.toNat_natCast]
      refine ⟨by omega, by omega, ?_⟩
      refine for_typed (List.range rows.length) (fun i ρ M' => ∃ o4 : Option D, ρ = [some (.lst (rows.map enR)), some (.ref t), some (.lst (enM rows.length (eqR ns))), some (.int a), o4] ∧ M' = M1) ⟨_, rfl, rfl⟩ (fun _ _ _ _ _ => trivial) (fun i0 b ρ M2 hx hW => ?_) (fun ρ M2 hW => ?_)
      · obtain ⟨o4, rfl, rfl⟩ := hW
        obtain ⟨rfl, hb⟩ := range_get hx
        (try simp only [↓e_var0, ↓e_varS, ↓e_C, ↓e_op, ↓e_un, ↓e_cb, ↓e_nil, ↓e_cons, ↓e_tup, ↓e_lst, ↓e_lstM, ↓e_frz, ↓e_B, ↓e_bl, ↓e_andT, ↓e_orT, ↓e_notT, ↓e_andV, ↓e_orV, ↓e_notV, ↓e_ifE, ↓e_tru, ↓e_slice, ↓e_noPart, ↓e_part, ↓e_partV, ↓e_bm, ↓e_bm0, ↓e_ty_lst, ↓e_ty_str, ↓e_next, ↓e_seq, ↓e_break, ↓e_cont, ↓e_drop, ↓e_ret, ↓e_retN, ↓e_ifS, ↓e_asg, ↓e_gname, ↓e_put0, ↓e_putS, ↓e_aug, ↓e_gsub, ↓e_gtup2, ↓e_I, ↓e_Ic, ↓e_add, ↓e_addS, ↓e_addL, ↓e_addT, ↓e_mul, ↓e_eqI, ↓e_eqS, ↓e_eqB, ↓e_ix_lst, ↓e_ix_tup, ↓e_at0, ↓e_at1, ↓e_at2, ↓e_at3, ↓e_sa0, ↓e_sa1, ↓e_sa2, ↓e_sa3, ↓e_len_lst, ↓e_len_tup, ↓e_len_str, ↓e_abs, ↓e_int, ↓e_str, ↓e_ilst, ↓e_il, ↓e_irl, ↓e_irng1, ↓e_irV, ↓e_irng2, ↓e_irV2, ↓e_yes, ↓u_frzV, ↓u_ty, ↓u_setL, ↓u_ix, ↓u_len, ↓u_append, ↓u_pop, ↓u_iref, ↓e_isi, ↓e_strS, ↓e_dnew, ↓e_dget, ↓e_dput, ↓e_sc, ↓e_dcN, ↓e_rank, ↓e_inLN, ↓e_izipR, ↓e_ienum, ↓e_while, ↓mupd_mupd, ↓e_for, ↓e_lc, ↓e_lcM, ↓e_wipe, ↓e_wipe0, ↓e_frzV mt, ↓e_ty_ref mt, ↓e_setL mt, ↓e_ix_ref mt, ↓e_len_ref mt, ↓e_append mt, ↓e_pop mt, ↓e_iref mt, eq_self_iff_true, true_and, List.set_cons_zero, List.set_cons_succ, id_eq, ↓reduceIte, Bool.false_eq_true, Bool.not_true, Bool.not_false])
        rw [at_map (nums_at (by rw [nl]; exact ha))]
        (try simp only [↓e_var0, ↓e_varS, ↓e_C, ↓e_op, ↓e_un, ↓e_cb, ↓e_nil, ↓e_cons, ↓e_tup, ↓e_lst, ↓e_lstM, ↓e_frz, ↓e_B, ↓e_bl, ↓e_andT, ↓e_orT, ↓e_notT, ↓e_andV, ↓e_orV, ↓e_notV, ↓e_ifE, ↓e_tru, ↓e_slice, ↓e_noPart, ↓e_part, ↓e_partV, ↓e_bm, ↓e_bm0, ↓e_ty_lst, ↓e_ty_str, ↓e_next, ↓e_seq, ↓e_break, ↓e_cont, ↓e_drop, ↓e_ret, ↓e_retN, ↓e_ifS, ↓e_asg, ↓e_gname, ↓e_put0, ↓e_putS, ↓e_aug, ↓e_gsub, ↓e_gtup2, ↓e_I, ↓e_Ic, ↓e_add, ↓e_addS, ↓e_addL, ↓e_addT, ↓e_mul, ↓e_eqI, ↓e_eqS, ↓e_eqB, ↓e_ix_lst, ↓e_ix_tup, ↓e_at0, ↓e_at1, ↓e_at2, ↓e_at3, ↓e_sa0, ↓e_sa1, ↓e_sa2, ↓e_sa3, ↓e_len_lst, ↓e_len_tup, ↓e_len_str, ↓e_abs, ↓e_int, ↓e_str, ↓e_ilst, ↓e_il, ↓e_irl, ↓e_irng1, ↓e_irV, ↓e_irng2, ↓e_irV2, ↓e_yes, ↓u_frzV, ↓u_ty, ↓u_setL, ↓u_ix, ↓u_len, ↓u_append, ↓u_pop, ↓u_iref, ↓e_isi, ↓e_strS, ↓e_dnew, ↓e_dget, ↓e_dput, ↓e_sc, ↓e_dcN, ↓e_rank, ↓e_inLN, ↓e_izipR, ↓e_ienum, ↓e_while, ↓mupd_mupd, ↓e_for, ↓e_lc, ↓e_lcM, ↓e_wipe, ↓e_wipe0, ↓e_frzV mt, ↓e_ty_ref mt, ↓e_setL mt, ↓e_ix_ref mt, ↓e_len_ref mt, ↓e_append mt, ↓e_pop mt, ↓e_iref mt, eq_self_iff_true, true_and, List.set_cons_zero, List.set_cons_succ, id_eq, ↓reduceIte, Bool.false_eq_true, Bool.not_true, Bool.not_false])
        rw [at_map (nums_at (by rw [nl]; exact hb))]
        (try simp only [↓e_var0, ↓e_varS, ↓e_C, ↓e_op, ↓e_un, ↓e_cb, ↓e_nil, ↓e_cons, ↓e_tup, ↓e_lst, ↓e_lstM, ↓e_frz, ↓e_B, ↓e_bl, ↓e_andT, ↓e_orT, ↓e_notT, ↓e_andV, ↓e_orV, ↓e_notV, ↓e_ifE, ↓e_tru, ↓e_slice, ↓e_noPart, ↓e_part, ↓e_partV, ↓e_bm, ↓e_bm0, ↓e_ty_lst, ↓e_ty_str, ↓e_next, ↓e_seq, ↓e_break, ↓e_cont, ↓e_drop, ↓e_ret, ↓e_retN, ↓e_ifS, ↓e_asg, ↓e_gname, ↓e_put0, ↓e_putS, ↓e_aug, ↓e_gsub, ↓e_gtup2, ↓e_I, ↓e_Ic, ↓e_add, ↓e_addS, ↓e_addL, ↓e_addT, ↓e_mul, ↓e_eqI, ↓e_eqS, ↓e_eqB, ↓e_ix_lst, ↓e_ix_tup, ↓e_at0, ↓e_at1, ↓e_at2, ↓e_at3, ↓e_sa0, ↓e_sa1, ↓e_sa2, ↓e_sa3, ↓e_len_lst, ↓e_len_tup, ↓e_len_str, ↓e_abs, ↓e_int, ↓e_str, ↓e_ilst, ↓e_il, ↓e_irl, ↓e_irng1, ↓e_irV, ↓e_irng2, ↓e_irV2, ↓e_yes, ↓u_frzV, ↓u_ty, ↓u_setL, ↓u_ix, ↓u_len, ↓u_append, ↓u_pop, ↓u_iref, ↓e_isi, ↓e_strS, ↓e_dnew, ↓e_dget, ↓e_dput, ↓e_sc, ↓e_dcN, ↓e_rank, ↓e_inLN, ↓e_izipR, ↓e_ienum, ↓e_while, ↓mupd_mupd, ↓e_for, ↓e_lc, ↓e_lcM, ↓e_wipe, ↓e_wipe0, ↓e_frzV mt, ↓e_ty_ref mt, ↓e_setL mt, ↓e_ix_ref mt, ↓e_len_ref mt, ↓e_append mt, ↓e_pop mt, ↓e_iref mt, eq_self_iff_true, true_and, List.set_cons_zero, List.set_cons_succ, id_eq, ↓reduceIte, Bool.false_eq_true, Bool.not_true, Bool.not_false])
        rw [at_map (List.getElem?_range ha)]
        (try simp only [↓e_var0, ↓e_varS, ↓e_C, ↓e_op, ↓e_un, ↓e_cb, ↓e_nil, ↓e_cons, ↓e_tup, ↓e_lst, ↓e_lstM, ↓e_frz, ↓e_B, ↓e_bl, ↓e_andT, ↓e_orT, ↓e_notT, ↓e_andV, ↓e_orV, ↓e_notV, ↓e_ifE, ↓e_tru, ↓e_slice, ↓e_noPart, ↓e_part, ↓e_partV, ↓e_bm, ↓e_bm0, ↓e_ty_lst, ↓e_ty_str, ↓e_next, ↓e_seq, ↓e_break, ↓e_cont, ↓e_drop, ↓e_ret, ↓e_retN, ↓e_ifS, ↓e_asg, ↓e_gname, ↓e_put0, ↓e_putS, ↓e_aug, ↓e_gsub, ↓e_gtup2, ↓e_I, ↓e_Ic, ↓e_add, ↓e_addS, ↓e_addL, ↓e_addT, ↓e_mul, ↓e_eqI, ↓e_eqS, ↓e_eqB, ↓e_ix_lst, ↓e_ix_tup, ↓e_at0, ↓e_at1, ↓e_at2, ↓e_at3, ↓e_sa0, ↓e_sa1, ↓e_sa2, ↓e_sa3, ↓e_len_lst, ↓e_len_tup, ↓e_len_str, ↓e_abs, ↓e_int, ↓e_str, ↓e_ilst, ↓e_il, ↓e_irl, ↓e_irng1, ↓e_irV, ↓e_irng2, ↓e_irV2, ↓e_yes, ↓u_frzV, ↓u_ty, ↓u_setL, ↓u_ix, ↓u_len, ↓u_append, ↓u_pop, ↓u_iref, ↓e_isi, ↓e_strS, ↓e_dnew, ↓e_dget, ↓e_dput, ↓e_sc, ↓e_dcN, ↓e_rank, ↓e_inLN, ↓e_izipR, ↓e_ienum, ↓e_while, ↓mupd_mupd, ↓e_for, ↓e_lc, ↓e_lcM, ↓e_wipe, ↓e_wipe0, ↓e_frzV mt, ↓e_ty_ref mt, ↓e_setL mt, ↓e_ix_ref mt, ↓e_len_ref mt, ↓e_append mt, ↓e_pop mt, ↓e_iref mt, eq_self_iff_true, true_and, List.set_cons_zero, List.set_cons_succ, id_eq, ↓reduceIte, Bool.false_eq_true, Bool.not_true, Bool.not_false])
        rw [Int.toNat_natCast]
        refine ⟨by omega, ?_⟩
        have e : decide (((at0 ns a : Nat) : Int) = (at0 ns b : Nat)) = decide (Builtin.bitAnd ((bm (eqR ns a) rows.length : Nat) / 2 ^ b) 1 = 1) := by
          rw [Bool.eq_iff_iff, decide_eq_true_eq, decide_eq_true_eq, bm_one (f := eqR ns a) hb]
          unfold eqR
          rw [decide_eq_true_eq]
          omega
        rw [e, if_neg (by simp)]
        exact ⟨_, rfl, trivial⟩
      · obtain ⟨o4, rfl, rfl⟩ := hW
        exact ⟨_, _, rfl, rfl⟩
    · obtain ⟨o3, o4, rfl, rfl⟩ := hW
      (try simp only [↓e_var0, ↓e_varS, ↓e_C, ↓e_op, ↓e_un, ↓e_cb, ↓e_nil, ↓e_cons, ↓e_tup, ↓e_lst, ↓e_lstM, ↓e_frz, ↓e_B, ↓e_bl, ↓e_andT, ↓e_orT, ↓e_notT, ↓e_andV, ↓e_orV, ↓e_notV, ↓e_ifE, ↓e_tru, ↓e_slice, ↓e_noPart, ↓e_part, ↓e_partV, ↓e_bm, ↓e_bm0, ↓e_ty_lst, ↓e_ty_str, ↓e_next, ↓e_seq, ↓e_break, ↓e_cont, ↓e_drop, ↓e_ret, ↓e_retN, ↓e_ifS, ↓e_asg, ↓e_gname, ↓e_put0, ↓e_putS, ↓e_aug, ↓e_gsub, ↓e_gtup2, ↓e_I, ↓e_Ic, ↓e_add, ↓e_addS, ↓e_addL, ↓e_addT, ↓e_mul, ↓e_eqI, ↓e_eqS, ↓e_eqB, ↓e_ix_lst, ↓e_ix_tup, ↓e_at0, ↓e_at1, ↓e_at2, ↓e_at3, ↓e_sa0, ↓e_sa1, ↓e_sa2, ↓e_sa3, ↓e_len_lst, ↓e_len_tup, ↓e_len_str, ↓e_abs, ↓e_int, ↓e_str, ↓e_ilst, ↓e_il, ↓e_irl, ↓e_irng1, ↓e_irV, ↓e_irng2, ↓e_irV2, ↓e_yes, ↓u_frzV, ↓u_ty, ↓u_setL, ↓u_ix, ↓u_len, ↓u_append, ↓u_pop, ↓u_iref, ↓e_isi, ↓e_strS, ↓e_dnew, ↓e_dget, ↓e_dput, ↓e_sc, ↓e_dcN, ↓e_rank, ↓e_inLN, ↓e_izipR, ↓e_ienum, ↓e_while, ↓mupd_mupd, ↓e_for, ↓e_lc, ↓e_lcM, ↓e_wipe, ↓e_wipe0, eq_self_iff_true, true_and, List.set_cons_zero, List.set_cons_succ, id_eq, ↓reduceIte, Bool.false_eq_true, Bool.not_true, Bool.not_false])
      exact h
theorem ok_ints {f : Addr} {fd : FuncData} {k : Nat} (F : Fun K "_law_ints" "_law_ints" s_law_ints f fd) (B : Bt mg) : FnOk P w K mg base CX0 (k + 1) f fd p_law_ints (spOf K spInts) := by
  refine dfn F sc_law_ints (fun ds M R h => ?_) (fun cdv A outer s H E ds M R hr h => ?_)
  · obtain ⟨ns, t, rfl, _⟩ := h
    rfl
  · have nd := sc_law_ints.nd
    refine ⟨_, (dss_cons (ds_if (dt_w (dw_or (dt_not (dt_val (d_isinst_list rfl B.list rfl B.isinstance (dv 0)))) (dw_or1 (dt_ne hr (d_len rfl B.len (da_cons (dv 0) da_nil)) (d_len rfl B.len (da_cons (dv 1) da_nil))))))
(dss_one (ds_ret d_bl))
dss_nil)
(dss_cons (ds_for PassesOwn.never rfl (di_lst (dv 0)) (dg_name (i := 2) nd rfl (.inl rfl))
(dss_one (ds_if (dt_w (dw_or (dt_not (dt_val (d_isinst_int rfl B.int rfl B.isinstance (dv 2)))) (dw_or1 (dt_val (d_isinst_bool rfl B.bool rfl B.isinstance (dv 2))))))
(dss_one (ds_ret d_bl))
dss_nil)))
(dss_one (ds_ret (d_eq hr (dv 0) (dv 1)))))), ?_⟩
    obtain ⟨ns, t, rfl, hl, mt, h⟩ := h
    simp only [dstart, List.map, List.length, List.replicate, List.cons_append, List.nil_append]
    (try simp only [↓e_var0, ↓e_varS, ↓e_C, ↓e_op, ↓e_un, ↓e_cb, ↓e_nil, ↓e_cons, ↓e_tup, ↓e_lst, ↓e_lstM, ↓e_frz, ↓e_B, ↓e_bl, ↓e_andT, ↓e_orT, ↓e_notT, ↓e_andV, ↓e_orV, ↓e_notV, ↓e_ifE, ↓e_tru, ↓e_slice, ↓e_noPart, ↓e_part, ↓e_partV, ↓e_bm, ↓e_bm0, ↓e_ty_lst, ↓e_ty_str, ↓e_next, ↓e_seq, ↓e_break, ↓e_cont, ↓e_drop, ↓e_ret, ↓e_retN, ↓e_ifS, ↓e_asg, ↓e_gname, ↓e_put0, ↓e_putS, ↓e_aug, ↓e_gsub, ↓e_gtup2, ↓e_I, ↓e_Ic, ↓e_add, ↓e_addS, ↓e_addL, ↓e_addT, ↓e_mul, ↓e_eqI, ↓e_eqS, ↓e_eqB, ↓e_ix_lst, ↓e_ix_tup, ↓e_at0, ↓e_at1, ↓e_at2, ↓e_at3, ↓e_sa0, ↓e_sa1, ↓e_sa2, ↓e_sa3, ↓e_len_lst, ↓e_len_tup, ↓e_len_str, ↓e_abs, ↓e_int, ↓e_str, ↓e_ilst, ↓e_il, ↓e_irl, ↓e_irng1, ↓e_irV, ↓e_irng2, ↓e_irV2, ↓e_yes, ↓u_frzV, ↓u_ty, ↓u_setL, ↓u_ix, ↓u_len, ↓u_append, ↓u_pop, ↓u_iref, ↓e_isi, ↓e_strS, ↓e_dnew, ↓e_dget, ↓e_dput, ↓e_sc, ↓e_dcN, ↓e_rank, ↓e_inLN, ↓e_izipR, ↓e_ienum, ↓e_while, ↓mupd_mupd, ↓e_for, ↓e_lc, ↓e_lcM, ↓e_wipe, ↓e_wipe0, ↓e_frzV mt, ↓e_ty_ref mt, ↓e_setL mt, ↓e_ix_ref mt, ↓e_len_ref mt, ↓e_append mt, ↓e_pop mt, ↓e_iref mt, eq_self_iff_true, true_and, List.set_cons_zero, List.set_cons_succ, id_eq, ↓reduceIte, Bool.false_eq_true, Bool.not_true, Bool.not_false])
    refine ⟨"list", by unfold dtyp; simp only [mt], ?_⟩
    rw [if_neg (by decide), if_neg (by simp)]
    refine for_typed ns (fun i ρ M' => ∃ o2 : Option D, ρ = [some (.ref t), some (enN ns), o2] ∧ M' = M) ⟨_, rfl, rfl⟩ (fun _ _ _ _ h => by obtain ⟨_, _, rfl⟩ := h; exact mt) (fun i0 n ρ M1 hx hW => ?_) (fun ρ M1 hW => ?_)
    · obtain ⟨o2, rfl, rfl⟩ := hW
      (try simp only [↓e_var0, ↓e_varS, ↓e_C, ↓e_op, ↓e_un, ↓e_cb, ↓e_nil, ↓e_cons, ↓e_tup, ↓e_lst, ↓e_lstM, ↓e_frz, ↓e_B, ↓e_bl, ↓e_andT, ↓e_orT, ↓e_notT, ↓e_andV, ↓e_orV, ↓e_notV, ↓e_ifE, ↓e_tru, ↓e_slice, ↓e_noPart, ↓e_part, ↓e_partV, ↓e_bm, ↓e_bm0, ↓e_ty_lst, ↓e_ty_str, ↓e_next, ↓e_seq, ↓e_break, ↓e_cont, ↓e_drop, ↓e_ret, ↓e_retN, ↓e_ifS, ↓e_asg, ↓e_gname, ↓e_put0, ↓e_putS, ↓e_aug, ↓e_gsub, ↓e_gtup2, ↓e_I, ↓e_Ic, ↓e_add, ↓e_addS, ↓e_addL, ↓e_addT, ↓e_mul, ↓e_eqI, ↓e_eqS, ↓e_eqB, ↓e_ix_lst, ↓e_ix_tup, ↓e_at0, ↓e_at1, ↓e_at2, ↓e_at3, ↓e_sa0, ↓e_sa1, ↓e_sa2, ↓e_sa3, ↓e_len_lst, ↓e_len_tup, ↓e_len_str, ↓e_abs, ↓e_int, ↓e_str, ↓e_ilst, ↓e_il, ↓e_irl, ↓e_irng1, ↓e_irV, ↓e_irng2, ↓e_irV2, ↓e_yes, ↓u_frzV, ↓u_ty, ↓u_setL, ↓u_ix, ↓u_len, ↓u_append, ↓u_pop, ↓u_iref, ↓e_isi, ↓e_strS, ↓e_dnew, ↓e_dget, ↓e_dput, ↓e_sc, ↓e_dcN, ↓e_rank, ↓e_inLN, ↓e_izipR, ↓e_ienum, ↓e_while, ↓mupd_mupd, ↓e_for, ↓e_lc, ↓e_lcM, ↓e_wipe, ↓e_wipe0, eq_self_iff_true, true_and, List.set_cons_zero, List.set_cons_succ, id_eq, ↓reduceIte, Bool.false_eq_true, Bool.not_true, Bool.not_false])
      refine ⟨"int", rfl, ?_⟩
      rw [if_neg (by decide)]
      refine ⟨"int", rfl, ?_⟩
      rw [if_neg (by decide)]
      exact ⟨_, rfl, trivial⟩
    · obtain ⟨o2, rfl, rfl⟩ := hW
      (try simp only [↓e_var0, ↓e_varS, ↓e_C, ↓e_op, ↓e_un, ↓e_cb, ↓e_nil, ↓e_cons, ↓e_tup, ↓e_lst, ↓e_lstM, ↓e_frz, ↓e_B, ↓e_bl, ↓e_andT, ↓e_orT, ↓e_notT, ↓e_andV, ↓e_orV, ↓e_notV, ↓e_ifE, ↓e_tru, ↓e_slice, ↓e_noPart, ↓e_part, ↓e_partV, ↓e_bm, ↓e_bm0, ↓e_ty_lst, ↓e_ty_str, ↓e_next, ↓e_seq, ↓e_break, ↓e_cont, ↓e_drop, ↓e_ret, ↓e_retN, ↓e_ifS, ↓e_asg, ↓e_gname, ↓e_put0, ↓e_putS, ↓e_aug, ↓e_gsub, ↓e_gtup2, ↓e_I, ↓e_Ic, ↓e_add, ↓e_addS, ↓e_addL, ↓e_addT, ↓e_mul, ↓e_eqI, ↓e_eqS, ↓e_eqB, ↓e_ix_lst, ↓e_ix_tup, ↓e_at0, ↓e_at1, ↓e_at2, ↓e_at3, ↓e_sa0, ↓e_sa1, ↓e_sa2, ↓e_sa3, ↓e_len_lst, ↓e_len_tup, ↓e_len_str, ↓e_abs, ↓e_int, ↓e_str, ↓e_ilst, ↓e_il, ↓e_irl, ↓e_irng1, ↓e_irV, ↓e_irng2, ↓e_irV2, ↓e_yes, ↓u_frzV, ↓u_ty, ↓u_setL, ↓u_ix, ↓u_len, ↓u_append, ↓u_pop, ↓u_iref, ↓e_isi, ↓e_strS, ↓e_dnew, ↓e_dget, ↓e_dput, ↓e_sc, ↓e_dcN, ↓e_rank, ↓e_inLN, ↓e_izipR, ↓e_ienum, ↓e_while, ↓mupd_mupd, ↓e_for, ↓e_lc, ↓e_lcM, ↓e_wipe, ↓e_wipe0, eq_self_iff_true, true_and, List.set_cons_zero, List.set_cons_succ, id_eq, ↓reduceIte, Bool.false_eq_true, Bool.not_true, Bool.not_false])
      refine eq_ints (ns := ns.map fun n : Nat => (n : Int)) (ms := ns.map fun n : Nat => (n : Int)) (by rw [rs_ref mt, nats_ints]) (by rw [rs_lst, nats_ints]) rfl ?_
      rw [decide_eq_true rfl]
      exact h
theorem ok_pair {f : Addr} {fd : FuncData} {k : Nat} (F : Fun K "_law_pair" "_law_pair" s_law_pair f fd) (B : Bt mg) (c__law_draw : CalX P w K mg base "_law_draw" 1 spDraw) : FnOk P w K mg base CX0 (1 + 1) f fd p_law_pair (spOf K spPair) := by
  refine dfn F sc_law_pair (fun ds M R h => ?_) (fun cdv A outer s H E ds M R hr h => ?_)
  · obtain ⟨a, M0, rows, ns, rfl, _⟩ := h
    rfl
  · have nd := sc_law_pair.nd
    refine ⟨_, (dss_cons (ds_set (i := 3) nd rfl (.inr rfl) (d_callX c__law_draw hr rfl (da_cons (dv 0) (da_cons (d_len rfl B.len (da_cons (dv 1) da_nil)) da_nil))))
(dss_cons (ds_set (i := 4) nd rfl (.inl rfl) (d_callX c__law_draw hr rfl (da_cons (dv 0) (da_cons d_int da_nil))))
(dss_cons (ds_lc (lfg_name (i := 6) (by decide)) (ps_setLc (i := 5) (own := [("k", 6)]) rfl nd rfl rfl (sw_true rfl rfl rfl (by decide +kernel)) (di_rng1 (pi_range1 rfl B.range (da_cons (d_len rfl B.len (da_cons (dv 1) da_nil)) da_nil))) (blkOk_by (own := [("k", 6)]) (N := n_law_pair) (by rfl)) (fun _ _ _ _ _ => (pg_name (i := 6) nd rfl (.inl rfl))) (fun _ _ _ _ _ => dts_nil) (fun _ _ _ _ _ => (dv 6))))
(dss_cons (ds_if (dt_eq hr (dv 4) d_int)
(dss_one (ds_lc (lfg_name (i := 6) (by decide)) (ps_setLc (i := 5) (own := [("k", 6)]) rfl nd rfl rfl (sw_true rfl rfl rfl (by decide +kernel)) (di_lst (dv 5)) (blkOk_by (own := [("k", 6)]) (N := n_law_pair) (by rfl)) (fun _ _ _ _ _ => (pg_name (i := 6) nd rfl (.inl rfl))) (fun _ _ _ _ _ => (dts_one (dt_eq hr (d_sub_ix (dv 2) (dv 6)) (d_sub_ix (dv 2) (dv 3))))) (fun _ _ _ _ _ => (dv 6)))))
(dss_one (ds_if (dt_eq hr (dv 4) d_int)
(dss_one (ds_lc (lfg_name (i := 6) (by decide)) (ps_setLc (i := 5) (own := [("k", 6)]) rfl nd rfl rfl (sw_true rfl rfl rfl (by decide +kernel)) (di_lst (dv 5)) (blkOk_by (own := [("k", 6)]) (N := n_law_pair) (by rfl)) (fun _ _ _ _ _ => (pg_name (i := 6) nd rfl (.inl rfl))) (fun _ _ _ _ _ => (dts_one (dt_in hr (d_sub_ix (dv 2) (dv 3)) (d_lc (lfg_name (i := 7) (by decide)) (pe_lc (own := [("held", 7)]) rfl nd (di_lst (d_sub_ix (dv 1) (dv 6))) (blkOk_by (own := [("held", 7)]) (N := n_law_pair) (by rfl)) (fun _ _ _ _ _ => (pg_name (i := 7) nd rfl (.inl rfl))) (fun _ _ _ _ _ => dts_nil) (fun _ _ _ _ _ => (d_sub_ix (dv 2) (dv 7)))))))) (fun _ _ _ _ _ => (dv 6)))))
dss_nil)))
(dss_cons (ds_if (dt_eq hr (d_len rfl B.len (da_cons (dv 5) da_nil)) d_int)
(dss_one (ds_ret (d_lst (da_cons (dv 3) (da_cons (dv 3) da_nil)))))
dss_nil)
(dss_one (ds_ret (d_lst (da_cons (dv 3) (da_cons (d_sub_ix (dv 5) (d_callX c__law_draw hr rfl (da_cons (dv 0) (da_cons (d_len rfl B.len (da_cons (dv 5) da_nil)) da_nil)))) da_nil)))))))))), ?_⟩
    obtain ⟨a, M0, rows, ns, rfl, hR, dr, lk, h⟩ := h
    simp only [dstart, List.map, List.length, List.replicate, List.cons_append, List.nil_append, enD]
    have nl := lk.len
    have sm := dr.sm
    have pos := dr.pos
    (try simp only [↓e_var0, ↓e_varS, ↓e_C, ↓e_op, ↓e_un, ↓e_cb, ↓e_nil, ↓e_cons, ↓e_tup, ↓e_lst, ↓e_lstM, ↓e_frz, ↓e_B, ↓e_bl, ↓e_andT, ↓e_orT, ↓e_notT, ↓e_andV, ↓e_orV, ↓e_notV, ↓e_ifE, ↓e_tru, ↓e_slice, ↓e_noPart, ↓e_part, ↓e_partV, ↓e_bm, ↓e_bm0, ↓e_ty_lst, ↓e_ty_str, ↓e_next, ↓e_seq, ↓e_break, ↓e_cont, ↓e_drop, ↓e_ret, ↓e_retN, ↓e_ifS, ↓e_asg, ↓e_gname, ↓e_put0, ↓e_putS, ↓e_aug, ↓e_gsub, ↓e_gtup2, ↓e_I, ↓e_Ic, ↓e_add, ↓e_addS, ↓e_addL, ↓e_addT, ↓e_mul, ↓e_eqI, ↓e_eqS, ↓e_eqB, ↓e_ix_lst, ↓e_ix_tup, ↓e_at0, ↓e_at1, ↓e_at2, ↓e_at3, ↓e_sa0, ↓e_sa1, ↓e_sa2, ↓e_sa3, ↓e_len_lst, ↓e_len_tup, ↓e_len_str, ↓e_abs, ↓e_int, ↓e_str, ↓e_ilst, ↓e_il, ↓e_irl, ↓e_irng1, ↓e_irV, ↓e_irng2, ↓e_irV2, ↓e_yes, ↓u_frzV, ↓u_ty, ↓u_setL, ↓u_ix, ↓u_len, ↓u_append, ↓u_pop, ↓u_iref, ↓e_isi, ↓e_strS, ↓e_dnew, ↓e_dget, ↓e_dput, ↓e_sc, ↓e_dcN, ↓e_rank, ↓e_inLN, ↓e_izipR, ↓e_ienum, ↓e_while, ↓mupd_mupd, ↓e_for, ↓e_lc, ↓e_lcM, ↓e_wipe, ↓e_wipe0, eq_self_iff_true, true_and, List.set_cons_zero, List.set_cons_succ, id_eq, ↓reduceIte, Bool.false_eq_true, Bool.not_true, Bool.not_false])
    rw [List.length_map]
    refine ⟨a, rows.length, M0, rfl, by omega, by omega, hR, fun n1 M1 l1 u1 R1 => ?_⟩
    obtain ⟨i, rfl⟩ : ∃ i : Nat, n1 = (i : Int) := ⟨n1.toNat, by omega⟩
    have hi : i < rows.length := by omega
    (try simp only [↓e_var0, ↓e_varS, ↓e_C, ↓e_op, ↓e_un, ↓e_cb, ↓e_nil, ↓e_cons, ↓e_tup, ↓e_lst, ↓e_lstM, ↓e_frz, ↓e_B, ↓e_bl, ↓e_andT, ↓e_orT, ↓e_notT, ↓e_andV, ↓e_orV, ↓e_notV, ↓e_ifE, ↓e_tru, ↓e_slice, ↓e_noPart, ↓e_part, ↓e_partV, ↓e_bm, ↓e_bm0, ↓e_ty_lst, ↓e_ty_str, ↓e_next, ↓e_seq, ↓e_break, ↓e_cont, ↓e_drop, ↓e_ret, ↓e_retN, ↓e_ifS, ↓e_asg, ↓e_gname, ↓e_put0, ↓e_putS, ↓e_aug, ↓e_gsub, ↓e_gtup2, ↓e_I, ↓e_Ic, ↓e_add, ↓e_addS, ↓e_addL, ↓e_addT, ↓e_mul, ↓e_eqI, ↓e_eqS, ↓e_eqB, ↓e_ix_lst, ↓e_ix_tup, ↓e_at0, ↓e_at1, ↓e_at2, ↓e_at3, ↓e_sa0, ↓e_sa1, ↓e_sa2, ↓e_sa3, ↓e_len_lst, ↓e_len_tup, ↓e_len_str, ↓e_abs, ↓e_int, ↓e_str, ↓e_ilst, ↓e_il, ↓e_irl, ↓e_irng1, ↓e_irV, ↓e_irng2, ↓e_irV2, ↓e_yes, ↓u_frzV, ↓u_ty, ↓u_setL, ↓u_ix, ↓u_len, ↓u_append, ↓u_pop, ↓u_iref, ↓e_isi, ↓e_strS, ↓e_dnew, ↓e_dget, ↓e_dput, ↓e_sc, ↓e_dcN, ↓e_rank, ↓e_inLN, ↓e_izipR, ↓e_ienum, ↓e_while, ↓mupd_mupd, ↓e_for, ↓e_lc, ↓e_lcM, ↓e_wipe, ↓e_wipe0, eq_self_iff_true, true_and, List.set_cons_zero, List.set_cons_succ, id_eq, ↓reduceIte, Bool.false_eq_true, Bool.not_true, Bool.not_false])
    refine ⟨a, 3, M0, rfl, by decide, by decide, R1, fun n2 M2 l2 u2 R2 => ?_⟩
    rw [Int.toNat_natCast]
    refine ⟨by omega, by omega, ?_⟩
    have fin : ∀ (l : List Nat) (Mx : MS), (∀ z ∈ l, z < rows.length) → l.length ≤ rows.length → RnAt M0 a Mx → (if decide ((((l.map fun k : Nat => D.int k).length : Nat) : Int) = 0) = true then [D.int i, D.int i].length ≤ sizeLine ∧ R (D.lst [D.int i, D.int i]) Mx
        else spDraw [D.ref a, D.int (((l.map fun k : Nat => D.int k).length : Nat) : Int)] Mx fun y M2 => dIx (D.lst (l.map fun k : Nat => D.int k)) y M2 fun x M1 => [D.int i, x].length ≤ sizeLine ∧ R (D.lst [D.int i, x]) M1) := fun l Mx hl hll Rx => by
      rw [List.length_map]
      split
      · exact ⟨small_line (by simp), h i i Mx hi hi Rx⟩
      · rename_i c
        have c' : ¬ ((l.length : Int) = 0) := by simpa using c
        refine ⟨a, l.length, M0, rfl, by omega, by omega, Rx, fun n3 M3 l3 u3 R3 => ?_⟩
        obtain ⟨j, rfl⟩ : ∃ j : Nat, n3 = (j : Int) := ⟨n3.toNat, by omega⟩
        have hj : j < l.length := by omega
        (try simp only [↓e_var0, ↓e_varS, ↓e_C, ↓e_op, ↓e_un, ↓e_cb, ↓e_nil, ↓e_cons, ↓e_tup, ↓e_lst, ↓e_lstM, ↓e_frz, ↓e_B, ↓e_bl, ↓e_andT, ↓e_orT, ↓e_notT, ↓e_andV, ↓e_orV, ↓e_notV, ↓e_ifE, ↓e_tru, ↓e_slice, ↓e_noPart, ↓e_part, ↓e_partV, ↓e_bm, ↓e_bm0, ↓e_ty_lst, ↓e_ty_str, ↓e_next, ↓e_seq, ↓e_break, ↓e_cont, ↓e_drop, ↓e_ret, ↓e_retN, ↓e_ifS, ↓e_asg, ↓e_gname, ↓e_put0, ↓e_putS, ↓e_aug, ↓e_gsub, ↓e_gtup2, ↓e_I, ↓e_Ic, ↓e_add, ↓e_addS, ↓e_addL, ↓e_addT, ↓e_mul, ↓e_eqI, ↓e_eqS, ↓e_eqB, ↓e_ix_lst, ↓e_ix_tup, ↓e_at0, ↓e_at1, ↓e_at2, ↓e_at3, ↓e_sa0, ↓e_sa1, ↓e_sa2, ↓e_sa3, ↓e_len_lst, ↓e_len_tup, ↓e_len_str, ↓e_abs, ↓e_int, ↓e_str, ↓e_ilst, ↓e_il, ↓e_irl, ↓e_irng1, ↓e_irV, ↓e_irng2, ↓e_irV2, ↓e_yes, ↓u_frzV, ↓u_ty, ↓u_setL, ↓u_ix, ↓u_len, ↓u_append, ↓u_pop, ↓u_iref, ↓e_isi, ↓e_strS, ↓e_dnew, ↓e_dget, ↓e_dput, ↓e_sc, ↓e_dcN, ↓e_rank, ↓e_inLN, ↓e_izipR, ↓e_ienum, ↓e_while, ↓mupd_mupd, ↓e_for, ↓e_lc, ↓e_lcM, ↓e_wipe, ↓e_wipe0, eq_self_iff_true, true_and, List.set_cons_zero, List.set_cons_succ, id_eq, ↓reduceIte, Bool.false_eq_true, Bool.not_true, Bool.not_false])
        rw [at_map (List.getElem?_eq_getElem hj)]
        exact ⟨small_line (by simp), h i l[j] M3 hi (hl _ (List.getElem_mem hj)) R3⟩
    have flt : ∀ (p : Nat → Bool), (∀ z ∈ (List.range rows.length).filter p, z < rows.length) ∧ ((List.range rows.length).filter p).length ≤ rows.length := fun p => ⟨fun z hz => List.mem_range.mp (List.mem_filter.mp hz).1, Nat.le_trans (List.length_filter_le _ _) (by rw [List.length_range]; exact Nat.le_refl _)⟩
    refine lc_typed1 (List.range rows.length) (fun k : Nat => D.int k) (small_line (by rw [List.length_range]; omega)) trivial (fun i2 k E' hk hE => ?_) ?_
    · (try simp only [↓e_var0, ↓e_varS, ↓e_C, ↓e_op, ↓e_un, ↓e_cb, ↓e_nil, ↓e_cons, ↓e_tup, ↓e_lst, ↓e_lstM, ↓e_frz, ↓e_B, ↓e_bl, ↓e_andT, ↓e_orT, ↓e_notT, ↓e_andV, ↓e_orV, ↓e_notV, ↓e_ifE, ↓e_tru, ↓e_slice, ↓e_noPart, ↓e_part, ↓e_partV, ↓e_bm, ↓e_bm0, ↓e_ty_lst, ↓e_ty_str, ↓e_next, ↓e_seq, ↓e_break, ↓e_cont, ↓e_drop, ↓e_ret, ↓e_retN, ↓e_ifS, ↓e_asg, ↓e_gname, ↓e_put0, ↓e_putS, ↓e_aug, ↓e_gsub, ↓e_gtup2, ↓e_I, ↓e_Ic, ↓e_add, ↓e_addS, ↓e_addL, ↓e_addT, ↓e_mul, ↓e_eqI, ↓e_eqS, ↓e_eqB, ↓e_ix_lst, ↓e_ix_tup, ↓e_at0, ↓e_at1, ↓e_at2, ↓e_at3, ↓e_sa0, ↓e_sa1, ↓e_sa2, ↓e_sa3, ↓e_len_lst, ↓e_len_tup, ↓e_len_str, ↓e_abs, ↓e_int, ↓e_str, ↓e_ilst, ↓e_il, ↓e_irl, ↓e_irng1, ↓e_irV, ↓e_irng2, ↓e_irV2, ↓e_yes, ↓u_frzV, ↓u_ty, ↓u_setL, ↓u_ix, ↓u_len, ↓u_append, ↓u_pop, ↓u_iref, ↓e_isi, ↓e_strS, ↓e_dnew, ↓e_dget, ↓e_dput, ↓e_sc, ↓e_dcN, ↓e_rank, ↓e_inLN, ↓e_izipR, ↓e_ienum, ↓e_while, ↓mupd_mupd, ↓e_for, ↓e_lc, ↓e_lcM, ↓e_wipe, ↓e_wipe0, eq_self_iff_true, true_and, List.set_cons_zero, List.set_cons_succ, id_eq, ↓reduceIte, Bool.false_eq_true, Bool.not_true, Bool.not_false])
      exact hE
    (try simp only [↓e_var0, ↓e_varS, ↓e_C, ↓e_op, ↓e_un, ↓e_cb, ↓e_nil, ↓e_cons, ↓e_tup, ↓e_lst, ↓e_lstM, ↓e_frz, ↓e_B, ↓e_bl, ↓e_andT, ↓e_orT, ↓e_notT, ↓e_andV, ↓e_orV, ↓e_notV, ↓e_ifE, ↓e_tru, ↓e_slice, ↓e_noPart, ↓e_part, ↓e_partV, ↓e_bm, ↓e_bm0, ↓e_ty_lst, ↓e_ty_str, ↓e_next, ↓e_seq, ↓e_break, ↓e_cont, ↓e_drop, ↓e_ret, ↓e_retN, ↓e_ifS, ↓e_asg, ↓e_gname, ↓e_put0, ↓e_putS, ↓e_aug, ↓e_gsub, ↓e_gtup2, ↓e_I, ↓e_Ic, ↓e_add, ↓e_addS, ↓e_addL, ↓e_addT, ↓e_mul, ↓e_eqI, ↓e_eqS, ↓e_eqB, ↓e_ix_lst, ↓e_ix_tup, ↓e_at0, ↓e_at1, ↓e_at2, ↓e_at3, ↓e_sa0, ↓e_sa1, ↓e_sa2, ↓e_sa3, ↓e_len_lst, ↓e_len_tup, ↓e_len_str, ↓e_abs, ↓e_int, ↓e_str, ↓e_ilst, ↓e_il, ↓e_irl, ↓e_irng1, ↓e_irV, ↓e_irng2, ↓e_irV2, ↓e_yes, ↓u_frzV, ↓u_ty, ↓u_setL, ↓u_ix, ↓u_len, ↓u_append, ↓u_pop, ↓u_iref, ↓e_isi, ↓e_strS, ↓e_dnew, ↓e_dget, ↓e_dput, ↓e_sc, ↓e_dcN, ↓e_rank, ↓e_inLN, ↓e_izipR, ↓e_ienum, ↓e_while, ↓mupd_mupd, ↓e_for, ↓e_lc, ↓e_lcM, ↓e_wipe, ↓e_wipe0, eq_self_iff_true, true_and, List.set_cons_zero, List.set_cons_succ, id_eq, ↓reduceIte, Bool.false_eq_true, Bool.not_true, Bool.not_false])
    split
    · refine lc_typed (List.range rows.length) (fun k => decide (at0 ns k = at0 ns i)) (fun k : Nat => D.int k) (small_line (by rw [List.length_range]; omega)) trivial (fun i2 k E' Nn hk h1 h2 => ?_) ?_
      · have hkl : k < rows.length := List.mem_range.mp (List.mem_of_getElem? hk)
        (try simp only [↓e_var0, ↓e_varS, ↓e_C, ↓e_op, ↓e_un, ↓e_cb, ↓e_nil, ↓e_cons, ↓e_tup, ↓e_lst, ↓e_lstM, ↓e_frz, ↓e_B, ↓e_bl, ↓e_andT, ↓e_orT, ↓e_notT, ↓e_andV, ↓e_orV, ↓e_notV, ↓e_ifE, ↓e_tru, ↓e_slice, ↓e_noPart, ↓e_part, ↓e_partV, ↓e_bm, ↓e_bm0, ↓e_ty_lst, ↓e_ty_str, ↓e_next, ↓e_seq, ↓e_break, ↓e_cont, ↓e_drop, ↓e_ret, ↓e_retN, ↓e_ifS, ↓e_asg, ↓e_gname, ↓e_put0, ↓e_putS, ↓e_aug, ↓e_gsub, ↓e_gtup2, ↓e_I, ↓e_Ic, ↓e_add, ↓e_addS, ↓e_addL, ↓e_addT, ↓e_mul, ↓e_eqI, ↓e_eqS, ↓e_eqB, ↓e_ix_lst, ↓e_ix_tup, ↓e_at0, ↓e_at1, ↓e_at2, ↓e_at3, ↓e_sa0, ↓e_sa1, ↓e_sa2, ↓e_sa3, ↓e_len_lst, ↓e_len_tup, ↓e_len_str, ↓e_abs, ↓e_int, ↓e_str, ↓e_ilst, ↓e_il, ↓e_irl, ↓e_irng1, ↓e_irV, ↓e_irng2, ↓e_irV2, ↓e_yes, ↓u_frzV, ↓u_ty, ↓u_setL, ↓u_ix, ↓u_len, ↓u_append, ↓u_pop, ↓u_iref, ↓e_isi, ↓e_strS, ↓e_dnew, ↓e_dget, ↓e_dput, ↓e_sc, ↓e_dcN, ↓e_rank, ↓e_inLN, ↓e_izipR, ↓e_ienum, ↓e_while, ↓mupd_mupd, ↓e_for, ↓e_lc, ↓e_lcM, ↓e_wipe, ↓e_wipe0, eq_self_iff_true, true_and, List.set_cons_zero, List.set_cons_succ, id_eq, ↓reduceIte, Bool.false_eq_true, Bool.not_true, Bool.not_false])
        rw [at_map (nums_at (by rw [nl]; exact hkl))]
        (try simp only [↓e_var0, ↓e_varS, ↓e_C, ↓e_op, ↓e_un, ↓e_cb, ↓e_nil, ↓e_cons, ↓e_tup, ↓e_lst, ↓e_lstM, ↓e_frz, ↓e_B, ↓e_bl, ↓e_andT, ↓e_orT, ↓e_notT, ↓e_andV, ↓e_orV, ↓e_notV, ↓e_ifE, ↓e_tru, ↓e_slice, ↓e_noPart, ↓e_part, ↓e_partV, ↓e_bm, ↓e_bm0, ↓e_ty_lst, ↓e_ty_str, ↓e_next, ↓e_seq, ↓e_break, ↓e_cont, ↓e_drop, ↓e_ret, ↓e_retN, ↓e_ifS, ↓e_asg, ↓e_gname, ↓e_put0, ↓e_putS, ↓e_aug, ↓e_gsub, ↓e_gtup2, ↓e_I, ↓e_Ic, ↓e_add, ↓e_addS, ↓e_addL, ↓e_addT, ↓e_mul, ↓e_eqI, ↓e_eqS, ↓e_eqB, ↓e_ix_lst, ↓e_ix_tup, ↓e_at0, ↓e_at1, ↓e_at2, ↓e_at3, ↓e_sa0, ↓e_sa1, ↓e_sa2, ↓e_sa3, ↓e_len_lst, ↓e_len_tup, ↓e_len_str, ↓e_abs, ↓e_int, ↓e_str, ↓e_ilst, ↓e_il, ↓e_irl, ↓e_irng1, ↓e_irV, ↓e_irng2, ↓e_irV2, ↓e_yes, ↓u_frzV, ↓u_ty, ↓u_setL, ↓u_ix, ↓u_len, ↓u_append, ↓u_pop, ↓u_iref, ↓e_isi, ↓e_strS, ↓e_dnew, ↓e_dget, ↓e_dput, ↓e_sc, ↓e_dcN, ↓e_rank, ↓e_inLN, ↓e_izipR, ↓e_ienum, ↓e_while, ↓mupd_mupd, ↓e_for, ↓e_lc, ↓e_lcM, ↓e_wipe, ↓e_wipe0, eq_self_iff_true, true_and, List.set_cons_zero, List.set_cons_succ, id_eq, ↓reduceIte, Bool.false_eq_true, Bool.not_true, Bool.not_false])
        rw [at_map (nums_at (by rw [nl]; exact hi))]
        (try simp only [↓e_var0, ↓e_varS, ↓e_C, ↓e_op, ↓e_un, ↓e_cb, ↓e_nil, ↓e_cons, ↓e_tup, ↓e_lst, ↓e_lstM, ↓e_frz, ↓e_B, ↓e_bl, ↓e_andT, ↓e_orT, ↓e_notT, ↓e_andV, ↓e_orV, ↓e_notV, ↓e_ifE, ↓e_tru, ↓e_slice, ↓e_noPart, ↓e_part, ↓e_partV, ↓e_bm, ↓e_bm0, ↓e_ty_lst, ↓e_ty_str, ↓e_next, ↓e_seq, ↓e_break, ↓e_cont, ↓e_drop, ↓e_ret, ↓e_retN, ↓e_ifS, ↓e_asg, ↓e_gname, ↓e_put0, ↓e_putS, ↓e_aug, ↓e_gsub, ↓e_gtup2, ↓e_I, ↓e_Ic, ↓e_add, ↓e_addS, ↓e_addL, ↓e_addT, ↓e_mul, ↓e_eqI, ↓e_eqS, ↓e_eqB, ↓e_ix_lst, ↓e_ix_tup, ↓e_at0, ↓e_at1, ↓e_at2, ↓e_at3, ↓e_sa0, ↓e_sa1, ↓e_sa2, ↓e_sa3, ↓e_len_lst, ↓e_len_tup, ↓e_len_str, ↓e_abs, ↓e_int, ↓e_str, ↓e_ilst, ↓e_il, ↓e_irl, ↓e_irng1, ↓e_irV, ↓e_irng2, ↓e_irV2, ↓e_yes, ↓u_frzV, ↓u_ty, ↓u_setL, ↓u_ix, ↓u_len, ↓u_append, ↓u_pop, ↓u_iref, ↓e_isi, ↓e_strS, ↓e_dnew, ↓e_dget, ↓e_dput, ↓e_sc, ↓e_dcN, ↓e_rank, ↓e_inLN, ↓e_izipR, ↓e_ienum, ↓e_while, ↓mupd_mupd, ↓e_for, ↓e_lc, ↓e_lcM, ↓e_wipe, ↓e_wipe0, eq_self_iff_true, true_and, List.set_cons_zero, List.set_cons_succ, id_eq, ↓reduceIte, Bool.false_eq_true, Bool.not_true, Bool.not_false])
        by_cases c : at0 ns k = at0 ns i
        · simp only [c, decide_true, if_true] at h1 ⊢
          exact h1 trivial
        · have c' : ¬ ((at0 ns k : Nat) : Int) = (at0 ns i : Nat) := fun z => c (Int.ofNat.inj z)
          simp only [c', decide_false, Bool.false_eq_true, if_false]
          exact h2 (by simp [c])
      exact fin _ M2 (flt _).1 (flt _).2 R2
    split
    · refine lc_typed (List.range rows.length) (fun k => decide (at0 ns i ∈ (row rows k).map (at0 ns))) (fun k : Nat => D.int k) (small_line (by rw [List.length_range]; omega)) trivial (fun i2 k E' Nn hk h1 h2 => ?_) ?_
      · have hkl : k < rows.length := List.mem_range.mp (List.mem_of_getElem? hk)
        have rl := row_lt dr hkl
        have rlen : (row rows k).length ≤ rows.length := by
          have hmem : row rows k ∈ rows := List.mem_of_getElem? (rows_at hkl)
          have nd0 : (row rows k).Nodup := (dr.asc _ hmem).imp fun h => Nat.ne_of_lt h
          have := nat_nodup_len (row rows k) (List.range rows.length) nd0 fun v hv => List.mem_range.mpr (rl v hv)
          rwa [List.length_range] at this
        (try simp only [↓e_var0, ↓e_varS, ↓e_C, ↓e_op, ↓e_un, ↓e_cb, ↓e_nil, ↓e_cons, ↓e_tup, ↓e_lst, ↓e_lstM, ↓e_frz, ↓e_B, ↓e_bl, ↓e_andT, ↓e_orT, ↓e_notT, ↓e_andV, ↓e_orV, ↓e_notV, ↓e_ifE, ↓e_tru, ↓e_slice, ↓e_noPart, ↓e_part, ↓e_partV, ↓e_bm, ↓e_bm0, ↓e_ty_lst, ↓e_ty_str, ↓e_next, ↓e_seq, ↓e_break, ↓e_cont, ↓e_drop, ↓e_ret, ↓e_retN, ↓e_ifS, ↓e_asg, ↓e_gname, ↓e_put0, ↓e_putS, ↓e_aug, ↓e_gsub, ↓e_gtup2, ↓e_I, ↓e_Ic, ↓e_add, ↓e_addS, ↓e_addL, ↓e_addT, ↓e_mul, ↓e_eqI, ↓e_eqS, ↓e_eqB, ↓e_ix_lst, ↓e_ix_tup, ↓e_at0, ↓e_at1, ↓e_at2, ↓e_at3, ↓e_sa0, ↓e_sa1, ↓e_sa2, ↓e_sa3, ↓e_len_lst, ↓e_len_tup, ↓e_len_str, ↓e_abs, ↓e_int, ↓e_str, ↓e_ilst, ↓e_il, ↓e_irl, ↓e_irng1, ↓e_irV, ↓e_irng2, ↓e_irV2, ↓e_yes, ↓u_frzV, ↓u_ty, ↓u_setL, ↓u_ix, ↓u_len, ↓u_append, ↓u_pop, ↓u_iref, ↓e_isi, ↓e_strS, ↓e_dnew, ↓e_dget, ↓e_dput, ↓e_sc, ↓e_dcN, ↓e_rank, ↓e_inLN, ↓e_izipR, ↓e_ienum, ↓e_while, ↓mupd_mupd, ↓e_for, ↓e_lc, ↓e_lcM, ↓e_wipe, ↓e_wipe0, eq_self_iff_true, true_and, List.set_cons_zero, List.set_cons_succ, id_eq, ↓reduceIte, Bool.false_eq_true, Bool.not_true, Bool.not_false])
        rw [at_map (nums_at (by rw [nl]; exact hi))]
        (try simp only [↓e_var0, ↓e_varS, ↓e_C, ↓e_op, ↓e_un, ↓e_cb, ↓e_nil, ↓e_cons, ↓e_tup, ↓e_lst, ↓e_lstM, ↓e_frz, ↓e_B, ↓e_bl, ↓e_andT, ↓e_orT, ↓e_notT, ↓e_andV, ↓e_orV, ↓e_notV, ↓e_ifE, ↓e_tru, ↓e_slice, ↓e_noPart, ↓e_part, ↓e_partV, ↓e_bm, ↓e_bm0, ↓e_ty_lst, ↓e_ty_str, ↓e_next, ↓e_seq, ↓e_break, ↓e_cont, ↓e_drop, ↓e_ret, ↓e_retN, ↓e_ifS, ↓e_asg, ↓e_gname, ↓e_put0, ↓e_putS, ↓e_aug, ↓e_gsub, ↓e_gtup2, ↓e_I, ↓e_Ic, ↓e_add, ↓e_addS, ↓e_addL, ↓e_addT, ↓e_mul, ↓e_eqI, ↓e_eqS, ↓e_eqB, ↓e_ix_lst, ↓e_ix_tup, ↓e_at0, ↓e_at1, ↓e_at2, ↓e_at3, ↓e_sa0, ↓e_sa1, ↓e_sa2, ↓e_sa3, ↓e_len_lst, ↓e_len_tup, ↓e_len_str, ↓e_abs, ↓e_int, ↓e_str, ↓e_ilst, ↓e_il, ↓e_irl, ↓e_irng1, ↓e_irV, ↓e_irng2, ↓e_irV2, ↓e_yes, ↓u_frzV, ↓u_ty, ↓u_setL, ↓u_ix, ↓u_len, ↓u_append, ↓u_pop, ↓u_iref, ↓e_isi, ↓e_strS, ↓e_dnew, ↓e_dget, ↓e_dput, ↓e_sc, ↓e_dcN, ↓e_rank, ↓e_inLN, ↓e_izipR, ↓e_ienum, ↓e_while, ↓mupd_mupd, ↓e_for, ↓e_lc, ↓e_lcM, ↓e_wipe, ↓e_wipe0, eq_self_iff_true, true_and, List.set_cons_zero, List.set_cons_succ, id_eq, ↓reduceIte, Bool.false_eq_true, Bool.not_true, Bool.not_false])
        rw [at_map (rows_at hkl), show enR (row rows k) = .lst ((row rows k).map fun n : Nat => D.int n) from rfl]
        (try simp only [↓e_var0, ↓e_varS, ↓e_C, ↓e_op, ↓e_un, ↓e_cb, ↓e_nil, ↓e_cons, ↓e_tup, ↓e_lst, ↓e_lstM, ↓e_frz, ↓e_B, ↓e_bl, ↓e_andT, ↓e_orT, ↓e_notT, ↓e_andV, ↓e_orV, ↓e_notV, ↓e_ifE, ↓e_tru, ↓e_slice, ↓e_noPart, ↓e_part, ↓e_partV, ↓e_bm, ↓e_bm0, ↓e_ty_lst, ↓e_ty_str, ↓e_next, ↓e_seq, ↓e_break, ↓e_cont, ↓e_drop, ↓e_ret, ↓e_retN, ↓e_ifS, ↓e_asg, ↓e_gname, ↓e_put0, ↓e_putS, ↓e_aug, ↓e_gsub, ↓e_gtup2, ↓e_I, ↓e_Ic, ↓e_add, ↓e_addS, ↓e_addL, ↓e_addT, ↓e_mul, ↓e_eqI, ↓e_eqS, ↓e_eqB, ↓e_ix_lst, ↓e_ix_tup, ↓e_at0, ↓e_at1, ↓e_at2, ↓e_at3, ↓e_sa0, ↓e_sa1, ↓e_sa2, ↓e_sa3, ↓e_len_lst, ↓e_len_tup, ↓e_len_str, ↓e_abs, ↓e_int, ↓e_str, ↓e_ilst, ↓e_il, ↓e_irl, ↓e_irng1, ↓e_irV, ↓e_irng2, ↓e_irV2, ↓e_yes, ↓u_frzV, ↓u_ty, ↓u_setL, ↓u_ix, ↓u_len, ↓u_append, ↓u_pop, ↓u_iref, ↓e_isi, ↓e_strS, ↓e_dnew, ↓e_dget, ↓e_dput, ↓e_sc, ↓e_dcN, ↓e_rank, ↓e_inLN, ↓e_izipR, ↓e_ienum, ↓e_while, ↓mupd_mupd, ↓e_for, ↓e_lc, ↓e_lcM, ↓e_wipe, ↓e_wipe0, eq_self_iff_true, true_and, List.set_cons_zero, List.set_cons_succ, id_eq, ↓reduceIte, Bool.false_eq_true, Bool.not_true, Bool.not_false])
        refine lc_typed1 (row rows k) (fun z => D.int (at0 ns z : Nat)) (small_line (by omega)) trivial (fun i3 z E2 hz hE2 => ?_) ?_
        · have hzl := rl z (List.mem_of_getElem? hz)
          (try simp only [↓e_var0, ↓e_varS, ↓e_C, ↓e_op, ↓e_un, ↓e_cb, ↓e_nil, ↓e_cons, ↓e_tup, ↓e_lst, ↓e_lstM, ↓e_frz, ↓e_B, ↓e_bl, ↓e_andT, ↓e_orT, ↓e_notT, ↓e_andV, ↓e_orV, ↓e_notV, ↓e_ifE, ↓e_tru, ↓e_slice, ↓e_noPart, ↓e_part, ↓e_partV, ↓e_bm, ↓e_bm0, ↓e_ty_lst, ↓e_ty_str, ↓e_next, ↓e_seq, ↓e_break, ↓e_cont, ↓e_drop, ↓e_ret, ↓e_retN, ↓e_ifS, ↓e_asg, ↓e_gname, ↓e_put0, ↓e_putS, ↓e_aug, ↓e_gsub, ↓e_gtup2, ↓e_I, ↓e_Ic, ↓e_add, ↓e_addS, ↓e_addL, ↓e_addT, ↓e_mul, ↓e_eqI, ↓e_eqS, ↓e_eqB, ↓e_ix_lst, ↓e_ix_tup, ↓e_at0, ↓e_at1, ↓e_at2, ↓e_at3, ↓e_sa0, ↓e_sa1, ↓e_sa2, ↓e_sa3, ↓e_len_lst, ↓e_len_tup, ↓e_len_str, ↓e_abs, ↓e_int, ↓e_str, ↓e_ilst, ↓e_il, ↓e_irl, ↓e_irng1, ↓e_irV, ↓e_irng2, ↓e_irV2, ↓e_yes, ↓u_frzV, ↓u_ty, ↓u_setL, ↓u_ix, ↓u_len, ↓u_append, ↓u_pop, ↓u_iref, ↓e_isi, ↓e_strS, ↓e_dnew, ↓e_dget, ↓e_dput, ↓e_sc, ↓e_dcN, ↓e_rank, ↓e_inLN, ↓e_izipR, ↓e_ienum, ↓e_while, ↓mupd_mupd, ↓e_for, ↓e_lc, ↓e_lcM, ↓e_wipe, ↓e_wipe0, eq_self_iff_true, true_and, List.set_cons_zero, List.set_cons_succ, id_eq, ↓reduceIte, Bool.false_eq_true, Bool.not_true, Bool.not_false])
          rw [at_map (nums_at (by rw [nl]; exact hzl))]
          exact hE2
        rw [in_nats (ns := (row rows k).map (at0 ns)) (by show some _ = some _; rw [List.map_map]; rfl)]
        by_cases c : at0 ns i ∈ (row rows k).map (at0 ns)
        · refine ⟨true, by simp [c], ?_⟩
          rw [if_pos rfl]
          exact h1 (by simp only [c, decide_true])
        · refine ⟨false, by simp [c], ?_⟩
          rw [if_neg (by decide)]
          exact h2 (by simp only [c, decide_false])
      exact fin _ M2 (flt _).1 (flt _).2 R2
    · exact fin (List.range rows.length) M2 (fun z hz => List.mem_range.mp hz) (by rw [List.length_range]; exact Nat.le_refl _) R2
theorem ok_said {f : Addr} {fd : FuncData} {k : Nat} (F : Fun K "_law_said" "_law_said" s_law_said f fd) (B : Bt mg) (c_same_set : CalX P w K mg base "same_set" 3 spSame) (c_is_member : CalX P w K mg base "is_member" 3 spMember) : FnOk P w K mg base CX0 (3 + 1) f fd p_law_said (spOf K spSaid) := by
  refine dfn F sc_law_said (fun ds M R h => ?_) (fun cdv A outer s H E ds M R hr h => ?_)
  · obtain ⟨rows, ns, a, b, rfl, _⟩ := h
    rfl
  · have nd := sc_law_said.nd
    refine ⟨_, (dss_cons (ds_set (i := 5) nd rfl (.inl rfl) (d_callX c_same_set hr rfl (da_cons (dv 0) (da_cons (dv 3) (da_cons (dv 4) da_nil)))))
(dss_cons (ds_set (i := 6) nd rfl (.inl rfl) (d_callX c_is_member hr rfl (da_cons (dv 0) (da_cons (dv 3) (da_cons (dv 4) da_nil)))))
(dss_cons (ds_if (dt_w (dw_or (dt_not (dt_val (d_isinst_bool rfl B.bool rfl B.isinstance (dv 5)))) (dw_or1 (dt_not (dt_val (d_isinst_bool rfl B.bool rfl B.isinstance (dv 6)))))))
(dss_one (ds_ret d_bl))
dss_nil)
(dss_one (ds_ret (d_andV (d_eq hr (dv 5) (d_eq hr (d_sub_ix (dv 2) (dv 3)) (d_sub_ix (dv 2) (dv 4)))) (d_one (d_eq hr (dv 6) (d_in hr (d_sub_ix (dv 2) (dv 3)) (d_lc (lfg_name (i := 7) (by decide)) (pe_lc (own := [("held", 7)]) rfl nd (di_lst (d_sub_ix (dv 1) (dv 4))) (blkOk_by (own := [("held", 7)]) (N := n_law_said) (by rfl)) (fun _ _ _ _ _ => (pg_name (i := 7) nd rfl (.inl rfl))) (fun _ _ _ _ _ => dts_nil) (fun _ _ _ _ _ => (d_sub_ix (dv 2) (dv 7)))))))))))))), ?_⟩
    obtain ⟨rows, ns, a, b, rfl, dr, lk, ha, hb, h⟩ := h
    simp only [dstart, List.map, List.length, List.replicate, List.cons_append, List.nil_append]
    have nl := lk.len
    have sm := dr.sm
    have rl := row_lt dr hb
    have rlen : (row rows b).length ≤ rows.length := by
      have hmem : row rows b ∈ rows := List.mem_of_getElem? (rows_at hb)
      have nd0 : (row rows b).Nodup := (dr.asc _ hmem).imp fun h => Nat.ne_of_lt h
      have := nat_nodup_len (row rows b) (List.range rows.length) nd0 fun v hv => List.mem_range.mpr (rl v hv)
      rwa [List.length_range] at this
    (try simp only [↓e_var0, ↓e_varS, ↓e_C, ↓e_op, ↓e_un, ↓e_cb, ↓e_nil, ↓e_cons, ↓e_tup, ↓e_lst, ↓e_lstM, ↓e_frz, ↓e_B, ↓e_bl, ↓e_andT, ↓e_orT, ↓e_notT, ↓e_andV, ↓e_orV, ↓e_notV, ↓e_ifE, ↓e_tru, ↓e_slice, ↓e_noPart, ↓e_part, ↓e_partV, ↓e_bm, ↓e_bm0, ↓e_ty_lst, ↓e_ty_str, ↓e_next, ↓e_seq, ↓e_break, ↓e_cont, ↓e_drop, ↓e_ret, ↓e_retN, ↓e_ifS, ↓e_asg, ↓e_gname, ↓e_put0, ↓e_putS, ↓e_aug, ↓e_gsub, ↓e_gtup2, ↓e_I, ↓e_Ic, ↓e_add, ↓e_addS, ↓e_addL, ↓e_addT, ↓e_mul, ↓e_eqI, ↓e_eqS, ↓e_eqB, ↓e_ix_lst, ↓e_ix_tup, ↓e_at0, ↓e_at1, ↓e_at2, ↓e_at3, ↓e_sa0, ↓e_sa1, ↓e_sa2, ↓e_sa3, ↓e_len_lst, ↓e_len_tup, ↓e_len_str, ↓e_abs, ↓e_int, ↓e_str, ↓e_ilst, ↓e_il, ↓e_irl, ↓e_irng1, ↓e_irV, ↓e_irng2, ↓e_irV2, ↓e_yes, ↓u_frzV, ↓u_ty, ↓u_setL, ↓u_ix, ↓u_len, ↓u_append, ↓u_pop, ↓u_iref, ↓e_isi, ↓e_strS, ↓e_dnew, ↓e_dget, ↓e_dput, ↓e_sc, ↓e_dcN, ↓e_rank, ↓e_inLN, ↓e_izipR, ↓e_ienum, ↓e_while, ↓mupd_mupd, ↓e_for, ↓e_lc, ↓e_lcM, ↓e_wipe, ↓e_wipe0, eq_self_iff_true, true_and, List.set_cons_zero, List.set_cons_succ, id_eq, ↓reduceIte, Bool.false_eq_true, Bool.not_true, Bool.not_false])
    refine ⟨rows, a, b, rfl, dr, ha, hb, fun ns' lk' => ?_⟩
    obtain rfl := lk.det lk'
    (try simp only [↓e_var0, ↓e_varS, ↓e_C, ↓e_op, ↓e_un, ↓e_cb, ↓e_nil, ↓e_cons, ↓e_tup, ↓e_lst, ↓e_lstM, ↓e_frz, ↓e_B, ↓e_bl, ↓e_andT, ↓e_orT, ↓e_notT, ↓e_andV, ↓e_orV, ↓e_notV, ↓e_ifE, ↓e_tru, ↓e_slice, ↓e_noPart, ↓e_part, ↓e_partV, ↓e_bm, ↓e_bm0, ↓e_ty_lst, ↓e_ty_str, ↓e_next, ↓e_seq, ↓e_break, ↓e_cont, ↓e_drop, ↓e_ret, ↓e_retN, ↓e_ifS, ↓e_asg, ↓e_gname, ↓e_put0, ↓e_putS, ↓e_aug, ↓e_gsub, ↓e_gtup2, ↓e_I, ↓e_Ic, ↓e_add, ↓e_addS, ↓e_addL, ↓e_addT, ↓e_mul, ↓e_eqI, ↓e_eqS, ↓e_eqB, ↓e_ix_lst, ↓e_ix_tup, ↓e_at0, ↓e_at1, ↓e_at2, ↓e_at3, ↓e_sa0, ↓e_sa1, ↓e_sa2, ↓e_sa3, ↓e_len_lst, ↓e_len_tup, ↓e_len_str, ↓e_abs, ↓e_int, ↓e_str, ↓e_ilst, ↓e_il, ↓e_irl, ↓e_irng1, ↓e_irV, ↓e_irng2, ↓e_irV2, ↓e_yes, ↓u_frzV, ↓u_ty, ↓u_setL, ↓u_ix, ↓u_len, ↓u_append, ↓u_pop, ↓u_iref, ↓e_isi, ↓e_strS, ↓e_dnew, ↓e_dget, ↓e_dput, ↓e_sc, ↓e_dcN, ↓e_rank, ↓e_inLN, ↓e_izipR, ↓e_ienum, ↓e_while, ↓mupd_mupd, ↓e_for, ↓e_lc, ↓e_lcM, ↓e_wipe, ↓e_wipe0, eq_self_iff_true, true_and, List.set_cons_zero, List.set_cons_succ, id_eq, ↓reduceIte, Bool.false_eq_true, Bool.not_true, Bool.not_false])
    refine ⟨rows, a, b, rfl, dr, ha, hb, fun ns' lk' => ?_⟩
    obtain rfl := lk.det lk'
    (try simp only [↓e_var0, ↓e_varS, ↓e_C, ↓e_op, ↓e_un, ↓e_cb, ↓e_nil, ↓e_cons, ↓e_tup, ↓e_lst, ↓e_lstM, ↓e_frz, ↓e_B, ↓e_bl, ↓e_andT, ↓e_orT, ↓e_notT, ↓e_andV, ↓e_orV, ↓e_notV, ↓e_ifE, ↓e_tru, ↓e_slice, ↓e_noPart, ↓e_part, ↓e_partV, ↓e_bm, ↓e_bm0, ↓e_ty_lst, ↓e_ty_str, ↓e_next, ↓e_seq, ↓e_break, ↓e_cont, ↓e_drop, ↓e_ret, ↓e_retN, ↓e_ifS, ↓e_asg, ↓e_gname, ↓e_put0, ↓e_putS, ↓e_aug, ↓e_gsub, ↓e_gtup2, ↓e_I, ↓e_Ic, ↓e_add, ↓e_addS, ↓e_addL, ↓e_addT, ↓e_mul, ↓e_eqI, ↓e_eqS, ↓e_eqB, ↓e_ix_lst, ↓e_ix_tup, ↓e_at0, ↓e_at1, ↓e_at2, ↓e_at3, ↓e_sa0, ↓e_sa1, ↓e_sa2, ↓e_sa3, ↓e_len_lst, ↓e_len_tup, ↓e_len_str, ↓e_abs, ↓e_int, ↓e_str, ↓e_ilst, ↓e_il, ↓e_irl, ↓e_irng1, ↓e_irV, ↓e_irng2, ↓e_irV2, ↓e_yes, ↓u_frzV, ↓u_ty, ↓u_setL, ↓u_ix, ↓u_len, ↓u_append, ↓u_pop, ↓u_iref, ↓e_isi, ↓e_strS, ↓e_dnew, ↓e_dget, ↓e_dput, ↓e_sc, ↓e_dcN, ↓e_rank, ↓e_inLN, ↓e_izipR, ↓e_ienum, ↓e_while, ↓mupd_mupd, ↓e_for, ↓e_lc, ↓e_lcM, ↓e_wipe, ↓e_wipe0, eq_self_iff_true, true_and, List.set_cons_zero, List.set_cons_succ, id_eq, ↓reduceIte, Bool.false_eq_true, Bool.not_true, Bool.not_false])
    refine ⟨"bool", rfl, ?_⟩
    rw [if_neg (by decide)]
    refine ⟨"bool", rfl, ?_⟩
    rw [if_neg (by decide)]
    rw [at_map (nums_at (by rw [nl]; exact ha))]
    rw [at_map (nums_at (by rw [nl]; exact hb))]
    (try simp only [↓e_var0, ↓e_varS, ↓e_C, ↓e_op, ↓e_un, ↓e_cb, ↓e_nil, ↓e_cons, ↓e_tup, ↓e_lst, ↓e_lstM, ↓e_frz, ↓e_B, ↓e_bl, ↓e_andT, ↓e_orT, ↓e_notT, ↓e_andV, ↓e_orV, ↓e_notV, ↓e_ifE, ↓e_tru, ↓e_slice, ↓e_noPart, ↓e_part, ↓e_partV, ↓e_bm, ↓e_bm0, ↓e_ty_lst, ↓e_ty_str, ↓e_next, ↓e_seq, ↓e_break, ↓e_cont, ↓e_drop, ↓e_ret, ↓e_retN, ↓e_ifS, ↓e_asg, ↓e_gname, ↓e_put0, ↓e_putS, ↓e_aug, ↓e_gsub, ↓e_gtup2, ↓e_I, ↓e_Ic, ↓e_add, ↓e_addS, ↓e_addL, ↓e_addT, ↓e_mul, ↓e_eqI, ↓e_eqS, ↓e_eqB, ↓e_ix_lst, ↓e_ix_tup, ↓e_at0, ↓e_at1, ↓e_at2, ↓e_at3, ↓e_sa0, ↓e_sa1, ↓e_sa2, ↓e_sa3, ↓e_len_lst, ↓e_len_tup, ↓e_len_str, ↓e_abs, ↓e_int, ↓e_str, ↓e_ilst, ↓e_il, ↓e_irl, ↓e_irng1, ↓e_irV, ↓e_irng2, ↓e_irV2, ↓e_yes, ↓u_frzV, ↓u_ty, ↓u_setL, ↓u_ix, ↓u_len, ↓u_append, ↓u_pop, ↓u_iref, ↓e_isi, ↓e_strS, ↓e_dnew, ↓e_dget, ↓e_dput, ↓e_sc, ↓e_dcN, ↓e_rank, ↓e_inLN, ↓e_izipR, ↓e_ienum, ↓e_while, ↓mupd_mupd, ↓e_for, ↓e_lc, ↓e_lcM, ↓e_wipe, ↓e_wipe0, eq_self_iff_true, true_and, List.set_cons_zero, List.set_cons_succ, id_eq, ↓reduceIte, Bool.false_eq_true, Bool.not_true, Bool.not_false])
    have e1 : decide (at0 ns a = at0 ns b) = decide (((at0 ns a : Nat) : Int) = (at0 ns b : Nat)) := by
      rw [Bool.eq_iff_iff, decide_eq_true_eq, decide_eq_true_eq]; omega
    rw [if_pos (by simp [e1]), at_map (nums_at (by rw [nl]; exact ha))]
    simp only [enD]
    (try simp only [↓e_var0, ↓e_varS, ↓e_C, ↓e_op, ↓e_un, ↓e_cb, ↓e_nil, ↓e_cons, ↓e_tup, ↓e_lst, ↓e_lstM, ↓e_frz, ↓e_B, ↓e_bl, ↓e_andT, ↓e_orT, ↓e_notT, ↓e_andV, ↓e_orV, ↓e_notV, ↓e_ifE, ↓e_tru, ↓e_slice, ↓e_noPart, ↓e_part, ↓e_partV, ↓e_bm, ↓e_bm0, ↓e_ty_lst, ↓e_ty_str, ↓e_next, ↓e_seq, ↓e_break, ↓e_cont, ↓e_drop, ↓e_ret, ↓e_retN, ↓e_ifS, ↓e_asg, ↓e_gname, ↓e_put0, ↓e_putS, ↓e_aug, ↓e_gsub, ↓e_gtup2, ↓e_I, ↓e_Ic, ↓e_add, ↓e_addS, ↓e_addL, ↓e_addT, ↓e_mul, ↓e_eqI, ↓e_eqS, ↓e_eqB, ↓e_ix_lst, ↓e_ix_tup, ↓e_at0, ↓e_at1, ↓e_at2, ↓e_at3, ↓e_sa0, ↓e_sa1, ↓e_sa2, ↓e_sa3, ↓e_len_lst, ↓e_len_tup, ↓e_len_str, ↓e_abs, ↓e_int, ↓e_str, ↓e_ilst, ↓e_il, ↓e_irl, ↓e_irng1, ↓e_irV, ↓e_irng2, ↓e_irV2, ↓e_yes, ↓u_frzV, ↓u_ty, ↓u_setL, ↓u_ix, ↓u_len, ↓u_append, ↓u_pop, ↓u_iref, ↓e_isi, ↓e_strS, ↓e_dnew, ↓e_dget, ↓e_dput, ↓e_sc, ↓e_dcN, ↓e_rank, ↓e_inLN, ↓e_izipR, ↓e_ienum, ↓e_while, ↓mupd_mupd, ↓e_for, ↓e_lc, ↓e_lcM, ↓e_wipe, ↓e_wipe0, eq_self_iff_true, true_and, List.set_cons_zero, List.set_cons_succ, id_eq, ↓reduceIte, Bool.false_eq_true, Bool.not_true, Bool.not_false])
    rw [at_map (rows_at hb), show enR (row rows b) = .lst ((row rows b).map fun n : Nat => D.int n) from rfl]
    (try simp only [↓e_var0, ↓e_varS, ↓e_C, ↓e_op, ↓e_un, ↓e_cb, ↓e_nil, ↓e_cons, ↓e_tup, ↓e_lst, ↓e_lstM, ↓e_frz, ↓e_B, ↓e_bl, ↓e_andT, ↓e_orT, ↓e_notT, ↓e_andV, ↓e_orV, ↓e_notV, ↓e_ifE, ↓e_tru, ↓e_slice, ↓e_noPart, ↓e_part, ↓e_partV, ↓e_bm, ↓e_bm0, ↓e_ty_lst, ↓e_ty_str, ↓e_next, ↓e_seq, ↓e_break, ↓e_cont, ↓e_drop, ↓e_ret, ↓e_retN, ↓e_ifS, ↓e_asg, ↓e_gname, ↓e_put0, ↓e_putS, ↓e_aug, ↓e_gsub, ↓e_gtup2, ↓e_I, ↓e_Ic, ↓e_add, ↓e_addS, ↓e_addL, ↓e_addT, ↓e_mul, ↓e_eqI, ↓e_eqS, ↓e_eqB, ↓e_ix_lst, ↓e_ix_tup, ↓e_at0, ↓e_at1, ↓e_at2, ↓e_at3, ↓e_sa0, ↓e_sa1, ↓e_sa2, ↓e_sa3, ↓e_len_lst, ↓e_len_tup, ↓e_len_str, ↓e_abs, ↓e_int, ↓e_str, ↓e_ilst, ↓e_il, ↓e_irl, ↓e_irng1, ↓e_irV, ↓e_irng2, ↓e_irV2, ↓e_yes, ↓u_frzV, ↓u_ty, ↓u_setL, ↓u_ix, ↓u_len, ↓u_append, ↓u_pop, ↓u_iref, ↓e_isi, ↓e_strS, ↓e_dnew, ↓e_dget, ↓e_dput, ↓e_sc, ↓e_dcN, ↓e_rank, ↓e_inLN, ↓e_izipR, ↓e_ienum, ↓e_while, ↓mupd_mupd, ↓e_for, ↓e_lc, ↓e_lcM, ↓e_wipe, ↓e_wipe0, eq_self_iff_true, true_and, List.set_cons_zero, List.set_cons_succ, id_eq, ↓reduceIte, Bool.false_eq_true, Bool.not_true, Bool.not_false])
    refine lc_typed1 (row rows b) (fun z => D.int (at0 ns z : Nat)) (small_line (by omega)) trivial (fun i3 z E2 hz hE2 => ?_) ?_
    · have hzl := rl z (List.mem_of_getElem? hz)
      (try simp only [↓e_var0, ↓e_varS, ↓e_C, ↓e_op, ↓e_un, ↓e_cb, ↓e_nil, ↓e_cons, ↓e_tup, ↓e_lst, ↓e_lstM, ↓e_frz, ↓e_B, ↓e_bl, ↓e_andT, ↓e_orT, ↓e_notT, ↓e_andV, ↓e_orV, ↓e_notV, ↓e_ifE, ↓e_tru, ↓e_slice, ↓e_noPart, ↓e_part, ↓e_partV, ↓e_bm, ↓e_bm0, ↓e_ty_lst, ↓e_ty_str, ↓e_next, ↓e_seq, ↓e_break, ↓e_cont, ↓e_drop, ↓e_ret, ↓e_retN, ↓e_ifS, ↓e_asg, ↓e_gname, ↓e_put0, ↓e_putS, ↓e_aug, ↓e_gsub, ↓e_gtup2, ↓e_I, ↓e_Ic, ↓e_add, ↓e_addS, ↓e_addL, ↓e_addT, ↓e_mul, ↓e_eqI, ↓e_eqS, ↓e_eqB, ↓e_ix_lst, ↓e_ix_tup, ↓e_at0, ↓e_at1, ↓e_at2, ↓e_at3, ↓e_sa0, ↓e_sa1, ↓e_sa2, ↓e_sa3, ↓e_len_lst, ↓e_len_tup, ↓e_len_str, ↓e_abs, ↓e_int, ↓e_str, ↓e_ilst, ↓e_il, ↓e_irl, ↓e_irng1, ↓e_irV, ↓e_irng2, ↓e_irV2, ↓e_yes, ↓u_frzV, ↓u_ty, ↓u_setL, ↓u_ix, ↓u_len, ↓u_append, ↓u_pop, ↓u_iref, ↓e_isi, ↓e_strS, ↓e_dnew, ↓e_dget, ↓e_dput, ↓e_sc, ↓e_dcN, ↓e_rank, ↓e_inLN, ↓e_izipR, ↓e_ienum, ↓e_while, ↓mupd_mupd, ↓e_for, ↓e_lc, ↓e_lcM, ↓e_wipe, ↓e_wipe0, eq_self_iff_true, true_and, List.set_cons_zero, List.set_cons_succ, id_eq, ↓reduceIte, Bool.false_eq_true, Bool.not_true, Bool.not_false])
      rw [at_map (nums_at (by rw [nl]; exact hzl))]
      exact hE2
    rw [in_nats (ns := (row rows b).map (at0 ns)) (by show some _ = some _; rw [List.map_map]; rfl)]
    (try simp only [↓e_var0, ↓e_varS, ↓e_C, ↓e_op, ↓e_un, ↓e_cb, ↓e_nil, ↓e_cons, ↓e_tup, ↓e_lst, ↓e_lstM, ↓e_frz, ↓e_B, ↓e_bl, ↓e_andT, ↓e_orT, ↓e_notT, ↓e_andV, ↓e_orV, ↓e_notV, ↓e_ifE, ↓e_tru, ↓e_slice, ↓e_noPart, ↓e_part, ↓e_partV, ↓e_bm, ↓e_bm0, ↓e_ty_lst, ↓e_ty_str, ↓e_next, ↓e_seq, ↓e_break, ↓e_cont, ↓e_drop, ↓e_ret, ↓e_retN, ↓e_ifS, ↓e_asg, ↓e_gname, ↓e_put0, ↓e_putS, ↓e_aug, ↓e_gsub, ↓e_gtup2, ↓e_I, ↓e_Ic, ↓e_add, ↓e_addS, ↓e_addL, ↓e_addT, ↓e_mul, ↓e_eqI, ↓e_eqS, ↓e_eqB, ↓e_ix_lst, ↓e_ix_tup, ↓e_at0, ↓e_at1, ↓e_at2, ↓e_at3, ↓e_sa0, ↓e_sa1, ↓e_sa2, ↓e_sa3, ↓e_len_lst, ↓e_len_tup, ↓e_len_str, ↓e_abs, ↓e_int, ↓e_str, ↓e_ilst, ↓e_il, ↓e_irl, ↓e_irng1, ↓e_irV, ↓e_irng2, ↓e_irV2, ↓e_yes, ↓u_frzV, ↓u_ty, ↓u_setL, ↓u_ix, ↓u_len, ↓u_append, ↓u_pop, ↓u_iref, ↓e_isi, ↓e_strS, ↓e_dnew, ↓e_dget, ↓e_dput, ↓e_sc, ↓e_dcN, ↓e_rank, ↓e_inLN, ↓e_izipR, ↓e_ienum, ↓e_while, ↓mupd_mupd, ↓e_for, ↓e_lc, ↓e_lcM, ↓e_wipe, ↓e_wipe0, eq_self_iff_true, true_and, List.set_cons_zero, List.set_cons_succ, id_eq, ↓reduceIte, Bool.false_eq_true, Bool.not_true, Bool.not_false])
    simpa using h
def spLaw : DL := fun ds M R => ∃ ns : List Int, ds = [.rl (ns.map D.int)] ∧ ns.length ≤ 63 ∧ ∀ M', R (.bl true) M'
theorem ok_law {f : Addr} {fd : FuncData} {k : Nat} (F : Fun K "law" "law" slaw f fd) (B : Bt mg) (c__law_start : CalX P w K mg base "_law_start" 1 spStart) (c__law_drawing : CalX P w K mg base "_law_drawing" 3 spDrawing) (c__law_rounds : CalX P w K mg base "_law_rounds" 2 spRounds) (c_likeness_of : CalX P w K mg base "likeness_of" 2 spLike)
    (c__law_ints : CalX P w K mg base "_law_ints" 1 spInts) (c__law_meant : CalX P w K mg base "_law_meant" 2 spMeant) (c__law_pair : CalX P w K mg base "_law_pair" 2 spPair) (c__law_said : CalX P w K mg base "_law_said" 4 spSaid) : FnOk P w K mg base CX0 (4 + 1) f fd plaw (spOf K spLaw) := by
  refine dfn F sclaw (fun ds M R h => ?_) (fun cdv A outer s H E ds M R hr h => ?_)
  · obtain ⟨ns, rfl, _⟩ := h
    rfl
  · have nd := sclaw.nd
    refine ⟨_, (dss_cons (ds_set (i := 1) nd rfl (.inl rfl) (d_callX c__law_start hr rfl (da_cons (dv 0) da_nil)))
(dss_cons (ds_set (i := 2) nd rfl (.inl rfl) (d_callX c__law_drawing hr rfl (da_cons (dv 1) da_nil)))
(dss_cons (ds_set (i := 3) nd rfl (.inl rfl) (d_callX c__law_rounds hr rfl (da_cons (dv 2) da_nil)))
(dss_cons (ds_lc (lfg_name (i := 8) (by decide)) (ps_setLc (i := 4) (own := [("row", 8)]) rfl nd rfl rfl (sw_true rfl rfl rfl (by decide +kernel)) (di_lst (dv 2)) (blkOk_by (own := [("row", 8)]) (N := nlaw) (by rfl)) (fun _ _ _ _ _ => (pg_name (i := 8) nd rfl (.inl rfl))) (fun _ _ _ _ _ => dts_nil) (fun _ _ _ _ _ => (d_list rfl B.list (da_cons (dv 8) da_nil)))))
(dss_cons (ds_set (i := 5) nd rfl (.inl rfl) (d_callX c_likeness_of hr rfl (da_cons (dv 4) da_nil)))
(dss_cons (ds_if (dt_not (dt_val (d_callX c__law_ints hr rfl (da_cons (dv 5) (da_cons (dv 3) da_nil)))))
(dss_one (ds_ret d_bl))
dss_nil)
(dss_cons (ds_if (dt_w (dw_and (dt_lt (d_len rfl B.len (da_cons (dv 2) da_nil)) d_int) (dw_and1 (dt_not (dt_val (d_callX c__law_meant hr rfl (da_cons (dv 2) (da_cons (dv 5) da_nil))))))))
(dss_one (ds_ret d_bl))
dss_nil)
(dss_cons (ds_asg d_int (dg_sub (pg_sub (dv 5) d_int set_list)))
(dss_cons (ds_expr (d_append (dv 5) (da_cons d_int da_nil)))
(dss_cons (ds_if (dt_not (dt_val (d_callX c__law_ints hr rfl (da_cons (d_callX c_likeness_of hr rfl (da_cons (dv 4) da_nil)) (da_cons (dv 3) da_nil)))))
(dss_one (ds_ret d_bl))
dss_nil)
(dss_cons (ds_for PassesOwn.never rfl (di_rng1 (pi_range1 rfl B.range (da_cons d_int da_nil))) (dg_name (i := 6) nd rfl (.inl rfl))
(dss_one (ds_if (dt_w (dw_or (dt_eq hr (dv 6) d_int) (dw_or1 (dt_lt (d_len rfl B.len (da_cons (dv 2) da_nil)) d_int))))
(dss_cons (ds_set (i := 7) nd rfl (.inl rfl) (d_callX c__law_pair hr rfl (da_cons (dv 1) (da_cons (dv 2) (da_cons (dv 3) da_nil)))))
(dss_cons (ds_if (dt_not (dt_val (d_callX c__law_said hr rfl (da_cons (dv 4) (da_cons (dv 2) (da_cons (dv 3) (da_cons (d_sub_ix (dv 7) d_int) (da_cons (d_sub_ix (dv 7) d_int) da_nil))))))))
(dss_one (ds_ret d_bl))
dss_nil)
(dss_one (ds_if (dt_not (dt_val (d_callX c__law_said hr rfl (da_cons (dv 4) (da_cons (dv 2) (da_cons (dv 3) (da_cons (d_sub_ix (dv 7) d_int) (da_cons (d_sub_ix (dv 7) d_int) da_nil))))))))
(dss_one (ds_ret d_bl))
dss_nil))))
dss_nil)))
(dss_one (ds_ret (d_eq hr (dv 4) (dv 2))))))))))))))), ?_⟩
    obtain ⟨ns, rfl, hl, h⟩ := h
    simp only [dstart, List.map, List.length, List.replicate, List.cons_append, List.nil_append]
    (try simp only [↓e_var0, ↓e_varS, ↓e_C, ↓e_op, ↓e_un, ↓e_cb, ↓e_nil, ↓e_cons, ↓e_tup, ↓e_lst, ↓e_lstM, ↓e_frz, ↓e_B, ↓e_bl, ↓e_andT, ↓e_orT, ↓e_notT, ↓e_andV, ↓e_orV, ↓e_notV, ↓e_ifE, ↓e_tru, ↓e_slice, ↓e_noPart, ↓e_part, ↓e_partV, ↓e_bm, ↓e_bm0, ↓e_ty_lst, ↓e_ty_str, ↓e_next, ↓e_seq, ↓e_break, ↓e_cont, ↓e_drop, ↓e_ret, ↓e_retN, ↓e_ifS, ↓e_asg, ↓e_gname, ↓e_put0, ↓e_putS, ↓e_aug, ↓e_gsub, ↓e_gtup2, ↓e_I, ↓e_Ic, ↓e_add, ↓e_addS, ↓e_addL, ↓e_addT, ↓e_mul, ↓e_eqI, ↓e_eqS, ↓e_eqB, ↓e_ix_lst, ↓e_ix_tup, ↓e_at0, ↓e_at1, ↓e_at2, ↓e_at3, ↓e_sa0, ↓e_sa1, ↓e_sa2, ↓e_sa3, ↓e_len_lst, ↓e_len_tup, ↓e_len_str, ↓e_abs, ↓e_int, ↓e_str, ↓e_ilst, ↓e_il, ↓e_irl, ↓e_irng1, ↓e_irV, ↓e_irng2, ↓e_irV2, ↓e_yes, ↓u_frzV, ↓u_ty, ↓u_setL, ↓u_ix, ↓u_len, ↓u_append, ↓u_pop, ↓u_iref, ↓e_isi, ↓e_strS, ↓e_dnew, ↓e_dget, ↓e_dput, ↓e_sc, ↓e_dcN, ↓e_rank, ↓e_inLN, ↓e_izipR, ↓e_ienum, ↓e_while, ↓mupd_mupd, ↓e_for, ↓e_lc, ↓e_lcM, ↓e_wipe, ↓e_wipe0, eq_self_iff_true, true_and, List.set_cons_zero, List.set_cons_succ, id_eq, ↓reduceIte, Bool.false_eq_true, Bool.not_true, Bool.not_false])
    refine ⟨ns, rfl, hl, fun a M1 R1 => ?_⟩
    (try simp only [↓e_var0, ↓e_varS, ↓e_C, ↓e_op, ↓e_un, ↓e_cb, ↓e_nil, ↓e_cons, ↓e_tup, ↓e_lst, ↓e_lstM, ↓e_frz, ↓e_B, ↓e_bl, ↓e_andT, ↓e_orT, ↓e_notT, ↓e_andV, ↓e_orV, ↓e_notV, ↓e_ifE, ↓e_tru, ↓e_slice, ↓e_noPart, ↓e_part, ↓e_partV, ↓e_bm, ↓e_bm0, ↓e_ty_lst, ↓e_ty_str, ↓e_next, ↓e_seq, ↓e_break, ↓e_cont, ↓e_drop, ↓e_ret, ↓e_retN, ↓e_ifS, ↓e_asg, ↓e_gname, ↓e_put0, ↓e_putS, ↓e_aug, ↓e_gsub, ↓e_gtup2, ↓e_I, ↓e_Ic, ↓e_add, ↓e_addS, ↓e_addL, ↓e_addT, ↓e_mul, ↓e_eqI, ↓e_eqS, ↓e_eqB, ↓e_ix_lst, ↓e_ix_tup, ↓e_at0, ↓e_at1, ↓e_at2, ↓e_at3, ↓e_sa0, ↓e_sa1, ↓e_sa2, ↓e_sa3, ↓e_len_lst, ↓e_len_tup, ↓e_len_str, ↓e_abs, ↓e_int, ↓e_str, ↓e_ilst, ↓e_il, ↓e_irl, ↓e_irng1, ↓e_irV, ↓e_irng2, ↓e_irV2, ↓e_yes, ↓u_frzV, ↓u_ty, ↓u_setL, ↓u_ix, ↓u_len, ↓u_append, ↓u_pop, ↓u_iref, ↓e_isi, ↓e_strS, ↓e_dnew, ↓e_dget, ↓e_dput, ↓e_sc, ↓e_dcN, ↓e_rank, ↓e_inLN, ↓e_izipR, ↓e_ienum, ↓e_while, ↓mupd_mupd, ↓e_for, ↓e_lc, ↓e_lcM, ↓e_wipe, ↓e_wipe0, eq_self_iff_true, true_and, List.set_cons_zero, List.set_cons_succ, id_eq, ↓reduceIte, Bool.false_eq_true, Bool.not_true, Bool.not_false])
    refine ⟨a, M, rfl, R1, fun rows M2 dr R2 => ?_⟩
    (try simp only [↓e_var0, ↓e_varS, ↓e_C, ↓e_op, ↓e_un, ↓e_cb, ↓e_nil, ↓e_cons, ↓e_tup, ↓e_lst, ↓e_lstM, ↓e_frz, ↓e_B, ↓e_bl, ↓e_andT, ↓e_orT, ↓e_notT, ↓e_andV, ↓e_orV, ↓e_notV, ↓e_ifE, ↓e_tru, ↓e_slice, ↓e_noPart, ↓e_part, ↓e_partV, ↓e_bm, ↓e_bm0, ↓e_ty_lst, ↓e_ty_str, ↓e_next, ↓e_seq, ↓e_break, ↓e_cont, ↓e_drop, ↓e_ret, ↓e_retN, ↓e_ifS, ↓e_asg, ↓e_gname, ↓e_put0, ↓e_putS, ↓e_aug, ↓e_gsub, ↓e_gtup2, ↓e_I, ↓e_Ic, ↓e_add, ↓e_addS, ↓e_addL, ↓e_addT, ↓e_mul, ↓e_eqI, ↓e_eqS, ↓e_eqB, ↓e_ix_lst, ↓e_ix_tup, ↓e_at0, ↓e_at1, ↓e_at2, ↓e_at3, ↓e_sa0, ↓e_sa1, ↓e_sa2, ↓e_sa3, ↓e_len_lst, ↓e_len_tup, ↓e_len_str, ↓e_abs, ↓e_int, ↓e_str, ↓e_ilst, ↓e_il, ↓e_irl, ↓e_irng1, ↓e_irV, ↓e_irng2, ↓e_irV2, ↓e_yes, ↓u_frzV, ↓u_ty, ↓u_setL, ↓u_ix, ↓u_len, ↓u_append, ↓u_pop, ↓u_iref, ↓e_isi, ↓e_strS, ↓e_dnew, ↓e_dget, ↓e_dput, ↓e_sc, ↓e_dcN, ↓e_rank, ↓e_inLN, ↓e_izipR, ↓e_ienum, ↓e_while, ↓mupd_mupd, ↓e_for, ↓e_lc, ↓e_lcM, ↓e_wipe, ↓e_wipe0, eq_self_iff_true, true_and, List.set_cons_zero, List.set_cons_succ, id_eq, ↓reduceIte, Bool.false_eq_true, Bool.not_true, Bool.not_false])
    refine ⟨rows, rfl, dr, fun due lk => ?_⟩
    have sm := dr.sm
    simp only [enD]
    (try simp only [↓e_var0, ↓e_varS, ↓e_C, ↓e_op, ↓e_un, ↓e_cb, ↓e_nil, ↓e_cons, ↓e_tup, ↓e_lst, ↓e_lstM, ↓e_frz, ↓e_B, ↓e_bl, ↓e_andT, ↓e_orT, ↓e_notT, ↓e_andV, ↓e_orV, ↓e_notV, ↓e_ifE, ↓e_tru, ↓e_slice, ↓e_noPart, ↓e_part, ↓e_partV, ↓e_bm, ↓e_bm0, ↓e_ty_lst, ↓e_ty_str, ↓e_next, ↓e_seq, ↓e_break, ↓e_cont, ↓e_drop, ↓e_ret, ↓e_retN, ↓e_ifS, ↓e_asg, ↓e_gname, ↓e_put0, ↓e_putS, ↓e_aug, ↓e_gsub, ↓e_gtup2, ↓e_I, ↓e_Ic, ↓e_add, ↓e_addS, ↓e_addL, ↓e_addT, ↓e_mul, ↓e_eqI, ↓e_eqS, ↓e_eqB, ↓e_ix_lst, ↓e_ix_tup, ↓e_at0, ↓e_at1, ↓e_at2, ↓e_at3, ↓e_sa0, ↓e_sa1, ↓e_sa2, ↓e_sa3, ↓e_len_lst, ↓e_len_tup, ↓e_len_str, ↓e_abs, ↓e_int, ↓e_str, ↓e_ilst, ↓e_il, ↓e_irl, ↓e_irng1, ↓e_irV, ↓e_irng2, ↓e_irV2, ↓e_yes, ↓u_frzV, ↓u_ty, ↓u_setL, ↓u_ix, ↓u_len, ↓u_append, ↓u_pop, ↓u_iref, ↓e_isi, ↓e_strS, ↓e_dnew, ↓e_dget, ↓e_dput, ↓e_sc, ↓e_dcN, ↓e_rank, ↓e_inLN, ↓e_izipR, ↓e_ienum, ↓e_while, ↓mupd_mupd, ↓e_for, ↓e_lc, ↓e_lcM, ↓e_wipe, ↓e_wipe0, eq_self_iff_true, true_and, List.set_cons_zero, List.set_cons_succ, id_eq, ↓reduceIte, Bool.false_eq_true, Bool.not_true, Bool.not_false])
    refine lc_typed1 rows enR (small_line (by omega)) trivial (fun i2 r E' hr' hE => ?_) ?_
    · (try simp only [↓e_var0, ↓e_varS, ↓e_C, ↓e_op, ↓e_un, ↓e_cb, ↓e_nil, ↓e_cons, ↓e_tup, ↓e_lst, ↓e_lstM, ↓e_frz, ↓e_B, ↓e_bl, ↓e_andT, ↓e_orT, ↓e_notT, ↓e_andV, ↓e_orV, ↓e_notV, ↓e_ifE, ↓e_tru, ↓e_slice, ↓e_noPart, ↓e_part, ↓e_partV, ↓e_bm, ↓e_bm0, ↓e_ty_lst, ↓e_ty_str, ↓e_next, ↓e_seq, ↓e_break, ↓e_cont, ↓e_drop, ↓e_ret, ↓e_retN, ↓e_ifS, ↓e_asg, ↓e_gname, ↓e_put0, ↓e_putS, ↓e_aug, ↓e_gsub, ↓e_gtup2, ↓e_I, ↓e_Ic, ↓e_add, ↓e_addS, ↓e_addL, ↓e_addT, ↓e_mul, ↓e_eqI, ↓e_eqS, ↓e_eqB, ↓e_ix_lst, ↓e_ix_tup, ↓e_at0, ↓e_at1, ↓e_at2, ↓e_at3, ↓e_sa0, ↓e_sa1, ↓e_sa2, ↓e_sa3, ↓e_len_lst, ↓e_len_tup, ↓e_len_str, ↓e_abs, ↓e_int, ↓e_str, ↓e_ilst, ↓e_il, ↓e_irl, ↓e_irng1, ↓e_irV, ↓e_irng2, ↓e_irV2, ↓e_yes, ↓u_frzV, ↓u_ty, ↓u_setL, ↓u_ix, ↓u_len, ↓u_append, ↓u_pop, ↓u_iref, ↓e_isi, ↓e_strS, ↓e_dnew, ↓e_dget, ↓e_dput, ↓e_sc, ↓e_dcN, ↓e_rank, ↓e_inLN, ↓e_izipR, ↓e_ienum, ↓e_while, ↓mupd_mupd, ↓e_for, ↓e_lc, ↓e_lcM, ↓e_wipe, ↓e_wipe0, eq_self_iff_true, true_and, List.set_cons_zero, List.set_cons_succ, id_eq, ↓reduceIte, Bool.false_eq_true, Bool.not_true, Bool.not_false])
      exact ⟨_, _, rfl, rfl, hE⟩
    refine ⟨rows, rfl, dr, fun due1 p lk1 hp => ?_⟩
    obtain rfl := lk.det lk1
    have R3 := R2.new (o := moN due) hp
    (try simp only [↓e_var0, ↓e_varS, ↓e_C, ↓e_op, ↓e_un, ↓e_cb, ↓e_nil, ↓e_cons, ↓e_tup, ↓e_lst, ↓e_lstM, ↓e_frz, ↓e_B, ↓e_bl, ↓e_andT, ↓e_orT, ↓e_notT, ↓e_andV, ↓e_orV, ↓e_notV, ↓e_ifE, ↓e_tru, ↓e_slice, ↓e_noPart, ↓e_part, ↓e_partV, ↓e_bm, ↓e_bm0, ↓e_ty_lst, ↓e_ty_str, ↓e_next, ↓e_seq, ↓e_break, ↓e_cont, ↓e_drop, ↓e_ret, ↓e_retN, ↓e_ifS, ↓e_asg, ↓e_gname, ↓e_put0, ↓e_putS, ↓e_aug, ↓e_gsub, ↓e_gtup2, ↓e_I, ↓e_Ic, ↓e_add, ↓e_addS, ↓e_addL, ↓e_addT, ↓e_mul, ↓e_eqI, ↓e_eqS, ↓e_eqB, ↓e_ix_lst, ↓e_ix_tup, ↓e_at0, ↓e_at1, ↓e_at2, ↓e_at3, ↓e_sa0, ↓e_sa1, ↓e_sa2, ↓e_sa3, ↓e_len_lst, ↓e_len_tup, ↓e_len_str, ↓e_abs, ↓e_int, ↓e_str, ↓e_ilst, ↓e_il, ↓e_irl, ↓e_irng1, ↓e_irV, ↓e_irng2, ↓e_irV2, ↓e_yes, ↓u_frzV, ↓u_ty, ↓u_setL, ↓u_ix, ↓u_len, ↓u_append, ↓u_pop, ↓u_iref, ↓e_isi, ↓e_strS, ↓e_dnew, ↓e_dget, ↓e_dput, ↓e_sc, ↓e_dcN, ↓e_rank, ↓e_inLN, ↓e_izipR, ↓e_ienum, ↓e_while, ↓mupd_mupd, ↓e_for, ↓e_lc, ↓e_lcM, ↓e_wipe, ↓e_wipe0, eq_self_iff_true, true_and, List.set_cons_zero, List.set_cons_succ, id_eq, ↓reduceIte, Bool.false_eq_true, Bool.not_true, Bool.not_false])
    refine ⟨due, p, rfl, by rw [lk.len]; omega, mupd_same, ?_⟩
    (try simp only [↓e_var0, ↓e_varS, ↓e_C, ↓e_op, ↓e_un, ↓e_cb, ↓e_nil, ↓e_cons, ↓e_tup, ↓e_lst, ↓e_lstM, ↓e_frz, ↓e_B, ↓e_bl, ↓e_andT, ↓e_orT, ↓e_notT, ↓e_andV, ↓e_orV, ↓e_notV, ↓e_ifE, ↓e_tru, ↓e_slice, ↓e_noPart, ↓e_part, ↓e_partV, ↓e_bm, ↓e_bm0, ↓e_ty_lst, ↓e_ty_str, ↓e_next, ↓e_seq, ↓e_break, ↓e_cont, ↓e_drop, ↓e_ret, ↓e_retN, ↓e_ifS, ↓e_asg, ↓e_gname, ↓e_put0, ↓e_putS, ↓e_aug, ↓e_gsub, ↓e_gtup2, ↓e_I, ↓e_Ic, ↓e_add, ↓e_addS, ↓e_addL, ↓e_addT, ↓e_mul, ↓e_eqI, ↓e_eqS, ↓e_eqB, ↓e_ix_lst, ↓e_ix_tup, ↓e_at0, ↓e_at1, ↓e_at2, ↓e_at3, ↓e_sa0, ↓e_sa1, ↓e_sa2, ↓e_sa3, ↓e_len_lst, ↓e_len_tup, ↓e_len_str, ↓e_abs, ↓e_int, ↓e_str, ↓e_ilst, ↓e_il, ↓e_irl, ↓e_irng1, ↓e_irV, ↓e_irng2, ↓e_irV2, ↓e_yes, ↓u_frzV, ↓u_ty, ↓u_setL, ↓u_ix, ↓u_len, ↓u_append, ↓u_pop, ↓u_iref, ↓e_isi, ↓e_strS, ↓e_dnew, ↓e_dget, ↓e_dput, ↓e_sc, ↓e_dcN, ↓e_rank, ↓e_inLN, ↓e_izipR, ↓e_ienum, ↓e_while, ↓mupd_mupd, ↓e_for, ↓e_lc, ↓e_lcM, ↓e_wipe, ↓e_wipe0, eq_self_iff_true, true_and, List.set_cons_zero, List.set_cons_succ, id_eq, ↓reduceIte, Bool.false_eq_true, Bool.not_true, Bool.not_false])
    rw [List.length_map]
    by_cases c : decide ((rows.length : Int) < 12) = true
    · rw [if_pos c]
      have c' : (rows.length : Int) < 12 := of_decide_eq_true c
      refine ⟨rows, due, p, rfl, dr, by omega, lk, mupd_same, ?_⟩
      (try simp only [↓e_var0, ↓e_varS, ↓e_C, ↓e_op, ↓e_un, ↓e_cb, ↓e_nil, ↓e_cons, ↓e_tup, ↓e_lst, ↓e_lstM, ↓e_frz, ↓e_B, ↓e_bl, ↓e_andT, ↓e_orT, ↓e_notT, ↓e_andV, ↓e_orV, ↓e_notV, ↓e_ifE, ↓e_tru, ↓e_slice, ↓e_noPart, ↓e_part, ↓e_partV, ↓e_bm, ↓e_bm0, ↓e_ty_lst, ↓e_ty_str, ↓e_next, ↓e_seq, ↓e_break, ↓e_cont, ↓e_drop, ↓e_ret, ↓e_retN, ↓e_ifS, ↓e_asg, ↓e_gname, ↓e_put0, ↓e_putS, ↓e_aug, ↓e_gsub, ↓e_gtup2, ↓e_I, ↓e_Ic, ↓e_add, ↓e_addS, ↓e_addL, ↓e_addT, ↓e_mul, ↓e_eqI, ↓e_eqS, ↓e_eqB, ↓e_ix_lst, ↓e_ix_tup, ↓e_at0, ↓e_at1, ↓e_at2, ↓e_at3, ↓e_sa0, ↓e_sa1, ↓e_sa2, ↓e_sa3, ↓e_len_lst, ↓e_len_tup, ↓e_len_str, ↓e_abs, ↓e_int, ↓e_str, ↓e_ilst, ↓e_il, ↓e_irl, ↓e_irng1, ↓e_irV, ↓e_irng2, ↓e_irV2, ↓e_yes, ↓u_frzV, ↓u_ty, ↓u_setL, ↓u_ix, ↓u_len, ↓u_append, ↓u_pop, ↓u_iref, ↓e_isi, ↓e_strS, ↓e_dnew, ↓e_dget, ↓e_dput, ↓e_sc, ↓e_dcN, ↓e_rank, ↓e_inLN, ↓e_izipR, ↓e_ienum, ↓e_while, ↓mupd_mupd, ↓e_for, ↓e_lc, ↓e_lcM, ↓e_wipe, ↓e_wipe0, eq_self_iff_true, true_and, List.set_cons_zero, List.set_cons_succ, id_eq, ↓reduceIte, Bool.false_eq_true, Bool.not_true, Bool.not_false])
      rw [sa_zero (show 0 < (due.map fun n : Nat => D.int n).length by rw [List.length_map, lk.len]; exact dr.pos)]
      (try simp only [↓e_var0, ↓e_varS, ↓e_C, ↓e_op, ↓e_un, ↓e_cb, ↓e_nil, ↓e_cons, ↓e_tup, ↓e_lst, ↓e_lstM, ↓e_frz, ↓e_B, ↓e_bl, ↓e_andT, ↓e_orT, ↓e_notT, ↓e_andV, ↓e_orV, ↓e_notV, ↓e_ifE, ↓e_tru, ↓e_slice, ↓e_noPart, ↓e_part, ↓e_partV, ↓e_bm, ↓e_bm0, ↓e_ty_lst, ↓e_ty_str, ↓e_next, ↓e_seq, ↓e_break, ↓e_cont, ↓e_drop, ↓e_ret, ↓e_retN, ↓e_ifS, ↓e_asg, ↓e_gname, ↓e_put0, ↓e_putS, ↓e_aug, ↓e_gsub, ↓e_gtup2, ↓e_I, ↓e_Ic, ↓e_add, ↓e_addS, ↓e_addL, ↓e_addT, ↓e_mul, ↓e_eqI, ↓e_eqS, ↓e_eqB, ↓e_ix_lst, ↓e_ix_tup, ↓e_at0, ↓e_at1, ↓e_at2, ↓e_at3, ↓e_sa0, ↓e_sa1, ↓e_sa2, ↓e_sa3, ↓e_len_lst, ↓e_len_tup, ↓e_len_str, ↓e_abs, ↓e_int, ↓e_str, ↓e_ilst, ↓e_il, ↓e_irl, ↓e_irng1, ↓e_irV, ↓e_irng2, ↓e_irV2, ↓e_yes, ↓u_frzV, ↓u_ty, ↓u_setL, ↓u_ix, ↓u_len, ↓u_append, ↓u_pop, ↓u_iref, ↓e_isi, ↓e_strS, ↓e_dnew, ↓e_dget, ↓e_dput, ↓e_sc, ↓e_dcN, ↓e_rank, ↓e_inLN, ↓e_izipR, ↓e_ienum, ↓e_while, ↓mupd_mupd, ↓e_for, ↓e_lc, ↓e_lcM, ↓e_wipe, ↓e_wipe0, eq_self_iff_true, true_and, List.set_cons_zero, List.set_cons_succ, id_eq, ↓reduceIte, Bool.false_eq_true, Bool.not_true, Bool.not_false])
      refine ⟨by rw [List.length_set, List.length_map, lk.len]; exact small_line' (by omega), ?_⟩
      refine ⟨rows, rfl, dr, fun due2 p2 lk2 hp2 => ?_⟩
      obtain rfl := lk.det lk2
      have R4 := R3.upd (u := .lst ((due.map fun n : Nat => D.int n).set 0 (D.int 500) ++ [D.int 0])) mupd_same
      rw [mupd_mupd, mupd_mupd] at R4
      have R5 := R4.new (o := moN due) hp2
      (try simp only [↓e_var0, ↓e_varS, ↓e_C, ↓e_op, ↓e_un, ↓e_cb, ↓e_nil, ↓e_cons, ↓e_tup, ↓e_lst, ↓e_lstM, ↓e_frz, ↓e_B, ↓e_bl, ↓e_andT, ↓e_orT, ↓e_notT, ↓e_andV, ↓e_orV, ↓e_notV, ↓e_ifE, ↓e_tru, ↓e_slice, ↓e_noPart, ↓e_part, ↓e_partV, ↓e_bm, ↓e_bm0, ↓e_ty_lst, ↓e_ty_str, ↓e_next, ↓e_seq, ↓e_break, ↓e_cont, ↓e_drop, ↓e_ret, ↓e_retN, ↓e_ifS, ↓e_asg, ↓e_gname, ↓e_put0, ↓e_putS, ↓e_aug, ↓e_gsub, ↓e_gtup2, ↓e_I, ↓e_Ic, ↓e_add, ↓e_addS, ↓e_addL, ↓e_addT, ↓e_mul, ↓e_eqI, ↓e_eqS, ↓e_eqB, ↓e_ix_lst, ↓e_ix_tup, ↓e_at0, ↓e_at1, ↓e_at2, ↓e_at3, ↓e_sa0, ↓e_sa1, ↓e_sa2, ↓e_sa3, ↓e_len_lst, ↓e_len_tup, ↓e_len_str, ↓e_abs, ↓e_int, ↓e_str, ↓e_ilst, ↓e_il, ↓e_irl, ↓e_irng1, ↓e_irV, ↓e_irng2, ↓e_irV2, ↓e_yes, ↓u_frzV, ↓u_ty, ↓u_setL, ↓u_ix, ↓u_len, ↓u_append, ↓u_pop, ↓u_iref, ↓e_isi, ↓e_strS, ↓e_dnew, ↓e_dget, ↓e_dput, ↓e_sc, ↓e_dcN, ↓e_rank, ↓e_inLN, ↓e_izipR, ↓e_ienum, ↓e_while, ↓mupd_mupd, ↓e_for, ↓e_lc, ↓e_lcM, ↓e_wipe, ↓e_wipe0, eq_self_iff_true, true_and, List.set_cons_zero, List.set_cons_succ, id_eq, ↓reduceIte, Bool.false_eq_true, Bool.not_true, Bool.not_false])
      refine ⟨due, p2, rfl, by rw [lk.len]; omega, mupd_same, ?_⟩
      (try simp only [↓e_var0, ↓e_varS, ↓e_C, ↓e_op, ↓e_un, ↓e_cb, ↓e_nil, ↓e_cons, ↓e_tup, ↓e_lst, ↓e_lstM, ↓e_frz, ↓e_B, ↓e_bl, ↓e_andT, ↓e_orT, ↓e_notT, ↓e_andV, ↓e_orV, ↓e_notV, ↓e_ifE, ↓e_tru, ↓e_slice, ↓e_noPart, ↓e_part, ↓e_partV, ↓e_bm, ↓e_bm0, ↓e_ty_lst, ↓e_ty_str, ↓e_next, ↓e_seq, ↓e_break, ↓e_cont, ↓e_drop, ↓e_ret, ↓e_retN, ↓e_ifS, ↓e_asg, ↓e_gname, ↓e_put0, ↓e_putS, ↓e_aug, ↓e_gsub, ↓e_gtup2, ↓e_I, ↓e_Ic, ↓e_add, ↓e_addS, ↓e_addL, ↓e_addT, ↓e_mul, ↓e_eqI, ↓e_eqS, ↓e_eqB, ↓e_ix_lst, ↓e_ix_tup, ↓e_at0, ↓e_at1, ↓e_at2, ↓e_at3, ↓e_sa0, ↓e_sa1, ↓e_sa2, ↓e_sa3, ↓e_len_lst, ↓e_len_tup, ↓e_len_str, ↓e_abs, ↓e_int, ↓e_str, ↓e_ilst, ↓e_il, ↓e_irl, ↓e_irng1, ↓e_irV, ↓e_irng2, ↓e_irV2, ↓e_yes, ↓u_frzV, ↓u_ty, ↓u_setL, ↓u_ix, ↓u_len, ↓u_append, ↓u_pop, ↓u_iref, ↓e_isi, ↓e_strS, ↓e_dnew, ↓e_dget, ↓e_dput, ↓e_sc, ↓e_dcN, ↓e_rank, ↓e_inLN, ↓e_izipR, ↓e_ienum, ↓e_while, ↓mupd_mupd, ↓e_for, ↓e_lc, ↓e_lcM, ↓e_wipe, ↓e_wipe0, eq_self_iff_true, true_and, List.set_cons_zero, List.set_cons_succ, id_eq, ↓reduceIte, Bool.false_eq_true, Bool.not_true, Bool.not_false])
      refine ⟨by decide, by decide, ?_⟩
      refine for_typed (List.range 6) (fun i ρ M' => ∃ (o6 o7 : Option D) (Mx : MS), ρ = [some (.rl (ns.map D.int)), some (.ref a), some (.lst (rows.map enR)), some (enN due), some (.lst (rows.map enR)), some (.ref p), o6, o7, none] ∧ RnAt Mx a M') ⟨none, none, _, rfl, R5⟩ (fun _ _ _ _ _ => trivial) (fun i0 x ρ M3 hx hW => ?_) (fun ρ M3 hW => ?_)
      · obtain ⟨o6, o7, Mx, rfl, R6⟩ := hW
        (try simp only [↓e_var0, ↓e_varS, ↓e_C, ↓e_op, ↓e_un, ↓e_cb, ↓e_nil, ↓e_cons, ↓e_tup, ↓e_lst, ↓e_lstM, ↓e_frz, ↓e_B, ↓e_bl, ↓e_andT, ↓e_orT, ↓e_notT, ↓e_andV, ↓e_orV, ↓e_notV, ↓e_ifE, ↓e_tru, ↓e_slice, ↓e_noPart, ↓e_part, ↓e_partV, ↓e_bm, ↓e_bm0, ↓e_ty_lst, ↓e_ty_str, ↓e_next, ↓e_seq, ↓e_break, ↓e_cont, ↓e_drop, ↓e_ret, ↓e_retN, ↓e_ifS, ↓e_asg, ↓e_gname, ↓e_put0, ↓e_putS, ↓e_aug, ↓e_gsub, ↓e_gtup2, ↓e_I, ↓e_Ic, ↓e_add, ↓e_addS, ↓e_addL, ↓e_addT, ↓e_mul, ↓e_eqI, ↓e_eqS, ↓e_eqB, ↓e_ix_lst, ↓e_ix_tup, ↓e_at0, ↓e_at1, ↓e_at2, ↓e_at3, ↓e_sa0, ↓e_sa1, ↓e_sa2, ↓e_sa3, ↓e_len_lst, ↓e_len_tup, ↓e_len_str, ↓e_abs, ↓e_int, ↓e_str, ↓e_ilst, ↓e_il, ↓e_irl, ↓e_irng1, ↓e_irV, ↓e_irng2, ↓e_irV2, ↓e_yes, ↓u_frzV, ↓u_ty, ↓u_setL, ↓u_ix, ↓u_len, ↓u_append, ↓u_pop, ↓u_iref, ↓e_isi, ↓e_strS, ↓e_dnew, ↓e_dget, ↓e_dput, ↓e_sc, ↓e_dcN, ↓e_rank, ↓e_inLN, ↓e_izipR, ↓e_ienum, ↓e_while, ↓mupd_mupd, ↓e_for, ↓e_lc, ↓e_lcM, ↓e_wipe, ↓e_wipe0, eq_self_iff_true, true_and, List.set_cons_zero, List.set_cons_succ, id_eq, ↓reduceIte, Bool.false_eq_true, Bool.not_true, Bool.not_false])
        split
        · refine ⟨a, Mx, rows, due, rfl, R6, dr, lk, fun i j M' hi hj R' => ?_⟩
          (try simp only [↓e_var0, ↓e_varS, ↓e_C, ↓e_op, ↓e_un, ↓e_cb, ↓e_nil, ↓e_cons, ↓e_tup, ↓e_lst, ↓e_lstM, ↓e_frz, ↓e_B, ↓e_bl, ↓e_andT, ↓e_orT, ↓e_notT, ↓e_andV, ↓e_orV, ↓e_notV, ↓e_ifE, ↓e_tru, ↓e_slice, ↓e_noPart, ↓e_part, ↓e_partV, ↓e_bm, ↓e_bm0, ↓e_ty_lst, ↓e_ty_str, ↓e_next, ↓e_seq, ↓e_break, ↓e_cont, ↓e_drop, ↓e_ret, ↓e_retN, ↓e_ifS, ↓e_asg, ↓e_gname, ↓e_put0, ↓e_putS, ↓e_aug, ↓e_gsub, ↓e_gtup2, ↓e_I, ↓e_Ic, ↓e_add, ↓e_addS, ↓e_addL, ↓e_addT, ↓e_mul, ↓e_eqI, ↓e_eqS, ↓e_eqB, ↓e_ix_lst, ↓e_ix_tup, ↓e_at0, ↓e_at1, ↓e_at2, ↓e_at3, ↓e_sa0, ↓e_sa1, ↓e_sa2, ↓e_sa3, ↓e_len_lst, ↓e_len_tup, ↓e_len_str, ↓e_abs, ↓e_int, ↓e_str, ↓e_ilst, ↓e_il, ↓e_irl, ↓e_irng1, ↓e_irV, ↓e_irng2, ↓e_irV2, ↓e_yes, ↓u_frzV, ↓u_ty, ↓u_setL, ↓u_ix, ↓u_len, ↓u_append, ↓u_pop, ↓u_iref, ↓e_isi, ↓e_strS, ↓e_dnew, ↓e_dget, ↓e_dput, ↓e_sc, ↓e_dcN, ↓e_rank, ↓e_inLN, ↓e_izipR, ↓e_ienum, ↓e_while, ↓mupd_mupd, ↓e_for, ↓e_lc, ↓e_lcM, ↓e_wipe, ↓e_wipe0, eq_self_iff_true, true_and, List.set_cons_zero, List.set_cons_succ, id_eq, ↓reduceIte, Bool.false_eq_true, Bool.not_true, Bool.not_false])
          refine ⟨rows, due, i, j, rfl, dr, lk, hi, hj, ?_⟩
          (try simp only [↓e_var0, ↓e_varS, ↓e_C, ↓e_op, ↓e_un, ↓e_cb, ↓e_nil, ↓e_cons, ↓e_tup, ↓e_lst, ↓e_lstM, ↓e_frz, ↓e_B, ↓e_bl, ↓e_andT, ↓e_orT, ↓e_notT, ↓e_andV, ↓e_orV, ↓e_notV, ↓e_ifE, ↓e_tru, ↓e_slice, ↓e_noPart, ↓e_part, ↓e_partV, ↓e_bm, ↓e_bm0, ↓e_ty_lst, ↓e_ty_str, ↓e_next, ↓e_seq, ↓e_break, ↓e_cont, ↓e_drop, ↓e_ret, ↓e_retN, ↓e_ifS, ↓e_asg, ↓e_gname, ↓e_put0, ↓e_putS, ↓e_aug, ↓e_gsub, ↓e_gtup2, ↓e_I, ↓e_Ic, ↓e_add, ↓e_addS, ↓e_addL, ↓e_addT, ↓e_mul, ↓e_eqI, ↓e_eqS, ↓e_eqB, ↓e_ix_lst, ↓e_ix_tup, ↓e_at0, ↓e_at1, ↓e_at2, ↓e_at3, ↓e_sa0, ↓e_sa1, ↓e_sa2, ↓e_sa3, ↓e_len_lst, ↓e_len_tup, ↓e_len_str, ↓e_abs, ↓e_int, ↓e_str, ↓e_ilst, ↓e_il, ↓e_irl, ↓e_irng1, ↓e_irV, ↓e_irng2, ↓e_irV2, ↓e_yes, ↓u_frzV, ↓u_ty, ↓u_setL, ↓u_ix, ↓u_len, ↓u_append, ↓u_pop, ↓u_iref, ↓e_isi, ↓e_strS, ↓e_dnew, ↓e_dget, ↓e_dput, ↓e_sc, ↓e_dcN, ↓e_rank, ↓e_inLN, ↓e_izipR, ↓e_ienum, ↓e_while, ↓mupd_mupd, ↓e_for, ↓e_lc, ↓e_lcM, ↓e_wipe, ↓e_wipe0, eq_self_iff_true, true_and, List.set_cons_zero, List.set_cons_succ, id_eq, ↓reduceIte, Bool.false_eq_true, Bool.not_true, Bool.not_false])
          refine ⟨rows, due, j, i, rfl, dr, lk, hj, hi, ?_⟩
          (try simp only [↓e_var0, ↓e_varS, ↓e_C, ↓e_op, ↓e_un, ↓e_cb, ↓e_nil, ↓e_cons, ↓e_tup, ↓e_lst, ↓e_lstM, ↓e_frz, ↓e_B, ↓e_bl, ↓e_andT, ↓e_orT, ↓e_notT, ↓e_andV, ↓e_orV, ↓e_notV, ↓e_ifE, ↓e_tru, ↓e_slice, ↓e_noPart, ↓e_part, ↓e_partV, ↓e_bm, ↓e_bm0, ↓e_ty_lst, ↓e_ty_str, ↓e_next, ↓e_seq, ↓e_break, ↓e_cont, ↓e_drop, ↓e_ret, ↓e_retN, ↓e_ifS, ↓e_asg, ↓e_gname, ↓e_put0, ↓e_putS, ↓e_aug, ↓e_gsub, ↓e_gtup2, ↓e_I, ↓e_Ic, ↓e_add, ↓e_addS, ↓e_addL, ↓e_addT, ↓e_mul, ↓e_eqI, ↓e_eqS, ↓e_eqB, ↓e_ix_lst, ↓e_ix_tup, ↓e_at0, ↓e_at1, ↓e_at2, ↓e_at3, ↓e_sa0, ↓e_sa1, ↓e_sa2, ↓e_sa3, ↓e_len_lst, ↓e_len_tup, ↓e_len_str, ↓e_abs, ↓e_int, ↓e_str, ↓e_ilst, ↓e_il, ↓e_irl, ↓e_irng1, ↓e_irV, ↓e_irng2, ↓e_irV2, ↓e_yes, ↓u_frzV, ↓u_ty, ↓u_setL, ↓u_ix, ↓u_len, ↓u_append, ↓u_pop, ↓u_iref, ↓e_isi, ↓e_strS, ↓e_dnew, ↓e_dget, ↓e_dput, ↓e_sc, ↓e_dcN, ↓e_rank, ↓e_inLN, ↓e_izipR, ↓e_ienum, ↓e_while, ↓mupd_mupd, ↓e_for, ↓e_lc, ↓e_lcM, ↓e_wipe, ↓e_wipe0, eq_self_iff_true, true_and, List.set_cons_zero, List.set_cons_succ, id_eq, ↓reduceIte, Bool.false_eq_true, Bool.not_true, Bool.not_false])
          exact ⟨_, _, _, rfl, R'⟩
        · split
          · refine ⟨a, Mx, rows, due, rfl, R6, dr, lk, fun i j M' hi hj R' => ?_⟩
            (try simp only [↓e_var0, ↓e_varS, ↓e_C, ↓e_op, ↓e_un, ↓e_cb, ↓e_nil, ↓e_cons, ↓e_tup, ↓e_lst, ↓e_lstM, ↓e_frz, ↓e_B, ↓e_bl, ↓e_andT, ↓e_orT, ↓e_notT, ↓e_andV, ↓e_orV, ↓e_notV, ↓e_ifE, ↓e_tru, ↓e_slice, ↓e_noPart, ↓e_part, ↓e_partV, ↓e_bm, ↓e_bm0, ↓e_ty_lst, ↓e_ty_str, ↓e_next, ↓e_seq, ↓e_break, ↓e_cont, ↓e_drop, ↓e_ret, ↓e_retN, ↓e_ifS, ↓e_asg, ↓e_gname, ↓e_put0, ↓e_putS, ↓e_aug, ↓e_gsub, ↓e_gtup2, ↓e_I, ↓e_Ic, ↓e_add, ↓e_addS, ↓e_addL, ↓e_addT, ↓e_mul, ↓e_eqI, ↓e_eqS, ↓e_eqB, ↓e_ix_lst, ↓e_ix_tup, ↓e_at0, ↓e_at1, ↓e_at2, ↓e_at3, ↓e_sa0, ↓e_sa1, ↓e_sa2, ↓e_sa3, ↓e_len_lst, ↓e_len_tup, ↓e_len_str, ↓e_abs, ↓e_int, ↓e_str, ↓e_ilst, ↓e_il, ↓e_irl, ↓e_irng1, ↓e_irV, ↓e_irng2, ↓e_irV2, ↓e_yes, ↓u_frzV, ↓u_ty, ↓u_setL, ↓u_ix, ↓u_len, ↓u_append, ↓u_pop, ↓u_iref, ↓e_isi, ↓e_strS, ↓e_dnew, ↓e_dget, ↓e_dput, ↓e_sc, ↓e_dcN, ↓e_rank, ↓e_inLN, ↓e_izipR, ↓e_ienum, ↓e_while, ↓mupd_mupd, ↓e_for, ↓e_lc, ↓e_lcM, ↓e_wipe, ↓e_wipe0, eq_self_iff_true, true_and, List.set_cons_zero, List.set_cons_succ, id_eq, ↓reduceIte, Bool.false_eq_true, Bool.not_true, Bool.not_false])
            refine ⟨rows, due, i, j, rfl, dr, lk, hi, hj, ?_⟩
            (try simp only [↓e_var0, ↓e_varS, ↓e_C, ↓e_op, ↓e_un, ↓e_cb, ↓e_nil, ↓e_cons, ↓e_tup, ↓e_lst, ↓e_lstM, ↓e_frz, ↓e_B, ↓e_bl, ↓e_andT, ↓e_orT, ↓e_notT, ↓e_andV, ↓e_orV, ↓e_notV, ↓e_ifE, ↓e_tru, ↓e_slice, ↓e_noPart, ↓e_part, ↓e_partV, ↓e_bm, ↓e_bm0, ↓e_ty_lst, ↓e_ty_str, ↓e_next, ↓e_seq, ↓e_break, ↓e_cont, ↓e_drop, ↓e_ret, ↓e_retN, ↓e_ifS, ↓e_asg, ↓e_gname, ↓e_put0, ↓e_putS, ↓e_aug, ↓e_gsub, ↓e_gtup2, ↓e_I, ↓e_Ic, ↓e_add, ↓e_addS, ↓e_addL, ↓e_addT, ↓e_mul, ↓e_eqI, ↓e_eqS, ↓e_eqB, ↓e_ix_lst, ↓e_ix_tup, ↓e_at0, ↓e_at1, ↓e_at2, ↓e_at3, ↓e_sa0, ↓e_sa1, ↓e_sa2, ↓e_sa3, ↓e_len_lst, ↓e_len_tup, ↓e_len_str, ↓e_abs, ↓e_int, ↓e_str, ↓e_ilst, ↓e_il, ↓e_irl, ↓e_irng1, ↓e_irV, ↓e_irng2, ↓e_irV2, ↓e_yes, ↓u_frzV, ↓u_ty, ↓u_setL, ↓u_ix, ↓u_len, ↓u_append, ↓u_pop, ↓u_iref, ↓e_isi, ↓e_strS, ↓e_dnew, ↓e_dget, ↓e_dput, ↓e_sc, ↓e_dcN, ↓e_rank, ↓e_inLN, ↓e_izipR, ↓e_ienum, ↓e_while, ↓mupd_mupd, ↓e_for, ↓e_lc, ↓e_lcM, ↓e_wipe, ↓e_wipe0, eq_self_iff_true, true_and, List.set_cons_zero, List.set_cons_succ, id_eq, ↓reduceIte, Bool.false_eq_true, Bool.not_true, Bool.not_false])
            refine ⟨rows, due, j, i, rfl, dr, lk, hj, hi, ?_⟩
            (try simp only [↓e_var0, ↓e_varS, ↓e_C, ↓e_op, ↓e_un, ↓e_cb, ↓e_nil, ↓e_cons, ↓e_tup, ↓e_lst, ↓e_lstM, ↓e_frz, ↓e_B, ↓e_bl, ↓e_andT, ↓e_orT, ↓e_notT, ↓e_andV, ↓e_orV, ↓e_notV, ↓e_ifE, ↓e_tru, ↓e_slice, ↓e_noPart, ↓e_part, ↓e_partV, ↓e_bm, ↓e_bm0, ↓e_ty_lst, ↓e_ty_str, ↓e_next, ↓e_seq, ↓e_break, ↓e_cont, ↓e_drop, ↓e_ret, ↓e_retN, ↓e_ifS, ↓e_asg, ↓e_gname, ↓e_put0, ↓e_putS, ↓e_aug, ↓e_gsub, ↓e_gtup2, ↓e_I, ↓e_Ic, ↓e_add, ↓e_addS, ↓e_addL, ↓e_addT, ↓e_mul, ↓e_eqI, ↓e_eqS, ↓e_eqB, ↓e_ix_lst, ↓e_ix_tup, ↓e_at0, ↓e_at1, ↓e_at2, ↓e_at3, ↓e_sa0, ↓e_sa1, ↓e_sa2, ↓e_sa3, ↓e_len_lst, ↓e_len_tup, ↓e_len_str, ↓e_abs, ↓e_int, ↓e_str, ↓e_ilst, ↓e_il, ↓e_irl, ↓e_irng1, ↓e_irV, ↓e_irng2, ↓e_irV2, ↓e_yes, ↓u_frzV, ↓u_ty, ↓u_setL, ↓u_ix, ↓u_len, ↓u_append, ↓u_pop, ↓u_iref, ↓e_isi, ↓e_strS, ↓e_dnew, ↓e_dget, ↓e_dput, ↓e_sc, ↓e_dcN, ↓e_rank, ↓e_inLN, ↓e_izipR, ↓e_ienum, ↓e_while, ↓mupd_mupd, ↓e_for, ↓e_lc, ↓e_lcM, ↓e_wipe, ↓e_wipe0, eq_self_iff_true, true_and, List.set_cons_zero, List.set_cons_succ, id_eq, ↓reduceIte, Bool.false_eq_true, Bool.not_true, Bool.not_false])
            exact ⟨_, _, _, rfl, R'⟩
          · exact ⟨_, _, _, rfl, R6⟩
      · obtain ⟨o6, o7, Mx, rfl, R6⟩ := hW
        (try simp only [↓e_var0, ↓e_varS, ↓e_C, ↓e_op, ↓e_un, ↓e_cb, ↓e_nil, ↓e_cons, ↓e_tup, ↓e_lst, ↓e_lstM, ↓e_frz, ↓e_B, ↓e_bl, ↓e_andT, ↓e_orT, ↓e_notT, ↓e_andV, ↓e_orV, ↓e_notV, ↓e_ifE, ↓e_tru, ↓e_slice, ↓e_noPart, ↓e_part, ↓e_partV, ↓e_bm, ↓e_bm0, ↓e_ty_lst, ↓e_ty_str, ↓e_next, ↓e_seq, ↓e_break, ↓e_cont, ↓e_drop, ↓e_ret, ↓e_retN, ↓e_ifS, ↓e_asg, ↓e_gname, ↓e_put0, ↓e_putS, ↓e_aug, ↓e_gsub, ↓e_gtup2, ↓e_I, ↓e_Ic, ↓e_add, ↓e_addS, ↓e_addL, ↓e_addT, ↓e_mul, ↓e_eqI, ↓e_eqS, ↓e_eqB, ↓e_ix_lst, ↓e_ix_tup, ↓e_at0, ↓e_at1, ↓e_at2, ↓e_at3, ↓e_sa0, ↓e_sa1, ↓e_sa2, ↓e_sa3, ↓e_len_lst, ↓e_len_tup, ↓e_len_str, ↓e_abs, ↓e_int, ↓e_str, ↓e_ilst, ↓e_il, ↓e_irl, ↓e_irng1, ↓e_irV, ↓e_irng2, ↓e_irV2, ↓e_yes, ↓u_frzV, ↓u_ty, ↓u_setL, ↓u_ix, ↓u_len, ↓u_append, ↓u_pop, ↓u_iref, ↓e_isi, ↓e_strS, ↓e_dnew, ↓e_dget, ↓e_dput, ↓e_sc, ↓e_dcN, ↓e_rank, ↓e_inLN, ↓e_izipR, ↓e_ienum, ↓e_while, ↓mupd_mupd, ↓e_for, ↓e_lc, ↓e_lcM, ↓e_wipe, ↓e_wipe0, eq_self_iff_true, true_and, List.set_cons_zero, List.set_cons_succ, id_eq, ↓reduceIte, Bool.false_eq_true, Bool.not_true, Bool.not_false])
        have er : rows.map enR = (rows.map fun r => r.map fun n : Nat => (n : Int)).map rowD := by
          rw [List.map_map]
          refine List.map_congr_left fun r _ => ?_
          show D.lst _ = D.lst _
          rw [nats_ints]
        refine eq_rows (ns := rows.map fun r => r.map fun n : Nat => (n : Int)) (ms := rows.map fun r => r.map fun n : Nat => (n : Int)) (by rw [rs_lst, er]) (by rw [rs_lst, er]) rfl ?_
        rw [decide_eq_true rfl]
        exact h _
    · rw [if_neg c]
      rw [sa_zero (show 0 < (due.map fun n : Nat => D.int n).length by rw [List.length_map, lk.len]; exact dr.pos)]
      (try simp only [↓e_var0, ↓e_varS, ↓e_C, ↓e_op, ↓e_un, ↓e_cb, ↓e_nil, ↓e_cons, ↓e_tup, ↓e_lst, ↓e_lstM, ↓e_frz, ↓e_B, ↓e_bl, ↓e_andT, ↓e_orT, ↓e_notT, ↓e_andV, ↓e_orV, ↓e_notV, ↓e_ifE, ↓e_tru, ↓e_slice, ↓e_noPart, ↓e_part, ↓e_partV, ↓e_bm, ↓e_bm0, ↓e_ty_lst, ↓e_ty_str, ↓e_next, ↓e_seq, ↓e_break, ↓e_cont, ↓e_drop, ↓e_ret, ↓e_retN, ↓e_ifS, ↓e_asg, ↓e_gname, ↓e_put0, ↓e_putS, ↓e_aug, ↓e_gsub, ↓e_gtup2, ↓e_I, ↓e_Ic, ↓e_add, ↓e_addS, ↓e_addL, ↓e_addT, ↓e_mul, ↓e_eqI, ↓e_eqS, ↓e_eqB, ↓e_ix_lst, ↓e_ix_tup, ↓e_at0, ↓e_at1, ↓e_at2, ↓e_at3, ↓e_sa0, ↓e_sa1, ↓e_sa2, ↓e_sa3, ↓e_len_lst, ↓e_len_tup, ↓e_len_str, ↓e_abs, ↓e_int, ↓e_str, ↓e_ilst, ↓e_il, ↓e_irl, ↓e_irng1, ↓e_irV, ↓e_irng2, ↓e_irV2, ↓e_yes, ↓u_frzV, ↓u_ty, ↓u_setL, ↓u_ix, ↓u_len, ↓u_append, ↓u_pop, ↓u_iref, ↓e_isi, ↓e_strS, ↓e_dnew, ↓e_dget, ↓e_dput, ↓e_sc, ↓e_dcN, ↓e_rank, ↓e_inLN, ↓e_izipR, ↓e_ienum, ↓e_while, ↓mupd_mupd, ↓e_for, ↓e_lc, ↓e_lcM, ↓e_wipe, ↓e_wipe0, eq_self_iff_true, true_and, List.set_cons_zero, List.set_cons_succ, id_eq, ↓reduceIte, Bool.false_eq_true, Bool.not_true, Bool.not_false])
      refine ⟨by rw [List.length_set, List.length_map, lk.len]; exact small_line' (by omega), ?_⟩
      refine ⟨rows, rfl, dr, fun due2 p2 lk2 hp2 => ?_⟩
      obtain rfl := lk.det lk2
      have R4 := R3.upd (u := .lst ((due.map fun n : Nat => D.int n).set 0 (D.int 500) ++ [D.int 0])) mupd_same
      rw [mupd_mupd, mupd_mupd] at R4
      have R5 := R4.new (o := moN due) hp2
      (try simp only [↓e_var0, ↓e_varS, ↓e_C, ↓e_op, ↓e_un, ↓e_cb, ↓e_nil, ↓e_cons, ↓e_tup, ↓e_lst, ↓e_lstM, ↓e_frz, ↓e_B, ↓e_bl, ↓e_andT, ↓e_orT, ↓e_notT, ↓e_andV, ↓e_orV, ↓e_notV, ↓e_ifE, ↓e_tru, ↓e_slice, ↓e_noPart, ↓e_part, ↓e_partV, ↓e_bm, ↓e_bm0, ↓e_ty_lst, ↓e_ty_str, ↓e_next, ↓e_seq, ↓e_break, ↓e_cont, ↓e_drop, ↓e_ret, ↓e_retN, ↓e_ifS, ↓e_asg, ↓e_gname, ↓e_put0, ↓e_putS, ↓e_aug, ↓e_gsub, ↓e_gtup2, ↓e_I, ↓e_Ic, ↓e_add, ↓e_addS, ↓e_addL, ↓e_addT, ↓e_mul, ↓e_eqI, ↓e_eqS, ↓e_eqB, ↓e_ix_lst, ↓e_ix_tup, ↓e_at0, ↓e_at1, ↓e_at2, ↓e_at3, ↓e_sa0, ↓e_sa1, ↓e_sa2, ↓e_sa3, ↓e_len_lst, ↓e_len_tup, ↓e_len_str, ↓e_abs, ↓e_int, ↓e_str, ↓e_ilst, ↓e_il, ↓e_irl, ↓e_irng1, ↓e_irV, ↓e_irng2, ↓e_irV2, ↓e_yes, ↓u_frzV, ↓u_ty, ↓u_setL, ↓u_ix, ↓u_len, ↓u_append, ↓u_pop, ↓u_iref, ↓e_isi, ↓e_strS, ↓e_dnew, ↓e_dget, ↓e_dput, ↓e_sc, ↓e_dcN, ↓e_rank, ↓e_inLN, ↓e_izipR, ↓e_ienum, ↓e_while, ↓mupd_mupd, ↓e_for, ↓e_lc, ↓e_lcM, ↓e_wipe, ↓e_wipe0, eq_self_iff_true, true_and, List.set_cons_zero, List.set_cons_succ, id_eq, ↓reduceIte, Bool.false_eq_true, Bool.not_true, Bool.not_false])
      refine ⟨due, p2, rfl, by rw [lk.len]; omega, mupd_same, ?_⟩
      (try simp only [↓e_var0, ↓e_varS, ↓e_C, ↓e_op, ↓e_un, ↓e_cb, ↓e_nil, ↓e_cons, ↓e_tup, ↓e_lst, ↓e_lstM, ↓e_frz, ↓e_B, ↓e_bl, ↓e_andT, ↓e_orT, ↓e_notT, ↓e_andV, ↓e_orV, ↓e_notV, ↓e_ifE, ↓e_tru, ↓e_slice, ↓e_noPart, ↓e_part, ↓e_partV, ↓e_bm, ↓e_bm0, ↓e_ty_lst, ↓e_ty_str, ↓e_next, ↓e_seq, ↓e_break, ↓e_cont, ↓e_drop, ↓e_ret, ↓e_retN, ↓e_ifS, ↓e_asg, ↓e_gname, ↓e_put0, ↓e_putS, ↓e_aug, ↓e_gsub, ↓e_gtup2, ↓e_I, ↓e_Ic, ↓e_add, ↓e_addS, ↓e_addL, ↓e_addT, ↓e_mul, ↓e_eqI, ↓e_eqS, ↓e_eqB, ↓e_ix_lst, ↓e_ix_tup, ↓e_at0, ↓e_at1, ↓e_at2, ↓e_at3, ↓e_sa0, ↓e_sa1, ↓e_sa2, ↓e_sa3, ↓e_len_lst, ↓e_len_tup, ↓e_len_str, ↓e_abs, ↓e_int, ↓e_str, ↓e_ilst, ↓e_il, ↓e_irl, ↓e_irng1, ↓e_irV, ↓e_irng2, ↓e_irV2, ↓e_yes, ↓u_frzV, ↓u_ty, ↓u_setL, ↓u_ix, ↓u_len, ↓u_append, ↓u_pop, ↓u_iref, ↓e_isi, ↓e_strS, ↓e_dnew, ↓e_dget, ↓e_dput, ↓e_sc, ↓e_dcN, ↓e_rank, ↓e_inLN, ↓e_izipR, ↓e_ienum, ↓e_while, ↓mupd_mupd, ↓e_for, ↓e_lc, ↓e_lcM, ↓e_wipe, ↓e_wipe0, eq_self_iff_true, true_and, List.set_cons_zero, List.set_cons_succ, id_eq, ↓reduceIte, Bool.false_eq_true, Bool.not_true, Bool.not_false])
      refine ⟨by decide, by decide, ?_⟩
      refine for_typed (List.range 6) (fun i ρ M' => ∃ (o6 o7 : Option D) (Mx : MS), ρ = [some (.rl (ns.map D.int)), some (.ref a), some (.lst (rows.map enR)), some (enN due), some (.lst (rows.map enR)), some (.ref p), o6, o7, none] ∧ RnAt Mx a M') ⟨none, none, _, rfl, R5⟩ (fun _ _ _ _ _ => trivial) (fun i0 x ρ M3 hx hW => ?_) (fun ρ M3 hW => ?_)
      · obtain ⟨o6, o7, Mx, rfl, R6⟩ := hW
        (try simp only [↓e_var0, ↓e_varS, ↓e_C, ↓e_op, ↓e_un, ↓e_cb, ↓e_nil, ↓e_cons, ↓e_tup, ↓e_lst, ↓e_lstM, ↓e_frz, ↓e_B, ↓e_bl, ↓e_andT, ↓e_orT, ↓e_notT, ↓e_andV, ↓e_orV, ↓e_notV, ↓e_ifE, ↓e_tru, ↓e_slice, ↓e_noPart, ↓e_part, ↓e_partV, ↓e_bm, ↓e_bm0, ↓e_ty_lst, ↓e_ty_str, ↓e_next, ↓e_seq, ↓e_break, ↓e_cont, ↓e_drop, ↓e_ret, ↓e_retN, ↓e_ifS, ↓e_asg, ↓e_gname, ↓e_put0, ↓e_putS, ↓e_aug, ↓e_gsub, ↓e_gtup2, ↓e_I, ↓e_Ic, ↓e_add, ↓e_addS, ↓e_addL, ↓e_addT, ↓e_mul, ↓e_eqI, ↓e_eqS, ↓e_eqB, ↓e_ix_lst, ↓e_ix_tup, ↓e_at0, ↓e_at1, ↓e_at2, ↓e_at3, ↓e_sa0, ↓e_sa1, ↓e_sa2, ↓e_sa3, ↓e_len_lst, ↓e_len_tup, ↓e_len_str, ↓e_abs, ↓e_int, ↓e_str, ↓e_ilst, ↓e_il, ↓e_irl, ↓e_irng1, ↓e_irV, ↓e_irng2, ↓e_irV2, ↓e_yes, ↓u_frzV, ↓u_ty, ↓u_setL, ↓u_ix, ↓u_len, ↓u_append, ↓u_pop, ↓u_iref, ↓e_isi, ↓e_strS, ↓e_dnew, ↓e_dget, ↓e_dput, ↓e_sc, ↓e_dcN, ↓e_rank, ↓e_inLN, ↓e_izipR, ↓e_ienum, ↓e_while, ↓mupd_mupd, ↓e_for, ↓e_lc, ↓e_lcM, ↓e_wipe, ↓e_wipe0, eq_self_iff_true, true_and, List.set_cons_zero, List.set_cons_succ, id_eq, ↓reduceIte, Bool.false_eq_true, Bool.not_true, Bool.not_false])
        split
        · refine ⟨a, Mx, rows, due, rfl, R6, dr, lk, fun i j M' hi hj R' => ?_⟩
          (try simp only [↓e_var0, ↓e_varS, ↓e_C, ↓e_op, ↓e_un, ↓e_cb, ↓e_nil, ↓e_cons, ↓e_tup, ↓e_lst, ↓e_lstM, ↓e_frz, ↓e_B, ↓e_bl, ↓e_andT, ↓e_orT, ↓e_notT, ↓e_andV, ↓e_orV, ↓e_notV, ↓e_ifE, ↓e_tru, ↓e_slice, ↓e_noPart, ↓e_part, ↓e_partV, ↓e_bm, ↓e_bm0, ↓e_ty_lst, ↓e_ty_str, ↓e_next, ↓e_seq, ↓e_break, ↓e_cont, ↓e_drop, ↓e_ret, ↓e_retN, ↓e_ifS, ↓e_asg, ↓e_gname, ↓e_put0, ↓e_putS, ↓e_aug, ↓e_gsub, ↓e_gtup2, ↓e_I, ↓e_Ic, ↓e_add, ↓e_addS, ↓e_addL, ↓e_addT, ↓e_mul, ↓e_eqI, ↓e_eqS, ↓e_eqB, ↓e_ix_lst, ↓e_ix_tup, ↓e_at0, ↓e_at1, ↓e_at2, ↓e_at3, ↓e_sa0, ↓e_sa1, ↓e_sa2, ↓e_sa3, ↓e_len_lst, ↓e_len_tup, ↓e_len_str, ↓e_abs, ↓e_int, ↓e_str, ↓e_ilst, ↓e_il, ↓e_irl, ↓e_irng1, ↓e_irV, ↓e_irng2, ↓e_irV2, ↓e_yes, ↓u_frzV, ↓u_ty, ↓u_setL, ↓u_ix, ↓u_len, ↓u_append, ↓u_pop, ↓u_iref, ↓e_isi, ↓e_strS, ↓e_dnew, ↓e_dget, ↓e_dput, ↓e_sc, ↓e_dcN, ↓e_rank, ↓e_inLN, ↓e_izipR, ↓e_ienum, ↓e_while, ↓mupd_mupd, ↓e_for, ↓e_lc, ↓e_lcM, ↓e_wipe, ↓e_wipe0, eq_self_iff_true, true_and, List.set_cons_zero, List.set_cons_succ, id_eq, ↓reduceIte, Bool.false_eq_true, Bool.not_true, Bool.not_false])
          refine ⟨rows, due, i, j, rfl, dr, lk, hi, hj, ?_⟩
          (try simp only [↓e_var0, ↓e_varS, ↓e_C, ↓e_op, ↓e_un, ↓e_cb, ↓e_nil, ↓e_cons, ↓e_tup, ↓e_lst, ↓e_lstM, ↓e_frz, ↓e_B, ↓e_bl, ↓e_andT, ↓e_orT, ↓e_notT, ↓e_andV, ↓e_orV, ↓e_notV, ↓e_ifE, ↓e_tru, ↓e_slice, ↓e_noPart, ↓e_part, ↓e_partV, ↓e_bm, ↓e_bm0, ↓e_ty_lst, ↓e_ty_str, ↓e_next, ↓e_seq, ↓e_break, ↓e_cont, ↓e_drop, ↓e_ret, ↓e_retN, ↓e_ifS, ↓e_asg, ↓e_gname, ↓e_put0, ↓e_putS, ↓e_aug, ↓e_gsub, ↓e_gtup2, ↓e_I, ↓e_Ic, ↓e_add, ↓e_addS, ↓e_addL, ↓e_addT, ↓e_mul, ↓e_eqI, ↓e_eqS, ↓e_eqB, ↓e_ix_lst, ↓e_ix_tup, ↓e_at0, ↓e_at1, ↓e_at2, ↓e_at3, ↓e_sa0, ↓e_sa1, ↓e_sa2, ↓e_sa3, ↓e_len_lst, ↓e_len_tup, ↓e_len_str, ↓e_abs, ↓e_int, ↓e_str, ↓e_ilst, ↓e_il, ↓e_irl, ↓e_irng1, ↓e_irV, ↓e_irng2, ↓e_irV2, ↓e_yes, ↓u_frzV, ↓u_ty, ↓u_setL, ↓u_ix, ↓u_len, ↓u_append, ↓u_pop, ↓u_iref, ↓e_isi, ↓e_strS, ↓e_dnew, ↓e_dget, ↓e_dput, ↓e_sc, ↓e_dcN, ↓e_rank, ↓e_inLN, ↓e_izipR, ↓e_ienum, ↓e_while, ↓mupd_mupd, ↓e_for, ↓e_lc, ↓e_lcM, ↓e_wipe, ↓e_wipe0, eq_self_iff_true, true_and, List.set_cons_zero, List.set_cons_succ, id_eq, ↓reduceIte, Bool.false_eq_true, Bool.not_true, Bool.not_false])
          refine ⟨rows, due, j, i, rfl, dr, lk, hj, hi, ?_⟩
          (try simp only [↓e_var0, ↓e_varS, ↓e_C, ↓e_op, ↓e_un, ↓e_cb, ↓e_nil, ↓e_cons, ↓e_tup, ↓e_lst, ↓e_lstM, ↓e_frz, ↓e_B, ↓e_bl, ↓e_andT, ↓e_orT, ↓e_notT, ↓e_andV, ↓e_orV, ↓e_notV, ↓e_ifE, ↓e_tru, ↓e_slice, ↓e_noPart, ↓e_part, ↓e_partV, ↓e_bm, ↓e_bm0, ↓e_ty_lst, ↓e_ty_str, ↓e_next, ↓e_seq, ↓e_break, ↓e_cont, ↓e_drop, ↓e_ret, ↓e_retN, ↓e_ifS, ↓e_asg, ↓e_gname, ↓e_put0, ↓e_putS, ↓e_aug, ↓e_gsub, ↓e_gtup2, ↓e_I, ↓e_Ic, ↓e_add, ↓e_addS, ↓e_addL, ↓e_addT, ↓e_mul, ↓e_eqI, ↓e_eqS, ↓e_eqB, ↓e_ix_lst, ↓e_ix_tup, ↓e_at0, ↓e_at1, ↓e_at2, ↓e_at3, ↓e_sa0, ↓e_sa1, ↓e_sa2, ↓e_sa3, ↓e_len_lst, ↓e_len_tup, ↓e_len_str, ↓e_abs, ↓e_int, ↓e_str, ↓e_ilst, ↓e_il, ↓e_irl, ↓e_irng1, ↓e_irV, ↓e_irng2, ↓e_irV2, ↓e_yes, ↓u_frzV, ↓u_ty, ↓u_setL, ↓u_ix, ↓u_len, ↓u_append, ↓u_pop, ↓u_iref, ↓e_isi, ↓e_strS, ↓e_dnew, ↓e_dget, ↓e_dput, ↓e_sc, ↓e_dcN, ↓e_rank, ↓e_inLN, ↓e_izipR, ↓e_ienum, ↓e_while, ↓mupd_mupd, ↓e_for, ↓e_lc, ↓e_lcM, ↓e_wipe, ↓e_wipe0, eq_self_iff_true, true_and, List.set_cons_zero, List.set_cons_succ, id_eq, ↓reduceIte, Bool.false_eq_true, Bool.not_true, Bool.not_false])
          exact ⟨_, _, _, rfl, R'⟩
        · split
          · refine ⟨a, Mx, rows, due, rfl, R6, dr, lk, fun i j M' hi hj R' => ?_⟩
            (try simp only [↓e_var0, ↓e_varS, ↓e_C, ↓e_op, ↓e_un, ↓e_cb, ↓e_nil, ↓e_cons, ↓e_tup, ↓e_lst, ↓e_lstM, ↓e_frz, ↓e_B, ↓e_bl, ↓e_andT, ↓e_orT, ↓e_notT, ↓e_andV, ↓e_orV, ↓e_notV, ↓e_ifE, ↓e_tru, ↓e_slice, ↓e_noPart, ↓e_part, ↓e_partV, ↓e_bm, ↓e_bm0, ↓e_ty_lst, ↓e_ty_str, ↓e_next, ↓e_seq, ↓e_break, ↓e_cont, ↓e_drop, ↓e_ret, ↓e_retN, ↓e_ifS, ↓e_asg, ↓e_gname, ↓e_put0, ↓e_putS, ↓e_aug, ↓e_gsub, ↓e_gtup2, ↓e_I, ↓e_Ic, ↓e_add, ↓e_addS, ↓e_addL, ↓e_addT, ↓e_mul, ↓e_eqI, ↓e_eqS, ↓e_eqB, ↓e_ix_lst, ↓e_ix_tup, ↓e_at0, ↓e_at1, ↓e_at2, ↓e_at3, ↓e_sa0, ↓e_sa1, ↓e_sa2, ↓e_sa3, ↓e_len_lst, ↓e_len_tup, ↓e_len_str, ↓e_abs, ↓e_int, ↓e_str, ↓e_ilst, ↓e_il, ↓e_irl, ↓e_irng1, ↓e_irV, ↓e_irng2, ↓e_irV2, ↓e_yes, ↓u_frzV, ↓u_ty, ↓u_setL, ↓u_ix, ↓u_len, ↓u_append, ↓u_pop, ↓u_iref, ↓e_isi, ↓e_strS, ↓e_dnew, ↓e_dget, ↓e_dput, ↓e_sc, ↓e_dcN, ↓e_rank, ↓e_inLN, ↓e_izipR, ↓e_ienum, ↓e_while, ↓mupd_mupd, ↓e_for, ↓e_lc, ↓e_lcM, ↓e_wipe, ↓e_wipe0, eq_self_iff_true, true_and, List.set_cons_zero, List.set_cons_succ, id_eq, ↓reduceIte, Bool.false_eq_true, Bool.not_true, Bool.not_false])
            refine ⟨rows, due, i, j, rfl, dr, lk, hi, hj, ?_⟩
            (try simp only [↓e_var0, ↓e_varS, ↓e_C, ↓e_op, ↓e_un, ↓e_cb, ↓e_nil, ↓e_cons, ↓e_tup, ↓e_lst, ↓e_lstM, ↓e_frz, ↓e_B, ↓e_bl, ↓e_andT, ↓e_orT, ↓e_notT, ↓e_andV, ↓e_orV, ↓e_notV, ↓e_ifE, ↓e_tru, ↓e_slice, ↓e_noPart, ↓e_part, ↓e_partV, ↓e_bm, ↓e_bm0, ↓e_ty_lst, ↓e_ty_str, ↓e_next, ↓e_seq, ↓e_break, ↓e_cont, ↓e_drop, ↓e_ret, ↓e_retN, ↓e_ifS, ↓e_asg, ↓e_gname, ↓e_put0, ↓e_putS, ↓e_aug, ↓e_gsub, ↓e_gtup2, ↓e_I, ↓e_Ic, ↓e_add, ↓e_addS, ↓e_addL, ↓e_addT, ↓e_mul, ↓e_eqI, ↓e_eqS, ↓e_eqB, ↓e_ix_lst, ↓e_ix_tup, ↓e_at0, ↓e_at1, ↓e_at2, ↓e_at3, ↓e_sa0, ↓e_sa1, ↓e_sa2, ↓e_sa3, ↓e_len_lst, ↓e_len_tup, ↓e_len_str, ↓e_abs, ↓e_int, ↓e_str, ↓e_ilst, ↓e_il, ↓e_irl, ↓e_irng1, ↓e_irV, ↓e_irng2, ↓e_irV2, ↓e_yes, ↓u_frzV, ↓u_ty, ↓u_setL, ↓u_ix, ↓u_len, ↓u_append, ↓u_pop, ↓u_iref, ↓e_isi, ↓e_strS, ↓e_dnew, ↓e_dget, ↓e_dput, ↓e_sc, ↓e_dcN, ↓e_rank, ↓e_inLN, ↓e_izipR, ↓e_ienum, ↓e_while, ↓mupd_mupd, ↓e_for, ↓e_lc, ↓e_lcM, ↓e_wipe, ↓e_wipe0, eq_self_iff_true, true_and, List.set_cons_zero, List.set_cons_succ, id_eq, ↓reduceIte, Bool.false_eq_true, Bool.not_true, Bool.not_false])
            refine ⟨rows, due, j, i, rfl, dr, lk, hj, hi, ?_⟩
            (try simp only [↓e_var0, ↓e_varS, ↓e_C, ↓e_op, ↓e_un, ↓e_cb, ↓e_nil, ↓e_cons, ↓e_tup, ↓e_lst, ↓e_lstM, ↓e_frz, ↓e_B, ↓e_bl, ↓e_andT, ↓e_orT, ↓e_notT, ↓e_andV, ↓e_orV, ↓e_notV, ↓e_ifE, ↓e_tru, ↓e_slice, ↓e_noPart, ↓e_part, ↓e_partV, ↓e_bm, ↓e_bm0, ↓e_ty_lst, ↓e_ty_str, ↓e_next, ↓e_seq, ↓e_break, ↓e_cont, ↓e_drop, ↓e_ret, ↓e_retN, ↓e_ifS, ↓e_asg, ↓e_gname, ↓e_put0, ↓e_putS, ↓e_aug, ↓e_gsub, ↓e_gtup2, ↓e_I, ↓e_Ic, ↓e_add, ↓e_addS, ↓e_addL, ↓e_addT, ↓e_mul, ↓e_eqI, ↓e_eqS, ↓e_eqB, ↓e_ix_lst, ↓e_ix_tup, ↓e_at0, ↓e_at1, ↓e_at2, ↓e_at3, ↓e_sa0, ↓e_sa1, ↓e_sa2, ↓e_sa3, ↓e_len_lst, ↓e_len_tup, ↓e_len_str, ↓e_abs, ↓e_int, ↓e_str, ↓e_ilst, ↓e_il, ↓e_irl, ↓e_irng1, ↓e_irV, ↓e_irng2, ↓e_irV2, ↓e_yes, ↓u_frzV, ↓u_ty, ↓u_setL, ↓u_ix, ↓u_len, ↓u_append, ↓u_pop, ↓u_iref, ↓e_isi, ↓e_strS, ↓e_dnew, ↓e_dget, ↓e_dput, ↓e_sc, ↓e_dcN, ↓e_rank, ↓e_inLN, ↓e_izipR, ↓e_ienum, ↓e_while, ↓mupd_mupd, ↓e_for, ↓e_lc, ↓e_lcM, ↓e_wipe, ↓e_wipe0, eq_self_iff_true, true_and, List.set_cons_zero, List.set_cons_succ, id_eq, ↓reduceIte, Bool.false_eq_true, Bool.not_true, Bool.not_false])
            exact ⟨_, _, _, rfl, R'⟩
          · exact ⟨_, _, _, rfl, R6⟩
      · obtain ⟨o6, o7, Mx, rfl, R6⟩ := hW
        (try simp only [↓e_var0, ↓e_varS, ↓e_C, ↓e_op, ↓e_un, ↓e_cb, ↓e_nil, ↓e_cons, ↓e_tup, ↓e_lst, ↓e_lstM, ↓e_frz, ↓e_B, ↓e_bl, ↓e_andT, ↓e_orT, ↓e_notT, ↓e_andV, ↓e_orV, ↓e_notV, ↓e_ifE, ↓e_tru, ↓e_slice, ↓e_noPart, ↓e_part, ↓e_partV, ↓e_bm, ↓e_bm0, ↓e_ty_lst, ↓e_ty_str, ↓e_next, ↓e_seq, ↓e_break, ↓e_cont, ↓e_drop, ↓e_ret, ↓e_retN, ↓e_ifS, ↓e_asg, ↓e_gname, ↓e_put0, ↓e_putS, ↓e_aug, ↓e_gsub, ↓e_gtup2, ↓e_I, ↓e_Ic, ↓e_add, ↓e_addS, ↓e_addL, ↓e_addT, ↓e_mul, ↓e_eqI, ↓e_eqS, ↓e_eqB, ↓e_ix_lst, ↓e_ix_tup, ↓e_at0, ↓e_at1, ↓e_at2, ↓e_at3, ↓e_sa0, ↓e_sa1, ↓e_sa2, ↓e_sa3, ↓e_len_lst, ↓e_len_tup, ↓e_len_str, ↓e_abs, ↓e_int, ↓e_str, ↓e_ilst, ↓e_il, ↓e_irl, ↓e_irng1, ↓e_irV, ↓e_irng2, ↓e_irV2, ↓e_yes, ↓u_frzV, ↓u_ty, ↓u_setL, ↓u_ix, ↓u_len, ↓u_append, ↓u_pop, ↓u_iref, ↓e_isi, ↓e_strS, ↓e_dnew, ↓e_dget, ↓e_dput, ↓e_sc, ↓e_dcN, ↓e_rank, ↓e_inLN, ↓e_izipR, ↓e_ienum, ↓e_while, ↓mupd_mupd, ↓e_for, ↓e_lc, ↓e_lcM, ↓e_wipe, ↓e_wipe0, eq_self_iff_true, true_and, List.set_cons_zero, List.set_cons_succ, id_eq, ↓reduceIte, Bool.false_eq_true, Bool.not_true, Bool.not_false])
        have er : rows.map enR = (rows.map fun r => r.map fun n : Nat => (n : Int)).map rowD := by
          rw [List.map_map]
          refine List.map_congr_left fun r _ => ?_
          show D.lst _ = D.lst _
          rw [nats_ints]
        refine eq_rows (ns := rows.map fun r => r.map fun n : Nat => (n : Int)) (ms := rows.map fun r => r.map fun n : Nat => (n : Int)) (by rw [rs_lst, er]) (by rw [rs_lst, er]) rfl ?_
        rw [decide_eq_true rfl]
        exact h _
end
end K32

namespace K32
open PySem PySem.Spec PyProof.Rows L2 DL LK
theorem start_ok {K : PySem.W.Frag} {H : Hp} {a : Addr} {ns : List Int} (hl : ns.length ≤ 63) (hS : SqL K H a (ns.map V.int)) : spOf K spLaw [.ref a] H (fun v _ => v = .bl true) fun _ _ _ => False := by
  refine ⟨H, fun _ => none, fun _ => none, [.rl (ns.map D.int)], fun d _ => d = .bl true, ⟨Same.refl H, fun _ _ e => (nomatch e), fun _ _ e => (nomatch e)⟩, .cons (.rl hS (dtAll_of_ints ns)) .nil, ⟨ns, rfl, hl, fun _ => rfl⟩, fun d M' F' H' v r _ _ dv => ?_⟩
  subst r
  exact dt_bl dv
section
set_option maxHeartbeats 0 in
theorem all_mk {l : PySem.W.OpenLaw} {w : World} {K : PySem.W.Frag} {h : Heap} {mg : Str → Option Value} {fa : Addr} (X : K.In h) (G : h.Ns mainGlobals mg) (hfa : mg "law" = some (.ref fa))
    {f0 f1 f2 f3 f4 f5 f6 f7 f8 f9 f10 f11 f12 f13 f14 f15 f16 f17 f18 : Addr}
    {od0 an0 od1 an1 od2 an2 od3 an3 od4 an4 od5 an5 od6 an6 od7 an7 od8 an8 od9 an9 od10 an10 od11 an11 od12 an12 od13 an13 od14 an14 od15 an15 od16 an16 od17 an17 od18 an18 : Option Addr} {sl0 sl1 sl2 sl3 sl4 sl5 sl6 sl7 sl8 sl9 sl10 sl11 sl12 sl13 sl14 sl15 sl16 sl17 sl18 : Array (Option Value)} {oc0 kv0 dc0 pm0 cd0 ct0 oc1 kv1 dc1 pm1 cd1 ct1 oc2 kv2 dc2 pm2 cd2 ct2 oc3 kv3 dc3 pm3 cd3 ct3 oc4 kv4 dc4 pm4 cd4 ct4 oc5 kv5 dc5 pm5 cd5 ct5 oc6 kv6 dc6 pm6 cd6 ct6 oc7 kv7 dc7 pm7 cd7 ct7 oc8 kv8 dc8 pm8 cd8 ct8 oc9 kv9 dc9 pm9 cd9 ct9 oc10 kv10 dc10 pm10 cd10 ct10 oc11 kv11 dc11 pm11 cd11 ct11 oc12 kv12 dc12 pm12 cd12 ct12 oc13 kv13 dc13 pm13 cd13 ct13 oc14 kv14 dc14 pm14 cd14 ct14 oc15 kv15 dc15 pm15 cd15 ct15 oc16 kv16 dc16 pm16 cd16 ct16 oc17 kv17 dc17 pm17 cd17 ct17 oc18 kv18 dc18 pm18 cd18 ct18 : Value}
    (a0 : PySem.W.nsIn K mainGlobals "_law_draw" = some (some (.ref f0))) (l0 : K.lookup f0 = some ⟨oc0, od0, .func (PySem.W.fnOf "_law_draw" "_law_draw" (defArgs s_law_draw) (defBody s_law_draw) (defScope s_law_draw) .none kv0 dc0 pm0 an0 cd0 ct0), sl0⟩) (c0 : PySem.W.codeIn K cd0 "_law_draw" = true) (k0 : PySem.W.keepIn K (.ref f0) = true)
    (a1 : PySem.W.nsIn K mainGlobals "_law_start" = some (some (.ref f1))) (l1 : K.lookup f1 = some ⟨oc1, od1, .func (PySem.W.fnOf "_law_start" "_law_start" (defArgs s_law_start) (defBody s_law_start) (defScope s_law_start) .none kv1 dc1 pm1 an1 cd1 ct1), sl1⟩) (c1 : PySem.W.codeIn K cd1 "_law_start" = true) (k1 : PySem.W.keepIn K (.ref f1) = true)
    (a2 : PySem.W.nsIn K mainGlobals "_law_free" = some (some (.ref f2))) (l2 : K.lookup f2 = some ⟨oc2, od2, .func (PySem.W.fnOf "_law_free" "_law_free" (defArgs s_law_free) (defBody s_law_free) (defScope s_law_free) .none kv2 dc2 pm2 an2 cd2 ct2), sl2⟩) (c2 : PySem.W.codeIn K cd2 "_law_free" = true) (k2 : PySem.W.keepIn K (.ref f2) = true)
    (a3 : PySem.W.nsIn K mainGlobals "_law_copies" = some (some (.ref f3))) (l3 : K.lookup f3 = some ⟨oc3, od3, .func (PySem.W.fnOf "_law_copies" "_law_copies" (defArgs s_law_copies) (defBody s_law_copies) (defScope s_law_copies) .none kv3 dc3 pm3 an3 cd3 ct3), sl3⟩) (c3 : PySem.W.codeIn K cd3 "_law_copies" = true) (k3 : PySem.W.keepIn K (.ref f3) = true)
    (a4 : PySem.W.nsIn K mainGlobals "_law_long" = some (some (.ref f4))) (l4 : K.lookup f4 = some ⟨oc4, od4, .func (PySem.W.fnOf "_law_long" "_law_long" (defArgs s_law_long) (defBody s_law_long) (defScope s_law_long) .none kv4 dc4 pm4 an4 cd4 ct4), sl4⟩) (c4 : PySem.W.codeIn K cd4 "_law_long" = true) (k4 : PySem.W.keepIn K (.ref f4) = true)
    (a5 : PySem.W.nsIn K mainGlobals "_law_wide" = some (some (.ref f5))) (l5 : K.lookup f5 = some ⟨oc5, od5, .func (PySem.W.fnOf "_law_wide" "_law_wide" (defArgs s_law_wide) (defBody s_law_wide) (defScope s_law_wide) .none kv5 dc5 pm5 an5 cd5 ct5), sl5⟩) (c5 : PySem.W.codeIn K cd5 "_law_wide" = true) (k5 : PySem.W.keepIn K (.ref f5) = true)
    (a6 : PySem.W.nsIn K mainGlobals "_law_drawing" = some (some (.ref f6))) (l6 : K.lookup f6 = some ⟨oc6, od6, .func (PySem.W.fnOf "_law_drawing" "_law_drawing" (defArgs s_law_drawing) (defBody s_law_drawing) (defScope s_law_drawing) .none kv6 dc6 pm6 an6 cd6 ct6), sl6⟩) (c6 : PySem.W.codeIn K cd6 "_law_drawing" = true) (k6 : PySem.W.keepIn K (.ref f6) = true)
    (a7 : PySem.W.nsIn K mainGlobals "_law_rounds" = some (some (.ref f7))) (l7 : K.lookup f7 = some ⟨oc7, od7, .func (PySem.W.fnOf "_law_rounds" "_law_rounds" (defArgs s_law_rounds) (defBody s_law_rounds) (defScope s_law_rounds) .none kv7 dc7 pm7 an7 cd7 ct7), sl7⟩) (c7 : PySem.W.codeIn K cd7 "_law_rounds" = true) (k7 : PySem.W.keepIn K (.ref f7) = true)
    (a8 : PySem.W.nsIn K mainGlobals "numbers_held" = some (some (.ref f8))) (l8 : K.lookup f8 = some ⟨oc8, od8, .func (PySem.W.fnOf "numbers_held" "numbers_held" (defArgs snumbers_held) (defBody snumbers_held) (defScope snumbers_held) .none kv8 dc8 pm8 an8 cd8 ct8), sl8⟩) (c8 : PySem.W.codeIn K cd8 "numbers_held" = true) (k8 : PySem.W.keepIn K (.ref f8) = true)
    (a9 : PySem.W.nsIn K mainGlobals "ranks_of" = some (some (.ref f9))) (l9 : K.lookup f9 = some ⟨oc9, od9, .func (PySem.W.fnOf "ranks_of" "ranks_of" (defArgs sranks_of) (defBody sranks_of) (defScope sranks_of) .none kv9 dc9 pm9 an9 cd9 ct9), sl9⟩) (c9 : PySem.W.codeIn K cd9 "ranks_of" = true) (k9 : PySem.W.keepIn K (.ref f9) = true)
    (a10 : PySem.W.nsIn K mainGlobals "likeness_of" = some (some (.ref f10))) (l10 : K.lookup f10 = some ⟨oc10, od10, .func (PySem.W.fnOf "likeness_of" "likeness_of" (defArgs slikeness_of) (defBody slikeness_of) (defScope slikeness_of) .none kv10 dc10 pm10 an10 cd10 ct10), sl10⟩) (c10 : PySem.W.codeIn K cd10 "likeness_of" = true) (k10 : PySem.W.keepIn K (.ref f10) = true)
    (a11 : PySem.W.nsIn K mainGlobals "same_set" = some (some (.ref f11))) (l11 : K.lookup f11 = some ⟨oc11, od11, .func (PySem.W.fnOf "same_set" "same_set" (defArgs ssame_set) (defBody ssame_set) (defScope ssame_set) .none kv11 dc11 pm11 an11 cd11 ct11), sl11⟩) (c11 : PySem.W.codeIn K cd11 "same_set" = true) (k11 : PySem.W.keepIn K (.ref f11) = true)
    (a12 : PySem.W.nsIn K mainGlobals "is_member" = some (some (.ref f12))) (l12 : K.lookup f12 = some ⟨oc12, od12, .func (PySem.W.fnOf "is_member" "is_member" (defArgs sis_member) (defBody sis_member) (defScope sis_member) .none kv12 dc12 pm12 an12 cd12 ct12), sl12⟩) (c12 : PySem.W.codeIn K cd12 "is_member" = true) (k12 : PySem.W.keepIn K (.ref f12) = true)
    (a13 : PySem.W.nsIn K mainGlobals "_law_paired" = some (some (.ref f13))) (l13 : K.lookup f13 = some ⟨oc13, od13, .func (PySem.W.fnOf "_law_paired" "_law_paired" (defArgs s_law_paired) (defBody s_law_paired) (defScope s_law_paired) .none kv13 dc13 pm13 an13 cd13 ct13), sl13⟩) (c13 : PySem.W.codeIn K cd13 "_law_paired" = true) (k13 : PySem.W.keepIn K (.ref f13) = true)
    (a14 : PySem.W.nsIn K mainGlobals "_law_meant" = some (some (.ref f14))) (l14 : K.lookup f14 = some ⟨oc14, od14, .func (PySem.W.fnOf "_law_meant" "_law_meant" (defArgs s_law_meant) (defBody s_law_meant) (defScope s_law_meant) .none kv14 dc14 pm14 an14 cd14 ct14), sl14⟩) (c14 : PySem.W.codeIn K cd14 "_law_meant" = true) (k14 : PySem.W.keepIn K (.ref f14) = true)
    (a15 : PySem.W.nsIn K mainGlobals "_law_ints" = some (some (.ref f15))) (l15 : K.lookup f15 = some ⟨oc15, od15, .func (PySem.W.fnOf "_law_ints" "_law_ints" (defArgs s_law_ints) (defBody s_law_ints) (defScope s_law_ints) .none kv15 dc15 pm15 an15 cd15 ct15), sl15⟩) (c15 : PySem.W.codeIn K cd15 "_law_ints" = true) (k15 : PySem.W.keepIn K (.ref f15) = true)
    (a16 : PySem.W.nsIn K mainGlobals "_law_pair" = some (some (.ref f16))) (l16 : K.lookup f16 = some ⟨oc16, od16, .func (PySem.W.fnOf "_law_pair" "_law_pair" (defArgs s_law_pair) (defBody s_law_pair) (defScope s_law_pair) .none kv16 dc16 pm16 an16 cd16 ct16), sl16⟩) (c16 : PySem.W.codeIn K cd16 "_law_pair" = true) (k16 : PySem.W.keepIn K (.ref f16) = true)
    (a17 : PySem.W.nsIn K mainGlobals "_law_said" = some (some (.ref f17))) (l17 : K.lookup f17 = some ⟨oc17, od17, .func (PySem.W.fnOf "_law_said" "_law_said" (defArgs s_law_said) (defBody s_law_said) (defScope s_law_said) .none kv17 dc17 pm17 an17 cd17 ct17), sl17⟩) (c17 : PySem.W.codeIn K cd17 "_law_said" = true) (k17 : PySem.W.keepIn K (.ref f17) = true)
    (a18 : PySem.W.nsIn K mainGlobals "law" = some (some (.ref f18))) (l18 : K.lookup f18 = some ⟨oc18, od18, .func (PySem.W.fnOf "law" "law" (defArgs slaw) (defBody slaw) (defScope slaw) .none kv18 dc18 pm18 an18 cd18 ct18), sl18⟩) (c18 : PySem.W.codeIn K cd18 "law" = true) (k18 : PySem.W.keepIn K (.ref f18) = true)
    (z_len : PySem.W.nsIn K mainGlobals "len" = some none)
    (z_range : PySem.W.nsIn K mainGlobals "range" = some none)
    (z_abs : PySem.W.nsIn K mainGlobals "abs" = some none)
    (z_int : PySem.W.nsIn K mainGlobals "int" = some none)
    (z_bool : PySem.W.nsIn K mainGlobals "bool" = some none)
    (z_str : PySem.W.nsIn K mainGlobals "str" = some none)
    (z_sorted : PySem.W.nsIn K mainGlobals "sorted" = some none)
    (z_set : PySem.W.nsIn K mainGlobals "set" = some none)
    (z_list : PySem.W.nsIn K mainGlobals "list" = some none)
    (z_tuple : PySem.W.nsIn K mainGlobals "tuple" = some none)
    (z_max : PySem.W.nsIn K mainGlobals "max" = some none)
    (z_min : PySem.W.nsIn K mainGlobals "min" = some none)
    (z_sum : PySem.W.nsIn K mainGlobals "sum" = some none)
    (z_any : PySem.W.nsIn K mainGlobals "any" = some none)
    (z_all : PySem.W.nsIn K mainGlobals "all" = some none)
    (z_enumerate : PySem.W.nsIn K mainGlobals "enumerate" = some none)
    (z_zip : PySem.W.nsIn K mainGlobals "zip" = some none)
    (z_isinstance : PySem.W.nsIn K mainGlobals "isinstance" = some none)
    (z_reversed : PySem.W.nsIn K mainGlobals "reversed" = some none)
    : ∃ fd : FuncData, (∀ (s : Shared) (v : Value), BindsTo s fd ⟨[v], []⟩ [("script", v)]) ∧ ∀ base : Heap, K.In base → base.Ns mainGlobals mg → FnOk l.prog w K mg base CX0 5 fa fd ["script"] (spOf K spLaw) := by
  have e := hfa.symm.trans (PySem.W.mg_of X G a18)
  cases e
  have BT : Bt mg := ⟨PySem.W.mg_none_of X G z_len, PySem.W.mg_none_of X G z_range, PySem.W.mg_none_of X G z_abs, PySem.W.mg_none_of X G z_int, PySem.W.mg_none_of X G z_bool, PySem.W.mg_none_of X G z_str, PySem.W.mg_none_of X G z_sorted, PySem.W.mg_none_of X G z_set, PySem.W.mg_none_of X G z_list, PySem.W.mg_none_of X G z_tuple, PySem.W.mg_none_of X G z_max, PySem.W.mg_none_of X G z_min, PySem.W.mg_none_of X G z_sum, PySem.W.mg_none_of X G z_any, PySem.W.mg_none_of X G z_all, PySem.W.mg_none_of X G z_enumerate, PySem.W.mg_none_of X G z_zip, PySem.W.mg_none_of X G z_isinstance, PySem.W.mg_none_of X G z_reversed⟩
  have F0 := fun_mk (st := s_law_draw) l0 c0 k0
  have F1 := fun_mk (st := s_law_start) l1 c1 k1
  have F2 := fun_mk (st := s_law_free) l2 c2 k2
  have F3 := fun_mk (st := s_law_copies) l3 c3 k3
  have F4 := fun_mk (st := s_law_long) l4 c4 k4
  have F5 := fun_mk (st := s_law_wide) l5 c5 k5
  have F6 := fun_mk (st := s_law_drawing) l6 c6 k6
  have F7 := fun_mk (st := s_law_rounds) l7 c7 k7
  have F8 := fun_mk (st := snumbers_held) l8 c8 k8
  have F9 := fun_mk (st := sranks_of) l9 c9 k9
  have F10 := fun_mk (st := slikeness_of) l10 c10 k10
  have F11 := fun_mk (st := ssame_set) l11 c11 k11
  have F12 := fun_mk (st := sis_member) l12 c12 k12
  have F13 := fun_mk (st := s_law_paired) l13 c13 k13
  have F14 := fun_mk (st := s_law_meant) l14 c14 k14
  have F15 := fun_mk (st := s_law_ints) l15 c15 k15
  have F16 := fun_mk (st := s_law_pair) l16 c16 k16
  have F17 := fun_mk (st := s_law_said) l17 c17 k17
  have F18 := fun_mk (st := slaw) l18 c18 k18
  refine ⟨PySem.W.fnOf "law" "law" (defArgs slaw) (defBody slaw) (defScope slaw) .none kv18 dc18 pm18 an18 cd18 ct18, fun s v => .of_eq rfl, fun base _ _ => ?_⟩
  have C0 : CalX l.prog w K mg base "_law_draw" 1 spDraw := CalX.mk' (ok_draw (k := 0) F0 BT ) (PySem.W.mg_of X G a0) k0 (F0.binds (ps := ["state", "many"]) fun _ _ _ _ _ _ us hl => match us, hl with | [_, _], _ => rfl)
  have C1 : CalX l.prog w K mg base "_law_start" 1 spStart := CalX.mk' (ok_start (k := 0) F1 BT ) (PySem.W.mg_of X G a1) k1 (F1.binds (ps := ["script"]) fun _ _ _ _ _ _ us hl => match us, hl with | [_], _ => rfl)
  have C2 : CalX l.prog w K mg base "_law_free" 2 spFree := CalX.mk' (ok_free (k := 1) F2 BT C0) (PySem.W.mg_of X G a2) k2 (F2.binds (ps := ["state", "most"]) fun _ _ _ _ _ _ us hl => match us, hl with | [_, _], _ => rfl)
  have C3 : CalX l.prog w K mg base "_law_copies" 2 spCopies := CalX.mk' (ok_copies (k := 1) F3 BT C0) (PySem.W.mg_of X G a3) k3 (F3.binds (ps := ["state", "base", "more"]) fun _ _ _ _ _ _ us hl => match us, hl with | [_, _, _], _ => rfl)
  have C4 : CalX l.prog w K mg base "_law_long" 2 spLong := CalX.mk' (ok_long (k := 1) F4 BT C0) (PySem.W.mg_of X G a4) k4 (F4.binds (ps := ["state", "most"]) fun _ _ _ _ _ _ us hl => match us, hl with | [_, _], _ => rfl)
  have C5 : CalX l.prog w K mg base "_law_wide" 2 spWide := CalX.mk' (ok_wide (k := 1) F5 BT C0) (PySem.W.mg_of X G a5) k5 (F5.binds (ps := ["state"]) fun _ _ _ _ _ _ us hl => match us, hl with | [_], _ => rfl)
  have C6 : CalX l.prog w K mg base "_law_drawing" 3 spDrawing := CalX.mk' (ok_drawing (k := 2) F6 BT C0 C2 C3 C4 C5) (PySem.W.mg_of X G a6) k6 (F6.binds (ps := ["state"]) fun _ _ _ _ _ _ us hl => match us, hl with | [_], _ => rfl)
  have C7 : CalX l.prog w K mg base "_law_rounds" 2 spRounds := CalX.mk' (ok_rounds (k := 1) F7 BT ) (PySem.W.mg_of X G a7) k7 (F7.binds (ps := ["drawing"]) fun _ _ _ _ _ _ us hl => match us, hl with | [_], _ => rfl)
  have C8 : CalX l.prog w K mg base "numbers_held" 1 spHeld := CalX.mk' (ok_held (k := 0) F8 BT ) (PySem.W.mg_of X G a8) k8 (F8.binds (ps := ["row", "numbers"]) fun _ _ _ _ _ _ us hl => match us, hl with | [_, _], _ => rfl)
  have C9 : CalX l.prog w K mg base "ranks_of" 1 spRanks := CalX.mk' (ok_ranks (k := 0) F9 BT ) (PySem.W.mg_of X G a9) k9 (F9.binds (ps := ["pairs"]) fun _ _ _ _ _ _ us hl => match us, hl with | [_], _ => rfl)
  have C10 : CalX l.prog w K mg base "likeness_of" 2 spLike := CalX.mk' (ok_like (k := 1) F10 BT C8 C9) (PySem.W.mg_of X G a10) k10 (F10.binds (ps := ["drawing"]) fun _ _ _ _ _ _ us hl => match us, hl with | [_], _ => rfl)
  have C11 : CalX l.prog w K mg base "same_set" 3 spSame := CalX.mk' (ok_same (k := 2) F11 BT C10) (PySem.W.mg_of X G a11) k11 (F11.binds (ps := ["drawing", "a", "b"]) fun _ _ _ _ _ _ us hl => match us, hl with | [_, _, _], _ => rfl)
  have C12 : CalX l.prog w K mg base "is_member" 3 spMember := CalX.mk' (ok_member (k := 2) F12 BT C10) (PySem.W.mg_of X G a12) k12 (F12.binds (ps := ["drawing", "a", "b"]) fun _ _ _ _ _ _ us hl => match us, hl with | [_, _, _], _ => rfl)
  have C13 : CalX l.prog w K mg base "_law_paired" 1 spPaired := CalX.mk' (ok_paired (k := 0) F13 BT ) (PySem.W.mg_of X G a13) k13 (F13.binds (ps := ["drawing"]) fun _ _ _ _ _ _ us hl => match us, hl with | [_], _ => rfl)
  have C14 : CalX l.prog w K mg base "_law_meant" 2 spMeant := CalX.mk' (ok_meant (k := 1) F14 BT C13) (PySem.W.mg_of X G a14) k14 (F14.binds (ps := ["drawing", "told"]) fun _ _ _ _ _ _ us hl => match us, hl with | [_, _], _ => rfl)
  have C15 : CalX l.prog w K mg base "_law_ints" 1 spInts := CalX.mk' (ok_ints (k := 0) F15 BT ) (PySem.W.mg_of X G a15) k15 (F15.binds (ps := ["told", "due"]) fun _ _ _ _ _ _ us hl => match us, hl with | [_, _], _ => rfl)
  have C16 : CalX l.prog w K mg base "_law_pair" 2 spPair := CalX.mk' (ok_pair (k := 1) F16 BT C0) (PySem.W.mg_of X G a16) k16 (F16.binds (ps := ["state", "drawing", "due"]) fun _ _ _ _ _ _ us hl => match us, hl with | [_, _, _], _ => rfl)
  have C17 : CalX l.prog w K mg base "_law_said" 4 spSaid := CalX.mk' (ok_said (k := 3) F17 BT C11 C12) (PySem.W.mg_of X G a17) k17 (F17.binds (ps := ["handed", "drawing", "due", "a", "b"]) fun _ _ _ _ _ _ us hl => match us, hl with | [_, _, _, _, _], _ => rfl)
  exact ok_law (k := 4) F18 BT C1 C6 C7 C10 C15 C14 C16 C17
end
end K32
open PySem PySem.W PyProof.Rows
set_option maxHeartbeats 0 in
theorem PySem.Challenge.cw_setnests_k32_whole_likeness_holds : PySem.Challenge.rw_setnests_k32_whole_likeness.Holds := by
  w_on; o_law; k_head; (case hw => w_witness2)
  k_fill
  refine L2.walk_of (l := PySem.Challenge.rw_setnests_k32_whole_likeness) (n := 63) (k := 5) (x := "script") (CX := fun _ => L2.CX0) (sp := fun w => DL.spOf _ K32.spLaw) rfl (by decide) rfl ⟨rfl, by decide, by decide⟩ (fun w h Y => PySem.W.kIn_of Y) ?F (fun _ _ a ns hl _ hS => K32.start_ok hl hS) (fun _ _ _ _ _ h => h)
  case F =>
    intro w mg fa h KX G hmg
    refine' K32.all_mk KX G hmg ?a0 ?l0 ?c0 ?k0 ?a1 ?l1 ?c1 ?k1 ?a2 ?l2 ?c2 ?k2 ?a3 ?l3 ?c3 ?k3 ?a4 ?l4 ?c4 ?k4 ?a5 ?l5 ?c5 ?k5 ?a6 ?l6 ?c6 ?k6 ?a7 ?l7 ?c7 ?k7 ?a8 ?l8 ?c8 ?k8 ?a9 ?l9 ?c9 ?k9 ?a10 ?l10 ?c10 ?k10 ?a11 ?l11 ?c11 ?k11 ?a12 ?l12 ?c12 ?k12 ?a13 ?l13 ?c13 ?k13 ?a14 ?l14 ?c14 ?k14 ?a15 ?l15 ?c15 ?k15 ?a16 ?l16 ?c16 ?k16 ?a17 ?l17 ?c17 ?k17 ?a18 ?l18 ?c18 ?k18 ?z_len ?z_range ?z_abs ?z_int ?z_bool ?z_str ?z_sorted ?z_set ?z_list ?z_tuple ?z_max ?z_min ?z_sum ?z_any ?z_all ?z_enumerate ?z_zip ?z_isinstance ?z_reversed
    (case a0 => k_is); (case l0 => k_is); (case c0 => k_is); (case k0 => k_is); (case a1 => k_is); (case l1 => k_is); (case c1 => k_is); (case k1 => k_is); (case a2 => k_is); (case l2 => k_is); (case c2 => k_is); (case k2 => k_is); (case a3 => k_is); (case l3 => k_is); (case c3 => k_is); (case k3 => k_is); (case a4 => k_is); (case l4 => k_is); (case c4 => k_is); (case k4 => k_is); (case a5 => k_is); (case l5 => k_is); (case c5 => k_is); (case k5 => k_is); (case a6 => k_is); (case l6 => k_is); (case c6 => k_is); (case k6 => k_is); (case a7 => k_is); (case l7 => k_is); (case c7 => k_is); (case k7 => k_is); (case a8 => k_is); (case l8 => k_is); (case c8 => k_is); (case k8 => k_is); (case a9 => k_is); (case l9 => k_is); (case c9 => k_is); (case k9 => k_is); (case a10 => k_is); (case l10 => k_is); (case c10 => k_is); (case k10 => k_is); (case a11 => k_is); (case l11 => k_is); (case c11 => k_is); (case k11 => k_is); (case a12 => k_is); (case l12 => k_is); (case c12 => k_is); (case k12 => k_is); (case a13 => k_is); (case l13 => k_is); (case c13 => k_is); (case k13 => k_is); (case a14 => k_is); (case l14 => k_is); (case c14 => k_is); (case k14 => k_is); (case a15 => k_is); (case l15 => k_is); (case c15 => k_is); (case k15 => k_is); (case a16 => k_is); (case l16 => k_is); (case c16 => k_is); (case k16 => k_is); (case a17 => k_is); (case l17 => k_is); (case c17 => k_is); (case k17 => k_is); (case a18 => k_is); (case l18 => k_is); (case c18 => k_is); (case k18 => k_is); (case z_len => k_is); (case z_range => k_is); (case z_abs => k_is); (case z_int => k_is); (case z_bool => k_is); (case z_str => k_is); (case z_sorted => k_is); (case z_set => k_is); (case z_list => k_is); (case z_tuple => k_is); (case z_max => k_is); (case z_min => k_is); (case z_sum => k_is); (case z_any => k_is); (case z_all => k_is); (case z_enumerate => k_is); (case z_zip => k_is); (case z_isinstance => k_is); (case z_reversed => k_is)
