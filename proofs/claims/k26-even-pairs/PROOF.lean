import PyProof.Rows.All
import Wide.All
import OpenK.AllK
import Wide.FinOn
import KE.KStateDown
import HandS.ForMost
import HandS.ForExc
import HandS.Wide
import HandS.Deep
import HandS.IsInst
import HandS.TupAny
import HandS.Defaults
import HandS.CallSlots
import HandS.HeadHook2
import HandS.Steps
import HandS.TupLe
import HandS.SortInts
import HandS.TupLen
import HandS.ExcOwn
import HandS.Iter
import HandS.HeadEnd
import HandS.Style
import HandS.TupSets
import HandS.Head0
import HandS.Head1
import HandS.Head2
import HandS.HeadHook1
import PySem.Challenge.RW_pairwarden_k26_even_pairs
set_option Elab.async false
set_option linter.all false
set_option maxRecDepth 100000
set_option maxHeartbeats 0
namespace ZL
open PySem PySem.Spec PyProof.Rows L2

/-! ### values as data -/
inductive D where
  | non | bl (b : Bool) | int (i : Int) | str (s : Str)
  | lst (ds : List D) | tup (ds : List D) | scr (ns : List Int)
  | obj (c : String) (fs : List String) (ds : List D) | slf (c : String) (fs : List String) (ds : List D)
  | ty (n : String) | cls (c : String)
  | dK (ks : List Key) (ds : List D) | dT (ks : List (List Key)) (ds : List D)

/-- what of a value is owned by its holder: nothing; a list, its items of a kind; a dict; an instance in the making -/
inductive Kd where
  | sh | ls (k : Kd) | dk | dt | ob (a : Addr)
  deriving DecidableEq

mutual
/-- v, read in the heap A, is the datum d -/
def Shr (K : PySem.W.Frag) (mg : Str → Option Value) (A : Hp) : V → D → Prop
  | v, .non => v = .non
  | v, .bl b => v = .bl b
  | v, .int i => v = .int i
  | v, .str s => v = .str s
  | v, .lst ds => ∃ a vs, v = .ref a ∧ A a = some (.lst vs) ∧ ShrL K mg A vs ds
  | v, .tup ds => ∃ a vs, v = .ref a ∧ A a = some (.tup vs) ∧ ShrL K mg A vs ds
  | v, .scr ns => ∃ a, v = .ref a ∧ SqL K A a (ns.map V.int)
  | v, .ty n => v = .ty n
  | v, .cls c => ∃ C, v = .ref C ∧ mg (Str.ofString c) = some (.ref C)
  | v, .obj c fs ds => ∃ a C dx fv, v = .ref a ∧ mg (Str.ofString c) = some (.ref C) ∧ A a = some (.ins C dx fv) ∧ A dx = some (.own a) ∧ fv.map (·.1) = fs.map Str.ofString ∧ ShrL K mg A (fv.map (·.2)) ds
  | v, .slf c fs ds => ∃ a C dx fv, v = .ref a ∧ mg (Str.ofString c) = some (.ref C) ∧ A a = some (.ins C dx fv) ∧ fv.map (·.1) = fs.map Str.ofString ∧ ShrL K mg A (fv.map (·.2)) ds
  | v, .dK ks ds => ∃ a kv, v = .ref a ∧ A a = some (.dK kv) ∧ kv.map (·.1) = ks ∧ ShrL K mg A (kv.map (·.2)) ds
  | v, .dT ks ds => ∃ a kv, v = .ref a ∧ A a = some (.dT kv) ∧ kv.map (·.1) = ks ∧ ShrL K mg A (kv.map (·.2)) ds
def ShrL (K : PySem.W.Frag) (mg : Str → Option Value) (A : Hp) : List V → List D → Prop
  | [], [] => True
  | v :: vs, d :: ds => Shr K mg A v d ∧ ShrL K mg A vs ds
  | _, _ => False
end
def OwnL (P : V → D → List Addr → Prop) : List V → List D → List Addr → Prop
  | [], [], fp => fp = []
  | v :: vs, d :: ds, fp => ∃ f1 f2, P v d f1 ∧ OwnL P vs ds f2 ∧ fp = f1 ++ f2
  | _, _, _ => False
/-- v is d, its holder owning it by the kind; fp: the addresses owned -/
def Own (K : PySem.W.Frag) (mg : Str → Option Value) (A H : Hp) : Kd → V → D → List Addr → Prop
  | .sh, v, d, fp => Shr K mg A v d ∧ fp = []
  | .ls k, v, d, fp => ∃ a vs ds f, v = .ref a ∧ d = .lst ds ∧ H a = some (.lst vs) ∧ OwnL (Own K mg A H k) vs ds f ∧ fp = a :: f
  | .dk, v, d, fp => ∃ a kv ks ds, v = .ref a ∧ d = .dK ks ds ∧ H a = some (.dK kv) ∧ kv.map (·.1) = ks ∧ ShrL K mg A (kv.map (·.2)) ds ∧ fp = [a]
  | .dt, v, d, fp => ∃ a kv ks ds, v = .ref a ∧ d = .dT ks ds ∧ H a = some (.dT kv) ∧ kv.map (·.1) = ks ∧ ShrL K mg A (kv.map (·.2)) ds ∧ fp = [a]
  | .ob a, v, d, fp => ∃ C dx fv c fs ds, v = .ref a ∧ d = .obj c fs ds ∧ mg (Str.ofString c) = some (.ref C) ∧ H a = some (.ins C dx fv) ∧ H dx = some (.own a) ∧ fv.map (·.1) = fs.map Str.ofString ∧ ShrL K mg A (fv.map (·.2)) ds ∧ fp = [a, dx]

section
variable {K : PySem.W.Frag} {mg : Str → Option Value} {A A' H H' : Hp}
abbrev Sub (A A' : Hp) : Prop := ∀ a o, A a = some o → A' a = some o
theorem sqL_mono (h : Sub A A') {a : Addr} {xs : List V} (s : SqL K A a xs) : SqL K A' a xs := by
  rcases s with (s | ⟨o, s⟩) | s
  · exact .inl (.inl (h _ _ s))
  · exact .inl (.inr ⟨o, h _ _ s⟩)
  · exact .inr s
mutual
theorem Shr.mono (h : Sub A A') : ∀ {v : V} {d : D}, Shr K mg A v d → Shr K mg A' v d
  | v, .non, s => by simpa [Shr] using s
  | v, .bl b, s => by simpa [Shr] using s
  | v, .int i, s => by simpa [Shr] using s
  | v, .str z, s => by simpa [Shr] using s
  | v, .ty z, s => by simpa [Shr] using s
  | v, .cls z, s => by simpa [Shr] using s
  | v, .lst ds, s => by
    simp only [Shr] at s ⊢
    obtain ⟨a, vs, e, h1, h2⟩ := s
    exact ⟨a, vs, e, h _ _ h1, ShrL.mono h h2⟩
  | v, .tup ds, s => by
    simp only [Shr] at s ⊢
    obtain ⟨a, vs, e, h1, h2⟩ := s
    exact ⟨a, vs, e, h _ _ h1, ShrL.mono h h2⟩
  | v, .scr ns, s => by
    simp only [Shr] at s ⊢
    obtain ⟨a, e, h1⟩ := s
    exact ⟨a, e, sqL_mono h h1⟩
  | v, .obj c fs ds, s => by
    simp only [Shr] at s ⊢
    obtain ⟨a, C, dx, fv, e, hc, h1, h0, h2, h3⟩ := s
    exact ⟨a, C, dx, fv, e, hc, h _ _ h1, h _ _ h0, h2, ShrL.mono h h3⟩
  | v, .slf c fs ds, s => by
    simp only [Shr] at s ⊢
    obtain ⟨a, C, dx, fv, e, hc, h1, h2, h3⟩ := s
    exact ⟨a, C, dx, fv, e, hc, h _ _ h1, h2, ShrL.mono h h3⟩
  | v, .dK ks ds, s => by
    simp only [Shr] at s ⊢
    obtain ⟨a, kv, e, h1, h2, h3⟩ := s
    exact ⟨a, kv, e, h _ _ h1, h2, ShrL.mono h h3⟩
  | v, .dT ks ds, s => by
    simp only [Shr] at s ⊢
    obtain ⟨a, kv, e, h1, h2, h3⟩ := s
    exact ⟨a, kv, e, h _ _ h1, h2, ShrL.mono h h3⟩
theorem ShrL.mono (h : Sub A A') : ∀ {vs : List V} {ds : List D}, ShrL K mg A vs ds → ShrL K mg A' vs ds
  | [], [], _ => by simp [ShrL]
  | [], _ :: _, s => by simp [ShrL] at s
  | _ :: _, [], s => by simp [ShrL] at s
  | v :: vs, d :: ds, s => by
    simp only [ShrL] at s ⊢
    exact ⟨Shr.mono h s.1, ShrL.mono h s.2⟩
end
theorem ShrL.length : ∀ {vs : List V} {ds : List D}, ShrL K mg A vs ds → vs.length = ds.length
  | [], [], _ => rfl
  | [], _ :: _, s => by simp [ShrL] at s
  | _ :: _, [], s => by simp [ShrL] at s
  | v :: vs, d :: ds, s => by
    simp only [ShrL] at s
    simp [ShrL.length s.2]
theorem ShrL.get : ∀ {vs : List V} {ds : List D} {i : Nat} {d : D}, ShrL K mg A vs ds → ds[i]? = some d → ∃ v, vs[i]? = some v ∧ Shr K mg A v d
  | [], [], _, _, _, e => by simp at e
  | [], _ :: _, _, _, s, _ => by simp [ShrL] at s
  | _ :: _, [], _, _, s, _ => by simp [ShrL] at s
  | v :: vs, d :: ds, 0, x, s, e => by
    simp only [ShrL] at s
    simp at e; subst e
    exact ⟨v, rfl, s.1⟩
  | v :: vs, d :: ds, i + 1, x, s, e => by
    simp only [ShrL] at s
    simpa using ShrL.get s.2 (by simpa using e)
theorem ShrL.getV : ∀ {vs : List V} {ds : List D} {i : Nat} {v : V}, ShrL K mg A vs ds → vs[i]? = some v → ∃ d, ds[i]? = some d ∧ Shr K mg A v d
  | [], [], _, _, _, e => by simp at e
  | [], _ :: _, _, _, s, _ => by simp [ShrL] at s
  | _ :: _, [], _, _, s, _ => by simp [ShrL] at s
  | v :: vs, d :: ds, 0, x, s, e => by
    simp only [ShrL] at s
    simp at e; subst e
    exact ⟨d, rfl, s.1⟩
  | v :: vs, d :: ds, i + 1, x, s, e => by
    simp only [ShrL] at s
    simpa using ShrL.getV s.2 (by simpa using e)
theorem ShrL.append : ∀ {vs ws : List V} {ds es : List D}, ShrL K mg A vs ds → ShrL K mg A ws es → ShrL K mg A (vs ++ ws) (ds ++ es)
  | [], _, [], _, _, t => t
  | [], _, _ :: _, _, s, _ => by simp [ShrL] at s
  | _ :: _, _, [], _, s, _ => by simp [ShrL] at s
  | v :: vs, _, d :: ds, _, s, t => by
    simp only [ShrL, List.cons_append] at s ⊢
    exact ⟨s.1, ShrL.append s.2 t⟩
theorem ShrL.set : ∀ {vs : List V} {ds : List D} (i : Nat) {v : V} {d : D}, ShrL K mg A vs ds → Shr K mg A v d → ShrL K mg A (vs.set i v) (ds.set i d)
  | [], [], _, _, _, s, _ => by simpa using s
  | [], _ :: _, _, _, _, s, _ => by simp [ShrL] at s
  | _ :: _, [], _, _, _, s, _ => by simp [ShrL] at s
  | v :: vs, d :: ds, 0, x, y, s, t => by
    simp only [ShrL, List.set_cons_zero] at s ⊢
    exact ⟨t, s.2⟩
  | v :: vs, d :: ds, i + 1, x, y, s, t => by
    simp only [ShrL, List.set_cons_succ] at s ⊢
    exact ⟨s.1, ShrL.set i s.2 t⟩
theorem ShrL.take : ∀ {vs : List V} {ds : List D} (n : Nat), ShrL K mg A vs ds → ShrL K mg A (vs.take n) (ds.take n)
  | [], [], n, s => by simpa using s
  | [], _ :: _, _, s => by simp [ShrL] at s
  | _ :: _, [], _, s => by simp [ShrL] at s
  | v :: vs, d :: ds, 0, s => by simp [ShrL]
  | v :: vs, d :: ds, n + 1, s => by
    simp only [ShrL, List.take_succ_cons] at s ⊢
    exact ⟨s.1, ShrL.take n s.2⟩
theorem ShrL.drop : ∀ {vs : List V} {ds : List D} (n : Nat), ShrL K mg A vs ds → ShrL K mg A (vs.drop n) (ds.drop n)
  | [], [], n, s => by simpa using s
  | [], _ :: _, _, s => by simp [ShrL] at s
  | _ :: _, [], _, s => by simp [ShrL] at s
  | v :: vs, d :: ds, 0, s => by simpa using s
  | v :: vs, d :: ds, n + 1, s => by
    simp only [ShrL, List.drop_succ_cons] at s ⊢
    exact ShrL.drop n s.2
theorem ShrL.ints : ∀ {vs : List V} {ns : List Int}, ShrL K mg A vs (ns.map D.int) → vs = ns.map V.int
  | [], [], _ => rfl
  | [], _ :: _, s => by simp [ShrL] at s
  | _ :: _, [], s => by simp [ShrL] at s
  | v :: vs, n :: ns, s => by
    simp only [ShrL, List.map_cons, Shr] at s
    rw [s.1, List.map_cons, ShrL.ints s.2]

theorem OwnL.mono {P P' : V → D → List Addr → Prop} : ∀ {vs : List V} {ds : List D} {fp : List Addr}, OwnL P vs ds fp → (∀ v d f, (∀ a ∈ f, a ∈ fp) → P v d f → P' v d f) → OwnL P' vs ds fp
  | [], [], _, o, _ => o
  | [], _ :: _, _, o, _ => by simp [OwnL] at o
  | _ :: _, [], _, o, _ => by simp [OwnL] at o
  | v :: vs, d :: ds, fp, o, h => by
    simp only [OwnL] at o ⊢
    obtain ⟨f1, f2, p, q, e⟩ := o
    subst e
    exact ⟨f1, f2, h _ _ _ (fun a m => List.mem_append_left _ m) p, OwnL.mono q fun v d f m => h v d f fun a z => List.mem_append_right _ (m a z), rfl⟩
theorem Own.mono (h : Sub A A') : ∀ {k : Kd} {v : V} {d : D} {fp : List Addr}, Own K mg A H k v d fp → (∀ a ∈ fp, H' a = H a) → Own K mg A' H' k v d fp
  | .sh, v, d, fp, o, _ => by
    simp only [Own] at o ⊢
    exact ⟨o.1.mono h, o.2⟩
  | .ls k, v, d, fp, o, e => by
    simp only [Own] at o ⊢
    obtain ⟨a, vs, ds, f, e1, e2, e3, e4, e5⟩ := o
    subst e5
    refine ⟨a, vs, ds, f, e1, e2, by rw [e a (List.mem_cons_self ..)]; exact e3, OwnL.mono e4 fun v d g m p => Own.mono h p fun b z => e b (List.mem_cons_of_mem _ (m b z)), rfl⟩
  | .dk, v, d, fp, o, e => by
    simp only [Own] at o ⊢
    obtain ⟨a, kv, ks, ds, e1, e2, e3, e4, e5, e6⟩ := o
    subst e6
    exact ⟨a, kv, ks, ds, e1, e2, by rw [e a (List.mem_cons_self ..)]; exact e3, e4, e5.mono h, rfl⟩
  | .dt, v, d, fp, o, e => by
    simp only [Own] at o ⊢
    obtain ⟨a, kv, ks, ds, e1, e2, e3, e4, e5, e6⟩ := o
    subst e6
    exact ⟨a, kv, ks, ds, e1, e2, by rw [e a (List.mem_cons_self ..)]; exact e3, e4, e5.mono h, rfl⟩
  | .ob a, v, d, fp, o, e => by
    simp only [Own] at o ⊢
    obtain ⟨C, dx, fv, c, fs, ds, e1, e2, e3, e4, e0, e5, e6, e7⟩ := o
    subst e7
    exact ⟨C, dx, fv, c, fs, ds, e1, e2, e3, by rw [e a (List.mem_cons_self ..)]; exact e4, by rw [e dx (by simp)]; exact e0, e5, e6.mono h, rfl⟩
theorem OwnL.shr {P : V → D → List Addr → Prop} : ∀ {vs : List V} {ds : List D} {fp : List Addr}, OwnL P vs ds fp → (∀ v d f, (∀ a ∈ f, a ∈ fp) → P v d f → Shr K mg A' v d) → ShrL K mg A' vs ds
  | [], [], _, _, _ => by simp [ShrL]
  | [], _ :: _, _, o, _ => by simp [OwnL] at o
  | _ :: _, [], _, o, _ => by simp [OwnL] at o
  | v :: vs, d :: ds, fp, o, h => by
    simp only [OwnL] at o
    obtain ⟨f1, f2, p, q, e⟩ := o
    subst e
    simp only [ShrL]
    exact ⟨h _ _ _ (fun a m => List.mem_append_left _ m) p, OwnL.shr q fun v d f m => h v d f fun a z => List.mem_append_right _ (m a z)⟩
/-- what is owned is let go: it stands in the shared heap A' -/
theorem Own.shr (h : Sub A A') : ∀ {k : Kd} {v : V} {d : D} {fp : List Addr}, Own K mg A H k v d fp → (∀ a ∈ fp, A' a = H a) → Shr K mg A' v d
  | .sh, v, d, fp, o, _ => by
    simp only [Own] at o
    exact o.1.mono h
  | .ls k, v, d, fp, o, e => by
    simp only [Own] at o
    obtain ⟨a, vs, ds, f, e1, e2, e3, e4, e5⟩ := o
    subst e5 e2
    simp only [Shr]
    refine ⟨a, vs, e1, by rw [e a (List.mem_cons_self ..)]; exact e3, OwnL.shr e4 fun v d g m p => Own.shr h p fun b z => e b (List.mem_cons_of_mem _ (m b z))⟩
  | .dk, v, d, fp, o, e => by
    simp only [Own] at o
    obtain ⟨a, kv, ks, ds, e1, e2, e3, e4, e5, e6⟩ := o
    subst e6 e2
    simp only [Shr]
    exact ⟨a, kv, e1, by rw [e a (List.mem_cons_self ..)]; exact e3, e4, e5.mono h⟩
  | .dt, v, d, fp, o, e => by
    simp only [Own] at o
    obtain ⟨a, kv, ks, ds, e1, e2, e3, e4, e5, e6⟩ := o
    subst e6 e2
    simp only [Shr]
    exact ⟨a, kv, e1, by rw [e a (List.mem_cons_self ..)]; exact e3, e4, e5.mono h⟩
  | .ob a, v, d, fp, o, e => by
    simp only [Own] at o
    obtain ⟨C, dx, fv, c, fs, ds, e1, e2, e3, e4, e0, e5, e6, e7⟩ := o
    subst e7 e2
    simp only [Shr]
    exact ⟨a, C, dx, fv, e1, e3, by rw [e a (List.mem_cons_self ..)]; exact e4, by rw [e dx (by simp)]; exact e0, e5, e6.mono h⟩

/-! ### the shared heap and the whole heap grow -/
structure Gr (A H A' H' : Hp) : Prop where
  aa : Sub A A'
  ah : Sub A' H'
  hh : Sub H H'
  nw : ∀ a, A a = none → A' a ≠ none → H a = none
theorem Gr.refl (h : Sub A H) : Gr A H A H := ⟨fun _ _ h => h, h, fun _ _ h => h, fun _ e n => absurd e n⟩
theorem Gr.trans {A2 H2 : Hp} (g : Gr A H A' H') (k : Gr A' H' A2 H2) : Gr A H A2 H2 := by
  refine ⟨fun a o h => k.aa a o (g.aa a o h), k.ah, fun a o h => k.hh a o (g.hh a o h), fun a e n => ?_⟩
  by_cases q : A' a = none
  · have := k.nw a q n
    exact Same.free (H := H) (H' := H') g.hh this
  · exact g.nw a e q
/-- freshly owned -/
def Fresh (H A' : Hp) (fp : List Addr) : Prop := fp.Nodup ∧ ∀ a ∈ fp, H a = none ∧ A' a = none
theorem Fresh.nil : Fresh H A' [] := ⟨List.nodup_nil, fun a h => by cases h⟩
/-- a new object laid, owned by nobody: it is shared -/
theorem Gr.lay (h : Sub A H) {p : Addr} {o : HO} (hp : H p = none) : Gr A H (upd A p o) (upd H p o) := by
  have ap : A p = none := Same.free (H := A) (H' := H) h hp
  refine ⟨fun a u e => ?_, fun a u e => ?_, fun a u e => ?_, fun a e n => ?_⟩
  · rw [upd_ne (ne_of_none e ap)]; exact e
  · by_cases q : a = p
    · subst q; rw [upd_same] at e ⊢; exact e
    · rw [upd_ne q] at e ⊢; exact h _ _ e
  · rw [upd_ne (ne_of_none e hp)]; exact e
  · by_cases q : a = p
    · subst q; exact hp
    · rw [upd_ne q] at n; exact absurd e n
/-- a new object laid that stays out of the shared heap -/
theorem Gr.own (h : Sub A H) {p : Addr} {o : HO} (hp : H p = none) : Gr A H A (upd H p o) := by
  have ap : A p = none := Same.free (H := A) (H' := H) h hp
  refine ⟨fun a u e => e, fun a u e => ?_, fun a u e => ?_, fun a e n => absurd e n⟩
  · rw [upd_ne (ne_of_none e ap)]; exact h _ _ e
  · rw [upd_ne (ne_of_none e hp)]; exact e
/-- what is freshly owned is let go -/
theorem Gr.freeze {fp : List Addr} (g : Gr A H A' H') (f : Fresh H A' fp) : ∃ A2, Gr A H A2 H' ∧ Sub A' A2 ∧ ∀ a ∈ fp, A2 a = H' a := by
  classical
  refine ⟨fun a => if a ∈ fp then H' a else A' a, ⟨fun a o e => ?_, fun a o e => ?_, g.hh, fun a e n => ?_⟩, fun a o e => ?_, fun a m => by simp [m]⟩
  · show (if a ∈ fp then H' a else A' a) = some o
    by_cases m : a ∈ fp
    · have := g.aa a o e
      rw [(f.2 a m).2] at this; cases this
    · rw [if_neg m]; exact g.aa a o e
  · have e : (if a ∈ fp then H' a else A' a) = some o := e
    by_cases m : a ∈ fp
    · rw [if_pos m] at e; exact e
    · rw [if_neg m] at e; exact g.ah a o e
  · have n : (if a ∈ fp then H' a else A' a) ≠ none := n
    by_cases m : a ∈ fp
    · exact (f.2 a m).1
    · rw [if_neg m] at n; exact g.nw a e n
  · show (if a ∈ fp then H' a else A' a) = some o
    by_cases m : a ∈ fp
    · rw [(f.2 a m).2] at e; cases e
    · rw [if_neg m]; exact e
end
end ZL


namespace ZL
open PySem PySem.Spec PyProof.Rows L2

/-- what is fixed through a law -/
structure Glob where
  P : Program
  w : World
  K : PySem.W.Frag
  mg : Str → Option Value
  base : Heap
abbrev Glob.FnOk (G : Glob) (k : Nat) (f : Addr) (fd : FuncData) (ps : List Str) (sp : Sp) : Prop := L2.FnOk G.P G.w G.K G.mg G.base (L2.CX G.P G.w) k f fd ps sp

/-- where a piece of code stands: one of a family of contexts of one scope -/
structure Zc (G : Glob) (N : List Str) (sc : Scope) (fn : Str → Bool) (W : WX) (k : Nat) where
  ι : Type
  X : ι → Cx
  hN : ∀ i, (X i).N = N
  nd : N.Nodup
  hsc : ∀ i, (X i).env.scope = sc
  hfn : ∀ i, (X i).fn = fn
  hP : ∀ i, (X i).prog = G.P
  hw : ∀ i, (X i).w = G.w
  hK : ∀ i, (X i).K = G.K
  hmg : ∀ i, (X i).mg = G.mg
  hb : ∀ i, (X i).base = G.base
  calm : ∀ i, (X i).calm = true
  room : ∀ i, Room k (X i).A
  tk : ∀ i, Takes (X i) W

abbrev SEnv := List (Option D)
structure Exn where
  c : String
  fs : List String
  ds : List D
abbrev ZM := SEnv → (Kd → D → Prop) → (Exn → Prop) → Prop
abbrev ZMT := SEnv → (Bool → Prop) → (Exn → Prop) → Prop
abbrev ZMA := SEnv → (List D → Prop) → (Exn → Prop) → Prop

def View (G : Glob) (A : Hp) (σ : L2.St) (env : SEnv) : Prop := σ.length = env.length ∧ ∀ (i : Nat) (d : D), env[i]? = some (some d) → ∃ v : V, σ[i]? = some (some v) ∧ Shr G.K G.mg A v d
theorem View.mono {G : Glob} {A A' : Hp} {σ : L2.St} {env : SEnv} (v : View G A σ env) (h : Sub A A') : View G A' σ env := ⟨v.1, fun i d e => by
  obtain ⟨u, e1, e2⟩ := v.2 i d e
  exact ⟨u, e1, e2.mono h⟩⟩
def ExAt (G : Glob) (A : Hp) (x : Exn) (cls : Value) (d : Option Addr) : Prop :=
  ∃ C, G.mg (Str.ofString x.c) = some (.ref C) ∧ cls = .ref C ∧ (match d with
    | none => x.fs = [] ∧ x.ds = []
    | some dx => ∃ fv, A dx = some (.xd fv) ∧ fv.map (·.1) = x.fs.map Str.ofString ∧ ShrL G.K G.mg A (fv.map (·.2)) x.ds)

/-- what is raised: how it meets the wish -/
abbrev Esc (G : Glob) (W : WX) (A H : Hp) (σ : L2.St) (Ez : Exn → Prop) : Prop := ∀ x cls dx H' A', Gr A H A' H' → ExAt G A' x cls dx → Ez x → W cls dx σ H'
theorem Esc.gr {G : Glob} {W : WX} {A H A' H' : Hp} {σ : L2.St} {Ez : Exn → Prop} (e : Esc G W A H σ Ez) (g : Gr A H A' H') : Esc G W A' H' σ Ez := fun x cls dx H2 A2 g2 q => e x cls dx H2 A2 (g.trans g2) q

def Snd (G : Glob) (W : WX) (t : TE) (m : ZM) : Prop := ∀ A H σ env (Q : VK) Qz Ez, Sub A H → View G A σ env → m env Qz Ez →
  (∀ v H' A' k d fp, Gr A H A' H' → Own G.K G.mg A' H' k v d fp → Fresh H A' fp → Qz k d → Q v H') → Esc G W A H σ Ez → t σ H Q
def SndT (G : Glob) (W : WX) (t : TT) (m : ZMT) : Prop := ∀ A H σ env (Q : Bool → Hp → Prop) Qz Ez, Sub A H → View G A σ env → m env Qz Ez →
  (∀ b H' A', Gr A H A' H' → Qz b → Q b H') → Esc G W A H σ Ez → t σ H Q
def SndA (G : Glob) (W : WX) (t : TA) (m : ZMA) : Prop := ∀ A H σ env (Q : List V → Hp → Prop) Qz Ez, Sub A H → View G A σ env → m env Qz Ez →
  (∀ vs H' A' ds, Gr A H A' H' → ShrL G.K G.mg A' vs ds → Qz ds → Q vs H') → Esc G W A H σ Ez → t σ H Q

section
variable {G : Glob} {N : List Str} {sc : Scope} {fn : Str → Bool} {W : WX} {k : Nat}
structure ZE (Z : Zc G N sc fn W k) (e : Expr) (m : ZM) : Prop where
  ex : ∃ t, (∀ i, PE (Z.X i) e t) ∧ Snd G W t m
structure ZT (Z : Zc G N sc fn W k) (e : Expr) (m : ZMT) : Prop where
  ex : ∃ t, (∀ i, PT (Z.X i) e t) ∧ SndT G W t m
structure ZW (Z : Zc G N sc fn W k) (e : Expr) (m : ZMT) : Prop where
  ex : ∃ t, (∀ i, PW (Z.X i) e t) ∧ SndT G W t m
structure ZA (Z : Zc G N sc fn W k) (es : List Expr) (m : ZMA) : Prop where
  ex : ∃ t, (∀ i, PA (Z.X i) es t) ∧ SndA G W t m

variable {Z : Zc G N sc fn W k}
/-- the value let go: only what it is -/
theorem Snd.go {t : TE} {m : ZM} (s : Snd G W t m) {A H : Hp} {σ : L2.St} {env : SEnv} {Q : VK} {Qz : Kd → D → Prop} {Ez : Exn → Prop} (h : Sub A H) (v : View G A σ env) (hm : m env Qz Ez)
    (hq : ∀ v H' A' k d, Gr A H A' H' → Shr G.K G.mg A' v d → Qz k d → Q v H') (he : Esc G W A H σ Ez) : t σ H Q :=
  s A H σ env Q Qz Ez h v hm (fun v H' A' k d fp g o f q => by
    obtain ⟨A2, g2, s2, e2⟩ := g.freeze f
    exact hq v H' A2 k d g2 (o.shr s2 e2) q) he
/-- a value that is shared -/
theorem own_sh {K : PySem.W.Frag} {mg : Str → Option Value} {A H : Hp} {v : V} {d : D} (s : Shr K mg A v d) : Own K mg A H .sh v d [] := by
  simp only [Own]; exact ⟨s, trivial⟩

/-! ### names, constants -/
def mVar (i : Nat) : ZM := fun env Q _ => match env[i]? with
  | some (some d) => Q .sh d
  | _ => False
theorem snd_var (i : Nat) : Snd G W (tVar i) (mVar i) := fun A H σ env Q Qz Ez h v hm hq _ => by
  unfold mVar at hm
  split at hm
  · rename_i d e
    obtain ⟨u, e1, e2⟩ := v.2 i d e
    exact ⟨u, e1, hq u H A .sh d [] (Gr.refl h) (own_sh e2) Fresh.nil hm⟩
  · exact hm.elim
theorem ze_var (i : Nat) {x : Str} {pos : Pos} (hx : N[i]? = some x := by rfl) (hv : Vis sc x := by first | exact Or.inl rfl | exact Or.inr (Or.inl rfl) | exact Or.inr (Or.inr rfl))
    (hd : (x == ("__debug__" : Str)) = false := by decide) (hcd : (x == ("__classdict__" : Str)) = false := by decide) : ZE Z (.Name x pos) (mVar i) :=
  ⟨tVar i, fun j => pe_var (by rw [Z.hN]; exact hx) (by rw [Z.hsc]; exact hv) hd hcd, snd_var i⟩
def mC (d : D) : ZM := fun _ Q _ => Q .sh d
def vC : D → V
  | .bl b => .bl b
  | .int i => .int i
  | .str s => .str s
  | _ => .non
def isC : D → Bool
  | .non => true
  | .bl _ => true
  | .int _ => true
  | .str _ => true
  | _ => false
theorem shr_C {K : PySem.W.Frag} {mg : Str → Option Value} {A : Hp} {d : D} (h : isC d = true) : Shr K mg A (vC d) d := by
  cases d <;> first | (simp [Shr, vC]; done) | cases h
theorem snd_C {d : D} (hc : isC d = true) : Snd G W (tC (vC d)) (mC d) := fun A H σ env Q Qz Ez h v hm hq _ => hq _ H A .sh d [] (Gr.refl h) (own_sh (shr_C hc)) Fresh.nil hm
theorem ze_int {i j pos} : ZE Z (.Constant (.int i) j pos) (mC (.int i)) := ⟨_, fun _ => pe_int, snd_C rfl⟩
theorem ze_bl {b j pos} : ZE Z (.Constant (.bool b) j pos) (mC (.bl b)) := ⟨_, fun _ => pe_bl, snd_C rfl⟩
theorem ze_non {j pos} : ZE Z (.Constant .none j pos) (mC .non) := ⟨_, fun _ => pe_non, snd_C rfl⟩
theorem ze_str {x j pos} : ZE Z (.Constant (.str x) j pos) (mC (.str x)) := ⟨_, fun _ => pe_str, snd_C rfl⟩
/-- a constant of the module -/
theorem ze_glob {x : Str} {d : D} {u : Value} {pos : Pos} (hm : G.mg x = some u) (hg : sc.names.lookup x = some .globalImplicit := by rfl) (hc : isC d = true := by rfl) (r : RelV (vC d) u := by exact ⟨_, rfl⟩) (hd : (x == ("__debug__" : Str)) = false := by decide) : ZE Z (.Name x pos) (mC d) :=
  ⟨_, fun i => pe_glob (show (Z.X i).env.scope.names.lookup x = _ by rw [Z.hsc]; exact hg) (by rw [Z.hmg]; exact hm) r hd, snd_C hc⟩

/-! ### operators by values -/
abbrev DOp := D → D → (Kd → D → Prop) → Prop
abbrev DOp1 := D → (Kd → D → Prop) → Prop
def SndOp (G : Glob) (r : R2) (o : DOp) : Prop := ∀ A H x y dx dy (Q : VK) Qz, Sub A H → Shr G.K G.mg A x dx → Shr G.K G.mg A y dy → o dx dy Qz →
  (∀ v H' A' k d fp, Gr A H A' H' → Own G.K G.mg A' H' k v d fp → Fresh H A' fp → Qz k d → Q v H') → r x y H Q
/-- the operator f does o on data -/
def ZOp (Z : Zc G N sc fn W k) (f : Value → Value → Sem Value) (o : DOp) : Prop := ∃ r, (∀ i, OpR (Z.X i) f r) ∧ SndOp G r o
def mOp (o : DOp) (a b : ZM) : ZM := fun env Q E => a env (fun _ x => b env (fun _ y => o x y Q) E) E
theorem snd_op {r : R2} {o : DOp} {ta tb : TE} {ma mb : ZM} (ho : SndOp G r o) (ha : Snd G W ta ma) (hb : Snd G W tb mb) : Snd G W (tOp r ta tb) (mOp o ma mb) := fun A H σ env Q Qz Ez h v hm hq he =>
  ha.go h v hm (fun x H1 A1 _ dx g1 s1 q1 => hb.go g1.ah (v.mono g1.aa) q1 (fun y H2 A2 _ dy g2 s2 q2 =>
    ho A2 H2 x y dx dy Q Qz g2.ah (s1.mono g2.aa) s2 q2 fun v H3 A3 k d fp g3 o3 f3 q3 =>
      hq v H3 A3 k d fp ((g1.trans g2).trans g3) o3 ⟨f3.1, fun a m => ⟨Same.free (H := H) (H' := H2) (g1.trans g2).hh (f3.2 a m).1, (f3.2 a m).2⟩⟩ q3) (he.gr g1)) he
theorem ze_op {a b : Expr} {ma mb : ZM} {pos : Pos} {op : Operator} {o : DOp} (ho : ZOp Z (binaryOp op) o) (ha : ZE Z a ma) (hb : ZE Z b mb) : ZE Z (.BinOp a op b pos) (mOp o ma mb) := by
  obtain ⟨r, h1, h2⟩ := ho
  obtain ⟨ta, a1, a2⟩ := ha.ex
  obtain ⟨tb, b1, b2⟩ := hb.ex
  exact ⟨_, fun i => pe_op (h1 i) (a1 i) (b1 i), snd_op h2 a2 b2⟩
theorem ze_cmp {a b : Expr} {ma mb : ZM} {pos : Pos} {op : CmpOp} {o : DOp} (ho : ZOp Z (compareOp op) o) (ha : ZE Z a ma) (hb : ZE Z b mb) (hm : behindInMarks op b = false := by first | exact nomark _ | rfl) : ZE Z (.Compare a [op] [b] pos) (mOp o ma mb) := by
  obtain ⟨r, h1, h2⟩ := ho
  obtain ⟨ta, a1, a2⟩ := ha.ex
  obtain ⟨tb, b1, b2⟩ := hb.ex
  exact ⟨_, fun i => pe_cmpR (h1 i) (a1 i) (b1 i) hm, snd_op h2 a2 b2⟩
def mB (m : ZM) : ZMT := fun env Q E => m env (fun _ d => match d with
  | .bl b => Q b
  | _ => False) E
theorem sndT_B {t : TE} {m : ZM} (s : Snd G W t m) : SndT G W (tB t) (mB m) := fun A H σ env Q Qz Ez h v hm hq he =>
  s.go h v hm (fun x H' A' _ d g sd q => by
    cases d with
    | bl b =>
      simp only [Shr] at sd
      exact ⟨b, sd, hq b H' A' g q⟩
    | _ => exact q.elim) he
theorem zt_cmp {a b : Expr} {ma mb : ZM} {pos : Pos} {op : CmpOp} {o : DOp} (ho : ZOp Z (compareOp op) o) (ha : ZE Z a ma) (hb : ZE Z b mb) (hm : behindInMarks op b = false := by first | exact nomark _ | rfl) : ZT Z (.Compare a [op] [b] pos) (mB (mOp o ma mb)) := by
  obtain ⟨r, h1, h2⟩ := ho
  obtain ⟨ta, a1, a2⟩ := ha.ex
  obtain ⟨tb, b1, b2⟩ := hb.ex
  exact ⟨_, fun i => pt_cmpR (h1 i) (a1 i) (b1 i) hm, sndT_B (snd_op h2 a2 b2)⟩
/-- an expression that gives a bool, as a test -/
theorem zt_val {e : Expr} {m : ZM} (h : ZE Z e m) (he : ∀ env whole, isTrue e env whole = (do let v ← whole; standAt e.pos; holding [v] (truthy v)) := by intro _ _; rfl) : ZT Z e (mB m) := by
  obtain ⟨t, a1, a2⟩ := h.ex
  exact ⟨_, fun i => pt_val (a1 i) (he _), sndT_B a2⟩
/-! ### and, or, not -/
def mAnd (a b : ZMT) : ZMT := fun env Q E => a env (fun c => if c = true then b env Q E else Q false) E
def mOr (a b : ZMT) : ZMT := fun env Q E => a env (fun c => if c = true then Q true else b env Q E) E
def mNot (a : ZMT) : ZMT := fun env Q E => a env (fun c => Q (!c)) E
theorem zw_and1 {a : Expr} {m : ZMT} {pos} (h : ZT Z a m) : ZW Z (.BoolOp .And [a] pos) m := by
  obtain ⟨t, a1, a2⟩ := h.ex
  exact ⟨_, fun i => pw_and1 (a1 i), a2⟩
theorem zw_or1 {a : Expr} {m : ZMT} {pos} (h : ZT Z a m) : ZW Z (.BoolOp .Or [a] pos) m := by
  obtain ⟨t, a1, a2⟩ := h.ex
  exact ⟨_, fun i => pw_or1 (a1 i), a2⟩
theorem zw_and {a b : Expr} {rest : List Expr} {ma mb : ZMT} {pos} (ha : ZT Z a ma) (hb : ZW Z (.BoolOp .And (b :: rest) pos) mb) : ZW Z (.BoolOp .And (a :: b :: rest) pos) (mAnd ma mb) := by
  obtain ⟨ta, a1, a2⟩ := ha.ex
  obtain ⟨tb, b1, b2⟩ := hb.ex
  refine ⟨_, fun i => pw_and (a1 i) (b1 i), fun A H σ env Q Qz Ez h v hm hq he => ?_⟩
  refine a2 A H σ env _ _ Ez h v hm (fun c H1 A1 g1 q1 => ?_) he
  cases c with
  | true =>
    simp only [if_true] at q1 ⊢
    exact b2 A1 H1 σ env _ _ Ez g1.ah (v.mono g1.aa) q1 (fun b H2 A2 g2 q2 => hq b H2 A2 (g1.trans g2) q2) (he.gr g1)
  | false =>
    simp only [Bool.false_eq_true, if_false] at q1 ⊢
    exact hq false H1 A1 g1 q1
theorem zw_or {a b : Expr} {rest : List Expr} {ma mb : ZMT} {pos} (ha : ZT Z a ma) (hb : ZW Z (.BoolOp .Or (b :: rest) pos) mb) : ZW Z (.BoolOp .Or (a :: b :: rest) pos) (mOr ma mb) := by
  obtain ⟨ta, a1, a2⟩ := ha.ex
  obtain ⟨tb, b1, b2⟩ := hb.ex
  refine ⟨_, fun i => pw_or (a1 i) (b1 i), fun A H σ env Q Qz Ez h v hm hq he => ?_⟩
  refine a2 A H σ env _ _ Ez h v hm (fun c H1 A1 g1 q1 => ?_) he
  cases c with
  | false =>
    simp only [Bool.false_eq_true, if_false] at q1 ⊢
    exact b2 A1 H1 σ env _ _ Ez g1.ah (v.mono g1.aa) q1 (fun b H2 A2 g2 q2 => hq b H2 A2 (g1.trans g2) q2) (he.gr g1)
  | true =>
    simp only [if_true] at q1 ⊢
    exact hq true H1 A1 g1 q1
theorem zt_w {e : Expr} {m : ZMT} (h : ZW Z e m) : ZT Z e m := by
  obtain ⟨t, a1, a2⟩ := h.ex
  exact ⟨t, fun i => (a1 i).pt, a2⟩
theorem zt_not {a : Expr} {m : ZMT} {pos} (h : ZT Z a m) : ZT Z (.UnaryOp .Not a pos) (mNot m) := by
  obtain ⟨t, a1, a2⟩ := h.ex
  exact ⟨_, fun i => pt_not (a1 i), fun A H σ env Q Qz Ez hh v hm hq he => a2 A H σ env _ _ Ez hh v hm (fun c H1 A1 g q => hq _ H1 A1 g q) he⟩
/-- .. as values -/
def mAndV (a b : ZM) : ZM := fun env Q E => a env (fun _ d => match d with
  | .bl c => if c = true then b env Q E else Q .sh (.bl false)
  | _ => False) E
def mOrV (a b : ZM) : ZM := fun env Q E => a env (fun _ d => match d with
  | .bl c => if c = true then Q .sh (.bl true) else b env Q E
  | _ => False) E
def mNotV (a : ZM) : ZM := fun env Q E => a env (fun _ d => match d with
  | .bl c => Q .sh (.bl (!c))
  | _ => False) E
theorem Fresh.back {H H' A' : Hp} {fp : List Addr} (h : Sub H H') (f : Fresh H' A' fp) : Fresh H A' fp := ⟨f.1, fun a m => ⟨Same.free (H := H) (H' := H') h (f.2 a m).1, (f.2 a m).2⟩⟩
theorem ze_one {a : Expr} {op} {m : ZM} {pos} (h : ZE Z a m) : ZE Z (.BoolOp op [a] pos) m := by
  obtain ⟨t, a1, a2⟩ := h.ex
  exact ⟨t, fun i => pe_one (a1 i), a2⟩
theorem ze_and {a b : Expr} {rest : List Expr} {ma mb : ZM} {pos} (ha : ZE Z a ma) (hb : ZE Z (.BoolOp .And (b :: rest) pos) mb) : ZE Z (.BoolOp .And (a :: b :: rest) pos) (mAndV ma mb) := by
  obtain ⟨ta, a1, a2⟩ := ha.ex
  obtain ⟨tb, b1, b2⟩ := hb.ex
  refine ⟨_, fun i => pe_and (a1 i) (b1 i), fun A H σ env Q Qz Ez h v hm hq he => ?_⟩
  refine a2.go h v hm (fun x H1 A1 _ d g1 s1 q1 => ?_) he
  cases d with
  | bl c =>
    simp only [Shr] at s1
    refine ⟨c, s1, ?_⟩
    cases c with
    | true =>
      simp only [if_true] at q1 ⊢
      exact b2 A1 H1 σ env _ _ Ez g1.ah (v.mono g1.aa) q1 (fun b H2 A2 k d fp g2 o2 f2 q2 => hq b H2 A2 k d fp (g1.trans g2) o2 (f2.back g1.hh) q2) (he.gr g1)
    | false =>
      simp only [Bool.false_eq_true, if_false] at q1 ⊢
      exact hq _ H1 A1 .sh _ [] g1 (own_sh (by simp [Shr])) Fresh.nil q1
  | _ => exact q1.elim
theorem ze_or {a b : Expr} {rest : List Expr} {ma mb : ZM} {pos} (ha : ZE Z a ma) (hb : ZE Z (.BoolOp .Or (b :: rest) pos) mb) : ZE Z (.BoolOp .Or (a :: b :: rest) pos) (mOrV ma mb) := by
  obtain ⟨ta, a1, a2⟩ := ha.ex
  obtain ⟨tb, b1, b2⟩ := hb.ex
  refine ⟨_, fun i => pe_or (a1 i) (b1 i), fun A H σ env Q Qz Ez h v hm hq he => ?_⟩
  refine a2.go h v hm (fun x H1 A1 _ d g1 s1 q1 => ?_) he
  cases d with
  | bl c =>
    simp only [Shr] at s1
    refine ⟨c, s1, ?_⟩
    cases c with
    | false =>
      simp only [Bool.false_eq_true, if_false] at q1 ⊢
      exact b2 A1 H1 σ env _ _ Ez g1.ah (v.mono g1.aa) q1 (fun b H2 A2 k d fp g2 o2 f2 q2 => hq b H2 A2 k d fp (g1.trans g2) o2 (f2.back g1.hh) q2) (he.gr g1)
    | true =>
      simp only [if_true] at q1 ⊢
      exact hq _ H1 A1 .sh _ [] g1 (own_sh (by simp [Shr])) Fresh.nil q1
  | _ => exact q1.elim
theorem ze_not {a : Expr} {m : ZM} {pos} (h : ZE Z a m) : ZE Z (.UnaryOp .Not a pos) (mNotV m) := by
  obtain ⟨t, a1, a2⟩ := h.ex
  refine ⟨_, fun i => pe_not (a1 i), fun A H σ env Q Qz Ez hh v hm hq he => ?_⟩
  refine a2.go hh v hm (fun x H1 A1 _ d g1 s1 q1 => ?_) he
  cases d with
  | bl c =>
    simp only [Shr] at s1
    exact ⟨c, s1, hq _ H1 A1 .sh _ [] g1 (own_sh (by simp [Shr])) Fresh.nil q1⟩
  | _ => exact q1.elim
def mIf (c : ZMT) (a b : ZM) : ZM := fun env Q E => c env (fun x => if x = true then a env Q E else b env Q E) E
theorem ze_ifExp {c a b : Expr} {mc : ZMT} {ma mb : ZM} {pos} (hc : ZT Z c mc) (ha : ZE Z a ma) (hb : ZE Z b mb) : ZE Z (.IfExp c a b pos) (mIf mc ma mb) := by
  obtain ⟨tc, c1, c2⟩ := hc.ex
  obtain ⟨ta, a1, a2⟩ := ha.ex
  obtain ⟨tb, b1, b2⟩ := hb.ex
  refine ⟨_, fun i => pe_ifExp (c1 i) (a1 i) (b1 i), fun A H σ env Q Qz Ez h v hm hq he => ?_⟩
  refine c2 A H σ env _ _ Ez h v hm (fun x H1 A1 g1 q1 => ?_) he
  cases x with
  | true =>
    simp only [if_true] at q1 ⊢
    exact a2 A1 H1 σ env _ _ Ez g1.ah (v.mono g1.aa) q1 (fun b H2 A2 k d fp g2 o2 f2 q2 => hq b H2 A2 k d fp (g1.trans g2) o2 (f2.back g1.hh) q2) (he.gr g1)
  | false =>
    simp only [Bool.false_eq_true, if_false] at q1 ⊢
    exact b2 A1 H1 σ env _ _ Ez g1.ah (v.mono g1.aa) q1 (fun b H2 A2 k d fp g2 o2 f2 q2 => hq b H2 A2 k d fp (g1.trans g2) o2 (f2.back g1.hh) q2) (he.gr g1)
/-! ### argument lists -/
def mNil : ZMA := fun _ Q _ => Q []
def mCons (a : ZM) (r : ZMA) : ZMA := fun env Q E => a env (fun _ x => r env (fun xs => Q (x :: xs)) E) E
theorem za_nil : ZA Z [] mNil := ⟨_, fun _ => pa_nil, fun A H σ env Q Qz Ez h v hm hq he => hq [] H A [] (Gr.refl h) (by simp [ShrL]) hm⟩
theorem za_cons {e : Expr} {es : List Expr} {me : ZM} {m : ZMA} (ha : ZE Z e me) (hr : ZA Z es m) (hs : ∀ env, starEach (e :: es) env = (false, eval e env) :: starEach es env := by intro _; rfl) : ZA Z (e :: es) (mCons me m) := by
  obtain ⟨ta, a1, a2⟩ := ha.ex
  obtain ⟨tb, b1, b2⟩ := hr.ex
  refine ⟨_, fun i => pa_cons (a1 i) (b1 i) (hs _), fun A H σ env Q Qz Ez h v hm hq he => ?_⟩
  refine a2.go h v hm (fun x H1 A1 _ d g1 s1 q1 => ?_) he
  refine b2 A1 H1 σ env _ _ Ez g1.ah (v.mono g1.aa) q1 (fun vs H2 A2 ds g2 s2 q2 => ?_) (he.gr g1)
  exact hq _ H2 A2 (d :: ds) (g1.trans g2) (by simp only [ShrL]; exact ⟨s1.mono g2.aa, s2⟩) q2
/-! ### displays -/
def mTup (m : ZMA) : ZM := fun env Q E => m env (fun ds => ds.length ≤ sizeLine ∧ Q .sh (.tup ds)) E
def mLst (m : ZMA) : ZM := fun env Q E => m env (fun ds => ds.length ≤ sizeLine ∧ Q (.ls .sh) (.lst ds)) E
theorem ownL_sh {K : PySem.W.Frag} {mg : Str → Option Value} {A H : Hp} : ∀ {vs : List V} {ds : List D}, ShrL K mg A vs ds → OwnL (Own K mg A H .sh) vs ds []
  | [], [], _ => rfl
  | [], _ :: _, s => by simp [ShrL] at s
  | _ :: _, [], s => by simp [ShrL] at s
  | v :: vs, d :: ds, s => by
    simp only [ShrL] at s
    exact ⟨[], [], own_sh s.1, ownL_sh s.2, rfl⟩
theorem ownL_of_sh {K : PySem.W.Frag} {mg : Str → Option Value} {A H : Hp} : ∀ {vs : List V} {ds : List D} {fp : List Addr}, OwnL (Own K mg A H .sh) vs ds fp → ShrL K mg A vs ds ∧ fp = []
  | [], [], _, o => ⟨by simp [ShrL], o⟩
  | [], _ :: _, _, o => by simp [OwnL] at o
  | _ :: _, [], _, o => by simp [OwnL] at o
  | v :: vs, d :: ds, fp, o => by
    simp only [OwnL] at o
    obtain ⟨f1, f2, p, q, e⟩ := o
    simp only [Own] at p
    obtain ⟨q1, q2⟩ := ownL_of_sh q
    refine ⟨by simp only [ShrL]; exact ⟨p.1, q1⟩, by rw [e, p.2, q2]; rfl⟩
/-- a new list of shared items, owned -/
theorem own_new {K : PySem.W.Frag} {mg : Str → Option Value} {A H : Hp} {p : Addr} {vs : List V} {ds : List D} (hp : H p = none) (h : Sub A H) (s : ShrL K mg A vs ds) :
    Gr A H A (upd H p (.lst vs)) ∧ Own K mg A (upd H p (.lst vs)) (.ls .sh) (.ref p) (.lst ds) [p] ∧ Fresh H A [p] := by
  refine ⟨Gr.own h hp, ?_, ⟨by simp, fun a m => ?_⟩⟩
  · simp only [Own]
    exact ⟨p, vs, ds, [], rfl, rfl, upd_same, ownL_sh (H := upd H p (.lst vs)) s, rfl⟩
  · have : a = p := by simpa using m
    subst this
    exact ⟨hp, Same.free (H := A) (H' := H) h hp⟩
theorem ze_tup {es : List Expr} {m : ZMA} {x1 pos} (h : ZA Z es m) : ZE Z (.Tuple es x1 pos) (mTup m) := by
  obtain ⟨t, a1, a2⟩ := h.ex
  refine ⟨_, fun i => pe_tup (a1 i), fun A H σ env Q Qz Ez h v hm hq he => ?_⟩
  refine a2 A H σ env _ _ Ez h v hm (fun vs H1 A1 ds g1 s1 q1 => ⟨by rw [s1.length]; exact q1.1, fun p hp => ?_⟩) he
  have g2 := Gr.lay (o := .tup vs) g1.ah hp
  refine hq _ _ _ .sh (.tup ds) [] (g1.trans g2) (own_sh ?_) Fresh.nil q1.2
  simp only [Shr]
  exact ⟨p, vs, rfl, upd_same, s1.mono g2.aa⟩
theorem ze_lst {es : List Expr} {m : ZMA} {pos} (h : ZA Z es m) : ZE Z (.List es pos) (mLst m) := by
  obtain ⟨t, a1, a2⟩ := h.ex
  refine ⟨_, fun i => pe_lst (a1 i), fun A H σ env Q Qz Ez h v hm hq he => ?_⟩
  refine a2 A H σ env _ _ Ez h v hm (fun vs H1 A1 ds g1 s1 q1 => ⟨by rw [s1.length]; exact q1.1, fun p hp => ?_⟩) he
  obtain ⟨g2, o2, f2⟩ := own_new (K := G.K) (mg := G.mg) hp g1.ah s1
  exact hq _ _ _ (.ls .sh) (.lst ds) [p] (g1.trans g2) o2 (f2.back g1.hh) q1.2
end
end ZL


namespace ZL
open PySem PySem.Spec PyProof.Rows L2

/-! ### data without anything that may be changed -/
mutual
def clnS : D → Bool
  | .non => true
  | .bl _ => true
  | .int _ => true
  | .str _ => true
  | .lst _ => false
  | .tup ds => clnL ds
  | .scr _ => false
  | .ty _ => true
  | .cls _ => true
  | .obj _ _ ds => clnL ds
  | .slf _ _ _ => false
  | .dK _ _ => false
  | .dT _ _ => false
def clnL : List D → Bool
  | [] => true
  | d :: ds => clnS d && clnL ds
end
def cln : Kd → D → Bool
  | .sh, d => clnS d
  | .ls k, .lst ds => ds.all (cln k)
  | .dk, .dK _ ds => clnL ds
  | .dt, .dT _ ds => clnL ds
  | .ob _, .obj _ _ ds => clnL ds
  | _, _ => false
def hasOb : Kd → Bool
  | .ob _ => true
  | .ls k => hasOb k
  | _ => false
/-- an object that may be changed -/
def mutO : HO → Bool
  | .lst _ => true
  | .dK _ => true
  | .dT _ => true
  | _ => false
/-- what is clean in A stands in A', too -/
def ClT (A A' : Hp) : Prop := ∀ a o, A a = some o → mutO o = false → (∀ C dx fv, o = .ins C dx fv → A dx = some (.own a)) → A' a = some o
section
variable {K : PySem.W.Frag} {mg : Str → Option Value} {A A' H H' : Hp}
mutual
theorem Shr.cl (h : ClT A A') : ∀ {v : V} {d : D}, clnS d = true → Shr K mg A v d → Shr K mg A' v d
  | v, .non, _, s => by simpa [Shr] using s
  | v, .bl b, _, s => by simpa [Shr] using s
  | v, .int i, _, s => by simpa [Shr] using s
  | v, .str z, _, s => by simpa [Shr] using s
  | v, .ty z, _, s => by simpa [Shr] using s
  | v, .cls z, _, s => by simpa [Shr] using s
  | v, .lst ds, c, s => by simp [clnS] at c
  | v, .tup ds, c, s => by
    simp only [Shr] at s ⊢
    obtain ⟨a, vs, e, h1, h2⟩ := s
    exact ⟨a, vs, e, h _ _ h1 rfl (fun _ _ _ z => nomatch z), ShrL.cl h (by simpa [clnS] using c) h2⟩
  | v, .slf _ _ _, c, s => by simp [clnS] at c
  | v, .scr ns, c, s => by simp [clnS] at c
  | v, .obj cc fs ds, c, s => by
    simp only [Shr] at s ⊢
    obtain ⟨a, C, dx, fv, e, hc, h1, h0, h2, h3⟩ := s
    exact ⟨a, C, dx, fv, e, hc, h _ _ h1 rfl (fun _ _ _ z => by cases z; exact h0), h _ _ h0 rfl (fun _ _ _ z => nomatch z), h2, ShrL.cl h (by simpa [clnS] using c) h3⟩
  | v, .dK ks ds, c, s => by simp [clnS] at c
  | v, .dT ks ds, c, s => by simp [clnS] at c
theorem ShrL.cl (h : ClT A A') : ∀ {vs : List V} {ds : List D}, clnL ds = true → ShrL K mg A vs ds → ShrL K mg A' vs ds
  | [], [], _, _ => by simp [ShrL]
  | [], _ :: _, _, s => by simp [ShrL] at s
  | _ :: _, [], _, s => by simp [ShrL] at s
  | v :: vs, d :: ds, c, s => by
    simp only [ShrL] at s ⊢
    simp only [clnL, Bool.and_eq_true] at c
    exact ⟨Shr.cl h c.1 s.1, ShrL.cl h c.2 s.2⟩
end
theorem OwnL.cl {P P' : V → D → List Addr → Prop} {c : D → Bool} (h : ∀ v d f, c d = true → P v d f → P' v d f) : ∀ {vs : List V} {ds : List D} {fp : List Addr}, ds.all c = true → OwnL P vs ds fp → OwnL P' vs ds fp
  | [], [], _, _, o => o
  | [], _ :: _, _, _, o => by simp [OwnL] at o
  | _ :: _, [], _, _, o => by simp [OwnL] at o
  | v :: vs, d :: ds, fp, q, o => by
    simp only [OwnL] at o ⊢
    simp only [List.all_cons, Bool.and_eq_true] at q
    obtain ⟨f1, f2, p, r, e⟩ := o
    exact ⟨f1, f2, h _ _ _ q.1 p, OwnL.cl h q.2 r, e⟩
theorem Own.cl (h : ClT A A') : ∀ {k : Kd} {v : V} {d : D} {fp : List Addr}, cln k d = true → Own K mg A H k v d fp → Own K mg A' H k v d fp
  | .sh, v, d, fp, c, o => by
    simp only [Own] at o ⊢
    exact ⟨o.1.cl h (by simpa [cln] using c), o.2⟩
  | .ls k, v, d, fp, c, o => by
    simp only [Own] at o ⊢
    obtain ⟨a, vs, ds, f, e1, e2, e3, e4, e5⟩ := o
    subst e2
    exact ⟨a, vs, ds, f, e1, rfl, e3, OwnL.cl (c := cln k) (fun v d f c p => Own.cl h c p) (by simpa [cln] using c) e4, e5⟩
  | .dk, v, d, fp, c, o => by
    simp only [Own] at o ⊢
    obtain ⟨a, kv, ks, ds, e1, e2, e3, e4, e5, e6⟩ := o
    subst e2
    exact ⟨a, kv, ks, ds, e1, rfl, e3, e4, e5.cl h (by simpa [cln] using c), e6⟩
  | .dt, v, d, fp, c, o => by
    simp only [Own] at o ⊢
    obtain ⟨a, kv, ks, ds, e1, e2, e3, e4, e5, e6⟩ := o
    subst e2
    exact ⟨a, kv, ks, ds, e1, rfl, e3, e4, e5.cl h (by simpa [cln] using c), e6⟩
  | .ob a, v, d, fp, c, o => by
    simp only [Own] at o ⊢
    obtain ⟨C, dx, fv, cc, fs, ds, e1, e2, e3, e4, e0, e5, e6, e7⟩ := o
    subst e2
    exact ⟨C, dx, fv, cc, fs, ds, e1, rfl, e3, e4, e0, e5, e6.cl h (by simpa [cln] using c), e7⟩
/-- what is owned stands in the heap, and may be changed (an instance in the making apart) -/
theorem OwnL.all {P : V → D → List Addr → Prop} {R : Addr → Prop} (h : ∀ v d f, P v d f → ∀ a ∈ f, R a) : ∀ {vs : List V} {ds : List D} {fp : List Addr}, OwnL P vs ds fp → ∀ a ∈ fp, R a
  | [], [], _, o, a, m => by simp only [OwnL] at o; subst o; cases m
  | [], _ :: _, _, o, _, _ => by simp [OwnL] at o
  | _ :: _, [], _, o, _, _ => by simp [OwnL] at o
  | v :: vs, d :: ds, fp, o, a, m => by
    simp only [OwnL] at o
    obtain ⟨f1, f2, p, r, e⟩ := o
    subst e
    rcases List.mem_append.mp m with m | m
    · exact h _ _ _ p a m
    · exact OwnL.all h r a m
theorem Own.muts : ∀ {k : Kd} {v : V} {d : D} {fp : List Addr}, hasOb k = false → Own K mg A H k v d fp → ∀ a ∈ fp, ∃ o, H a = some o ∧ mutO o = true
  | .sh, v, d, fp, _, o, a, m => by
    simp only [Own] at o
    rw [o.2] at m; cases m
  | .ls k, v, d, fp, c, o, a, m => by
    simp only [Own] at o
    obtain ⟨b, vs, ds, f, e1, e2, e3, e4, e5⟩ := o
    subst e5
    rcases List.mem_cons.mp m with m | m
    · subst m; exact ⟨_, e3, rfl⟩
    · exact OwnL.all (P := Own K mg A H k) (R := fun a => ∃ o, H a = some o ∧ mutO o = true) (fun v d f p a m => Own.muts (by simpa [hasOb] using c) p a m) e4 a m
  | .dk, v, d, fp, _, o, a, m => by
    simp only [Own] at o
    obtain ⟨b, kv, ks, ds, e1, e2, e3, e4, e5, e6⟩ := o
    subst e6
    have : a = b := by simpa using m
    subst this
    exact ⟨_, e3, rfl⟩
  | .dt, v, d, fp, _, o, a, m => by
    simp only [Own] at o
    obtain ⟨b, kv, ks, ds, e1, e2, e3, e4, e5, e6⟩ := o
    subst e6
    have : a = b := by simpa using m
    subst this
    exact ⟨_, e3, rfl⟩
  | .ob _, _, _, _, h, _, _, _ => by simp [hasOb] at h
/-- what is owned stands in the heap -/
theorem Own.here : ∀ {k : Kd} {v : V} {d : D} {fp : List Addr}, Own K mg A H k v d fp → ∀ a ∈ fp, H a ≠ none
  | .sh, v, d, fp, o, a, m => by
    simp only [Own] at o
    rw [o.2] at m; cases m
  | .ls k, v, d, fp, o, a, m => by
    simp only [Own] at o
    obtain ⟨b, vs, ds, f, e1, e2, e3, e4, e5⟩ := o
    subst e5
    rcases List.mem_cons.mp m with m | m
    · subst m; rw [e3]; intro z; cases z
    · exact OwnL.all (P := Own K mg A H k) (R := fun a => H a ≠ none) (fun v d f p a m => Own.here p a m) e4 a m
  | .dk, v, d, fp, o, a, m => by
    simp only [Own] at o
    obtain ⟨b, kv, ks, ds, e1, e2, e3, e4, e5, e6⟩ := o
    subst e6
    have : a = b := by simpa using m
    subst this
    rw [e3]; intro z; cases z
  | .dt, v, d, fp, o, a, m => by
    simp only [Own] at o
    obtain ⟨b, kv, ks, ds, e1, e2, e3, e4, e5, e6⟩ := o
    subst e6
    have : a = b := by simpa using m
    subst this
    rw [e3]; intro z; cases z
  | .ob b, v, d, fp, o, a, m => by
    simp only [Own] at o
    obtain ⟨C, dx, fv, c, fs, ds, e1, e2, e3, e4, e0, e5, e6, e7⟩ := o
    subst e7
    rcases List.mem_cons.mp m with m | m
    · subst m; rw [e4]; intro z; cases z
    · have : a = dx := by simpa using m
      subst this
      rw [e0]; intro z; cases z
end

/-! ### the state of a def's body -/
abbrev DEnv := List (Option (Kd × D))
structure ZI (G : Glob) (A0 H0 A H : Hp) (σ : L2.St) (env : DEnv) (fp : Nat → List Addr) : Prop where
  gr : Gr A0 H0 A H
  len : σ.length = env.length
  at_ : ∀ (i : Nat) (k : Kd) (d : D), env[i]? = some (some (k, d)) → ∃ v : V, σ[i]? = some (some v) ∧ Own G.K G.mg A H k v d (fp i)
  nd : ∀ i, (fp i).Nodup
  dis : ∀ i j, i ≠ j → ∀ a ∈ fp i, a ∉ fp j
  own : ∀ i, ∀ a ∈ fp i, A a = none ∧ H0 a = none ∧ H a ≠ none
/-- freshly owned, apart from what the slots own -/
def FreshV (H0 A' H' : Hp) (fp : Nat → List Addr) (f : List Addr) : Prop := f.Nodup ∧ ∀ a ∈ f, H0 a = none ∧ A' a = none ∧ H' a ≠ none ∧ ∀ i, a ∉ fp i
def lendS : Option (Kd × D) → Option D
  | some (.ob _, .obj c fs ds) => some (.slf c fs ds)
  | some (k, d) => if hasOb k = true then none else some d
  | none => none
def ownS : Option (Kd × D) → Option D
  | some (.sh, d) => some d
  | _ => none
/-- everything is lent for reading -/
def vw (env : DEnv) : SEnv := env.map lendS
/-- only what is shared may be read -/
def vs (env : DEnv) : SEnv := env.map ownS
def clnX (x : Exn) : Bool := clnL x.ds

section
variable {G : Glob} {A0 H0 A A' H H' : Hp} {σ : L2.St} {env : DEnv} {fp : Nat → List Addr}
theorem ZI.sub (I : ZI G A0 H0 A H σ env fp) : Sub A H := I.gr.ah
/-- the heap grows -/
theorem ZI.grow (I : ZI G A0 H0 A H σ env fp) (g : Gr A H A' H') : ZI G A0 H0 A' H' σ env fp := by
  have keep : ∀ i, ∀ a ∈ fp i, H' a = H a := fun i a m => by
    have := (I.own i a m).2.2
    cases q : H a with
    | none => exact absurd q this
    | some o => exact g.hh a o q
  have no : ∀ i, ∀ a ∈ fp i, A' a = none := fun i a m => by
    cases q : A' a with
    | none => rfl
    | some o =>
      have := g.nw a (I.own i a m).1 (by rw [q]; intro z; cases z)
      exact absurd this (I.own i a m).2.2
  exact ⟨I.gr.trans g, I.len, fun i k d e => by
    obtain ⟨v, e1, e2⟩ := I.at_ i k d e
    exact ⟨v, e1, e2.mono g.aa (keep i)⟩, I.nd, I.dis, fun i a m => ⟨no i a m, (I.own i a m).2.1, by rw [keep i a m]; exact (I.own i a m).2.2⟩⟩
theorem ZI.view (I : ZI G A0 H0 A H σ env fp) : View G A σ (vs env) := ⟨by unfold vs; rw [List.length_map]; exact I.len, fun i d e => by
  unfold vs at e
  rw [List.getElem?_map] at e
  cases q : env[i]? with
  | none => rw [q] at e; cases e
  | some s =>
    rw [q] at e
    cases s with
    | none => cases e
    | some p =>
      obtain ⟨k, d'⟩ := p
      cases k with
      | sh =>
        have e : some (some d') = some (some d) := e
        cases e
        obtain ⟨v, e1, e2⟩ := I.at_ i _ _ q
        simp only [Own] at e2
        exact ⟨v, e1, e2.1⟩
      | _ => cases e⟩
theorem freshV (I : ZI G A0 H0 A H σ env fp) (g : Gr A H A' H') {f : List Addr} (h : Fresh H A' f) (hh : ∀ a ∈ f, H' a ≠ none) : FreshV H0 A' H' fp f :=
  ⟨h.1, fun a m => ⟨Same.free (H := H0) (H' := H) I.gr.hh (h.2 a m).1, (h.2 a m).2, hh a m, fun i z => (I.own i a z).2.2 (h.2 a m).1⟩⟩

/-- everything readable is lent: A1 is the shared heap meanwhile; whatever clean is made can be kept when the loan ends -/
theorem ZI.lend (I : ZI G A0 H0 A H σ env fp) : ∃ A1, Sub A A1 ∧ Sub A1 H ∧ View G A1 σ (vw env) ∧
    ∀ A2 H2, Gr A1 H A2 H2 → ∃ A3, Gr A H A3 H2 ∧ ClT A2 A3 ∧ (∀ a, A2 a = none → A3 a = none) := by
  classical
  -- what is lent: all that a slot owns; of an instance in the making the instance alone, not its own dict
  let lentL : Addr → Prop := fun a => ∃ i k d, env[i]? = some (some (k, d)) ∧ hasOb k = false ∧ a ∈ fp i
  let lentO : Addr → Prop := fun a => ∃ i d dx, env[i]? = some (some (.ob a, d)) ∧ fp i = [a, dx] ∧ (∃ C fv, H a = some (.ins C dx fv)) ∧ H dx = some (.own a) ∧ A dx = none
  let lent : Addr → Prop := fun a => lentL a ∨ lentO a
  have hm : ∀ a, lentL a → ∃ o, H a = some o ∧ mutO o = true := fun a ⟨i, k, d, e, hk, m⟩ => by
    obtain ⟨v, e1, e2⟩ := I.at_ i k d e
    exact e2.muts hk a m
  have hA : ∀ a, lent a → A a = none := fun a h => by
    rcases h with ⟨i, k, d, e, hk, m⟩ | ⟨i, d, dx, e, m, _⟩
    · exact (I.own i a m).1
    · exact (I.own i a (by rw [m]; exact List.mem_cons_self ..)).1
  have up : ∀ a o, A a = some o → (if lent a then H a else A a) = some o := fun a o z => by
    by_cases m : lent a
    · rw [hA a m] at z; cases z
    · rw [if_neg m]; exact z
  refine ⟨fun a => if lent a then H a else A a, up, fun a o e => ?_, ⟨by unfold vw; rw [List.length_map]; exact I.len, fun i d e => ?_⟩, fun A2 H2 g => ?_⟩
  · have e : (if lent a then H a else A a) = some o := e
    by_cases m : lent a
    · rw [if_pos m] at e; exact e
    · rw [if_neg m] at e; exact I.gr.ah a o e
  · unfold vw at e
    rw [List.getElem?_map] at e
    cases q : env[i]? with
    | none => rw [q] at e; cases e
    | some s =>
      rw [q] at e
      have e : lendS s = some d := Option.some.inj e
      unfold lendS at e
      split at e
      · rename_i a c fs ds _
        cases e
        obtain ⟨v, e1, e2⟩ := I.at_ i _ _ q
        rw [Own] at e2
        obtain ⟨C, dx, fv, c', fs', ds', f1, f2, f3, f4, f0, f5, f6, f7⟩ := e2
        cases f2
        refine ⟨v, e1, ?_⟩
        rw [Shr]
        refine ⟨a, C, dx, fv, f1, f3, ?_, f5, f6.mono up⟩
        show (if lent a then H a else A a) = _
        rw [if_pos (Or.inr ⟨i, _, dx, q, f7, ⟨C, fv, f4⟩, f0, (I.own i dx (by rw [f7]; simp)).1⟩)]
        exact f4
      · rename_i k d' _ _
        by_cases hk : hasOb k = true
        · rw [if_pos hk] at e; cases e
        · rw [if_neg hk] at e
          cases e
          have hk : hasOb k = false := by simpa using hk
          obtain ⟨v, e1, e2⟩ := I.at_ i _ _ q
          refine ⟨v, e1, e2.shr up fun a z => ?_⟩
          show (if lent a then H a else A a) = H a
          rw [if_pos (Or.inl ⟨i, k, _, q, hk, z⟩)]
      · cases e
  · refine ⟨fun a => if lent a then none else A2 a, ⟨fun a o e => ?_, fun a o e => ?_, g.hh, fun a e n => ?_⟩, fun a o e mo ho => ?_, fun a e => ?_⟩
    · show (if lent a then none else A2 a) = some o
      by_cases m : lent a
      · rw [hA a m] at e; cases e
      · rw [if_neg m]
        exact g.aa a o (up a o e)
    · have e : (if lent a then none else A2 a) = some o := e
      by_cases m : lent a
      · rw [if_pos m] at e; cases e
      · rw [if_neg m] at e; exact g.ah a o e
    · have n : (if lent a then none else A2 a) ≠ none := n
      by_cases m : lent a
      · rw [if_pos m] at n; exact absurd rfl n
      · rw [if_neg m] at n
        refine g.nw a ?_ n
        show (if lent a then H a else A a) = none
        rw [if_neg m]; exact e
    · show (if lent a then none else A2 a) = some o
      by_cases m : lent a
      · exfalso
        rcases m with m | ⟨i, d, dx, e', m, ⟨C, fv, hi⟩, hdx, hAx⟩
        · obtain ⟨u, h1, h2⟩ := hm a m
          have h3 := g.hh a u h1
          have h4 := g.ah a o e
          rw [h3] at h4; cases h4
          rw [h2] at mo; cases mo
        · have h3 := g.hh a _ hi
          have h4 := g.ah a o e
          rw [h3] at h4
          cases h4
          have h5 := ho C dx fv rfl
          -- the own dict was never lent
          have nl : ¬ lent dx := fun z => by
            rcases z with z | ⟨_, _, _, _, _, ⟨C', fv', z⟩, _⟩
            · obtain ⟨u, h6, h7⟩ := hm dx z
              rw [hdx] at h6; cases h6; cases h7
            · rw [hdx] at z; cases z
          have : H dx = none := g.nw dx (by show (if lent dx then H dx else A dx) = none; rw [if_neg nl]; exact hAx) (by rw [h5]; exact Option.some_ne_none _)
          rw [hdx] at this; cases this
      · rw [if_neg m]; exact e
    · show (if lent a then none else A2 a) = none
      by_cases m : lent a
      · rw [if_pos m]
      · rw [if_neg m]; exact e
end
end ZL


namespace ZL
open PySem PySem.Spec PyProof.Rows L2

abbrev ZMV := DEnv → (DEnv → Kd → D → Prop) → (Exn → Prop) → Prop
abbrev ZMVT := DEnv → (Bool → Prop) → (Exn → Prop) → Prop
abbrev EscV (G : Glob) (W : WX) (A0 H0 A : Hp) (σ : L2.St) (env : DEnv) (fp : Nat → List Addr) (Ez : Exn → Prop) : Prop :=
  ∀ x cls dx H' A', ZI G A0 H0 A' H' σ env fp → Sub A A' → ExAt G A' x cls dx → Ez x → W cls dx σ H'
def SndV (G : Glob) (W : WX) (t : TE) (m : ZMV) : Prop := ∀ A0 H0 A H σ env fp (Q : VK) Qz Ez, ZI G A0 H0 A H σ env fp → m env Qz Ez →
  (∀ v H' A' env' fp' k d f, ZI G A0 H0 A' H' σ env' fp' → Sub A A' → Own G.K G.mg A' H' k v d f → FreshV H0 A' H' fp' f → Qz env' k d → Q v H') → EscV G W A0 H0 A σ env fp Ez → t σ H Q
def SndVT (G : Glob) (W : WX) (t : TT) (m : ZMVT) : Prop := ∀ A0 H0 A H σ env fp (Q : Bool → Hp → Prop) Qz Ez, ZI G A0 H0 A H σ env fp → m env Qz Ez →
  (∀ b H' A', ZI G A0 H0 A' H' σ env fp → Sub A A' → Qz b → Q b H') → EscV G W A0 H0 A σ env fp Ez → t σ H Q
theorem ExAt.cl {G : Glob} {A A' : Hp} {x : Exn} {cls : Value} {dx : Option Addr} (h : ClT A A') (c : clnX x = true) (e : ExAt G A x cls dx) : ExAt G A' x cls dx := by
  obtain ⟨C, h1, h2, h3⟩ := e
  refine ⟨C, h1, h2, ?_⟩
  cases dx with
  | none => exact h3
  | some a =>
    obtain ⟨fv, q1, q2, q3⟩ := h3
    exact ⟨fv, h _ _ q1 rfl (fun _ _ _ z => nomatch z), q2, q3.cl h c⟩

/-- what is wanted behind a statement -/
structure ZEnds where
  nx : DEnv → Prop
  rt : Kd → D → Prop
  bk : DEnv → Prop
  ct : DEnv → Prop
  ex : DEnv → Exn → Prop
abbrev ZMS := DEnv → ZEnds → Prop
structure Meets (G : Glob) (W : WX) (A0 H0 A : Hp) (D : Ends) (Z : ZEnds) : Prop where
  nx : ∀ A' H' σ' env' fp', ZI G A0 H0 A' H' σ' env' fp' → Sub A A' → Z.nx env' → D.nx σ' H'
  rt : ∀ A' H' v k d f, Gr A0 H0 A' H' → Own G.K G.mg A' H' k v d f → Fresh H0 A' f → Z.rt k d → D.rt v H'
  bk : ∀ A' H' σ' env' fp', ZI G A0 H0 A' H' σ' env' fp' → Sub A A' → Z.bk env' → D.bk σ' H'
  ct : ∀ A' H' σ' env' fp', ZI G A0 H0 A' H' σ' env' fp' → Sub A A' → Z.ct env' → D.ct σ' H'
  ex : ∀ A' H' σ' env' fp' x cls dx, ZI G A0 H0 A' H' σ' env' fp' → Sub A A' → ExAt G A' x cls dx → Z.ex env' x → W cls dx σ' H'
theorem Meets.gr {G : Glob} {W : WX} {A0 H0 A A1 : Hp} {D : Ends} {Z : ZEnds} (m : Meets G W A0 H0 A D Z) (h : Sub A A1) : Meets G W A0 H0 A1 D Z :=
  ⟨fun A' H' σ' env' fp' I s => m.nx A' H' σ' env' fp' I fun a o e => s a o (h a o e), m.rt, fun A' H' σ' env' fp' I s => m.bk A' H' σ' env' fp' I fun a o e => s a o (h a o e),
    fun A' H' σ' env' fp' I s => m.ct A' H' σ' env' fp' I fun a o e => s a o (h a o e), fun A' H' σ' env' fp' x cls dx I s => m.ex A' H' σ' env' fp' x cls dx I fun a o e => s a o (h a o e)⟩
def SndS (G : Glob) (W : WX) (t : TS) (w : ZMS) : Prop := ∀ A0 H0 A H σ env fp (D : Ends) (Z : ZEnds), ZI G A0 H0 A H σ env fp → w env Z → Meets G W A0 H0 A D Z → t D σ H
theorem sub_refl {A : Hp} : Sub A A := fun _ _ h => h
theorem sub_trans {A B C : Hp} (h : Sub A B) (k : Sub B C) : Sub A C := fun a o e => k a o (h a o e)

section
variable {G : Glob} {N : List Str} {sc : Scope} {fn : Str → Bool} {W : WX} {k : Nat}
structure ZV (Z : Zc G N sc fn W k) (e : Expr) (m : ZMV) : Prop where
  ex : ∃ t, (∀ i, PE (Z.X i) e t) ∧ SndV G W t m
structure ZVT (Z : Zc G N sc fn W k) (e : Expr) (m : ZMVT) : Prop where
  ex : ∃ t, (∀ i, PT (Z.X i) e t) ∧ SndVT G W t m
structure ZS (Z : Zc G N sc fn W k) (st : Stmt) (w : ZMS) : Prop where
  ex : ∃ t, (∀ i, PS (Z.X i) st t) ∧ SndS G W t w
structure ZSs (Z : Zc G N sc fn W k) (st : List Stmt) (w : ZMS) : Prop where
  ex : ∃ t, (∀ i, PSs (Z.X i) st t) ∧ SndS G W t w
variable {Z : Zc G N sc fn W k}

/-! ### expressions in a statement -/
/-- all that is owned is lent meanwhile: what comes out must be clean -/
def mL (m : ZM) : ZMV := fun env Q E => m (vw env) (fun k d => cln k d = true ∧ Q env k d) (fun x => clnX x = true ∧ E x)
/-- only what is shared is read -/
def mS (m : ZM) : ZMV := fun env Q E => m (vs env) (fun k d => Q env k d) E
theorem own_here {A H : Hp} {k : Kd} {v : V} {d : D} {f : List Addr} {mg : Str → Option Value} {K : PySem.W.Frag} (o : Own K mg A H k v d f) : ∀ a ∈ f, H a ≠ none := fun a m => o.here a m
theorem snd_L {t : TE} {m : ZM} (s : Snd G W t m) : SndV G W t (mL m) := fun A0 H0 A H σ env fp Q Qz Ez I hm hq he => by
  obtain ⟨A1, s1, s2, v1, back⟩ := I.lend
  refine s A1 H σ (vw env) Q _ _ s2 v1 hm (fun v H' A' k d f g o fr q => ?_) fun x cls dx H' A' g xa q => ?_
  · obtain ⟨A3, g3, c3, n3⟩ := back A' H' g
    exact hq v H' A3 env fp k d f (I.grow g3) g3.aa (o.cl c3 q.1) (freshV I g3 ⟨fr.1, fun a m => ⟨(fr.2 a m).1, n3 a (fr.2 a m).2⟩⟩ (own_here o)) q.2
  · obtain ⟨A3, g3, c3, n3⟩ := back A' H' g
    exact he x cls dx H' A3 (I.grow g3) g3.aa (xa.cl c3 q.1) q.2
theorem snd_S {t : TE} {m : ZM} (s : Snd G W t m) : SndV G W t (mS m) := fun A0 H0 A H σ env fp Q Qz Ez I hm hq he => by
  refine s A H σ (vs env) Q _ _ I.sub I.view hm (fun v H' A' k d f g o fr q => ?_) fun x cls dx H' A' g xa q => ?_
  · exact hq v H' A' env fp k d f (I.grow g) g.aa o (freshV I g fr (own_here o)) q
  · exact he x cls dx H' A' (I.grow g) g.aa xa q
theorem zv_L {e : Expr} {m : ZM} (h : ZE Z e m) : ZV Z e (mL m) := by
  obtain ⟨t, a1, a2⟩ := h.ex
  exact ⟨t, a1, snd_L a2⟩
theorem zv_S {e : Expr} {m : ZM} (h : ZE Z e m) : ZV Z e (mS m) := by
  obtain ⟨t, a1, a2⟩ := h.ex
  exact ⟨t, a1, snd_S a2⟩
/-- the name's own value, taken out of its slot -/
def mMv (i : Nat) : ZMV := fun env Q _ => match env[i]? with
  | some (some (k, d)) => Q (env.set i none) k d
  | _ => False
theorem zv_mv (i : Nat) {x : Str} {pos : Pos} (hx : N[i]? = some x := by rfl) (hv : Vis sc x := by first | exact Or.inl rfl | exact Or.inr (Or.inl rfl) | exact Or.inr (Or.inr rfl))
    (hd : (x == ("__debug__" : Str)) = false := by decide) (hcd : (x == ("__classdict__" : Str)) = false := by decide) : ZV Z (.Name x pos) (mMv i) := by
  refine ⟨tVar i, fun j => pe_var (by rw [Z.hN]; exact hx) (by rw [Z.hsc]; exact hv) hd hcd, fun A0 H0 A H σ env fp Q Qz Ez I hm hq he => ?_⟩
  unfold mMv at hm
  split at hm
  · rename_i kk d e
    obtain ⟨u, e1, e2⟩ := I.at_ i kk d e
    refine ⟨u, e1, hq u H A (env.set i none) (fun j => if j = i then [] else fp j) kk d (fp i) ⟨I.gr, by rw [List.length_set]; exact I.len, fun j k' d' q => ?_, fun j => ?_, fun j l n a m => ?_, fun j a m => ?_⟩ sub_refl e2 ⟨I.nd i, fun a m => ⟨(I.own i a m).2.1, (I.own i a m).1, (I.own i a m).2.2, fun j z => ?_⟩⟩ hm⟩
    · by_cases hj : j = i
      · subst hj
        rw [List.getElem?_set_self (by rw [List.getElem?_eq_some_iff] at e; exact e.1)] at q
        cases q
      · rw [List.getElem?_set_ne (Ne.symm hj)] at q
        obtain ⟨v, q1, q2⟩ := I.at_ j k' d' q
        exact ⟨v, q1, by show Own G.K G.mg A H k' v d' (if j = i then [] else fp j); rw [if_neg hj]; exact q2⟩
    · show (if j = i then [] else fp j).Nodup
      by_cases hj : j = i
      · rw [if_pos hj]; exact List.nodup_nil
      · rw [if_neg hj]; exact I.nd j
    · have m : a ∈ (if j = i then [] else fp j) := m
      show a ∉ (if l = i then [] else fp l)
      by_cases hj : j = i
      · rw [if_pos hj] at m; cases m
      · rw [if_neg hj] at m
        by_cases hl : l = i
        · rw [if_pos hl]; intro z; cases z
        · rw [if_neg hl]; exact I.dis j l n a m
    · have m : a ∈ (if j = i then [] else fp j) := m
      by_cases hj : j = i
      · rw [if_pos hj] at m; cases m
      · rw [if_neg hj] at m; exact I.own j a m
    · have z : a ∈ (if j = i then [] else fp j) := z
      by_cases hj : j = i
      · rw [if_pos hj] at z; cases z
      · rw [if_neg hj] at z; exact I.dis i j (Ne.symm hj) a m z
  · exact hm.elim
def mLT (m : ZMT) : ZMVT := fun env Q E => m (vw env) Q (fun x => clnX x = true ∧ E x)
theorem zvt {e : Expr} {m : ZMT} (h : ZT Z e m) : ZVT Z e (mLT m) := by
  obtain ⟨t, a1, a2⟩ := h.ex
  refine ⟨t, a1, fun A0 H0 A H σ env fp Q Qz Ez I hm hq he => ?_⟩
  obtain ⟨A1, s1, s2, v1, back⟩ := I.lend
  refine a2 A1 H σ (vw env) Q _ _ s2 v1 hm (fun b H' A' g q => ?_) fun x cls dx H' A' g xa q => ?_
  · obtain ⟨A3, g3, c3, n3⟩ := back A' H' g
    exact hq b H' A3 (I.grow g3) g3.aa q
  · obtain ⟨A3, g3, c3, n3⟩ := back A' H' g
    exact he x cls dx H' A3 (I.grow g3) g3.aa (xa.cl c3 q.1) q.2

/-! ### slots stored -/
theorem ZI.put {A0 H0 A H : Hp} {σ : L2.St} {env : DEnv} {fp : Nat → List Addr} (I : ZI G A0 H0 A H σ env fp) {i : Nat} {kk : Kd} {v : V} {d : D} {f : List Addr} (o : Own G.K G.mg A H kk v d f) (fr : FreshV H0 A H fp f) (hi : i < env.length) :
    ZI G A0 H0 A H (σ.set i (some v)) (env.set i (some (kk, d))) (fun j => if j = i then f else fp j) := by
  refine ⟨I.gr, by rw [List.length_set, List.length_set]; exact I.len, fun j k' d' q => ?_, fun j => ?_, fun j l n a m => ?_, fun j a m => ?_⟩
  · by_cases hj : j = i
    · subst hj
      rw [List.getElem?_set_self hi] at q
      cases q
      refine ⟨v, List.getElem?_set_self (by rw [I.len]; exact hi), ?_⟩
      show Own G.K G.mg A H kk v d (if j = j then f else fp j)
      rw [if_pos rfl]; exact o
    · rw [List.getElem?_set_ne (Ne.symm hj)] at q
      obtain ⟨u, q1, q2⟩ := I.at_ j k' d' q
      refine ⟨u, by rw [List.getElem?_set_ne (Ne.symm hj)]; exact q1, ?_⟩
      show Own G.K G.mg A H k' u d' (if j = i then f else fp j)
      rw [if_neg hj]; exact q2
  · show (if j = i then f else fp j).Nodup
    by_cases hj : j = i
    · rw [if_pos hj]; exact fr.1
    · rw [if_neg hj]; exact I.nd j
  · have m : a ∈ (if j = i then f else fp j) := m
    show a ∉ (if l = i then f else fp l)
    by_cases hj : j = i
    · rw [if_pos hj] at m
      have hl : l ≠ i := fun z => n (hj.trans z.symm)
      rw [if_neg hl]; exact (fr.2 a m).2.2.2 l
    · rw [if_neg hj] at m
      by_cases hl : l = i
      · rw [if_pos hl]; intro z; exact (fr.2 a z).2.2.2 j m
      · rw [if_neg hl]; exact I.dis j l n a m
  · have m : a ∈ (if j = i then f else fp j) := m
    by_cases hj : j = i
    · rw [if_pos hj] at m
      exact ⟨(fr.2 a m).2.1, (fr.2 a m).1, (fr.2 a m).2.2.1⟩
    · rw [if_neg hj] at m; exact I.own j a m
theorem lt_of_slot {env : DEnv} {i : Nat} {x : Option (Kd × D)} (h : env[i]? = some x) : i < env.length := by
  rw [List.getElem?_eq_some_iff] at h; exact h.1
/-! ### statements -/
def wNext : ZMS := fun env Z => Z.nx env
def wSeq (a b : ZMS) : ZMS := fun env Z => a env { Z with nx := fun env' => b env' Z }
theorem zss_nil : ZSs Z [] wNext := ⟨_, fun _ => pss_nil, fun A0 H0 A H σ env fp D Zz I w m => m.nx A H σ env fp I sub_refl w⟩
theorem zss_cons {st : Stmt} {rest : List Stmt} {a b : ZMS} (h1 : ZS Z st a) (h2 : ZSs Z rest b) : ZSs Z (st :: rest) (wSeq a b) := by
  obtain ⟨t, a1, a2⟩ := h1.ex
  obtain ⟨u, b1, b2⟩ := h2.ex
  refine ⟨_, fun i => pss_cons (a1 i) (b1 i), fun A0 H0 A H σ env fp D Zz I w m => ?_⟩
  exact a2 A0 H0 A H σ env fp _ _ I w ⟨fun A' H' σ' env' fp' I' s q => b2 A0 H0 A' H' σ' env' fp' D Zz I' q (m.gr s), m.rt, m.bk, m.ct, m.ex⟩
theorem zss_one {st : Stmt} {a : ZMS} (h1 : ZS Z st a) : ZSs Z [st] a := by
  obtain ⟨t, a1, a2⟩ := h1.ex
  exact ⟨_, fun i => pss_one (a1 i), a2⟩
theorem zs_pass {pos} : ZS Z (.Pass pos) wNext := ⟨_, fun _ => ps_pass, fun A0 H0 A H σ env fp D Zz I w m => m.nx A H σ env fp I sub_refl w⟩
def wBreak : ZMS := fun env Z => Z.bk env
def wCont : ZMS := fun env Z => Z.ct env
theorem zs_break {pos} : ZS Z (.Break pos) wBreak := ⟨_, fun _ => ps_break, fun A0 H0 A H σ env fp D Zz I w m => m.bk A H σ env fp I sub_refl w⟩
theorem zs_continue {pos} : ZS Z (.Continue pos) wCont := ⟨_, fun _ => ps_continue, fun A0 H0 A H σ env fp D Zz I w m => m.ct A H σ env fp I sub_refl w⟩
def wDrop (e : ZMV) : ZMS := fun env Z => e env (fun env' _ _ => Z.nx env') (Z.ex env)
theorem zs_expr {e : Expr} {m : ZMV} {pos} (h : ZV Z e m) (hs : ∀ env, swapsWith e none pos.line env = pure false := by intro _; rfl) : ZS Z (.Expr e pos) (wDrop m) := by
  obtain ⟨t, a1, a2⟩ := h.ex
  refine ⟨_, fun i => ps_expr (a1 i) (hs _), fun A0 H0 A H σ env fp D Zz I w mm => ?_⟩
  exact a2 A0 H0 A H σ env fp _ _ _ I w (fun v H' A' env' fp' k d f I' s o fr q => mm.nx A' H' σ env' fp' I' s q) fun x cls dx H' A' I' s xa q => mm.ex A' H' σ env fp x cls dx I' s xa q
theorem zs_doc {x j pos pos'} : ZS Z (.Expr (.Constant (.str x) j pos) pos') wNext := ⟨_, fun _ => ps_doc, fun A0 H0 A H σ env fp D Zz I w m => m.nx A H σ env fp I sub_refl w⟩
def wRet (e : ZMV) : ZMS := fun env Z => e env (fun _ k d => Z.rt k d) (Z.ex env)
theorem zs_ret {e : Expr} {m : ZMV} {pos} (h : ZV Z e m) : ZS Z (.Return (some e) pos) (wRet m) := by
  obtain ⟨t, a1, a2⟩ := h.ex
  refine ⟨_, fun i => ps_ret (a1 i), fun A0 H0 A H σ env fp D Zz I w mm => ?_⟩
  exact a2 A0 H0 A H σ env fp _ _ _ I w (fun v H' A' env' fp' k d f I' s o fr q => mm.rt A' H' v k d f I'.gr o ⟨fr.1, fun a m => ⟨(fr.2 a m).1, (fr.2 a m).2.1⟩⟩ q) fun x cls dx H' A' I' s xa q => mm.ex A' H' σ env fp x cls dx I' s xa q
def wRetN : ZMS := fun _ Z => Z.rt .sh .non
theorem zs_retN {pos} : ZS Z (.Return none pos) wRetN := ⟨_, fun _ => ps_retN, fun A0 H0 A H σ env fp D Zz I w mm => mm.rt A H .non .sh .non [] I.gr (own_sh (by simp [Shr])) Fresh.nil w⟩
def wIf (c : ZMVT) (a b : ZMS) : ZMS := fun env Z => c env (fun x => if x = true then a env Z else b env Z) (Z.ex env)
theorem zs_if {c : Expr} {a b : List Stmt} {mc : ZMVT} {wa wb : ZMS} {pos} (hc : ZVT Z c mc) (ha : ZSs Z a wa) (hb : ZSs Z b wb) : ZS Z (.If c a b pos) (wIf mc wa wb) := by
  obtain ⟨tc, c1, c2⟩ := hc.ex
  obtain ⟨ta, a1, a2⟩ := ha.ex
  obtain ⟨tb, b1, b2⟩ := hb.ex
  refine ⟨_, fun i => ps_if (c1 i) (a1 i) (b1 i), fun A0 H0 A H σ env fp D Zz I w mm => ?_⟩
  refine c2 A0 H0 A H σ env fp _ _ _ I w (fun x H' A' I' s q => ?_) fun x cls dx H' A' I' s xa q => mm.ex A' H' σ env fp x cls dx I' s xa q
  cases x with
  | true =>
    simp only [if_true] at q ⊢
    exact a2 A0 H0 A' H' σ env fp D Zz I' q (mm.gr s)
  | false =>
    simp only [Bool.false_eq_true, if_false] at q ⊢
    exact b2 A0 H0 A' H' σ env fp D Zz I' q (mm.gr s)
def wSet (i : Nat) (e : ZMV) : ZMS := fun env Z => e env (fun env' k d => i < env'.length ∧ Z.nx (env'.set i (some (k, d)))) (Z.ex env)
theorem zs_set {i : Nat} {x : Str} {e : Expr} {m : ZMV} {pos pos' : Pos} (h : ZV Z e m) (hi : N[i]? = some x := by rfl) (hx : Loc sc x := by first | exact Or.inl rfl | exact Or.inr rfl) (hf : fn x = true ∨ sc.names.lookup x = some .local := by first | exact .inl rfl | exact .inr rfl)
    (hs : ∀ env, swapsWith e (some (.Name x pos')) pos.line env = pure false := by intro _; rfl) : ZS Z (.Assign [.Name x pos'] e pos) (wSet i m) := by
  obtain ⟨t, a1, a2⟩ := h.ex
  refine ⟨_, fun j => ps_set (by rw [Z.hN]; exact Z.nd) (by rw [Z.hN]; exact hi) (by rw [Z.hsc]; exact hx) (a1 j) (hs _) (by rw [Z.hfn, Z.hsc]; exact hf), fun A0 H0 A H σ env fp D Zz I w mm => ?_⟩
  exact a2 A0 H0 A H σ env fp _ _ _ I w (fun v H' A' env' fp' k d f I' s o fr q => mm.nx A' H' _ _ _ (I'.put o fr q.1) s q.2) fun x cls dx H' A' I' s xa q => mm.ex A' H' σ env fp x cls dx I' s xa q
end
end ZL


namespace ZL
open PySem PySem.Spec PyProof.Rows L2

/-! ### data compared -/
mutual
def D.py : D → PyData
  | .non => .none
  | .bl b => .bool b
  | .int i => .int i
  | .str s => .str s
  | .lst ds => .list (pyL ds)
  | .tup ds => .tuple (pyL ds)
  | _ => .none
def pyL : List D → List PyData
  | [] => []
  | d :: ds => d.py :: pyL ds
end
mutual
def pyOk : D → Bool
  | .non => true
  | .bl _ => true
  | .int _ => true
  | .str _ => true
  | .lst ds => pyOkL ds
  | .tup ds => pyOkL ds
  | _ => false
def pyOkL : List D → Bool
  | [] => true
  | d :: ds => pyOk d && pyOkL ds
end
theorem pyL_eq : ∀ ds : List D, pyL ds = ds.map D.py
  | [] => rfl
  | d :: ds => by rw [pyL, pyL_eq ds, List.map_cons]
/-- may be compared by == -/
def eqOk (d : D) : Bool := pyOk d && SeqAt.shaped d.py
def eqD (d e : D) : Bool := PyData.eqv d.py e.py
section
variable {G : Glob} {A H : Hp}
mutual
theorem shr_dp : ∀ {d : D} {v : V}, pyOk d = true → Shr G.K G.mg A v d → Dp G.K A v d.py
  | .non, v, _, s => by simp only [Shr] at s; subst s; exact .non
  | .bl b, v, _, s => by simp only [Shr] at s; subst s; exact .bl b
  | .int i, v, _, s => by simp only [Shr] at s; subst s; exact .int i
  | .str z, v, _, s => by simp only [Shr] at s; subst s; exact .str z
  | .lst ds, v, c, s => by
    simp only [Shr] at s
    obtain ⟨a, vs, rfl, h1, h2⟩ := s
    exact .lst (.of h1) (shrL_dp (by simpa [pyOk] using c) h2)
  | .tup ds, v, c, s => by
    simp only [Shr] at s
    obtain ⟨a, vs, rfl, h1, h2⟩ := s
    exact .tup (.of h1) (shrL_dp (by simpa [pyOk] using c) h2)
  | .scr _, _, c, _ => by simp [pyOk] at c
  | .ty _, _, c, _ => by simp [pyOk] at c
  | .cls _, _, c, _ => by simp [pyOk] at c
  | .obj _ _ _, _, c, _ => by simp [pyOk] at c
  | .slf _ _ _, _, c, _ => by simp [pyOk] at c
  | .dK _ _, _, c, _ => by simp [pyOk] at c
  | .dT _ _, _, c, _ => by simp [pyOk] at c
theorem shrL_dp : ∀ {ds : List D} {vs : List V}, pyOkL ds = true → ShrL G.K G.mg A vs ds → DpAll G.K A vs (pyL ds)
  | [], [], _, _ => .nil
  | [], _ :: _, _, s => by simp [ShrL] at s
  | _ :: _, [], _, s => by simp [ShrL] at s
  | d :: ds, v :: vs, c, s => by
    simp only [ShrL] at s
    simp only [pyOkL, Bool.and_eq_true] at c
    exact .cons (shr_dp c.1 s.1) (shrL_dp c.2 s.2)
end
mutual
theorem Dp.up {K : PySem.W.Frag} {A H : Hp} (h : Sub A H) : ∀ (d : PyData) (v : V), Dp K A v d → Dp K H v d
  | .none, _, q => by cases q; exact .non
  | .bool b, _, q => by cases q; exact .bl b
  | .int b, _, q => by cases q; exact .int b
  | .str b, _, q => by cases q; exact .str b
  | .list ds, _, q => by
    cases q with
    | lst h1 h2 => exact .lst (sqL_mono h h1) (DpAll.up h _ _ h2)
  | .tuple ds, _, q => by
    cases q with
    | tup h1 h2 =>
      refine .tup ?_ (DpAll.up h _ _ h2)
      rcases h1 with (s | ⟨o, s⟩) | s
      · exact .inl (.inl (h _ _ s))
      · exact .inl (.inr ⟨o, h _ _ s⟩)
      · exact .inr s
  | .dict _, _, q => by cases q
theorem DpAll.up {K : PySem.W.Frag} {A H : Hp} (h : Sub A H) : ∀ (ds : List PyData) (vs : List V), DpAll K A vs ds → DpAll K H vs ds
  | [], _, q => by cases q; exact .nil
  | d :: ds, _, q => by
    cases q with
    | cons h1 h2 => exact .cons (Dp.up h _ _ h1) (DpAll.up h _ _ h2)
end
end

section
variable {G : Glob} {N : List Str} {sc : Scope} {fn : Str → Bool} {W : WX} {k : Nat} {Z : Zc G N sc fn W k}
/-- an answer that makes nothing -/
theorem put0 {A H : Hp} {Q : VK} {Qz : Kd → D → Prop} (h : Sub A H) (hq : ∀ v H' A' k d fp, Gr A H A' H' → Own G.K G.mg A' H' k v d fp → Fresh H A' fp → Qz k d → Q v H') {v : V} {d : D} (s : Shr G.K G.mg A v d) (q : Qz .sh d) : Q v H :=
  hq v H A .sh d [] (Gr.refl h) (own_sh s) Fresh.nil q
theorem ZOp.or {f : Value → Value → Sem Value} {o o' : DOp} (h : ZOp Z f o) (h' : ZOp Z f o') : ZOp Z f (fun x y Q => o x y Q ∨ o' x y Q) := by
  obtain ⟨r, a1, a2⟩ := h
  obtain ⟨r', b1, b2⟩ := h'
  refine ⟨_, fun i => (a1 i).or (b1 i), fun A H x y dx dy Q Qz hs sx sy ho hq => ?_⟩
  rcases ho with ho | ho
  · exact .inl (a2 A H x y dx dy Q Qz hs sx sy ho hq)
  · exact .inr (b2 A H x y dx dy Q Qz hs sx sy ho hq)
theorem ZOp.imp {f : Value → Value → Sem Value} {o o' : DOp} (h : ZOp Z f o) (hi : ∀ x y Q, o' x y Q → o x y Q) : ZOp Z f o' := by
  obtain ⟨r, a1, a2⟩ := h
  exact ⟨r, a1, fun A H x y dx dy Q Qz hs sx sy ho hq => a2 A H x y dx dy Q Qz hs sx sy (hi _ _ _ ho) hq⟩
/-- two ints -/
def oI (C : Int → Int → Prop) (g : Int → Int → D) : DOp := fun x y Q => match x, y with
  | .int i, .int j => C i j ∧ Q .sh (g i j)
  | _, _ => False
theorem zo_int {f : Value → Value → Sem Value} {C : Int → Int → Prop} {g : Int → Int → V} {gd : Int → Int → D} (h : ∀ i, OpR (Z.X i) f (rI C g)) (hg : ∀ i j, vC (gd i j) = g i j ∧ isC (gd i j) = true) : ZOp Z f (oI C gd) := by
  refine ⟨_, h, fun A H x y dx dy Q Qz hs sx sy ho hq => ?_⟩
  unfold oI at ho
  split at ho
  · rename_i i j
    simp only [Shr] at sx sy
    refine ⟨i, j, sx, sy, ho.1, ?_⟩
    have := shr_C (K := G.K) (mg := G.mg) (A := A) (hg i j).2
    rw [(hg i j).1] at this
    exact put0 hs hq this ho.2
  · exact ho.elim
theorem opI_of0 {X : Cx} {f : Value → Value → Sem Value} {g : Int → Int → V} (h : OpR X f (rI0 g)) : OpR X f (rI (fun _ _ => True) g) := fun pins s σ H x y v u Q I rx ry q => by
  obtain ⟨i, j, e1, e2, _, q⟩ := q
  exact h pins s σ H x y v u Q I rx ry ⟨i, j, e1, e2, q⟩
/-- the factors, dividends that the machine bears -/
def fit (i : Int) : Prop := i.natAbs < 2 ^ 4096
def cMul (i j : Int) : Prop := fit i ∧ fit j
def cDiv (_ j : Int) : Prop := 0 < j ∧ fit j
def cMod (_ j : Int) : Prop := 0 < j
theorem fit_of {i : Int} (h1 : -(10 ^ 200) ≤ i) (h2 : i ≤ 10 ^ 200) : fit i := by
  have : i.natAbs ≤ 10 ^ 200 := by omega
  have h : (10 : Nat) ^ 200 < 2 ^ 4096 := by decide +kernel
  exact Nat.lt_of_le_of_lt this h
theorem cmul_ok {i j : Int} (h : cMul i j) : CMulW i j := wide_mul h.1 h.2 (by decide) (by decide) (by decide)
theorem cdiv_ok {i j : Int} (h : cDiv i j) : CDivW i j := wide_div h.1 h.2 (by decide) (by decide)
abbrev oSub : DOp := oI (fun _ _ => True) fun i j => .int (i - j)
abbrev oMulI : DOp := oI cMul fun i j => .int (i * j)
abbrev oDiv : DOp := oI cDiv fun i j => .int (i / j)
abbrev oMod : DOp := oI cMod fun i j => .int (i % j)
abbrev oPow : DOp := oI CPow fun i j => .int (i ^ j.toNat)
abbrev oAddI : DOp := oI (fun _ _ => True) fun i j => .int (i + j)
theorem zo_sub : ZOp Z (binaryOp .Sub) oSub := zo_int (fun i => opI_of0 op_sub) fun _ _ => ⟨rfl, rfl⟩
theorem zo_addI : ZOp Z (binaryOp .Add) oAddI := zo_int (fun i => opI_of0 op_add) fun _ _ => ⟨rfl, rfl⟩
theorem rI_imp {X : Cx} {f : Value → Value → Sem Value} {C C' : Int → Int → Prop} {g : Int → Int → V} (h : OpR X f (rI C g)) (hi : ∀ i j, C' i j → C i j) : OpR X f (rI C' g) := fun pins s σ H x y v u Q I rx ry q => by
  obtain ⟨i, j, e1, e2, c, q⟩ := q
  exact h pins s σ H x y v u Q I rx ry ⟨i, j, e1, e2, hi i j c, q⟩
theorem zo_mulI : ZOp Z (binaryOp .Mult) oMulI := zo_int (fun i => rI_imp op_mulW fun _ _ => cmul_ok) fun _ _ => ⟨rfl, rfl⟩
theorem zo_div : ZOp Z (binaryOp .FloorDiv) oDiv := zo_int (fun i => rI_imp op_fdivW fun _ _ => cdiv_ok) fun _ _ => ⟨rfl, rfl⟩
theorem zo_mod : ZOp Z (binaryOp .Mod) oMod := zo_int (fun i => rI_imp op_mod fun _ _ h => h) fun _ _ => ⟨rfl, rfl⟩
theorem zo_pow : ZOp Z (binaryOp .Pow) oPow := zo_int (fun i => op_pow) fun _ _ => ⟨rfl, rfl⟩
/-- + of lists, of tuples, of texts -/
def oAdd : DOp := fun x y Q => match x, y with
  | .int i, .int j => Q .sh (.int (i + j))
  | .str a, .str b => a.length + b.length ≤ sizeLine ∧ Q .sh (.str (a ++ b))
  | .lst a, .lst b => a.length + b.length ≤ sizeLine ∧ Q (.ls .sh) (.lst (a ++ b))
  | .tup a, .tup b => a.length + b.length ≤ sizeLine ∧ Q .sh (.tup (a ++ b))
  | _, _ => False
theorem kop {f : Value → Value → Sem Value} (r : PySem.W.Frag → R2) (h : ∀ i, OpR (Z.X i) f (r (Z.X i).K)) (i : Z.ι) : OpR (Z.X i) f (r G.K) := by
  have := h i
  rw [Z.hK i] at this
  exact this
theorem sqT_of {K : PySem.W.Frag} {A H : Hp} (h : Sub A H) {a : Addr} {xs : List V} (e : A a = some (.tup xs)) : SqT K H a xs := .of (h _ _ e)
theorem sqL_of {K : PySem.W.Frag} {A H : Hp} (h : Sub A H) {a : Addr} {xs : List V} (e : A a = some (.lst xs)) : SqL K H a xs := .of (h _ _ e)
theorem shrL_nil {K : PySem.W.Frag} {mg : Str → Option Value} {A : Hp} {ds : List D} (h : ShrL K mg A [] ds) : ds = [] := by
  cases ds with
  | nil => rfl
  | cons d ds => simp [ShrL] at h
/-- a new tuple -/
theorem putT {A H : Hp} {Q : VK} {Qz : Kd → D → Prop} (h : Sub A H) (hq : ∀ v H' A' k d fp, Gr A H A' H' → Own G.K G.mg A' H' k v d fp → Fresh H A' fp → Qz k d → Q v H') {vs : List V} {ds : List D} (s : ShrL G.K G.mg A vs ds) (q : Qz .sh (.tup ds))
    {p : Addr} (hp : H p = none) : Q (.ref p) (upd H p (.tup vs)) := by
  have g2 := Gr.lay (o := .tup vs) h hp
  refine hq _ _ _ .sh (.tup ds) [] g2 (own_sh ?_) Fresh.nil q
  simp only [Shr]
  exact ⟨p, vs, rfl, upd_same, s.mono g2.aa⟩
theorem putL {A H : Hp} {Q : VK} {Qz : Kd → D → Prop} (h : Sub A H) (hq : ∀ v H' A' k d fp, Gr A H A' H' → Own G.K G.mg A' H' k v d fp → Fresh H A' fp → Qz k d → Q v H') {vs : List V} {ds : List D} (s : ShrL G.K G.mg A vs ds) (q : Qz (.ls .sh) (.lst ds))
    {p : Addr} (hp : H p = none) : Q (.ref p) (upd H p (.lst vs)) := by
  obtain ⟨g2, o2, f2⟩ := own_new (K := G.K) (mg := G.mg) hp h s
  exact hq _ _ _ (.ls .sh) _ [p] g2 o2 f2 q
theorem zo_add : ZOp Z (binaryOp .Add) oAdd := by
  refine ⟨_, fun i => (op_add).or ((op_add_str).or ((op_cat).or (kop rCatA (fun i => op_catA) i))), fun A H x y dx dy Q Qz hs sx sy ho hq => ?_⟩
  unfold oAdd at ho
  split at ho
  · rename_i i j
    simp only [Shr] at sx sy
    exact .inl ⟨i, j, sx, sy, put0 hs hq (by simp [Shr]) ho⟩
  · rename_i a b
    simp only [Shr] at sx sy
    exact .inr (.inl ⟨a, b, sx, sy, ho.1, put0 hs hq (by simp [Shr]) ho.2⟩)
  · rename_i a b
    simp only [Shr] at sx sy
    obtain ⟨p, xs, e1, h1, s1⟩ := sx
    obtain ⟨q, ys, e2, h2, s2⟩ := sy
    exact .inr (.inr (.inl ⟨p, q, xs, ys, e1, e2, hs _ _ h1, hs _ _ h2, by rw [s1.length, s2.length]; exact ho.1, fun r hr => putL hs hq (s1.append s2) ho.2 hr⟩))
  · rename_i a b
    simp only [Shr] at sx sy
    obtain ⟨p, xs, e1, h1, s1⟩ := sx
    obtain ⟨q, ys, e2, h2, s2⟩ := sy
    subst e1 e2
    refine .inr (.inr (.inr ⟨p, q, xs, ys, rfl, rfl, sqT_of hs h1, sqT_of hs h2, by rw [s1.length, s2.length]; exact ho.1, fun e => ?_, fun n e => ?_, fun n1 n2 r hr => ?_⟩))
    · subst e
      obtain rfl := shrL_nil s1
      exact put0 hs hq (by simp only [Shr]; exact ⟨q, ys, rfl, h2, s2⟩) ho.2
    · subst e
      obtain rfl := shrL_nil s2
      exact put0 hs hq (d := .tup a) (by simp only [Shr]; exact ⟨p, xs, rfl, h1, s1⟩) (by simpa using ho.2)
    · exact putT hs hq (s1.append s2) ho.2 hr
  · exact ho.elim
/-- * : ints, a list repeated -/
def oMul : DOp := fun x y Q => match x, y with
  | .int i, .int j => cMul i j ∧ Q .sh (.int (i * j))
  | .lst a, .int j => (-(2 ^ 63) ≤ j ∧ j < 2 ^ 63 ∧ a.length * j.toNat ≤ sizeLine) ∧ Q (.ls .sh) (.lst (List.replicate j.toNat a).flatten)
  | _, _ => False
theorem shrL_rep {K : PySem.W.Frag} {mg : Str → Option Value} {A : Hp} {vs : List V} {ds : List D} (h : ShrL K mg A vs ds) : ∀ n : Nat, ShrL K mg A (List.replicate n vs).flatten (List.replicate n ds).flatten
  | 0 => by simp [ShrL]
  | n + 1 => by
    rw [List.replicate_succ, List.replicate_succ, List.flatten_cons, List.flatten_cons]
    exact h.append (shrL_rep h n)
theorem zo_mul : ZOp Z (binaryOp .Mult) oMul := by
  refine ⟨_, fun i => (rI_imp op_mulW fun _ _ => cmul_ok).or op_rep, fun A H x y dx dy Q Qz hs sx sy ho hq => ?_⟩
  unfold oMul at ho
  split at ho
  · rename_i i j
    simp only [Shr] at sx sy
    exact .inl ⟨i, j, sx, sy, ho.1, put0 hs hq (by simp [Shr]) ho.2⟩
  · rename_i a j
    simp only [Shr] at sx sy
    obtain ⟨p, xs, e1, h1, s1⟩ := sx
    exact .inr ⟨p, j, xs, e1, sy, hs _ _ h1, ho.1.1, ho.1.2.1, by rw [s1.length]; exact ho.1.2.2, fun r hr => putL hs hq (shrL_rep s1 _) ho.2 hr⟩
  · exact ho.elim

/-! ### comparisons -/
abbrev oB (g : Int → Int → Bool) : DOp := oI (fun _ _ => True) fun i j => .bl (g i j)
theorem zo_lt : ZOp Z (compareOp .Lt) (oB fun i j => decide (i < j)) := zo_int (fun i => opI_of0 op_lt) fun _ _ => ⟨rfl, rfl⟩
theorem zo_le : ZOp Z (compareOp .LtE) (oB fun i j => decide (i ≤ j)) := zo_int (fun i => opI_of0 op_le) fun _ _ => ⟨rfl, rfl⟩
theorem zo_gt : ZOp Z (compareOp .Gt) (oB fun i j => decide (j < i)) := zo_int (fun i => opI_of0 op_gt) fun _ _ => ⟨rfl, rfl⟩
theorem zo_ge : ZOp Z (compareOp .GtE) (oB fun i j => decide (j ≤ i)) := zo_int (fun i => opI_of0 op_ge) fun _ _ => ⟨rfl, rfl⟩
/-- ==, != of data -/
def oEq (neg : Bool) : DOp := fun x y Q => (eqOk x && eqOk y) = true ∧ Q .sh (.bl (if neg then !eqD x y else eqD x y))
theorem eqOk_dp {A H : Hp} {v : V} {d : D} (h : Sub A H) (c : eqOk d = true) (s : Shr G.K G.mg A v d) : Dp G.K H v d.py ∧ SeqAt.shaped d.py = true := by
  unfold eqOk at c
  rw [Bool.and_eq_true] at c
  exact ⟨Dp.up h _ _ (shr_dp c.1 s), c.2⟩
theorem zo_eq : ZOp Z (compareOp .Eq) (oEq false) := by
  refine ⟨_, fun i => kop rEqD (fun i => op_eqD (Z.room i).units) i, fun A H x y dx dy Q Qz hs sx sy ho hq => ?_⟩
  obtain ⟨c, ho⟩ := ho
  rw [Bool.and_eq_true] at c
  obtain ⟨d1, z1⟩ := eqOk_dp hs c.1 sx
  obtain ⟨d2, z2⟩ := eqOk_dp hs c.2 sy
  exact ⟨_, _, d1, d2, z1, z2, put0 hs hq (d := .bl _) (by simp only [Shr]; rfl) ho⟩
theorem zo_ne : ZOp Z (compareOp .NotEq) (oEq true) := by
  refine ⟨_, fun i => kop rNeD (fun i => op_neD (Z.room i).units) i, fun A H x y dx dy Q Qz hs sx sy ho hq => ?_⟩
  obtain ⟨c, ho⟩ := ho
  rw [Bool.and_eq_true] at c
  obtain ⟨d1, z1⟩ := eqOk_dp hs c.1 sx
  obtain ⟨d2, z2⟩ := eqOk_dp hs c.2 sy
  exact ⟨_, _, d1, d2, z1, z2, put0 hs hq (d := .bl _) (by simp only [Shr]; rfl) ho⟩
/-- is None, is not None -/
def isNon : D → Bool
  | .non => true
  | _ => false
theorem shr_non {A : Hp} {v : V} {d : D} (s : Shr G.K G.mg A v d) : decide (v = .non) = isNon d := by
  cases d <;> simp only [Shr] at s
  case non => subst s; rfl
  case bl => subst s; rfl
  case int => subst s; rfl
  case str => subst s; rfl
  case ty => subst s; rfl
  all_goals
    obtain ⟨a, h⟩ := s
    first
    | (obtain ⟨rfl, _⟩ := h; rfl)
    | (obtain ⟨_, rfl, _⟩ := h; rfl)
    | (obtain ⟨_, _, _, rfl, _⟩ := h; rfl)
def oIs (neg : Bool) : DOp := fun x y Q => match y with
  | .non => Q .sh (.bl (if neg then !isNon x else isNon x))
  | _ => False
theorem zo_is : ZOp Z (compareOp .Is) (oIs false) := by
  refine ⟨_, fun i => op_isN1, fun A H x y dx dy Q Qz hs sx sy ho hq => ?_⟩
  unfold oIs at ho
  split at ho
  · simp only [Shr] at sy
    exact ⟨sy, put0 hs hq (d := .bl (isNon dx)) (by simp only [Shr]; rw [shr_non sx]) ho⟩
  · exact ho.elim
theorem zo_isnot : ZOp Z (compareOp .IsNot) (oIs true) := by
  refine ⟨_, fun i => op_notN1, fun A H x y dx dy Q Qz hs sx sy ho hq => ?_⟩
  unfold oIs at ho
  split at ho
  · simp only [Shr] at sy
    exact ⟨sy, put0 hs hq (d := .bl (!isNon dx)) (by simp only [Shr]; rw [shr_non sx]) ho⟩
  · exact ho.elim
/-- in, not in: a list of data, a tuple of flat things, a text -/
def flatD : D → Bool
  | .non => true
  | .bl _ => true
  | .int _ => true
  | .str _ => true
  | _ => false
def inD (x : D) (ds : List D) : Bool := ds.any fun z => eqD z x
def vCs (ds : List D) : List V := ds.map vC
def oIn (neg : Bool) : DOp := fun x y Q => match y with
  | .lst ds => (eqOk x && eqOk (.lst ds)) = true ∧ Q .sh (.bl (if neg then !inD x ds else inD x ds))
  | .tup ds => (flatD x && ds.all flatD) = true ∧ Q .sh (.bl (if neg then !inD x ds else inD x ds))
  | .str s => (match x with
    | .str a => Q .sh (.bl (if neg then (Builtin.Str.occurrences s a 0 s.length 1).isEmpty else !(Builtin.Str.occurrences s a 0 s.length 1).isEmpty))
    | _ => False)
  | _ => False
theorem shr_flat {A : Hp} {v : V} {d : D} (h : flatD d = true) (s : Shr G.K G.mg A v d) : v = vC d ∧ flatV v = true := by
  cases d with
  | non => simp only [Shr] at s; subst s; exact ⟨rfl, rfl⟩
  | bl => simp only [Shr] at s; subst s; exact ⟨rfl, rfl⟩
  | int => simp only [Shr] at s; subst s; exact ⟨rfl, rfl⟩
  | str => simp only [Shr] at s; subst s; exact ⟨rfl, rfl⟩
  | _ => cases h
theorem shrL_flat {A : Hp} : ∀ {vs : List V} {ds : List D}, ds.all flatD = true → ShrL G.K G.mg A vs ds → vs = ds.map vC ∧ vs.all flatV = true
  | [], [], _, _ => ⟨rfl, rfl⟩
  | [], _ :: _, _, s => by simp [ShrL] at s
  | _ :: _, [], _, s => by simp [ShrL] at s
  | v :: vs, d :: ds, c, s => by
    simp only [ShrL] at s
    simp only [List.all_cons, Bool.and_eq_true] at c
    obtain ⟨e1, e2⟩ := shr_flat c.1 s.1
    obtain ⟨q1, q2⟩ := shrL_flat c.2 s.2
    exact ⟨by rw [List.map_cons, ← e1, ← q1], by rw [List.all_cons, e2, q2]; rfl⟩
theorem eqV_D {x y : D} (hx : flatD x = true) (hy : flatD y = true) : eqV (vC x) (vC y) = eqD x y := by
  cases x <;> cases hx <;> cases y <;> cases hy <;> simp [vC, eqV, eqD, D.py, PyData.eqv]
theorem inV_D {x : D} {ds : List D} (hx : flatD x = true) (hd : ds.all flatD = true) : inV (vC x) (ds.map vC) = inD x ds := by
  unfold inV inD
  rw [List.any_map]
  induction ds with
  | nil => rfl
  | cons d ds ih =>
    simp only [List.all_cons, Bool.and_eq_true] at hd
    simp only [List.any_cons, Function.comp_apply]
    rw [ih hd.2, eqV_D hd.1 hx]
theorem any_pyL {x : D} : ∀ ds : List D, (pyL ds).any (fun z => z.eqv x.py) = inD x ds
  | [] => rfl
  | d :: ds => by
    have := any_pyL (x := x) ds
    unfold inD at this ⊢
    rw [pyL, List.any_cons, List.any_cons, this]; rfl
theorem Room.un65 {k : Nat} {A : Around} (r : Room k A) : A.units + 65 < cLine := by have := r.un; omega
theorem zo_in : ZOp Z (compareOp .In) (oIn false) := by
  refine ⟨_, fun i => (kop rInD (fun i => op_inD (Room.un65 (Z.room i))) i).or ((kop (fun K => rIn K false) (fun i => op_in_seq) i).or op_in_str), fun A H x y dx dy Q Qz hs sx sy ho hq => ?_⟩
  unfold oIn at ho
  split at ho
  · rename_i ds
    obtain ⟨c, ho⟩ := ho
    rw [Bool.and_eq_true] at c
    obtain ⟨d1, z1⟩ := eqOk_dp hs c.1 sx
    obtain ⟨d2, z2⟩ := eqOk_dp hs c.2 sy
    refine .inl ⟨_, pyL ds, d1, d2, z1, z2, put0 hs hq (d := .bl (inD dx ds)) (by simp only [Shr]; rw [any_pyL]) ho⟩
  · rename_i ds
    obtain ⟨c, ho⟩ := ho
    rw [Bool.and_eq_true] at c
    simp only [Shr] at sy
    obtain ⟨p, xs, e1, h1, s1⟩ := sy
    obtain ⟨e2, e3⟩ := shr_flat c.1 sx
    obtain ⟨e4, e5⟩ := shrL_flat c.2 s1
    refine .inr (.inl ⟨p, xs, e1, .inr (sqT_of hs h1), e3, e5, put0 hs hq (d := .bl (inD dx ds)) ?_ ho⟩)
    simp only [Shr]
    rw [e2, e4, inV_D c.1 c.2]; rfl
  · rename_i s
    split at ho
    · rename_i a
      simp only [Shr] at sx sy
      exact .inr (.inr ⟨a, s, sx, sy, put0 hs hq (d := .bl _) (by simp only [Shr]; rfl) ho⟩)
    · exact ho.elim
  · exact ho.elim
theorem zo_notin : ZOp Z (compareOp .NotIn) (oIn true) := by
  refine ⟨_, fun i => (kop rNotInD (fun i => op_notInD (Room.un65 (Z.room i))) i).or ((kop (fun K => rIn K true) (fun i => op_notIn_seq) i).or op_notin_str), fun A H x y dx dy Q Qz hs sx sy ho hq => ?_⟩
  unfold oIn at ho
  split at ho
  · rename_i ds
    obtain ⟨c, ho⟩ := ho
    rw [Bool.and_eq_true] at c
    obtain ⟨d1, z1⟩ := eqOk_dp hs c.1 sx
    obtain ⟨d2, z2⟩ := eqOk_dp hs c.2 sy
    refine .inl ⟨_, pyL ds, d1, d2, z1, z2, put0 hs hq (d := .bl (!inD dx ds)) (by simp only [Shr]; rw [any_pyL]) ho⟩
  · rename_i ds
    obtain ⟨c, ho⟩ := ho
    rw [Bool.and_eq_true] at c
    simp only [Shr] at sy
    obtain ⟨p, xs, e1, h1, s1⟩ := sy
    obtain ⟨e2, e3⟩ := shr_flat c.1 sx
    obtain ⟨e4, e5⟩ := shrL_flat c.2 s1
    refine .inr (.inl ⟨p, xs, e1, .inr (sqT_of hs h1), e3, e5, put0 hs hq (d := .bl (!inD dx ds)) ?_ ho⟩)
    simp only [Shr]
    rw [e2, e4, inV_D c.1 c.2]; rfl
  · rename_i s
    split at ho
    · rename_i a
      simp only [Shr] at sx sy
      exact .inr (.inr ⟨a, s, sx, sy, put0 hs hq (d := .bl _) (by simp only [Shr]; rw [Bool.not_not]; rfl) ho⟩)
    · exact ho.elim
  · exact ho.elim
/-! ### subscripts -/
def oIx : DOp := fun x y Q => match y with
  | .int i => (match x with
    | .lst ds => (match atI ds i with
      | some d => Q .sh d
      | none => False)
    | .tup ds => (match atI ds i with
      | some d => Q .sh d
      | none => False)
    | .scr ns => (match atI ns i with
      | some n => Q .sh (.int n)
      | none => False)
    | .str s => (match atI s.cps.toList i with
      | some c => s.length ≤ sizeLine ∧ Q .sh (.str ⟨#[c]⟩)
      | none => False)
    | _ => False)
  | _ => False
theorem atI_get {A : Hp} {vs : List V} {ds : List D} {i : Int} {d : D} (s : ShrL G.K G.mg A vs ds) (h : atI ds i = some d) : ∃ v, atI vs i = some v ∧ Shr G.K G.mg A v d := by
  unfold atI at h ⊢
  rw [s.length]
  cases q : ixN ds.length i with
  | none => rw [q] at h; cases h
  | some j =>
    rw [q] at h
    obtain ⟨v, h1, h2⟩ := s.get h
    exact ⟨v, h1, h2⟩
theorem kix (r : PySem.W.Frag → R2) (h : ∀ i, IxR (Z.X i) (r (Z.X i).K)) (i : Z.ι) : IxR (Z.X i) (r G.K) := by
  have := h i
  rw [Z.hK i] at this
  exact this
theorem atI_map {α β : Type} (f : α → β) (xs : List α) (i : Int) : atI (xs.map f) i = (atI xs i).map f := by
  unfold atI
  rw [List.length_map]
  cases ixN xs.length i with
  | none => rfl
  | some j => simp
theorem ze_ix {a b : Expr} {ma mb : ZM} {pos : Pos} (ha : ZE Z a ma) (hb : ZE Z b mb) (hp : PlainIx b := by exact fun _ _ => rfl) : ZE Z (.Subscript a b pos) (mOp oIx ma mb) := by
  obtain ⟨ta, a1, a2⟩ := ha.ex
  obtain ⟨tb, b1, b2⟩ := hb.ex
  refine ⟨_, fun i => pe_ix (kix rIx (fun i => ix_seq) i) (a1 i) (b1 i) hp, snd_op (fun A H x y dx dy Q Qz hs sx sy ho hq => ?_) a2 b2⟩
  unfold oIx at ho
  split at ho
  · rename_i i
    simp only [Shr] at sy
    split at ho
    · split at ho
      · rename_i d e
        simp only [Shr] at sx
        obtain ⟨p, xs, e1, h1, s1⟩ := sx
        obtain ⟨v, q1, q2⟩ := atI_get s1 e
        exact .inl ⟨p, xs, i, v, e1, sy, sqL_of hs h1, q1, put0 hs hq q2 ho⟩
      · exact ho.elim
    · split at ho
      · rename_i d e
        simp only [Shr] at sx
        obtain ⟨p, xs, e1, h1, s1⟩ := sx
        obtain ⟨v, q1, q2⟩ := atI_get s1 e
        exact .inr (.inl ⟨p, xs, i, v, e1, sy, sqT_of hs h1, q1, put0 hs hq q2 ho⟩)
      · exact ho.elim
    · split at ho
      · rename_i n e
        simp only [Shr] at sx
        obtain ⟨p, e1, h1⟩ := sx
        exact .inl ⟨p, _, i, .int n, e1, sy, sqL_mono hs h1, by rw [atI_map, e]; rfl, put0 hs hq (d := .int n) (by simp [Shr]) ho⟩
      · exact ho.elim
    · split at ho
      · rename_i c e
        simp only [Shr] at sx
        exact .inr (.inr ⟨_, i, c, sx, sy, ho.1, e, put0 hs hq (d := .str _) (by simp only [Shr]) ho.2⟩)
      · exact ho.elim
    · exact ho.elim
  · exact ho.elim
end
end ZL


namespace ZL
open PySem PySem.Spec PyProof.Rows L2

/-! ### calls by values -/
abbrev DFn := List D → (Kd → D → Prop) → Prop
def SndF (G : Glob) (r : List V → Hp → VK → Prop) (o : DFn) : Prop := ∀ A H vs ds (Q : VK) Qz, Sub A H → ShrL G.K G.mg A vs ds → o ds Qz →
  (∀ v H' A' k d fp, Gr A H A' H' → Own G.K G.mg A' H' k v d fp → Fresh H A' fp → Qz k d → Q v H') → r vs H Q
section
variable {G : Glob} {N : List Str} {sc : Scope} {fn : Str → Bool} {W : WX} {k : Nat} {Z : Zc G N sc fn W k}
/-- the built-in f does o on data -/
def ZF (Z : Zc G N sc fn W k) (f : Value) (o : DFn) : Prop := ∃ r, (∀ i, CallR (Z.X i) f r) ∧ SndF G r o
theorem kcall {f : Value} (r : PySem.W.Frag → List V → Hp → VK → Prop) (h : ∀ i, CallR (Z.X i) f (r (Z.X i).K)) (i : Z.ι) : CallR (Z.X i) f (r G.K) := by
  have := h i
  rw [Z.hK i] at this
  exact this
def mCB (o : DFn) (m : ZMA) : ZM := fun env Q E => m env (fun ds => o ds Q) E
theorem snd_CB {r : List V → Hp → VK → Prop} {o : DFn} {t : TA} {m : ZMA} (ho : SndF G r o) (ha : SndA G W t m) : Snd G W (tCB r t) (mCB o m) := fun A H σ env Q Qz Ez h v hm hq he =>
  ha A H σ env _ _ Ez h v hm (fun vs H1 A1 ds g1 s1 q1 => ho A1 H1 vs ds Q Qz g1.ah s1 q1 fun v H2 A2 k d fp g2 o2 f2 q2 => hq v H2 A2 k d fp (g1.trans g2) o2 (f2.back g1.hh) q2) he
abbrev Free (G : Glob) (x : Str) : Prop := G.mg x = none
theorem ze_callB {x : Str} {p pos : Pos} {e : Expr} {es : List Expr} {m : ZMA} {id : String} {o : DFn} (hc : ZF Z (.builtin id) o) (hm : Free G x) (ha : ZA Z (e :: es) m) (hv : bootBuiltins x = some (.builtin id) := by decide +kernel) (hg : sc.names.lookup x = some .globalImplicit := by rfl)
    (hn : x ≠ "__name__" := by decide) (hdb : (x == ("__debug__" : Str)) = false := by decide) (he : ∀ env, starEach (e :: es) env = (false, eval e env) :: starEach es env := by intro _; rfl) (hpl : ∀ env, (backTo pos (starEach es env)).any (·.1) = false := by intro _; rfl) :
    ZE Z (.Call (.Name x p) (e :: es) [] pos) (mCB o m) := by
  obtain ⟨r, c1, c2⟩ := hc
  obtain ⟨t, a1, a2⟩ := ha.ex
  exact ⟨_, fun i => pe_callB (c1 i) (show (Z.X i).env.scope.names.lookup x = _ by rw [Z.hsc]; exact hg) (by rw [Z.hmg]; exact hm) hv (a1 i) hn hdb (he _) (hpl _), snd_CB c2 a2⟩
theorem ze_callTy {x : Str} {p pos : Pos} {e : Expr} {es : List Expr} {m : ZMA} {id : String} {o : DFn} (hc : ZF Z (.type id) o) (hm : Free G x) (ha : ZA Z (e :: es) m) (hv : bootBuiltins x = some (.type id) := by decide +kernel) (hg : sc.names.lookup x = some .globalImplicit := by rfl)
    (hn : x ≠ "__name__" := by decide) (hdb : (x == ("__debug__" : Str)) = false := by decide) (he : ∀ env, starEach (e :: es) env = (false, eval e env) :: starEach es env := by intro _; rfl) (hpl : ∀ env, (backTo pos (starEach es env)).any (·.1) = false := by intro _; rfl) :
    ZE Z (.Call (.Name x p) (e :: es) [] pos) (mCB o m) := by
  obtain ⟨r, c1, c2⟩ := hc
  obtain ⟨t, a1, a2⟩ := ha.ex
  exact ⟨_, fun i => pe_callTy (c1 i) (show (Z.X i).env.scope.names.lookup x = _ by rw [Z.hsc]; exact hg) (by rw [Z.hmg]; exact hm) hv (a1 i) hn hdb (he _) (hpl _), snd_CB c2 a2⟩
/-- a built-in type's name as a value -/
theorem ze_ty {x : Str} {n : String} {pos : Pos} (hm : Free G x) (hv : bootBuiltins x = some (.type n) := by decide +kernel) (hg : sc.names.lookup x = some .globalImplicit := by rfl) (hn : x ≠ "__name__" := by decide) (hd : (x == ("__debug__" : Str)) = false := by decide) :
    ZE Z (.Name x pos) (mC (.ty n)) :=
  ⟨_, fun i => pe_bltn (v := .ty n) (show (Z.X i).env.scope.names.lookup x = _ by rw [Z.hsc]; exact hg) (by rw [Z.hmg]; exact hm) hv rfl hn hd, fun A H σ env Q Qz Ez h v hm hq _ => hq _ H A .sh _ [] (Gr.refl h) (own_sh (by simp [Shr])) Fresh.nil hm⟩
/-- an own class's name as a value -/
theorem ze_cls {x : String} {C : Addr} {pos : Pos} (hm : G.mg (Str.ofString x) = some (.ref C)) (hg : sc.names.lookup (Str.ofString x) = some .globalImplicit := by rfl) (hd : ((Str.ofString x) == ("__debug__" : Str)) = false := by decide) :
    ZE Z (.Name (Str.ofString x) pos) (mC (.cls x)) :=
  ⟨_, fun i => pe_glob (v := .ref C) (show (Z.X i).env.scope.names.lookup (Str.ofString x) = _ by rw [Z.hsc]; exact hg) (by rw [Z.hmg]; exact hm) rfl hd, fun A H σ env Q Qz Ez h v hm' hq _ => hq _ H A .sh _ [] (Gr.refl h) (own_sh (by simp only [Shr]; exact ⟨C, rfl, hm⟩)) Fresh.nil hm'⟩

theorem shrL1 {K : PySem.W.Frag} {mg : Str → Option Value} {A : Hp} {vs : List V} {d : D} (h : ShrL K mg A vs [d]) : ∃ v, vs = [v] ∧ Shr K mg A v d := by
  match vs, h with
  | [], h => simp [ShrL] at h
  | [v], h => exact ⟨v, rfl, by simpa [ShrL] using h⟩
  | _ :: _ :: _, h => simp [ShrL] at h
theorem shrL2 {K : PySem.W.Frag} {mg : Str → Option Value} {A : Hp} {vs : List V} {d e : D} (h : ShrL K mg A vs [d, e]) : ∃ v u, vs = [v, u] ∧ Shr K mg A v d ∧ Shr K mg A u e := by
  match vs, h with
  | [], h => simp [ShrL] at h
  | [_], h => simp [ShrL] at h
  | [v, u], h => exact ⟨v, u, rfl, by simpa [ShrL] using h⟩
  | _ :: _ :: _ :: _, h => simp [ShrL] at h
/-! ### len -/
def fLen : DFn := fun xs Q => match xs with
  | [.lst ds] => Q .sh (.int ds.length)
  | [.tup ds] => Q .sh (.int ds.length)
  | [.scr ns] => Q .sh (.int ns.length)
  | [.str s] => s.length ≤ sizeLine ∧ Q .sh (.int s.length)
  | [.dK ks _] => Q .sh (.int ks.length)
  | [.dT ks _] => Q .sh (.int ks.length)
  | _ => False
theorem zf_len : ZF Z (.builtin "len") fLen := by
  refine ⟨_, fun i => (kcall (fun K xs H Q => ∃ p ys, xs = [V.ref p] ∧ (SqL K H p ys ∨ SqT K H p ys) ∧ Q (V.int (ys.length : Nat)) H) (fun i => call_len_seq) i).or (call_len_str.or (call_lenD.or call_len_dT)), fun A H vs ds Q Qz hs sv ho hq => ?_⟩
  unfold fLen at ho
  split at ho
  · obtain ⟨v, rfl, s⟩ := shrL1 sv
    simp only [Shr] at s
    obtain ⟨a, xs, rfl, h1, h2⟩ := s
    exact .inl ⟨a, xs, rfl, .inl (sqL_of hs h1), put0 hs hq (d := .int _) (by simp only [Shr]; rw [h2.length]) ho⟩
  · obtain ⟨v, rfl, s⟩ := shrL1 sv
    simp only [Shr] at s
    obtain ⟨a, xs, rfl, h1, h2⟩ := s
    exact .inl ⟨a, xs, rfl, .inr (sqT_of hs h1), put0 hs hq (d := .int _) (by simp only [Shr]; rw [h2.length]) ho⟩
  · obtain ⟨v, rfl, s⟩ := shrL1 sv
    simp only [Shr] at s
    obtain ⟨a, rfl, h1⟩ := s
    exact .inl ⟨a, _, rfl, .inl (sqL_mono hs h1), put0 hs hq (d := .int _) (by simp only [Shr]; rw [List.length_map]) ho⟩
  · obtain ⟨v, rfl, s⟩ := shrL1 sv
    simp only [Shr] at s
    subst s
    exact .inr (.inl ⟨_, rfl, ho.1, put0 hs hq (d := .int _) (by simp only [Shr]) ho.2⟩)
  · obtain ⟨v, rfl, s⟩ := shrL1 sv
    simp only [Shr] at s
    obtain ⟨a, kv, rfl, h1, h2, h3⟩ := s
    exact .inr (.inr (.inl ⟨a, kv, rfl, hs _ _ h1, put0 hs hq (d := .int _) (by simp only [Shr]; rw [← h2, List.length_map]) ho⟩))
  · obtain ⟨v, rfl, s⟩ := shrL1 sv
    simp only [Shr] at s
    obtain ⟨a, kv, rfl, h1, h2, h3⟩ := s
    exact .inr (.inr (.inr ⟨a, kv, rfl, hs _ _ h1, put0 hs hq (d := .int _) (by simp only [Shr]; rw [← h2, List.length_map]) ho⟩))
  · exact ho.elim
/-! ### int, abs, min, max, sum -/
def fInt : DFn := fun xs Q => match xs with
  | [.int i] => Q .sh (.int i)
  | [.bl b] => Q .sh (.int (if b then 1 else 0))
  | [.str s] => s.length ≤ 640 ∧ ∃ n, PySem.intText? s = some n ∧ Q .sh (.int n)
  | _ => False
theorem zf_int : ZF Z (.type "int") fInt := by
  refine ⟨_, fun i => call_int1.or call_int_str, fun A H vs ds Q Qz hs sv ho hq => ?_⟩
  unfold fInt at ho
  split at ho
  · obtain ⟨v, rfl, s⟩ := shrL1 sv
    simp only [Shr] at s
    subst s
    exact .inl (.inl ⟨_, rfl, put0 hs hq (d := .int _) (by simp only [Shr]) ho⟩)
  · obtain ⟨v, rfl, s⟩ := shrL1 sv
    simp only [Shr] at s
    subst s
    exact .inl (.inr ⟨_, rfl, put0 hs hq (d := .int _) (by simp only [Shr]) ho⟩)
  · obtain ⟨v, rfl, s⟩ := shrL1 sv
    simp only [Shr] at s
    subst s
    obtain ⟨h1, n, h2, h3⟩ := ho
    exact .inr ⟨_, n, rfl, h2, h1, put0 hs hq (d := .int _) (by simp only [Shr]) h3⟩
  · exact ho.elim
def fAbs : DFn := fun xs Q => match xs with
  | [.int i] => Q .sh (.int i.natAbs)
  | _ => False
theorem zf_abs : ZF Z (.builtin "abs") fAbs := by
  refine ⟨_, fun i => call_abs, fun A H vs ds Q Qz hs sv ho hq => ?_⟩
  unfold fAbs at ho
  split at ho
  · rename_i i
    obtain ⟨v, rfl, s⟩ := shrL1 sv
    simp only [Shr] at s
    subst s
    refine ⟨_, rfl, put0 hs hq (d := .int i.natAbs) ?_ ho⟩
    simp only [Shr]
    congr 1
    split <;> omega
  · exact ho.elim
def fMin : DFn := fun xs Q => match xs with
  | [.int i, .int j] => Q .sh (.int (min i j))
  | [.lst ds] => ∃ ns : List Int, ds = ns.map D.int ∧ 0 < ns.length ∧ ∀ m, m ∈ ns → (∀ y ∈ ns, m ≤ y) → Q .sh (.int m)
  | _ => False
def fMax : DFn := fun xs Q => match xs with
  | [.int i, .int j] => Q .sh (.int (max i j))
  | [.lst ds] => ∃ ns : List Int, ds = ns.map D.int ∧ 0 < ns.length ∧ ∀ m, m ∈ ns → (∀ y ∈ ns, y ≤ m) → Q .sh (.int m)
  | _ => False
theorem shr_ints {A H : Hp} (hs : Sub A H) {v : V} {ns : List Int} (s : Shr G.K G.mg A v (.lst (ns.map D.int))) : ∃ a, v = .ref a ∧ SqL G.K H a (ns.map V.int) := by
  simp only [Shr] at s
  obtain ⟨a, xs, rfl, h1, h2⟩ := s
  have := h2.ints
  subst this
  exact ⟨a, rfl, sqL_of hs h1⟩
theorem zf_min : ZF Z (.builtin "min") fMin := by
  refine ⟨_, fun i => (call_min2 (Z.calm i)).or (kcall rMin (fun i => cr_min (Z.calm i)) i), fun A H vs ds Q Qz hs sv ho hq => ?_⟩
  unfold fMin at ho
  split at ho
  · rename_i i j
    obtain ⟨v, u, rfl, s1, s2⟩ := shrL2 sv
    simp only [Shr] at s1 s2
    subst s1 s2
    refine .inl ⟨_, _, rfl, put0 hs hq (d := .int _) ?_ ho⟩
    simp only [Shr]
    congr 1
    rw [Int.min_def]; split <;> split <;> omega
  · obtain ⟨ns, rfl, h0, h⟩ := ho
    obtain ⟨v, rfl, s⟩ := shrL1 sv
    obtain ⟨a, rfl, h1⟩ := shr_ints hs s
    exact .inr ⟨a, ns, rfl, h1, h0, fun m hm hy => put0 hs hq (d := .int m) (by simp only [Shr]) (h m hm hy)⟩
  · exact ho.elim
theorem zf_max : ZF Z (.builtin "max") fMax := by
  refine ⟨_, fun i => (call_max2 (Z.calm i)).or (kcall rMax (fun i => cr_max (Z.calm i)) i), fun A H vs ds Q Qz hs sv ho hq => ?_⟩
  unfold fMax at ho
  split at ho
  · rename_i i j
    obtain ⟨v, u, rfl, s1, s2⟩ := shrL2 sv
    simp only [Shr] at s1 s2
    subst s1 s2
    refine .inl ⟨_, _, rfl, put0 hs hq (d := .int _) ?_ ho⟩
    simp only [Shr]
    congr 1
    rw [Int.max_def]; split <;> split <;> omega
  · obtain ⟨ns, rfl, h0, h⟩ := ho
    obtain ⟨v, rfl, s⟩ := shrL1 sv
    obtain ⟨a, rfl, h1⟩ := shr_ints hs s
    exact .inr ⟨a, ns, rfl, h1, h0, fun m hm hy => put0 hs hq (d := .int m) (by simp only [Shr]) (h m hm hy)⟩
  · exact ho.elim
def fSum : DFn := fun xs Q => match xs with
  | [.lst ds] => ∃ ns : List Int, ds = ns.map D.int ∧ Q .sh (.int ns.sum)
  | _ => False
theorem zf_sum : ZF Z (.builtin "sum") fSum := by
  refine ⟨_, fun i => kcall rSum (fun i => cr_sum (Z.calm i)) i, fun A H vs ds Q Qz hs sv ho hq => ?_⟩
  unfold fSum at ho
  split at ho
  · obtain ⟨ns, rfl, h⟩ := ho
    obtain ⟨v, rfl, s⟩ := shrL1 sv
    obtain ⟨a, rfl, h1⟩ := shr_ints hs s
    exact ⟨a, ns, rfl, h1, put0 hs hq (d := .int _) (by simp only [Shr]) h⟩
  · exact ho.elim
def fSorted : DFn := fun xs Q => match xs with
  | [.lst ds] => ∃ ns : List Int, ds = ns.map D.int ∧ ∀ ns' : List Int, ns'.Perm ns → ns'.Pairwise (· ≤ ·) → Q (.ls .sh) (.lst (ns'.map D.int))
  | _ => False
theorem shrL_ints {A : Hp} : ∀ ns : List Int, ShrL G.K G.mg A (ns.map V.int) (ns.map D.int)
  | [] => by simp [ShrL]
  | n :: ns => by simp only [List.map_cons, ShrL]; exact ⟨by simp [Shr], shrL_ints ns⟩
theorem zf_sorted : ZF Z (.builtin "sorted") fSorted := by
  refine ⟨_, fun i => kcall rSortedI (fun i => cr_sortedI) i, fun A H vs ds Q Qz hs sv ho hq => ?_⟩
  unfold fSorted at ho
  split at ho
  · obtain ⟨ns, rfl, h⟩ := ho
    obtain ⟨v, rfl, s⟩ := shrL1 sv
    obtain ⟨a, rfl, h1⟩ := shr_ints hs s
    exact ⟨a, ns, rfl, h1, fun ns' p hp hw hn => putL hs hq (shrL_ints ns') (h ns' hp hw) hn⟩
  · exact ho.elim
/-! ### list, tuple, str -/
def fList : DFn := fun xs Q => match xs with
  | [.lst ds] => Q (.ls .sh) (.lst ds)
  | [.tup ds] => Q (.ls .sh) (.lst ds)
  | _ => False
theorem zf_list : ZF Z (.type "list") fList := by
  refine ⟨_, fun i => kcall (fun K xs H Q => ∃ p ys, xs = [V.ref p] ∧ (SqL K H p ys ∨ SqT K H p ys) ∧ ∀ l, H l = none → Q (.ref l) (upd H l (.lst ys))) (fun i => call_list_of) i, fun A H vs ds Q Qz hs sv ho hq => ?_⟩
  unfold fList at ho
  split at ho
  · obtain ⟨v, rfl, s⟩ := shrL1 sv
    simp only [Shr] at s
    obtain ⟨a, xs, rfl, h1, h2⟩ := s
    exact ⟨a, xs, rfl, .inl (sqL_of hs h1), fun l hl => putL hs hq h2 ho hl⟩
  · obtain ⟨v, rfl, s⟩ := shrL1 sv
    simp only [Shr] at s
    obtain ⟨a, xs, rfl, h1, h2⟩ := s
    exact ⟨a, xs, rfl, .inr (sqT_of hs h1), fun l hl => putL hs hq h2 ho hl⟩
  · exact ho.elim
def fTuple : DFn := fun xs Q => match xs with
  | [.lst ds] => Q .sh (.tup ds)
  | [.tup ds] => Q .sh (.tup ds)
  | _ => False
theorem zf_tuple : ZF Z (.type "tuple") fTuple := by
  refine ⟨_, fun i => kcall (fun K xs H Q => ∃ p ys, xs = [V.ref p] ∧ ((SqL K H p ys ∧ ∀ l, H l = none → Q (.ref l) (upd H l (.tup ys))) ∨ (SqT K H p ys ∧ Q (.ref p) H))) (fun i => call_tuple_of) i, fun A H vs ds Q Qz hs sv ho hq => ?_⟩
  unfold fTuple at ho
  split at ho
  · obtain ⟨v, rfl, s⟩ := shrL1 sv
    simp only [Shr] at s
    obtain ⟨a, xs, rfl, h1, h2⟩ := s
    exact ⟨a, xs, rfl, .inl ⟨sqL_of hs h1, fun l hl => putT hs hq h2 ho hl⟩⟩
  · obtain ⟨v, rfl, s⟩ := shrL1 sv
    simp only [Shr] at s
    obtain ⟨a, xs, rfl, h1, h2⟩ := s
    exact ⟨a, xs, rfl, .inr ⟨sqT_of hs h1, put0 hs hq (d := .tup _) (by simp only [Shr]; exact ⟨a, xs, rfl, h1, h2⟩) ho⟩⟩
  · exact ho.elim
def fStr : DFn := fun xs Q => match xs with
  | [.int i] => i.natAbs.log2 < 1920 ∧ Q .sh (.str (Str.ofString (toString i)))
  | _ => False
theorem zf_str : ZF Z (.type "str") fStr := by
  refine ⟨_, fun i => call_str_int, fun A H vs ds Q Qz hs sv ho hq => ?_⟩
  unfold fStr at ho
  split at ho
  · obtain ⟨v, rfl, s⟩ := shrL1 sv
    simp only [Shr] at s
    subst s
    exact ⟨_, rfl, ho.1, put0 hs hq (d := .str _) (by simp only [Shr]) ho.2⟩
  · exact ho.elim
/-! ### isinstance with built-in types -/
inductive Ty where
  | non | bool | int | str | list | tuple | dict
  deriving DecidableEq
def Ty.nm : Ty → String
  | .non => "NoneType" | .bool => "bool" | .int => "int" | .str => "str" | .list => "list" | .tuple => "tuple" | .dict => "dict"
def Ty.isi (a b : Ty) : Bool := decide (a = b) || (decide (a = .bool) && decide (b = .int))
theorem ty_kit : ∀ a b : Ty, b ≠ .non → kitB a.nm b.nm = some (a.isi b) := by
  intro a b h
  cases a <;> cases b <;> first | exact absurd rfl h | decide +kernel
def tyOf : D → Option Ty
  | .non => some .non
  | .bl _ => some .bool
  | .int _ => some .int
  | .str _ => some .str
  | .lst _ => some .list
  | .tup _ => some .tuple
  | .dK _ _ => some .dict
  | .dT _ _ => some .dict
  | _ => none
def tyNm (n : String) : Option Ty := if n = "bool" then some .bool else if n = "int" then some .int else if n = "str" then some .str else if n = "list" then some .list else if n = "tuple" then some .tuple else if n = "dict" then some .dict else none
theorem tyNm_ok {n : String} {t : Ty} (h : tyNm n = some t) : n = t.nm ∧ t ≠ .non := by
  unfold tyNm at h
  repeat (split at h; · (rename_i e; cases h; exact ⟨e, by intro z; cases z⟩))
  cases h
theorem tyOf_ok {A H : Hp} (hs : Sub A H) {v : V} {d : D} {t : Ty} (s : Shr G.K G.mg A v d) (h : tyOf d = some t) : TyX G.K H v (.type t.nm) := by
  cases d <;> cases h <;> simp only [Shr] at s
  · subst s; exact .base .non
  · subst s; exact .base (.bl _)
  · subst s; exact .base (.int _)
  · subst s; exact .base (.str _)
  · obtain ⟨a, xs, rfl, h1, h2⟩ := s; exact .base (.lst (hs _ _ h1))
  · obtain ⟨a, xs, rfl, h1, h2⟩ := s; exact .base (.tup (hs _ _ h1))
  · obtain ⟨a, xs, rfl, h1, h2⟩ := s; exact .base (.dK (hs _ _ h1))
  · obtain ⟨a, xs, rfl, h1, h2⟩ := s; exact .base (.dT (hs _ _ h1))
def fIsi : DFn := fun xs Q => match xs with
  | [x, .ty n] => (match tyOf x, tyNm n with
    | some t, some u => Q .sh (.bl (t.isi u))
    | _, _ => False)
  | _ => False
theorem zf_isi : ZF Z (.builtin "isinstance") fIsi := by
  refine ⟨_, fun i => kcall rIsi (fun i => call_isi) i, fun A H vs ds Q Qz hs sv ho hq => ?_⟩
  unfold fIsi at ho
  split at ho
  · split at ho
    · rename_i x n _ _ t u e1 e2
      obtain ⟨v, w, rfl, s1, s2⟩ := shrL2 sv
      simp only [Shr] at s2
      subst s2
      obtain ⟨e3, e4⟩ := tyNm_ok e2
      subst e3
      exact ⟨v, _, _, _, _, rfl, .ty _, tyOf_ok hs s1 e1, kit_ty (ty_kit _ _ e4), put0 hs hq (d := .bl _) (by simp only [Shr]) ho⟩
    · exact ho.elim
  · exact ho.elim

/-! ### slices -/
abbrev DPart := SEnv → (Option Int → Prop) → (Exn → Prop) → Prop
def SndO (G : Glob) (W : WX) (t : TO) (m : DPart) : Prop := ∀ A H σ env (Q : Option Int → Hp → Prop) Qz Ez, Sub A H → View G A σ env → m env Qz Ez →
  (∀ o H' A', Gr A H A' H' → Qz o → Q o H') → Esc G W A H σ Ez → t σ H Q
structure ZO (Z : Zc G N sc fn W k) (e : Option Expr) (m : DPart) : Prop where
  ex : ∃ t, (∀ i, PO (Z.X i) e t) ∧ SndO G W t m
def mNo : DPart := fun _ Q _ => Q none
def mPart (m : ZM) : DPart := fun env Q E => m env (fun _ d => match d with
  | .int i => Q (some i)
  | _ => False) E
theorem zo_none : ZO Z none mNo := ⟨_, fun _ => po_none, fun A H σ env Q Qz Ez h v hm hq he => hq none H A (Gr.refl h) hm⟩
theorem zo_some {e : Expr} {m : ZM} (h : ZE Z e m) : ZO Z (some e) (mPart m) := by
  obtain ⟨t, a1, a2⟩ := h.ex
  refine ⟨_, fun i => po_some (a1 i), fun A H σ env Q Qz Ez h v hm hq he => ?_⟩
  refine a2.go h v hm (fun x H' A' _ d g sd q => ?_) he
  cases d with
  | int i =>
    simp only [Shr] at sd
    exact ⟨i, sd, hq _ H' A' g q⟩
  | _ => exact q.elim
def cutD (xs : List D) (lo hi : Option Int) : List D := (xs.drop (HT.sIx xs.length 0 lo)).take (HT.sIx xs.length xs.length hi - HT.sIx xs.length 0 lo)
def oSl (x : D) (lo hi : Option Int) (Q : Kd → D → Prop) : Prop := match x with
  | .lst ds => Q (.ls .sh) (.lst (cutD ds lo hi))
  | .tup ds => Q .sh (.tup (cutD ds lo hi))
  | .str s => s.length ≤ sizeLine ∧ Q .sh (.str (cutS s lo hi))
  | _ => False
def mSl (m : ZM) (lo hi : DPart) : ZM := fun env Q E => m env (fun _ x => lo env (fun a => hi env (fun b => oSl x a b Q) E) E) E
theorem ksl (r : PySem.W.Frag → V → Option Int → Option Int → Hp → VK → Prop) (h : ∀ i, SlR (Z.X i) (r (Z.X i).K)) (i : Z.ι) : SlR (Z.X i) (r G.K) := by
  have := h i
  rw [Z.hK i] at this
  exact this
theorem ze_slice {e : Expr} {lo hi : Option Expr} {m : ZM} {ml mh : DPart} {pos p2 : Pos} (he : ZE Z e m) (hl : ZO Z lo ml) (hh : ZO Z hi mh) : ZE Z (.Subscript e (.Slice lo hi none p2) pos) (mSl m ml mh) := by
  obtain ⟨t, a1, a2⟩ := he.ex
  obtain ⟨tl, b1, b2⟩ := hl.ex
  obtain ⟨th, c1, c2⟩ := hh.ex
  refine ⟨_, fun i => pe_slice (((ksl rSlL (fun i => sl_list) i).or ((ksl rSlA (fun i => sl_tupA) i).or sl_str))) (a1 i) (b1 i) (c1 i), fun A H σ env Q Qz Ez h v hm hq he => ?_⟩
  refine a2.go h v hm (fun x H1 A1 _ d g1 s1 q1 => ?_) he
  refine b2 A1 H1 σ env _ _ Ez g1.ah (v.mono g1.aa) q1 (fun a H2 A2 g2 q2 => ?_) (he.gr g1)
  refine c2 A2 H2 σ env _ _ Ez g2.ah (v.mono (g1.trans g2).aa) q2 (fun b H3 A3 g3 q3 => ?_) (he.gr (g1.trans g2))
  have g := (g1.trans g2).trans g3
  have s3 := (s1.mono g2.aa).mono g3.aa
  have hq' : ∀ v H' A' k d fp, Gr A3 H3 A' H' → Own G.K G.mg A' H' k v d fp → Fresh H3 A' fp → Qz k d → Q v H' := fun v H' A' k d fp g4 o4 f4 q4 => hq v H' A' k d fp (g.trans g4) o4 (f4.back g.hh) q4
  unfold oSl at q3
  split at q3
  · simp only [Shr] at s3
    obtain ⟨p, xs, e1, h1, h2⟩ := s3
    refine .inl ⟨p, xs, e1, sqL_of g3.ah h1, fun l hl => putL g3.ah hq' ?_ q3 hl⟩
    unfold cutV cutD
    rw [h2.length]
    exact (h2.drop _).take _
  · simp only [Shr] at s3
    obtain ⟨p, xs, e1, h1, h2⟩ := s3
    have hc : ∀ ds : List D, ShrL G.K G.mg A3 xs ds → ShrL G.K G.mg A3 (cutV xs a b) (cutD ds a b) := fun ds h2 => by
      unfold cutV cutD
      rw [h2.length]
      exact (h2.drop _).take _
    rename_i ds
    refine .inr (.inl ⟨p, xs, e1, sqT_of g3.ah h1, fun e => ?_, fun e l hl => putT g3.ah hq' (hc ds h2) q3 hl⟩)
    have : cutD ds a b = ds := by
      unfold cutD
      rw [← h2.length, e.1, e.2, List.drop_zero, h2.length, Nat.sub_zero, List.take_length]
    rw [this] at q3
    exact put0 g3.ah hq' (d := .tup ds) (by simp only [Shr]; exact ⟨p, xs, rfl, h1, h2⟩) q3
  · simp only [Shr] at s3
    exact .inr (.inr ⟨_, s3, q3.1, put0 g3.ah hq' (d := .str _) (by simp only [Shr]) q3.2⟩)
  · exact q3.elim
end
end ZL


namespace ZL
open PySem PySem.Spec PyProof.Rows L2

/-! ### what a def promises, in data -/
abbrev ZSpec := List D → (Kd → D → Prop) → (Exn → Prop) → Prop
def spZ (G : Glob) (n : Nat) (sp : ZSpec) : Sp := fun vs H Q E => ∃ A ds Qz Ez, vs.length = n ∧ Sub A H ∧ ShrL G.K G.mg A vs ds ∧ sp ds Qz Ez ∧
  (∀ v H' A' k d fp, Gr A H A' H' → Own G.K G.mg A' H' k v d fp → Fresh H A' fp → Qz k d → Q v H') ∧ (∀ x cls dx H' A', Gr A H A' H' → ExAt G A' x cls dx → Ez x → E cls dx H')
/-- the spec speaks of n arguments -/
def ZSpec.Ar (sp : ZSpec) (n : Nat) : Prop := ∀ ds Q E, sp ds Q E → ds.length = n
/-- the name x stands for a def that keeps sp (dd: its defaults, that fill up) -/
def FnZ (G : Glob) (k : Nat) (x : Str) (n : Nat) (dd : List D) (sp : ZSpec) : Prop :=
  ∃ f fd ps ds, G.FnOk k f fd ps (spZ G n sp) ∧ G.mg x = some (.ref f) ∧ PySem.W.keepIn G.K (.ref f) = true ∧ Binds G.K fd ps ds ∧ Vals (dd.map vC) ds ∧ dd.all isC = true ∧ sp.Ar n
theorem FnZ.mono {G : Glob} {j k : Nat} {x : Str} {n : Nat} {dd : List D} {sp : ZSpec} (F : FnZ G j x n dd sp) (h : j ≤ k) : FnZ G k x n dd sp := by
  obtain ⟨f, fd, ps, ds, h1, h2⟩ := F
  exact ⟨f, fd, ps, ds, h1.mono h, h2⟩
section
variable {G : Glob} {N : List Str} {sc : Scope} {fn : Str → Bool} {W : WX} {k : Nat} {Z : Zc G N sc fn W k}
def mCall (sp : ZSpec) (dd : List D) (m : ZMA) : ZM := fun env Q E => m env (fun ds => sp (ds ++ dd) Q E) E
theorem shrL_C {K : PySem.W.Frag} {mg : Str → Option Value} {A : Hp} : ∀ {dd : List D}, dd.all isC = true → ShrL K mg A (dd.map vC) dd
  | [], _ => by simp [ShrL]
  | d :: dd, h => by
    simp only [List.all_cons, Bool.and_eq_true] at h
    simp only [List.map_cons, ShrL]
    exact ⟨shr_C h.1, shrL_C h.2⟩
theorem FnZ.ok {j : Nat} {f : Addr} {fd : FuncData} {ps : List Str} {sp : Sp} (F : G.FnOk j f fd ps sp) (i : Z.ι) : L2.FnOk (Z.X i).prog (Z.X i).w (Z.X i).K (Z.X i).mg (Z.X i).base (L2.CX (Z.X i).prog (Z.X i).w) j f fd ps sp := by
  rw [Z.hP, Z.hw, Z.hK, Z.hmg, Z.hb]; exact F
theorem ze_call {j : Nat} {x : Str} {n : Nat} {dd : List D} {sp : ZSpec} {p pos : Pos} {e : Expr} {es : List Expr} {m : ZMA} (F : FnZ G j x n dd sp) (hj : j ≤ k) (ha : ZA Z (e :: es) m) (hg : sc.names.lookup x = some .globalImplicit := by rfl)
    (hdb : (x == ("__debug__" : Str)) = false := by decide) (he : ∀ env, starEach (e :: es) env = (false, eval e env) :: starEach es env := by intro _; rfl) (hpl : ∀ env, (backTo pos (starEach es env)).any (·.1) = false := by intro _; rfl) :
    ZE Z (.Call (.Name x p) (e :: es) [] pos) (mCall sp dd m) := by
  obtain ⟨f, fd, ps, ds, h1, h2, h3, h4, h5, h6, h7⟩ := F
  obtain ⟨t, a1, a2⟩ := ha.ex
  refine ⟨_, fun i => pe_callSD (FnZ.ok h1 i) ((Z.room i).mono hj) (show (Z.X i).env.scope.names.lookup x = _ by rw [Z.hsc]; exact hg) (by rw [Z.hmg]; exact h2) (by rw [Z.hK]; exact h3) (by rw [Z.hK]; exact h4) h5 (passAt (Z.tk i)) (a1 i) hdb (he _) (hpl _), fun A H σ env Q Qz Ez h v hm hq hx => ?_⟩
  refine a2 A H σ env _ _ Ez h v hm (fun vs H1 A1 xs g1 s1 q1 => ?_) hx
  have s2 := s1.append (shrL_C (K := G.K) (mg := G.mg) (A := A1) h6)
  exact ⟨A1, xs ++ dd, Qz, Ez, by rw [s2.length]; exact h7 _ _ _ q1, g1.ah, s2, q1, fun v H2 A2 k d fp g2 o2 f2 q2 => hq v H2 A2 k d fp (g1.trans g2) o2 (f2.back g1.hh) q2, fun y cls dx H2 A2 g2 xa q2 => hx y cls dx H2 A2 (g1.trans g2) xa q2⟩
/-- f() -/
theorem ze_call0 {j : Nat} {x : Str} {n : Nat} {dd : List D} {sp : ZSpec} {p pos : Pos} (F : FnZ G j x n dd sp) (hj : j ≤ k) (hg : sc.names.lookup x = some .globalImplicit := by rfl)
    (hdb : (x == ("__debug__" : Str)) = false := by decide) : ZE Z (.Call (.Name x p) [] [] pos) (mCall sp dd mNil) := by
  obtain ⟨f, fd, ps, ds, h1, h2, h3, h4, h5, h6, h7⟩ := F
  refine ⟨tCallSD (spZ G n sp) (dd.map vC) (WE W) tNil, fun i => ⟨fun pins s σ H Q I h => ?_⟩, fun A H σ env Q Qz Ez h v hm hq hx => ?_⟩
  · refine wpAny_Call_Name_kw (ld_glob I (show (Z.X i).env.scope.names.lookup x = _ by rw [Z.hsc]; exact hg) (by rw [Z.hmg]; exact h2) ?_ hdb)
    exact PySem.W.callWith_K0 I.kIn (by rw [Z.hK]; exact h3) (run_fnSD (us := []) (FnZ.ok h1 i) ((Z.room i).mono hj) (by rw [Z.hK]; exact h4) h5 (passAt (Z.tk i) σ) I .nil h)
  · have s2 := shrL_C (K := G.K) (mg := G.mg) (A := A) h6
    exact ⟨A, dd, Qz, Ez, by rw [List.nil_append, s2.length]; exact h7 _ _ _ hm, h, s2, hm, hq, hx⟩
/-! ### fields -/
theorem ofString_inj {a b : String} (h : Str.ofString a = Str.ofString b) : a = b := by
  rw [Str.ofString_eq_toList, Str.ofString_eq_toList] at h
  have h1 : a.toList.map Char.toNat = b.toList.map Char.toNat := by
    have := congrArg (fun s => s.cps.toList) h
    simpa using this
  have h2 : ∀ l m : List Char, l.map Char.toNat = m.map Char.toNat → l = m := by
    intro l
    induction l with
    | nil => intro m h; cases m with
      | nil => rfl
      | cons _ _ => simp at h
    | cons c l ih => intro m h; cases m with
      | nil => simp at h
      | cons d m =>
        simp only [List.map_cons, List.cons.injEq] at h
        rw [ih m h.2, Char.toNat_inj.mp h.1]
  exact String.toList_inj.mp (h2 _ _ h1)
def fldD (f : String) : List String → List D → Option D
  | g :: gs, d :: ds => if f = g then some d else fldD f gs ds
  | _, _ => none
/-- of instances of the classes named -/
def mFld (cs : List String) (f : String) (m : ZM) : ZM := fun env Q E => m env (fun _ d => match d with
  | .obj c fs ds => c ∈ cs ∧ (match fldD f fs ds with
    | some x => Q .sh x
    | none => False)
  | .slf c fs ds => c ∈ cs ∧ (match fldD f fs ds with
    | some x => Q .sh x
    | none => False)
  | _ => False) E
def ClsF (G : Glob) (c f : String) : Prop := ∀ C, G.mg (Str.ofString c) = some (.ref C) → Cls G.K C ∧ NoAttr G.K C (Str.ofString f)
theorem lookup_shr {K : PySem.W.Frag} {mg : Str → Option Value} {A : Hp} {f : String} {x : D} : ∀ {fv : List (Str × V)} {fs : List String} {ds : List D}, fv.map (·.1) = fs.map Str.ofString → ShrL K mg A (fv.map (·.2)) ds → fldD f fs ds = some x → ∃ v, fv.lookup (Str.ofString f) = some v ∧ Shr K mg A v x
  | [], [], ds, _, _, h => by simp [fldD] at h
  | [], _ :: _, _, e, _, _ => by simp at e
  | _ :: _, [], _, e, _, _ => by simp at e
  | (g, v) :: fv, g' :: fs, [], e, s, _ => by simp [ShrL] at s
  | (g, v) :: fv, g' :: fs, d :: ds, e, s, h => by
    simp only [List.map_cons, ShrL] at s
    simp only [List.map_cons, List.cons.injEq] at e
    simp only [fldD] at h
    simp only [List.lookup_cons]
    by_cases hf : f = g'
    · subst hf
      rw [if_pos rfl] at h
      cases h
      have : (Str.ofString f == g) = true := by rw [e.1]; exact beq_self_eq_true _
      rw [this]
      exact ⟨v, rfl, s.1⟩
    · rw [if_neg hf] at h
      have : (Str.ofString f == g) = false := by
        rw [e.1]
        exact beq_eq_false_iff_ne.mpr fun z => hf (ofString_inj z)
      rw [this]
      exact lookup_shr e.2 s.2 h
theorem ze_fld {cs : List String} {e : Expr} {f : String} {m : ZM} {pos : Pos} (hc : ∀ c ∈ cs, ClsF G c f) (he : ZE Z e m) (hb : ∀ env, attributeBase e (Str.ofString f) env (eval e env) = eval e env := by intro _; rfl) : ZE Z (.Attribute e (Str.ofString f) pos) (mFld cs f m) := by
  obtain ⟨t, a1, a2⟩ := he.ex
  refine ⟨tFld G.K t (Str.ofString f), fun i => ?_, fun A H σ env Q Qz Ez h v hm hq hx => ?_⟩
  · have := pe_fld (pos := pos) (f := Str.ofString f) (a1 i) (hb _)
    rw [Z.hK i] at this
    exact this
  · refine a2.go h v hm (fun x H1 A1 _ d g1 s1 q1 => ?_) hx
    have fin : ∀ {a C dx : Addr} {c : String} {fv : List (Str × V)} {fs : List String} {ds : List D}, G.mg (Str.ofString c) = some (.ref C) → A1 a = some (.ins C dx fv) → fv.map (·.1) = fs.map Str.ofString → ShrL G.K G.mg A1 (fv.map (·.2)) ds → (c ∈ cs ∧ (match fldD f fs ds with
        | some x => Qz .sh x
        | none => False)) → ∃ a' C dx fs v, (V.ref a) = V.ref a' ∧ H1 a' = some (.ins C dx fs) ∧ Cls G.K C ∧ NoAttr G.K C (Str.ofString f) ∧ fs.lookup (Str.ofString f) = some v ∧ Q v H1 := fun {a C dx c fv fs ds} hC h1 h2 h3 q => by
      obtain ⟨q0, q1⟩ := q
      split at q1
      · rename_i y e
        obtain ⟨u, e1, e2⟩ := lookup_shr h2 h3 e
        obtain ⟨k1, k2⟩ := hc c q0 C hC
        exact ⟨a, C, dx, fv, u, rfl, g1.ah _ _ h1, k1, k2, e1, hq u H1 A1 .sh y [] g1 (own_sh e2) Fresh.nil q1⟩
      · exact q1.elim
    split at q1
    · simp only [Shr] at s1
      obtain ⟨a, C, dx, fv, rfl, hC, h1, h0, h2, h3⟩ := s1
      exact fin hC h1 h2 h3 q1
    · simp only [Shr] at s1
      obtain ⟨a, C, dx, fv, rfl, hC, h1, h2, h3⟩ := s1
      exact fin hC h1 h2 h3 q1
    · exact q1.elim
end

/-! ### a def by its body -/
structure Zst {G : Glob} {N : List Str} {sc : Scope} {fn : Str → Bool} {W : WX} {k : Nat} (Z : Zc G N sc fn W k) : Prop where
  po : ∀ i, PassesOwn (model (Z.X i).prog (Z.X i).w) (Z.X i).A (Z.X i).env (Z.X i).xe
  stack : ∀ i, (Z.X i).stack = (Z.X i).env :: (Z.X i).outer
  frame : ∀ i, (Z.X i).env.frame = some (Z.X i).env.locals
def env0 (N : List Str) (ds : List D) : DEnv := ds.map (fun d => some (.sh, d)) ++ List.replicate (N.length - ds.length) none
abbrev ends0 (Q : Kd → D → Prop) (E : Exn → Prop) : ZEnds := { nx := fun _ => Q .sh .non, rt := Q, bk := fun _ => False, ct := fun _ => False, ex := fun _ => E }
theorem zi_start {G : Glob} {A H : Hp} {N : List Str} {vs : List V} {ds : List D} (h : Sub A H) (s : ShrL G.K G.mg A vs ds) : ZI G A H A H (L2.start N vs) (env0 N ds) (fun _ => []) := by
  refine ⟨Gr.refl h, ?_, fun i k d e => ?_, fun _ => List.nodup_nil, fun _ _ _ a m => (by cases m), fun _ a m => (by cases m)⟩
  · unfold L2.start env0
    simp [s.length]
  · unfold env0 at e
    by_cases hi : i < ds.length
    · rw [List.getElem?_append_left (by simpa using hi), List.getElem?_map] at e
      cases q : ds[i]? with
      | none => rw [q] at e; cases e
      | some x =>
        rw [q] at e
        have e : some (some (Kd.sh, x)) = some (some (k, d)) := e
        cases e
        obtain ⟨v, e1, e2⟩ := s.get q
        refine ⟨v, ?_, own_sh e2⟩
        unfold L2.start
        rw [List.getElem?_append_left (by simp [s.length]; exact hi), List.getElem?_map, e1]
        rfl
    · rw [List.getElem?_append_right (by simpa using hi), List.getElem?_replicate] at e
      split at e <;> cases e
theorem def_ok {G : Glob} {x : Str} {params : Arguments} {body : List Stmt} {scope : Scope} {dvs : List V} {kws : List (Str × V)} {f : Addr} {fd : FuncData} {N ps : List Str} {k n : Nat} {sp : ZSpec} {w : ZMS} {dd : List D} {ds : List Value} {qual : Str}
    (F : FunD G.K x qual params body scope dvs kws f fd) (S : FnScope N ps scope) (hm : G.mg x = some (.ref f)) (hb : Binds G.K fd ps ds) (hd : Vals (dd.map vC) ds) (hc : dd.all isC = true) (hn : ps.length = n) (ar : sp.Ar n)
    (hw : ∀ (W : WX) (Z : Zc G N scope (fun _ => true) W k), Zst Z → ZSs Z body w) (hsp : ∀ ds Q E, sp ds Q E → w (env0 N ds) (ends0 Q E)) : FnZ G (k + 1) x n dd sp := by
  refine ⟨f, fd, ps, ds, FunD.ok F S (fun vs H Q E h => ?_) fun cdv A outer s H vs Q E hr h => ?_, hm, F.kp, hb, hd, hc, ar⟩
  · obtain ⟨_, _, _, _, h, _⟩ := h
    rw [hn]; exact h
  · obtain ⟨A0, xs, Qz, Ez, hl, hs, sv, hsp', hq, hx⟩ := h
    let X := cxOf (L2.CX G.P G.w) G.P G.w G.K G.mg G.base N qual scope f cdv A outer s H E
    have tk : Takes X (fun cls d _ H => E cls d H) := takes_of rfl rfl rfl rfl
    let Z : Zc G N scope (fun _ => true) (fun cls d _ H => E cls d H) k := ⟨Unit, fun _ => X, fun _ => rfl, S.nd, fun _ => rfl, fun _ => rfl, fun _ => rfl, fun _ => rfl, fun _ => rfl, fun _ => rfl, fun _ => rfl, fun _ => rfl, fun _ => hr, fun _ => tk⟩
    have st : Zst Z := ⟨fun _ => passes_of rfl, fun _ => rfl, fun _ => rfl⟩
    obtain ⟨t, a1, a2⟩ := (hw _ Z st).ex
    refine ⟨t, a1 (), a2 A0 H A0 H _ _ _ _ _ (zi_start hs sv) (hsp xs Qz Ez hsp') ⟨fun A' H' σ' env' fp' I s q => ?_, fun A' H' v k d f g o fr q => hq v H' A' k d f g o fr q, fun A' H' σ' env' fp' I s q => q.elim, fun A' H' σ' env' fp' I s q => q.elim, fun A' H' σ' env' fp' y cls dx I s xa q => hx y cls dx H' A' I.gr xa q⟩⟩
    exact hq .non H' A' .sh .non [] I.gr (own_sh (by simp [Shr])) Fresh.nil q
end ZL


namespace ZL
open PySem PySem.Spec PyProof.Rows L2

/-! ### what is walked -/
def Walks (G : Glob) (J : It) (ds : List D) (A : Hp) : Prop := ∀ A' H, Sub A A' → Sub A' H →
  (∀ i d, ds[i]? = some d → J.go i H ∧ ∀ x H', J.yld i H x H' → ∃ A2, Gr A' H A2 H' ∧ Shr G.K G.mg A2 x d) ∧ J.stop ds.length H
theorem Walks.up {G : Glob} {J : It} {ds : List D} {A A1 : Hp} (w : Walks G J ds A) (h : Sub A A1) : Walks G J ds A1 := fun A' H s k => w A' H (sub_trans h s) k
def rangeD (lo : Int) (n : Nat) : List D := (List.range n).map fun (i : Nat) => D.int (lo + (i : Int))
theorem walks_range {G : Glob} {A : Hp} (lo : Int) (n : Nat) : Walks G (Itr lo n) (rangeD lo n) A := fun A' H s k => by
  have hl : (rangeD lo n).length = n := by simp [rangeD]
  refine ⟨fun i d e => ?_, by rw [hl]; exact Nat.le_refl n⟩
  have hi : i < n := by
    rw [List.getElem?_eq_some_iff] at e
    rw [← hl]; exact e.1
  refine ⟨hi, fun x H' y => ?_⟩
  obtain ⟨e1, e2⟩ := y
  subst e1 e2
  refine ⟨A', Gr.refl k, ?_⟩
  unfold rangeD at e
  rw [List.getElem?_map, List.getElem?_range hi] at e
  cases e
  simp [Shr]
theorem walks_list {G : Glob} {A : Hp} {a : Addr} {vs : List V} {ds : List D} (h : A a = some (.lst vs)) (s : ShrL G.K G.mg A vs ds) : Walks G (Itl G.K a) ds A := fun A' H s' k => by
  refine ⟨fun i d e => ?_, ⟨vs, sqL_of k (s' _ _ h), by rw [s.length]; exact Nat.le_refl _⟩⟩
  obtain ⟨v, e1, e2⟩ := s.get e
  refine ⟨⟨vs, v, sqL_of k (s' _ _ h), e1⟩, fun x H' y => ?_⟩
  obtain ⟨y1, y2⟩ := y
  subst y1
  have := y2 vs (sqL_of k (s' _ _ h))
  rw [e1] at this; cases this
  exact ⟨A', Gr.refl k, e2.mono s'⟩
theorem walks_tup {G : Glob} {A : Hp} {a : Addr} {vs : List V} {ds : List D} (h : A a = some (.tup vs)) (s : ShrL G.K G.mg A vs ds) : Walks G (Itt G.K a) ds A := fun A' H s' k => by
  refine ⟨fun i d e => ?_, ⟨vs, sqT_of k (s' _ _ h), by rw [s.length]; exact Nat.le_refl _⟩⟩
  obtain ⟨v, e1, e2⟩ := s.get e
  refine ⟨⟨vs, v, sqT_of k (s' _ _ h), e1⟩, fun x H' y => ?_⟩
  obtain ⟨y1, y2⟩ := y
  subst y1
  have := y2 vs (sqT_of k (s' _ _ h))
  rw [e1] at this; cases this
  exact ⟨A', Gr.refl k, e2.mono s'⟩
def signsD (s : Str) : List D := s.cps.toList.map fun c => D.str ⟨#[c]⟩
theorem walks_str {G : Glob} {A : Hp} (z : Str) : Walks G (Its z) (signsD z) A := fun A' H s' k => by
  have hl : (signsD z).length = z.cps.size := by simp [signsD]
  refine ⟨fun i d e => ?_, by rw [hl]; exact Nat.le_refl _⟩
  unfold signsD at e
  rw [List.getElem?_map] at e
  cases q : z.cps.toList[i]? with
  | none => rw [q] at e; cases e
  | some c =>
    rw [q] at e
    cases e
    have hc : z.cps[i]? = some c := by rw [← Array.getElem?_toList]; exact q
    refine ⟨(Array.getElem?_eq_some_iff.mp hc).1, fun x H' y => ?_⟩
    obtain ⟨y1, c', y2, y3⟩ := y
    subst y1 y3
    rw [hc] at y2; cases y2
    exact ⟨A', Gr.refl k, by simp [Shr]⟩
theorem walks_scr {G : Glob} {A : Hp} {a : Addr} {ns : List Int} (h : SqL G.K A a (ns.map V.int)) : Walks G (Itl G.K a) (ns.map D.int) A := fun A' H s' k => by
  have h' := sqL_mono k (sqL_mono s' h)
  refine ⟨fun i d e => ?_, ⟨_, h', by simp⟩⟩
  rw [List.getElem?_map] at e
  cases q : ns[i]? with
  | none => rw [q] at e; cases e
  | some n =>
    rw [q] at e; cases e
    have e1 : (ns.map V.int)[i]? = some (V.int n) := by rw [List.getElem?_map, q]; rfl
    refine ⟨⟨_, _, h', e1⟩, fun x H' y => ?_⟩
    obtain ⟨y1, y2⟩ := y
    subst y1
    have := y2 _ h'
    rw [e1] at this; cases this
    exact ⟨A', Gr.refl k, by simp [Shr]⟩
/-- enumerate -/
def enumD (n : Nat) : List D → List D
  | [] => []
  | d :: ds => .tup [.int (n : Int), d] :: enumD (n + 1) ds
theorem enumD_get : ∀ {ds : List D} {n i : Nat} {d : D}, (enumD n ds)[i]? = some d → ∃ x, ds[i]? = some x ∧ d = .tup [.int ((n + i : Nat) : Int), x]
  | [], _, _, _, h => by simp [enumD] at h
  | e :: ds, n, 0, d, h => by
    simp only [enumD, List.getElem?_cons_zero, Option.some.injEq] at h
    exact ⟨e, rfl, by rw [← h]; simp⟩
  | e :: ds, n, i + 1, d, h => by
    simp only [enumD, List.getElem?_cons_succ] at h
    obtain ⟨x, h1, h2⟩ := enumD_get h
    exact ⟨x, by simpa using h1, by rw [h2]; congr 4; omega⟩
theorem enumD_len : ∀ (ds : List D) (n : Nat), (enumD n ds).length = ds.length
  | [], _ => rfl
  | d :: ds, n => by simp [enumD, enumD_len ds]
theorem walks_enum {G : Glob} {A : Hp} {a : Addr} {vs : List V} {ds : List D} (h : A a = some (.lst vs)) (s : ShrL G.K G.mg A vs ds) : Walks G (Ite G.K a) (enumD 0 ds) A := fun A' H s' k => by
  refine ⟨fun i d e => ?_, ⟨vs, sqL_of k (s' _ _ h), by rw [enumD_len, s.length]; exact Nat.le_refl _⟩⟩
  obtain ⟨x, e0, e3⟩ := enumD_get e
  obtain ⟨v, e1, e2⟩ := s.get e0
  refine ⟨⟨vs, v, sqL_of k (s' _ _ h), e1⟩, fun y H' q => ?_⟩
  obtain ⟨T, u, q1, q2, q3, q4⟩ := q
  subst q1 q3
  have := q4 vs (sqL_of k (s' _ _ h))
  rw [e1] at this; cases this
  refine ⟨_, Gr.lay (o := .tup [.int i, v]) k q2, ?_⟩
  subst e3
  simp only [Shr, ShrL]
  exact ⟨T, _, rfl, upd_same, by simp [Shr], (e2.mono s').mono (Gr.lay (o := .tup [.int i, v]) k q2).aa, trivial⟩
/-- the items of a datum -/
def itemsD : D → Option (List D)
  | .lst ds => some ds
  | .tup ds => some ds
  | .str s => some (signsD s)
  | .scr ns => some (ns.map D.int)
  | _ => none

abbrev ZMI := SEnv → (List D → Prop) → (Exn → Prop) → Prop
abbrev ZMIV := DEnv → (DEnv → List D → Prop) → (Exn → Prop) → Prop
def SndI (G : Glob) (W : WX) (wi : TI) (m : ZMI) : Prop := ∀ A H σ env (R : It → Hp → Prop) Qz Ez, Sub A H → View G A σ env → m env Qz Ez →
  (∀ J H' A' ds, Gr A H A' H' → Walks G J ds A' → Qz ds → R J H') → Esc G W A H σ Ez → wi σ H R
def SndIV (G : Glob) (W : WX) (wi : TI) (m : ZMIV) : Prop := ∀ A0 H0 A H σ env fp (R : It → Hp → Prop) Qz Ez, ZI G A0 H0 A H σ env fp → m env Qz Ez →
  (∀ J H' A' env' fp' ds, ZI G A0 H0 A' H' σ env' fp' → Sub A A' → Walks G J ds A' → Qz env' ds → R J H') → EscV G W A0 H0 A σ env fp Ez → wi σ H R
theorem pi_or {X : Cx} {tg it : Expr} {a b : TI} (h : PI X tg it a) (k : PI X tg it b) : PI X tg it (fun σ H R => a σ H R ∨ b σ H R) := by
  refine ⟨fun pins s σ H R I q => ?_⟩
  rcases q with q | q
  · exact h.run pins s σ H R I q
  · exact k.run pins s σ H R I q
section
variable {G : Glob} {N : List Str} {sc : Scope} {fn : Str → Bool} {W : WX} {k : Nat}
structure ZIE (Z : Zc G N sc fn W k) (tg it : Expr) (m : ZMI) : Prop where
  ex : ∃ wi, (∀ i, PI (Z.X i) tg it wi) ∧ SndI G W wi m
structure ZIV (Z : Zc G N sc fn W k) (tg it : Expr) (m : ZMIV) : Prop where
  ex : ∃ wi, (∀ i, PI (Z.X i) tg it wi) ∧ SndIV G W wi m
variable {Z : Zc G N sc fn W k}
def oRng1 (ds : List D) (Q : List D → Prop) : Prop := match ds with
  | [.int n] => (-(2 ^ 62) ≤ n ∧ n < 2 ^ 62) ∧ Q (rangeD 0 n.toNat)
  | _ => False
def oRng2 (ds : List D) (Q : List D → Prop) : Prop := match ds with
  | [.int a, .int b] => (-(2 ^ 62) ≤ a ∧ a < 2 ^ 62 ∧ -(2 ^ 62) ≤ b ∧ b < 2 ^ 62) ∧ Q (rangeD a (b - a).toNat)
  | _ => False
def mRng (o : List D → (List D → Prop) → Prop) (m : ZMA) : ZMI := fun env Q E => m env (fun ds => o ds Q) E
def mRngV (o : List D → (List D → Prop) → Prop) (m : ZMA) : ZMIV := fun env Q E => m (vw env) (fun ds => o ds (Q env)) (fun x => clnX x = true ∧ E x)
theorem zie_range1 {tg a : Expr} {m : ZMA} {p pos : Pos} (hm : Free G "range") (ha : ZA Z [a] m) (hg : sc.names.lookup ("range" : Str) = some .globalImplicit := by rfl) (hs : ∀ env, starEach [a] env = [(false, eval a env)] := by intro _; rfl) : ZIE Z tg (.Call (.Name "range" p) [a] [] pos) (mRng oRng1 m) := by
  obtain ⟨t, a1, a2⟩ := ha.ex
  refine ⟨_, fun i => pi_range1 (show (Z.X i).env.scope.names.lookup _ = _ by rw [Z.hsc]; exact hg) (by rw [Z.hmg]; exact hm) (a1 i) (hs _), fun A H σ env R Qz Ez h v hm' hq he => ?_⟩
  refine a2 A H σ env _ _ Ez h v hm' (fun vs H1 A1 ds g1 s1 q1 => ?_) he
  unfold oRng1 at q1
  split at q1
  · rename_i n
    obtain ⟨u, rfl, s⟩ := shrL1 s1
    simp only [Shr] at s
    subst s
    exact ⟨n, rfl, q1.1.1, q1.1.2, hq _ H1 A1 _ g1 (walks_range 0 n.toNat) q1.2⟩
  · exact q1.elim
theorem zie_range2 {tg a b : Expr} {m : ZMA} {p pos : Pos} (hm : Free G "range") (ha : ZA Z [a, b] m) (hg : sc.names.lookup ("range" : Str) = some .globalImplicit := by rfl) (hs : ∀ env, starEach [a, b] env = [(false, eval a env), (false, eval b env)] := by intro _; rfl) (hs2 : ∀ env, starEach [b] env = [(false, eval b env)] := by intro _; rfl) :
    ZIE Z tg (.Call (.Name "range" p) [a, b] [] pos) (mRng oRng2 m) := by
  obtain ⟨t, a1, a2⟩ := ha.ex
  refine ⟨_, fun i => pi_range2 (show (Z.X i).env.scope.names.lookup _ = _ by rw [Z.hsc]; exact hg) (by rw [Z.hmg]; exact hm) (a1 i) (hs _) (hs2 _), fun A H σ env R Qz Ez h v hm' hq he => ?_⟩
  refine a2 A H σ env _ _ Ez h v hm' (fun vs H1 A1 ds g1 s1 q1 => ?_) he
  unfold oRng2 at q1
  split at q1
  · rename_i a b
    obtain ⟨u, w, rfl, s, s'⟩ := shrL2 s1
    simp only [Shr] at s s'
    subst s s'
    exact ⟨a, b, rfl, q1.1, hq _ H1 A1 _ g1 (walks_range a _) q1.2⟩
  · exact q1.elim
theorem sndIV_range1 {t : TA} {m : ZMA} (a2 : SndA G W t m) : SndIV G W (iRng1 t) (mRngV oRng1 m) := fun A0 H0 A H σ env fp R Qz Ez I hm hq he => by
  obtain ⟨A1, s1, s2, v1, back⟩ := I.lend
  refine a2 A1 H σ (vw env) _ _ _ s2 v1 hm (fun vs H' A' ds g1 sv q1 => ?_) fun x cls dx H' A' g xa q => ?_
  · obtain ⟨A3, g3, c3, n3⟩ := back A' H' g1
    unfold oRng1 at q1
    split at q1
    · rename_i n
      obtain ⟨u, rfl, s⟩ := shrL1 sv
      simp only [Shr] at s
      subst s
      exact ⟨n, rfl, q1.1.1, q1.1.2, hq _ H' A3 env fp _ (I.grow g3) g3.aa (walks_range 0 n.toNat) q1.2⟩
    · exact q1.elim
  · obtain ⟨A3, g3, c3, n3⟩ := back A' H' g
    exact he x cls dx H' A3 (I.grow g3) g3.aa (xa.cl c3 q.1) q.2
theorem sndIV_range2 {t : TA} {m : ZMA} (a2 : SndA G W t m) : SndIV G W (iRng2 t) (mRngV oRng2 m) := fun A0 H0 A H σ env fp R Qz Ez I hm hq he => by
  obtain ⟨A1, s1, s2, v1, back⟩ := I.lend
  refine a2 A1 H σ (vw env) _ _ _ s2 v1 hm (fun vs H' A' ds g1 sv q1 => ?_) fun x cls dx H' A' g xa q => ?_
  · obtain ⟨A3, g3, c3, n3⟩ := back A' H' g1
    unfold oRng2 at q1
    split at q1
    · rename_i a b
      obtain ⟨u, w, rfl, s, s'⟩ := shrL2 sv
      simp only [Shr] at s s'
      subst s s'
      exact ⟨a, b, rfl, q1.1, hq _ H' A3 env fp _ (I.grow g3) g3.aa (walks_range a _) q1.2⟩
    · exact q1.elim
  · obtain ⟨A3, g3, c3, n3⟩ := back A' H' g
    exact he x cls dx H' A3 (I.grow g3) g3.aa (xa.cl c3 q.1) q.2
theorem ziv_range1 {tg a : Expr} {m : ZMA} {p pos : Pos} (hm : Free G "range") (ha : ZA Z [a] m) (hg : sc.names.lookup ("range" : Str) = some .globalImplicit := by rfl) (hs : ∀ env, starEach [a] env = [(false, eval a env)] := by intro _; rfl) : ZIV Z tg (.Call (.Name "range" p) [a] [] pos) (mRngV oRng1 m) := by
  obtain ⟨t, a1, a2⟩ := ha.ex
  exact ⟨_, fun i => pi_range1 (show (Z.X i).env.scope.names.lookup _ = _ by rw [Z.hsc]; exact hg) (by rw [Z.hmg]; exact hm) (a1 i) (hs _), sndIV_range1 a2⟩
theorem ziv_range2 {tg a b : Expr} {m : ZMA} {p pos : Pos} (hm : Free G "range") (ha : ZA Z [a, b] m) (hg : sc.names.lookup ("range" : Str) = some .globalImplicit := by rfl) (hs : ∀ env, starEach [a, b] env = [(false, eval a env), (false, eval b env)] := by intro _; rfl) (hs2 : ∀ env, starEach [b] env = [(false, eval b env)] := by intro _; rfl) :
    ZIV Z tg (.Call (.Name "range" p) [a, b] [] pos) (mRngV oRng2 m) := by
  obtain ⟨t, a1, a2⟩ := ha.ex
  exact ⟨_, fun i => pi_range2 (show (Z.X i).env.scope.names.lookup _ = _ by rw [Z.hsc]; exact hg) (by rw [Z.hmg]; exact hm) (a1 i) (hs _) (hs2 _), sndIV_range2 a2⟩

theorem kpi {tg it : Expr} (wi : PySem.W.Frag → TI) (h : ∀ i, PI (Z.X i) tg it (wi (Z.X i).K)) (i : Z.ι) : PI (Z.X i) tg it (wi G.K) := by
  have := h i
  rw [Z.hK i] at this
  exact this
def tItems (K : PySem.W.Frag) (t : TE) : TI := fun σ H R => iList K t σ H R ∨ (iTup K t σ H R ∨ iStr t σ H R)
theorem pi_items {tg it : Expr} {t : TE} (h : ∀ i, PE (Z.X i) it t) (i : Z.ι) : PI (Z.X i) tg it (tItems G.K t) :=
  pi_or (kpi (fun K => iList K t) (fun i => pi_list (h i)) i) (pi_or (kpi (fun K => iTup K t) (fun i => pi_tup (h i)) i) (pi_str (h i)))
/-- the walk over a shared datum; iList, iTup and iStr each run the expression: the choice is made by what it will be. So the expression's kind is asked ahead -/
def mItems (ok : D → Option (List D)) (m : ZM) : ZMI := fun env Q E => m env (fun _ d => match ok d with
  | some ds => Q ds
  | none => False) E
def okL : D → Option (List D)
  | .lst ds => some ds
  | .scr ns => some (ns.map D.int)
  | _ => none
def okT : D → Option (List D)
  | .tup ds => some ds
  | _ => none
def okS : D → Option (List D)
  | .str s => some (signsD s)
  | _ => none
theorem snd_itemsL {t : TE} {m : ZM} (s : Snd G W t m) : SndI G W (iList G.K t) (mItems okL m) := fun A H σ env R Qz Ez h v hm hq he =>
  s.go h v hm (fun x H1 A1 _ d g1 s1 q1 => by
    cases d with
    | lst ds =>
      simp only [Shr] at s1
      obtain ⟨a, vs, rfl, h1, h2⟩ := s1
      exact ⟨a, rfl, ⟨vs, sqL_of g1.ah h1⟩, hq _ H1 A1 _ g1 (walks_list h1 h2) q1⟩
    | scr ns =>
      simp only [Shr] at s1
      obtain ⟨a, rfl, h1⟩ := s1
      exact ⟨a, rfl, ⟨_, sqL_mono g1.ah h1⟩, hq _ H1 A1 _ g1 (walks_scr h1) q1⟩
    | _ => exact q1.elim) he
theorem snd_itemsT {t : TE} {m : ZM} (s : Snd G W t m) : SndI G W (iTup G.K t) (mItems okT m) := fun A H σ env R Qz Ez h v hm hq he =>
  s.go h v hm (fun x H1 A1 _ d g1 s1 q1 => by
    cases d with
    | tup ds =>
      simp only [Shr] at s1
      obtain ⟨a, vs, rfl, h1, h2⟩ := s1
      exact ⟨a, rfl, ⟨vs, sqT_of g1.ah h1⟩, hq _ H1 A1 _ g1 (walks_tup h1 h2) q1⟩
    | _ => exact q1.elim) he
theorem snd_itemsS {t : TE} {m : ZM} (s : Snd G W t m) : SndI G W (iStr t) (mItems okS m) := fun A H σ env R Qz Ez h v hm hq he =>
  s.go h v hm (fun x H1 A1 _ d g1 s1 q1 => by
    cases d with
    | str z =>
      simp only [Shr] at s1
      exact ⟨z, s1, hq _ H1 A1 _ g1 (walks_str z) q1⟩
    | _ => exact q1.elim) he
theorem zie_list {tg it : Expr} {m : ZM} (h : ZE Z it m) : ZIE Z tg it (mItems okL m) := by
  obtain ⟨t, a1, a2⟩ := h.ex
  exact ⟨_, fun i => kpi (fun K => iList K t) (fun i => pi_list (a1 i)) i, snd_itemsL a2⟩
theorem zie_tup {tg it : Expr} {m : ZM} (h : ZE Z it m) : ZIE Z tg it (mItems okT m) := by
  obtain ⟨t, a1, a2⟩ := h.ex
  exact ⟨_, fun i => kpi (fun K => iTup K t) (fun i => pi_tup (a1 i)) i, snd_itemsT a2⟩
theorem zie_str {tg it : Expr} {m : ZM} (h : ZE Z it m) : ZIE Z tg it (mItems okS m) := by
  obtain ⟨t, a1, a2⟩ := h.ex
  exact ⟨_, fun i => pi_str (a1 i), snd_itemsS a2⟩
/-- either a list or a tuple -/
theorem zie_or {tg it : Expr} {m m' : ZMI} (h : ZIE Z tg it m) (h' : ZIE Z tg it m') : ZIE Z tg it (fun env Q E => m env Q E ∨ m' env Q E) := by
  obtain ⟨t, a1, a2⟩ := h.ex
  obtain ⟨t', b1, b2⟩ := h'.ex
  refine ⟨_, fun i => pi_or (a1 i) (b1 i), fun A H σ env R Qz Ez h v hm hq he => ?_⟩
  rcases hm with hm | hm
  · exact .inl (a2 A H σ env R Qz Ez h v hm hq he)
  · exact .inr (b2 A H σ env R Qz Ez h v hm hq he)
def mEnum (m : ZMA) : ZMI := fun env Q E => m env (fun ds => match ds with
  | [.lst xs] => Q (enumD 0 xs)
  | _ => False) E
theorem zie_enum {elts : List Expr} {kk : Nat} {tpos : Pos} {a : Expr} {m : ZMA} {p pos : Pos} (hm : Free G "enumerate") (ha : ZA Z [a] m) (hg : sc.names.lookup ("enumerate" : Str) = some .globalImplicit := by rfl) (hs : ∀ env, starEach [a] env = [(false, eval a env)] := by intro _; rfl) :
    ZIE Z (.Tuple elts kk tpos) (.Call (.Name "enumerate" p) [a] [] pos) (mEnum m) := by
  obtain ⟨t, a1, a2⟩ := ha.ex
  refine ⟨iEnum G.K t, fun i => kpi (fun K => iEnum K t) (fun i => pi_enum (show (Z.X i).env.scope.names.lookup _ = _ by rw [Z.hsc]; exact hg) (by rw [Z.hmg]; exact hm) (a1 i) (hs _)) i, fun A H σ env R Qz Ez h v hm' hq he => ?_⟩
  refine a2 A H σ env _ _ Ez h v hm' (fun vs H1 A1 ds g1 s1 q1 => ?_) he
  split at q1
  · obtain ⟨u, rfl, s⟩ := shrL1 s1
    simp only [Shr] at s
    obtain ⟨a, xs, rfl, h1, h2⟩ := s
    exact ⟨a, xs, rfl, sqL_of g1.ah h1, hq _ H1 A1 _ g1 (walks_enum h1 h2) q1⟩
  · exact q1.elim
/-- in a statement: what is walked is shared, or made here -/
def mIV (m : ZMI) : ZMIV := fun env Q E => m (vs env) (fun ds => Q env ds) E
theorem ziv_S {tg it : Expr} {m : ZMI} (h : ZIE Z tg it m) : ZIV Z tg it (mIV m) := by
  obtain ⟨t, a1, a2⟩ := h.ex
  refine ⟨t, a1, fun A0 H0 A H σ env fp R Qz Ez I hm hq he => ?_⟩
  refine a2 A H σ (vs env) R _ _ I.sub I.view hm (fun J H' A' ds g w q => ?_) fun x cls dx H' A' g xa q => ?_
  · exact hq J H' A' env fp ds (I.grow g) g.aa w q
  · exact he x cls dx H' A' (I.grow g) g.aa xa q

/-! ### targets -/
abbrev ZMG := D → DEnv → (DEnv → Prop) → Prop
def SndG (G : Glob) (g : TG) (m : ZMG) : Prop := ∀ A0 H0 A H σ env fp x d (Q : L2.St → Hp → Prop) Qz, ZI G A0 H0 A H σ env fp → Shr G.K G.mg A x d → m d env Qz →
  (∀ σ' env' fp', ZI G A0 H0 A H σ' env' fp' → Qz env' → Q σ' H) → g x σ H Q
structure ZG (Z : Zc G N sc fn W k) (tg : Expr) (m : ZMG) : Prop where
  ex : ∃ g, (∀ i, PG (Z.X i) tg g) ∧ SndG G g m
abbrev ZMGs := List D → DEnv → (DEnv → Prop) → Prop
def SndGs (G : Glob) (g : TGs) (m : ZMGs) : Prop := ∀ A0 H0 A H σ env fp xs ds (Q : L2.St → Hp → Prop) Qz, ZI G A0 H0 A H σ env fp → ShrL G.K G.mg A xs ds → m ds env Qz →
  (∀ σ' env' fp', ZI G A0 H0 A H σ' env' fp' → Qz env' → Q σ' H) → g xs σ H Q
structure ZGs (Z : Zc G N sc fn W k) (tg : List Expr) (m : ZMGs) : Prop where
  ex : ∃ g, (∀ i, PGs (Z.X i) tg g) ∧ SndGs G g m
def gN (i : Nat) : ZMG := fun d env Q => i < env.length ∧ Q (env.set i (some (.sh, d)))
theorem zg_name (i : Nat) {x : Str} {pos : Pos} (hi : N[i]? = some x := by rfl) (hx : Loc sc x := by first | exact Or.inl rfl | exact Or.inr rfl) (hf : fn x = true ∨ sc.names.lookup x = some .local := by first | exact .inl rfl | exact .inr rfl) : ZG Z (.Name x pos) (gN i) := by
  refine ⟨_, fun j => pg_name (by rw [Z.hN]; exact Z.nd) (by rw [Z.hN]; exact hi) (by rw [Z.hsc]; exact hx) (by rw [Z.hfn, Z.hsc]; exact hf), fun A0 H0 A H σ env fp x d Q Qz I s hm hq => ?_⟩
  exact hq _ _ _ (I.put (own_sh s) ⟨List.nodup_nil, fun a m => by cases m⟩ hm.1) hm.2
def gNil' : ZMGs := fun ds env Q => ds = [] ∧ Q env
def gCons' (a : ZMG) (b : ZMGs) : ZMGs := fun ds env Q => match ds with
  | d :: r => a d env (fun env' => b r env' Q)
  | [] => False
theorem zgs_nil : ZGs Z [] gNil' := ⟨_, fun _ => pgs_nil, fun A0 H0 A H σ env fp xs ds Q Qz I s hm hq => by
  obtain ⟨e, hm⟩ := hm
  subst e
  cases xs with
  | nil => exact ⟨rfl, hq _ _ _ I hm⟩
  | cons _ _ => simp [ShrL] at s⟩
theorem zgs_cons {e : Expr} {es : List Expr} {a : ZMG} {b : ZMGs} (h1 : ZG Z e a) (h2 : ZGs Z es b) (hs : ∀ env, (assignEach (e :: es) env).map (·.2) = assign e env :: (assignEach es env).map (·.2) := by intro _; rfl) : ZGs Z (e :: es) (gCons' a b) := by
  obtain ⟨g, a1, a2⟩ := h1.ex
  obtain ⟨g', b1, b2⟩ := h2.ex
  refine ⟨_, fun i => pgs_cons (a1 i) (b1 i) (hs _), fun A0 H0 A H σ env fp xs ds Q Qz I s hm hq => ?_⟩
  cases ds with
  | nil => exact hm.elim
  | cons d r =>
    cases xs with
    | nil => simp [ShrL] at s
    | cons x xr =>
      simp only [ShrL] at s
      exact ⟨x, xr, rfl, a2 A0 H0 A H σ env fp x d _ _ I s.1 hm fun σ' env' fp' I' q => b2 A0 H0 A H σ' env' fp' xr r _ _ I' s.2 q hq⟩
def gT (n : Nat) (m : ZMGs) : ZMG := fun d env Q => match d with
  | .tup ds => ds.length = n ∧ m ds env Q
  | _ => False
theorem zg_tup {es : List Expr} {kk : Nat} {m : ZMGs} {n : Nat} {pos : Pos} (h : ZGs Z es m) (hn : ∀ env, (assignEach es env).length = n := by intro _; rfl) (hst : ∀ env, (assignEach es env).findIdx? (·.1) = none := by intro _; rfl) : ZG Z (.Tuple es kk pos) (gT n m) := by
  obtain ⟨g, a1, a2⟩ := h.ex
  refine ⟨gTup G.K n g, fun i => ?_, fun A0 H0 A H σ env fp x d Q Qz I s hm hq => ?_⟩
  · have := pg_tup (pos := pos) (k := kk) (Z.calm i) (a1 i) (hn _) (hst _)
    rw [Z.hK i] at this
    exact this
  · unfold gT at hm
    split at hm
    · simp only [Shr] at s
      obtain ⟨a, xs, rfl, h1, h2⟩ := s
      exact ⟨a, xs, rfl, sqT_of I.sub h1, by rw [h2.length]; exact hm.1, a2 A0 H0 A H σ env fp xs _ Q Qz I h2 hm.2 hq⟩
    · exact hm.elim
/-- a target = a value that is shared from then on -/
theorem freezeV {A0 H0 A H : Hp} {σ : L2.St} {env : DEnv} {fp : Nat → List Addr} {f : List Addr} (I : ZI G A0 H0 A H σ env fp) (fr : FreshV H0 A H fp f) : ∃ A2, ZI G A0 H0 A2 H σ env fp ∧ Sub A A2 ∧ ∀ a ∈ f, A2 a = H a := by
  classical
  have hA : ∀ a ∈ f, A a = none := fun a m => (fr.2 a m).2.1
  refine ⟨fun a => if a ∈ f then H a else A a, ⟨⟨fun a o e => ?_, fun a o e => ?_, I.gr.hh, fun a e n => ?_⟩, I.len, fun i k d e => ?_, I.nd, I.dis, fun i a m => ⟨?_, (I.own i a m).2⟩⟩, fun a o e => ?_, fun a m => by simp [m]⟩
  · show (if a ∈ f then H a else A a) = some o
    have := I.gr.aa a o e
    by_cases m : a ∈ f
    · rw [hA a m] at this; cases this
    · rw [if_neg m]; exact this
  · have e : (if a ∈ f then H a else A a) = some o := e
    by_cases m : a ∈ f
    · rw [if_pos m] at e; exact e
    · rw [if_neg m] at e; exact I.gr.ah a o e
  · have n : (if a ∈ f then H a else A a) ≠ none := n
    by_cases m : a ∈ f
    · exact (fr.2 a m).1
    · rw [if_neg m] at n; exact I.gr.nw a e n
  · obtain ⟨v, e1, e2⟩ := I.at_ i k d e
    refine ⟨v, e1, e2.mono (fun a o q => ?_) fun _ _ => rfl⟩
    show (if a ∈ f then H a else A a) = some o
    by_cases m : a ∈ f
    · rw [hA a m] at q; cases q
    · rw [if_neg m]; exact q
  · show (if a ∈ f then H a else A a) = none
    by_cases z : a ∈ f
    · exact absurd m ((fr.2 a z).2.2.2 i)
    · rw [if_neg z]; exact (I.own i a m).1
  · show (if a ∈ f then H a else A a) = some o
    by_cases m : a ∈ f
    · rw [hA a m] at e; cases e
    · rw [if_neg m]; exact e
def wAsg (e : ZMV) (g : ZMG) : ZMS := fun env Z => e env (fun env' _ d => g d env' Z.nx) (Z.ex env)
theorem zs_asg {tg e : Expr} {m : ZMV} {g : ZMG} {pos : Pos} (he : ZV Z e m) (hg : ZG Z tg g) (hs : ∀ env, swapsWithSole [tg] e pos.line env = pure false := by intro _; rfl) (hw : ∀ env, swappedStores [tg] e env = pure none := by intro _; rfl)
    (h1 : ∀ env, (assignEach [tg] env).map (·.2) = [assign tg env] := by intro _; rfl) : ZS Z (.Assign [tg] e pos) (wAsg m g) := by
  obtain ⟨t, a1, a2⟩ := he.ex
  obtain ⟨tg, b1, b2⟩ := hg.ex
  refine ⟨_, fun i => ps_asg (a1 i) (b1 i) (hs _) (hw _) (h1 _), fun A0 H0 A H σ env fp D Zz I w mm => ?_⟩
  refine a2 A0 H0 A H σ env fp _ _ _ I w (fun v H' A' env' fp' k d f I' s o fr q => ?_) fun x cls dx H' A' I' s xa q => mm.ex A' H' σ env fp x cls dx I' s xa q
  obtain ⟨A2, I2, s2, e2⟩ := freezeV I' fr
  exact b2 A0 H0 A2 H' σ env' fp' v d _ _ I2 (o.shr s2 e2) q fun σ' env2 fp2 I3 q3 => mm.nx A2 H' σ' env2 fp2 I3 (sub_trans s s2) q3

/-! ### for, while -/
def wForL (g : ZMG) (b : ZMS) : List D → DEnv → ZEnds → Prop
  | [], env, Z => Z.nx env
  | d :: ds, env, Z => g d env (fun env' => b env' { nx := fun e => wForL g b ds e Z, rt := Z.rt, bk := Z.nx, ct := fun e => wForL g b ds e Z, ex := Z.ex })
def wFor (it : ZMIV) (g : ZMG) (b : ZMS) : ZMS := fun env Z => it env (fun env' ds => wForL g b ds env' Z) (Z.ex env)
theorem zs_for {tg iter : Expr} {body : List Stmt} {mi : ZMIV} {g : ZMG} {b : ZMS} {pos : Pos} (T : Zst Z) (hi : ZIV Z tg iter mi) (hg : ZG Z tg g) (hb : ZSs Z body b) (hs : ∀ env x, foldedSetIterable iter env x = pure x := by intro _ _; rfl) : ZS Z (.For tg iter body [] pos) (wFor mi g b) := by
  obtain ⟨wi, i1, i2⟩ := hi.ex
  obtain ⟨tg, g1, g2⟩ := hg.ex
  obtain ⟨tb, b1, b2⟩ := hb.ex
  refine ⟨_, fun i => ps_for (T.po i) (Z.calm i) (i1 i) (g1 i) (b1 i) (hs _), fun A0 H0 A H σ env fp D Zz I w mm => ?_⟩
  refine i2 A0 H0 A H σ env fp _ _ _ I w (fun J H1 A1 env1 fp1 ds I1 s1 W q => ?_) fun x cls dx H' A' I' s xa q => mm.ex A' H' σ env fp x cls dx I' s xa q
  refine ⟨fun i m σ' H' => m + i = ds.length ∧ ∃ A' env' fp', ZI G A0 H0 A' H' σ' env' fp' ∧ Sub A1 A' ∧ wForL g b (ds.drop i) env' Zz, ⟨ds.length, rfl, A1, env1, fp1, I1, sub_refl, by simpa using q⟩, ?_⟩
  rintro i m σ2 H2 ⟨hm, A2, env2, fp2, I2, s2, q2⟩
  obtain ⟨w1, w2⟩ := W A2 H2 s2 I2.sub
  by_cases hi : i < ds.length
  · obtain ⟨d, hd⟩ : ∃ d, ds[i]? = some d := ⟨ds[i], by simp [hi]⟩
    have hdrop : ds.drop i = d :: ds.drop (i + 1) := by
      rw [List.drop_eq_getElem_cons hi]
      congr 1
      rw [List.getElem?_eq_getElem hi] at hd
      exact Option.some.inj hd
    rw [hdrop] at q2
    obtain ⟨go, y⟩ := w1 i d hd
    refine .inr ⟨go, fun σ' H' => ∃ A' env' fp', ZI G A0 H0 A' H' σ' env' fp' ∧ Sub A1 A' ∧ wForL g b (ds.drop (i + 1)) env' Zz, fun σ' H' ⟨A', env', fp', I', s', q'⟩ => ⟨m - 1, by omega, by omega, A', env', fp', I', s', q'⟩, fun x H3 hy => ?_⟩
    obtain ⟨A3, g3, sx⟩ := y x H3 hy
    refine g2 A0 H0 A3 H3 σ2 env2 fp2 x d _ _ (I2.grow g3) sx q2 fun σ' env' fp' I' q' => ?_
    have s3 := sub_trans s2 g3.aa
    refine b2 A0 H0 A3 H3 σ' env' fp' _ _ I' q' ⟨fun A' H' σ4 env4 fp4 I4 s4 q4 => ⟨A', env4, fp4, I4, sub_trans s3 s4, q4⟩, mm.rt, fun A' H' σ4 env4 fp4 I4 s4 q4 => mm.nx A' H' σ4 env4 fp4 I4 (sub_trans s1 (sub_trans s3 s4)) q4,
      fun A' H' σ4 env4 fp4 I4 s4 q4 => ⟨A', env4, fp4, I4, sub_trans s3 s4, q4⟩, fun A' H' σ4 env4 fp4 x cls dx I4 s4 xa q4 => mm.ex A' H' σ4 env4 fp4 x cls dx I4 (sub_trans s1 (sub_trans s3 s4)) xa q4⟩
  · have hi : i = ds.length := by omega
    subst hi
    rw [List.drop_length] at q2
    exact .inl ⟨w2, mm.nx A2 H2 σ2 env2 fp2 I2 (sub_trans s1 s2) q2⟩
def wWhl (c : ZMVT) (b : ZMS) : Nat → DEnv → ZEnds → Prop
  | 0, _, _ => False
  | n + 1, env, Z => c env (fun x => if x = true then b env { nx := fun e => wWhl c b n e Z, rt := Z.rt, bk := Z.nx, ct := fun e => wWhl c b n e Z, ex := Z.ex } else Z.nx env) (Z.ex env)
def wWhile (c : ZMVT) (b : ZMS) : ZMS := fun env Z => ∃ n, wWhl c b n env Z
theorem zs_while {c : Expr} {body : List Stmt} {mc : ZMVT} {b : ZMS} {pos : Pos} (T : Zst Z) (hc : ZVT Z c mc) (hb : ZSs Z body b) : ZS Z (.While c body [] pos) (wWhile mc b) := by
  obtain ⟨tc, c1, c2⟩ := hc.ex
  obtain ⟨tb, b1, b2⟩ := hb.ex
  refine ⟨_, fun i => ps_while (T.po i) (c1 i) (b1 i), fun A0 H0 A H σ env fp D Zz I w mm => ?_⟩
  obtain ⟨n, w⟩ := w
  refine ⟨fun m σ' H' => ∃ A' env' fp', ZI G A0 H0 A' H' σ' env' fp' ∧ Sub A A' ∧ wWhl mc b m env' Zz, ⟨n, A, env, fp, I, sub_refl, w⟩, ?_⟩
  rintro m σ1 H1 ⟨A1, env1, fp1, I1, s1, w1⟩
  cases m with
  | zero => exact w1.elim
  | succ m =>
    refine c2 A0 H0 A1 H1 σ1 env1 fp1 _ _ _ I1 w1 (fun x H2 A2 I2 s2 q2 => ?_) fun x cls dx H' A' I' s xa q => mm.ex A' H' σ1 env1 fp1 x cls dx I' (sub_trans s1 s) xa q
    have s12 := sub_trans s1 s2
    cases x with
    | true =>
      simp only [if_true] at q2 ⊢
      refine ⟨fun σ' H' => ∃ A' env' fp', ZI G A0 H0 A' H' σ' env' fp' ∧ Sub A A' ∧ wWhl mc b m env' Zz, fun σ' H' h => ⟨m, Nat.lt_succ_self m, h⟩, ?_⟩
      exact b2 A0 H0 A2 H2 σ1 env1 fp1 _ _ I2 q2 ⟨fun A' H' σ4 env4 fp4 I4 s4 q4 => ⟨A', env4, fp4, I4, sub_trans s12 s4, q4⟩, mm.rt, fun A' H' σ4 env4 fp4 I4 s4 q4 => mm.nx A' H' σ4 env4 fp4 I4 (sub_trans s12 s4) q4,
        fun A' H' σ4 env4 fp4 I4 s4 q4 => ⟨A', env4, fp4, I4, sub_trans s12 s4, q4⟩, fun A' H' σ4 env4 fp4 x cls dx I4 s4 xa q4 => mm.ex A' H' σ4 env4 fp4 x cls dx I4 (sub_trans s12 s4) xa q4⟩
    | false =>
      simp only [Bool.false_eq_true, if_false] at q2 ⊢
      exact mm.nx A2 H2 σ1 env1 fp1 I2 s12 q2
end
end ZL


namespace ZL
open PySem PySem.Spec PyProof.Rows L2

section
variable {G : Glob} {N : List Str} {sc : Scope} {fn : Str → Bool} {W : WX} {k : Nat} {Z : Zc G N sc fn W k}
/-- slot i's value is changed in place: the object at a, which slot i owns -/
theorem ZI.mut {A0 H0 A H : Hp} {σ : L2.St} {env : DEnv} {fp : Nat → List Addr} (I : ZI G A0 H0 A H σ env fp) {i : Nat} {kk : Kd} {v : V} {d : D} {a : Addr} {o : HO} {f : List Addr} (hi : i < env.length) (ha : a ∈ fp i) (hv : σ[i]? = some (some v))
    (hO : Own G.K G.mg A (upd H a o) kk v d f) (hf : f.Nodup) (hff : ∀ b ∈ f, A b = none ∧ H0 b = none ∧ (upd H a o) b ≠ none ∧ ∀ j, j ≠ i → b ∉ fp j) :
    ZI G A0 H0 A (upd H a o) σ (env.set i (some (kk, d))) (fun j => if j = i then f else fp j) := by
  obtain ⟨hA, h0, hH⟩ := I.own i a ha
  have ne : ∀ j, j ≠ i → ∀ b ∈ fp j, b ≠ a := fun j hj b hb z => by subst z; exact I.dis j i hj b hb ha
  refine ⟨⟨I.gr.aa, fun b u e => ?_, fun b u e => ?_, I.gr.nw⟩, by rw [List.length_set]; exact I.len, fun j k' d' q => ?_, fun j => ?_, fun j l n b m => ?_, fun j b m => ?_⟩
  · rw [upd_ne (ne_of_none e hA)]; exact I.gr.ah b u e
  · rw [upd_ne (ne_of_none e h0)]; exact I.gr.hh b u e
  · by_cases hj : j = i
    · subst hj
      rw [List.getElem?_set_self hi] at q
      cases q
      exact ⟨v, hv, by simpa using hO⟩
    · rw [List.getElem?_set_ne (Ne.symm hj)] at q
      obtain ⟨u, q1, q2⟩ := I.at_ j k' d' q
      refine ⟨u, q1, ?_⟩
      show Own G.K G.mg A _ k' u d' (if j = i then f else fp j)
      rw [if_neg hj]
      exact q2.mono sub_refl fun b hb => upd_ne (ne j hj b hb)
  · show (if j = i then f else fp j).Nodup
    by_cases hj : j = i
    · rw [if_pos hj]; exact hf
    · rw [if_neg hj]; exact I.nd j
  · have m : b ∈ (if j = i then f else fp j) := m
    show b ∉ (if l = i then f else fp l)
    by_cases hj : j = i
    · rw [if_pos hj] at m
      have hl : l ≠ i := fun z => n (hj.trans z.symm)
      rw [if_neg hl]; exact (hff b m).2.2.2 l hl
    · rw [if_neg hj] at m
      by_cases hl : l = i
      · rw [if_pos hl]; intro z; exact (hff b z).2.2.2 j hj m
      · rw [if_neg hl]; exact I.dis j l n b m
  · have m : b ∈ (if j = i then f else fp j) := m
    by_cases hj : j = i
    · rw [if_pos hj] at m
      exact ⟨(hff b m).1, (hff b m).2.1, (hff b m).2.2.1⟩
    · rw [if_neg hj] at m
      exact ⟨(I.own j b m).1, (I.own j b m).2.1, by rw [upd_ne (ne j hj b m)]; exact (I.own j b m).2.2⟩
theorem ownL_len {P : V → D → List Addr → Prop} : ∀ {vs : List V} {ds : List D} {fp : List Addr}, OwnL P vs ds fp → vs.length = ds.length
  | [], [], _, _ => rfl
  | [], _ :: _, _, o => by simp [OwnL] at o
  | _ :: _, [], _, o => by simp [OwnL] at o
  | v :: vs, d :: ds, fp, o => by
    simp only [OwnL] at o
    obtain ⟨f1, f2, p, q, e⟩ := o
    simp [ownL_len q]
theorem OwnL.snoc {P : V → D → List Addr → Prop} {v : V} {d : D} {g : List Addr} (h : P v d g) : ∀ {vs : List V} {ds : List D} {fp : List Addr}, OwnL P vs ds fp → OwnL P (vs ++ [v]) (ds ++ [d]) (fp ++ g)
  | [], [], fp, o => by
    simp only [OwnL] at o
    subst o
    exact ⟨g, [], h, rfl, by simp⟩
  | [], _ :: _, _, o => by simp [OwnL] at o
  | _ :: _, [], _, o => by simp [OwnL] at o
  | w :: vs, e :: ds, fp, o => by
    simp only [OwnL] at o
    obtain ⟨f1, f2, p, q, r⟩ := o
    subst r
    exact ⟨f1, f2 ++ g, p, OwnL.snoc h q, by simp⟩
theorem own_ls_inv {K : PySem.W.Frag} {mg : Str → Option Value} {A H : Hp} {kk : Kd} {v : V} {ds : List D} {fp : List Addr} (o : Own K mg A H (.ls kk) v (.lst ds) fp) : ∃ a vs f, v = .ref a ∧ H a = some (.lst vs) ∧ OwnL (Own K mg A H kk) vs ds f ∧ fp = a :: f := by
  simp only [Own] at o
  obtain ⟨a, vs, ds', f, e1, e2, e3, e4, e5⟩ := o
  cases e2
  exact ⟨a, vs, f, e1, e3, e4, e5⟩
theorem own_ls_mk {K : PySem.W.Frag} {mg : Str → Option Value} {A H : Hp} {a : Addr} {vs : List V} {ds : List D} (h : H a = some (.lst vs)) (s : ShrL K mg A vs ds) : Own K mg A H (.ls .sh) (.ref a) (.lst ds) [a] := by
  rw [Own]
  exact ⟨a, vs, ds, [], rfl, rfl, h, ownL_sh s, rfl⟩
/-- the list that slot i owns: what stands, and what may be put in its place -/
theorem ZI.mutL {A0 H0 A H : Hp} {σ : L2.St} {env : DEnv} {fp : Nat → List Addr} (I : ZI G A0 H0 A H σ env fp) {i : Nat} {a : Addr} {ds : List D} (c : env[i]? = some (some (.ls .sh, .lst ds))) (q1 : σ[i]? = some (some (.ref a))) :
    ∃ vs, H a = some (.lst vs) ∧ ShrL G.K G.mg A vs ds ∧ ∀ vs' ds', ShrL G.K G.mg A vs' ds' → ∃ fp', ZI G A0 H0 A (upd H a (.lst vs')) σ (env.set i (some (.ls .sh, .lst ds'))) fp' := by
  obtain ⟨v', r1, r2⟩ := I.at_ i _ _ c
  rw [q1] at r1
  cases r1
  obtain ⟨a', vs, f', r3, r4, r5, r6⟩ := own_ls_inv r2
  cases r3
  obtain ⟨t1, t2⟩ := ownL_of_sh r5
  subst t2
  have ha : a ∈ fp i := by rw [r6]; exact List.mem_cons_self ..
  refine ⟨vs, r4, t1, fun vs' ds' s => ⟨_, I.mut (i := i) (v := .ref a) (a := a) (o := .lst vs') (f := [a]) (lt_of_slot c) ha q1 (own_ls_mk upd_same s) (by simp) fun b hb => ?_⟩⟩
  have e : b = a := by simpa using hb
  subst e
  have := I.own i b ha
  exact ⟨this.1, this.2.1, by rw [upd_same]; exact Option.some_ne_none _, fun j hj z => I.dis i j (Ne.symm hj) b ha z⟩
/-- xs.append(e), xs a list of shared items that slot i owns -/
def wAppend (i : Nat) (e : ZMV) : ZMS := fun env Z => match env[i]? with
  | some (some (.ls .sh, .lst ds)) => e env (fun env' _ d => env'[i]? = some (some (.ls .sh, .lst ds)) ∧ ds.length < sizeLine ∧ Z.nx (env'.set i (some (.ls .sh, .lst (ds ++ [d]))))) (Z.ex env)
  | _ => False
theorem zs_append (i : Nat) {x : Str} {e : Expr} {m : ZMV} {p apos pos pos' : Pos} (he : ZV Z e m) (hx : N[i]? = some x := by rfl) (hv : Vis sc x := by first | exact Or.inl rfl | exact Or.inr (Or.inl rfl) | exact Or.inr (Or.inr rfl))
    (hd : (x == ("__debug__" : Str)) = false := by decide) (hcd : (x == ("__classdict__" : Str)) = false := by decide)
    (h1 : ∀ env, attributeBase (.Name x p) "append" env (eval (.Name x p) env) = eval (.Name x p) env := by intro _; rfl)
    (h2 : ∀ env, (((backTo pos (starEach (e :: []) env)).all (!·.1) && (backToKw pos (keywordEach [] env)).all (·.1.isSome)) && decide (((e :: []).length + ([] : List Keyword).length + if ([] : List Keyword).isEmpty then 0 else 1) < 30)) = true := by intro _; rfl)
    (h3 : (apos.endLine == pos.line) = true := by rfl) (h4 : ∀ env, starEach (e :: []) env = (false, eval e env) :: starEach [] env := by intro _; rfl) (h5 : ∀ env, (backTo pos (starEach [] env)).any (·.1) = false := by intro _; rfl)
    (hs : ∀ env, swapsWith (.Call (.Attribute (.Name x p) "append" apos) [e] [] pos) none pos'.line env = pure false := by intro _; rfl) :
    ZS Z (.Expr (.Call (.Attribute (.Name x p) "append" apos) [e] [] pos) pos') (wAppend i m) := by
  obtain ⟨t, a1, a2⟩ := he.ex
  refine ⟨tDrop (tBM G.K "list" rAppend (tVar i) (tCons t tNil)), fun j => ps_expr ?_ (hs _), fun A0 H0 A H σ env fp D Zz I w mm => ?_⟩
  · have := pe_bm (X := Z.X j) PySem.F.plainAttrs_list PySem.F.slot_list_append PySem.F.type_list_append mt_append (pe_var (X := Z.X j) (pos := p) (by rw [Z.hN]; exact hx) (by rw [Z.hsc]; exact hv) hd hcd) (pa_cons (a1 j) pa_nil (h4 _)) (h1 _) (h2 _) h3 (h4 _) (h5 _)
    rw [Z.hK j] at this
    exact this
  · unfold wAppend at w
    split at w
    · rename_i ds e
      obtain ⟨v, q1, q2⟩ := I.at_ i _ _ e
      obtain ⟨a, vs, f, rfl, q3, q4, q5⟩ := own_ls_inv q2
      refine ⟨.ref a, q1, .inl ⟨rfl, vs, sqL_of sub_refl q3⟩, ?_⟩
      refine a2 A0 H0 A H σ env fp _ _ _ I w (fun u H' A' env' fp' k d g I' s o fr q => ?_) fun x cls dx H' A' I' s xa q => mm.ex A' H' σ env fp x cls dx I' s xa q
      obtain ⟨c1, c2, c3⟩ := q
      obtain ⟨A2, I2, s2, e2⟩ := freezeV I' fr
      obtain ⟨vs', r4, t1, put⟩ := I2.mutL c1 q1
      refine ⟨a, vs', u, rfl, rfl, r4, by rw [t1.length]; exact c2, ?_⟩
      have su := o.shr s2 e2
      obtain ⟨fp3, I3⟩ := put (vs' ++ [u]) (ds ++ [d]) (t1.append (by simp only [ShrL]; exact ⟨su, trivial⟩))
      exact mm.nx A2 _ σ _ _ I3 (sub_trans s s2) c3
    · exact w.elim
/-- xs[i] = e -/
def wSetIx (i : Nat) (e ix : ZMV) : ZMS := fun env Z => e env (fun env1 _ d => match env1[i]? with
  | some (some (.ls .sh, .lst ds)) => ix env1 (fun env2 _ j => env2[i]? = some (some (.ls .sh, .lst ds)) ∧ (match j with
    | .int n => (match ixN ds.length n with
      | some m => Z.nx (env2.set i (some (.ls .sh, .lst (ds.set m d))))
      | none => False)
    | _ => False)) (Z.ex env1)
  | _ => False) (Z.ex env)
theorem zs_setix (i : Nat) {x : Str} {e ie : Expr} {m mi : ZMV} {p tpos pos : Pos} (he : ZV Z e m) (hi : ZV Z ie mi) (hx : N[i]? = some x := by rfl) (hv : Vis sc x := by first | exact Or.inl rfl | exact Or.inr (Or.inl rfl) | exact Or.inr (Or.inr rfl))
    (hd : (x == ("__debug__" : Str)) = false := by decide) (hcd : (x == ("__classdict__" : Str)) = false := by decide)
    (hs : ∀ env, swapsWithSole [.Subscript (.Name x p) ie tpos] e pos.line env = pure false := by intro _; rfl) (hw : ∀ env, swappedStores [.Subscript (.Name x p) ie tpos] e env = pure none := by intro _; rfl)
    (h1 : ∀ env, (assignEach [.Subscript (.Name x p) ie tpos] env).map (·.2) = [assign (.Subscript (.Name x p) ie tpos) env] := by intro _; rfl)
    (ha : ∀ env v, assign (.Subscript (.Name x p) ie tpos) env v = (do
      let ov ← holding [v] (eval (.Name x p) env)
      let iv ← holding [v, ov] (eval ie env)
      standAt tpos
      holding [v, ov, iv] (setItem ov iv v)
      release [v, ov, iv] []) := by intro _ _; rfl) :
    ZS Z (.Assign [.Subscript (.Name x p) ie tpos] e pos) (wSetIx i m mi) := by
  obtain ⟨t, a1, a2⟩ := he.ex
  obtain ⟨ti, b1, b2⟩ := hi.ex
  refine ⟨tAsg t (gSub (tVar i) ti rSetL), fun j => ps_asg (a1 j) (pg_sub (pe_var (X := Z.X j) (by rw [Z.hN]; exact hx) (by rw [Z.hsc]; exact hv) hd hcd) (b1 j) set_list (ha _)) (hs _) (hw _) (h1 _), fun A0 H0 A H σ env fp D Zz I w mm => ?_⟩
  refine a2 A0 H0 A H σ env fp _ _ _ I w (fun u H1 A1 env1 fp1 k d g I1 s1 o fr q => ?_) fun x cls dx H' A' I' s xa q => mm.ex A' H' σ env fp x cls dx I' s xa q
  obtain ⟨A2, I2, s2, e2⟩ := freezeV I1 fr
  have su := o.shr s2 e2
  split at q
  · rename_i ds e
    obtain ⟨v, q1, q2⟩ := I2.at_ i _ _ e
    obtain ⟨a, vs, f, rfl, q3, q4, q5⟩ := own_ls_inv q2
    refine ⟨.ref a, q1, ?_⟩
    refine b2 A0 H0 A2 H1 σ env1 fp1 _ _ _ I2 q (fun y H3 A3 env3 fp3 k3 dj g3 I3 s3 o3 fr3 q6 => ?_) fun x cls dx H' A' I' s xa q => mm.ex A' H' σ env1 fp1 x cls dx I' (sub_trans s1 (sub_trans s2 s)) xa q
    obtain ⟨c1, c2⟩ := q6
    split at c2
    · rename_i n
      split at c2
      · rename_i mm' em
        obtain ⟨vs', r4, t1, put⟩ := I3.mutL c1 q1
        have hy : y = .int n := by
          cases k3 <;> simp only [Own] at o3
          · have := o3.1; simpa [Shr] using this
          · obtain ⟨_, _, _, _, _, z, _⟩ := o3; cases z
          · obtain ⟨_, _, _, _, _, z, _⟩ := o3; cases z
          · obtain ⟨_, _, _, _, _, z, _⟩ := o3; cases z
          · obtain ⟨_, _, _, _, _, _, _, z, _⟩ := o3; cases z
        refine ⟨a, vs', n, mm', rfl, hy, r4, by rw [t1.length]; exact em, ?_⟩
        obtain ⟨fp4, I4⟩ := put (vs'.set mm' u) (ds.set mm' d) (t1.set mm' (su.mono s3))
        exact mm.nx A3 _ σ _ _ I4 (sub_trans s1 (sub_trans s2 s3)) c2
      · exact c2.elim
    · exact c2.elim
  · exact q.elim
/-- x op= e, x a slot of ints or the like -/
def wAug (i : Nat) (o : DOp) (e : ZMV) : ZMS := fun env Z => match env[i]? with
  | some (some (.sh, x)) => e env (fun env' _ y => env'[i]? = some (some (.sh, x)) ∧ o x y (fun _ z => Z.nx (env'.set i (some (.sh, z))))) (Z.ex env)
  | _ => False
theorem zs_aug (i : Nat) {x : Str} {op : Operator} {o : DOp} {e : Expr} {m : ZMV} {pos pos' : Pos} (ho : ZOp Z (inplaceOp op) o) (he : ZV Z e m) (hx : N[i]? = some x := by rfl) (hl : Loc sc x := by first | exact Or.inl rfl | exact Or.inr rfl) (hf : fn x = true ∨ sc.names.lookup x = some .local := by first | exact .inl rfl | exact .inr rfl) :
    ZS Z (.AugAssign (.Name x pos') op e pos) (wAug i o m) := by
  obtain ⟨t, a1, a2⟩ := he.ex
  obtain ⟨r, r1, r2⟩ := ho
  refine ⟨_, fun j => ps_aug (by rw [Z.hN]; exact Z.nd) (by rw [Z.hN]; exact hx) (by rw [Z.hsc]; exact hl) (a1 j) (fun pins s σ H x y v u Q I rx ry q => r1 j pins s σ H x y v u Q I rx ry q) (by rw [Z.hfn, Z.hsc]; exact hf), fun A0 H0 A H σ env fp D Zz I w mm => ?_⟩
  unfold wAug at w
  split at w
  · rename_i d e
    obtain ⟨v, q1, q2⟩ := I.at_ i _ _ e
    refine ⟨v, q1, ?_⟩
    refine a2 A0 H0 A H σ env fp _ _ _ I w (fun u H1 A1 env1 fp1 k d1 g I1 s1 o1 fr q => ?_) fun x cls dx H' A' I' s xa q => mm.ex A' H' σ env fp x cls dx I' s xa q
    obtain ⟨A2, I2, s2, e2⟩ := freezeV I1 fr
    obtain ⟨c1, c2⟩ := q
    obtain ⟨v', w1, w2⟩ := I2.at_ i _ _ c1
    rw [q1] at w1
    cases w1
    simp only [Own] at w2
    refine r2 A2 H1 v u _ _ _ _ I2.sub w2.1 (o1.shr s2 e2) c2 fun z H3 A3 k3 d3 f3 g3 o3 fr3 q3 => ?_
    have I3 := I2.grow g3
    obtain ⟨A4, I4, s4, e4⟩ := freezeV I3 (freshV I2 g3 fr3 (own_here o3))
    have I5 := I4.put (i := i) (own_sh (o3.shr s4 e4)) ⟨List.nodup_nil, fun a m => by cases m⟩ (lt_of_slot c1)
    exact mm.nx A4 H3 _ _ _ I5 (sub_trans s1 (sub_trans s2 (sub_trans g3.aa s4))) q3
  · exact w.elim
theorem zo_iadd : ZOp Z (inplaceOp .Add) oAddI := zo_int (fun i => opI_of0 iop_add) fun _ _ => ⟨rfl, rfl⟩
theorem zo_isub : ZOp Z (inplaceOp .Sub) oSub := zo_int (fun i => opI_of0 iop_sub) fun _ _ => ⟨rfl, rfl⟩
/-- what a slot owns is let go: from now on shared -/
def frz (i : Nat) (env : DEnv) : DEnv := match env[i]? with
  | some (some (_, d)) => env.set i (some (.sh, d))
  | _ => env
theorem ZI.frz {A0 H0 A H : Hp} {σ : L2.St} {env : DEnv} {fp : Nat → List Addr} (I : ZI G A0 H0 A H σ env fp) (i : Nat) : ∃ A2 fp2, ZI G A0 H0 A2 H σ (frz i env) fp2 ∧ Sub A A2 := by
  unfold ZL.frz
  split
  · rename_i kk d e
    obtain ⟨v, q1, q2⟩ := I.at_ i _ _ e
    -- the slot's own objects, taken out
    have I1 : ZI G A0 H0 A H σ (env.set i none) (fun j => if j = i then [] else fp j) := by
      refine ⟨I.gr, by rw [List.length_set]; exact I.len, fun j k' d' q => ?_, fun j => ?_, fun j l n a m => ?_, fun j a m => ?_⟩
      · by_cases hj : j = i
        · subst hj
          rw [List.getElem?_set_self (lt_of_slot e)] at q
          cases q
        · rw [List.getElem?_set_ne (Ne.symm hj)] at q
          obtain ⟨v, q1, q2⟩ := I.at_ j k' d' q
          exact ⟨v, q1, by show Own G.K G.mg A H k' v d' (if j = i then [] else fp j); rw [if_neg hj]; exact q2⟩
      · show (if j = i then [] else fp j).Nodup
        by_cases hj : j = i
        · rw [if_pos hj]; exact List.nodup_nil
        · rw [if_neg hj]; exact I.nd j
      · have m : a ∈ (if j = i then [] else fp j) := m
        show a ∉ (if l = i then [] else fp l)
        by_cases hj : j = i
        · rw [if_pos hj] at m; cases m
        · rw [if_neg hj] at m
          by_cases hl : l = i
          · rw [if_pos hl]; intro z; cases z
          · rw [if_neg hl]; exact I.dis j l n a m
      · have m : a ∈ (if j = i then [] else fp j) := m
        by_cases hj : j = i
        · rw [if_pos hj] at m; cases m
        · rw [if_neg hj] at m; exact I.own j a m
    obtain ⟨A2, I2, s2, e2⟩ := freezeV (f := fp i) I1 ⟨I.nd i, fun a m => ⟨(I.own i a m).2.1, (I.own i a m).1, (I.own i a m).2.2, fun j z => by
      have z : a ∈ (if j = i then [] else fp j) := z
      by_cases hj : j = i
      · rw [if_pos hj] at z; cases z
      · rw [if_neg hj] at z; exact I.dis i j (Ne.symm hj) a m z⟩⟩
    have I3 := I2.put (i := i) (own_sh (q2.shr s2 e2)) ⟨List.nodup_nil, fun a m => by cases m⟩ (by rw [List.length_set]; exact lt_of_slot e)
    have hσ : σ.set i (some v) = σ := by
      apply List.ext_getElem?
      intro j
      by_cases hj : j = i
      · subst hj
        rw [List.getElem?_set_self (by rw [I.len]; exact lt_of_slot e), q1]
      · rw [List.getElem?_set_ne (Ne.symm hj)]
    rw [hσ, List.set_set] at I3
    exact ⟨A2, _, I3, s2⟩
  · exact ⟨A, fp, I, sub_refl⟩
def wFrz (i : Nat) (w : ZMS) : ZMS := fun env Z => w (ZL.frz i env) Z
theorem zs_frz (i : Nat) {st : Stmt} {w : ZMS} (h : ZS Z st w) : ZS Z st (wFrz i w) := by
  obtain ⟨t, a1, a2⟩ := h.ex
  refine ⟨t, a1, fun A0 H0 A H σ env fp D Zz I q mm => ?_⟩
  obtain ⟨A2, fp2, I2, s2⟩ := I.frz i
  exact a2 A0 H0 A2 H σ _ fp2 D Zz I2 q (mm.gr s2)
end
end ZL


namespace ZL
open PySem PySem.Spec PyProof.Rows L2

/-! ### comprehensions -/
theorem mem_wipe {σ : L2.St} {j : Nat} : ∀ {vs : List Nat}, j ∈ vs → (wipe σ vs)[j]? = if j < σ.length then some none else none
  | [], h => by cases h
  | v :: vs, h => by
    unfold wipe
    by_cases hv : v = j
    · subst hv
      by_cases hl : v < σ.length
      · rw [List.getElem?_set_self (by rw [wipe_length]; exact hl), if_pos hl]
      · rw [List.getElem?_eq_none (by rw [List.length_set, wipe_length]; omega), if_neg hl]
    · rw [List.getElem?_set_ne hv]
      rcases List.mem_cons.mp h with e | h
      · exact absurd e.symm hv
      · exact mem_wipe h
theorem wipe_set {σ : L2.St} {i : Nat} {x : Option V} {vs : List Nat} (h : i ∈ vs) : wipe (σ.set i x) vs = wipe σ vs := by
  apply List.ext_getElem?
  intro j
  by_cases hj : j ∈ vs
  · rw [mem_wipe hj, mem_wipe hj, List.length_set]
  · rw [wipe_out hj, wipe_out hj, List.getElem?_set_ne (fun e : i = j => hj (e ▸ h))]
def wipeE (env : SEnv) : List Nat → SEnv
  | [] => env
  | v :: vs => (wipeE env vs).set v none
theorem View.wipe {G : Glob} {A : Hp} {σ : L2.St} {env : SEnv} (v : View G A σ env) : ∀ vs : List Nat, View G A (L2.wipe σ vs) (wipeE env vs)
  | [] => v
  | w :: vs => by
    have ih := View.wipe v vs
    unfold L2.wipe wipeE
    refine ⟨by rw [List.length_set, List.length_set]; exact ih.1, fun i d e => ?_⟩
    by_cases hi : w = i
    · subst hi
      by_cases hl : w < (wipeE env vs).length
      · rw [List.getElem?_set_self hl] at e; cases e
      · rw [List.getElem?_eq_none (by rw [List.length_set]; omega)] at e; cases e
    · rw [List.getElem?_set_ne hi] at e ⊢
      exact ih.2 i d e
section
variable {G : Glob} {N : List Str} {sc : Scope} {fn : Str → Bool} {W : WX} {k : Nat}
abbrev W0 : WX := fun _ _ _ _ => False
abbrev blkFn (scope : Scope) : Str → Bool := fun x => scope.names.lookup x == some .cell
/-- the block of a comprehension -/
def Zc.blk (Z : Zc G N sc fn W k) (scope : Scope) : Zc G N (relS scope sc) (blkFn scope) W0 k where
  ι := Z.ι × Shared × Hp × Addr × List (Str × Addr) × List Addr
  X := fun j => (Z.X j.1).blk j.2.1 j.2.2.1 scope (compEnvC scope j.2.2.2.2.1 j.2.2.2.1 (Z.X j.1).env) j.2.2.2.2.2
  hN := fun j => Z.hN j.1
  nd := Z.nd
  hsc := fun j => by
    have := Z.hsc j.1
    show relS scope (Z.X j.1).env.scope = relS scope sc
    rw [this]
  hfn := fun j => rfl
  hP := fun j => Z.hP j.1
  hw := fun j => Z.hw j.1
  hK := fun j => Z.hK j.1
  hmg := fun j => Z.hmg j.1
  hb := fun j => Z.hb j.1
  calm := fun j => Z.calm j.1
  room := fun j => Z.room j.1
  tk := fun j => L2.takes0

/-- targets within a block: they store in the block's own slots -/
abbrev ZMC := D → SEnv → (SEnv → Prop) → Prop
def SndC (G : Glob) (vs : List Nat) (g : TG) (m : ZMC) : Prop := ∀ A H σ env x d (Q : L2.St → Hp → Prop) Qz, Sub A H → View G A σ env → Shr G.K G.mg A x d → m d env Qz →
  (∀ σ' env', View G A σ' env' → wipe σ' vs = wipe σ vs → Qz env' → Q σ' H) → g x σ H Q
structure ZC (Z : Zc G N sc fn W k) (vs : List Nat) (tg : Expr) (m : ZMC) : Prop where
  ex : ∃ g, (∀ i, PG (Z.X i) tg g) ∧ SndC G vs g m
abbrev ZMCs := List D → SEnv → (SEnv → Prop) → Prop
def SndCs (G : Glob) (vs : List Nat) (g : TGs) (m : ZMCs) : Prop := ∀ A H σ env xs ds (Q : L2.St → Hp → Prop) Qz, Sub A H → View G A σ env → ShrL G.K G.mg A xs ds → m ds env Qz →
  (∀ σ' env', View G A σ' env' → wipe σ' vs = wipe σ vs → Qz env' → Q σ' H) → g xs σ H Q
structure ZCs (Z : Zc G N sc fn W k) (vs : List Nat) (tg : List Expr) (m : ZMCs) : Prop where
  ex : ∃ g, (∀ i, PGs (Z.X i) tg g) ∧ SndCs G vs g m
variable {Z : Zc G N sc fn W k} {vs : List Nat}
def cN (i : Nat) : ZMC := fun d env Q => i < env.length ∧ Q (env.set i (some d))
theorem zc_name (i : Nat) {x : Str} {pos : Pos} (hv : i ∈ vs := by decide) (hi : N[i]? = some x := by rfl) (hx : Loc sc x := by first | exact Or.inl rfl | exact Or.inr rfl) (hf : fn x = true ∨ sc.names.lookup x = some .local := by first | exact .inl rfl | exact .inr rfl) : ZC Z vs (.Name x pos) (cN i) := by
  refine ⟨_, fun j => pg_name (by rw [Z.hN]; exact Z.nd) (by rw [Z.hN]; exact hi) (by rw [Z.hsc]; exact hx) (by rw [Z.hfn, Z.hsc]; exact hf), fun A H σ env x d Q Qz h v s hm hq => ?_⟩
  refine hq _ _ ⟨by rw [List.length_set, List.length_set]; exact v.1, fun j d' e => ?_⟩ (wipe_set hv) hm.2
  by_cases hj : i = j
  · subst hj
    rw [List.getElem?_set_self hm.1] at e
    cases e
    exact ⟨x, List.getElem?_set_self (by rw [v.1]; exact hm.1), s⟩
  · rw [List.getElem?_set_ne hj] at e ⊢
    exact v.2 j d' e
def cNil : ZMCs := fun ds env Q => ds = [] ∧ Q env
def cCons (a : ZMC) (b : ZMCs) : ZMCs := fun ds env Q => match ds with
  | d :: r => a d env (fun env' => b r env' Q)
  | [] => False
theorem zcs_nil : ZCs Z vs [] cNil := ⟨_, fun _ => pgs_nil, fun A H σ env xs ds Q Qz h v s hm hq => by
  obtain ⟨e, hm⟩ := hm
  subst e
  cases xs with
  | nil => exact ⟨rfl, hq _ _ v rfl hm⟩
  | cons _ _ => simp [ShrL] at s⟩
theorem zcs_cons {e : Expr} {es : List Expr} {a : ZMC} {b : ZMCs} (h1 : ZC Z vs e a) (h2 : ZCs Z vs es b) (hs : ∀ env, (assignEach (e :: es) env).map (·.2) = assign e env :: (assignEach es env).map (·.2) := by intro _; rfl) : ZCs Z vs (e :: es) (cCons a b) := by
  obtain ⟨g, a1, a2⟩ := h1.ex
  obtain ⟨g', b1, b2⟩ := h2.ex
  refine ⟨_, fun i => pgs_cons (a1 i) (b1 i) (hs _), fun A H σ env xs ds Q Qz h v s hm hq => ?_⟩
  cases ds with
  | nil => exact hm.elim
  | cons d r =>
    cases xs with
    | nil => simp [ShrL] at s
    | cons x xr =>
      simp only [ShrL] at s
      exact ⟨x, xr, rfl, a2 A H σ env x d _ _ h v s.1 hm fun σ' env' v' w' q => b2 A H σ' env' xr r _ _ h v' s.2 q fun σ2 env2 v2 w2 q2 => hq σ2 env2 v2 (w2.trans w') q2⟩
def cT (n : Nat) (m : ZMCs) : ZMC := fun d env Q => match d with
  | .tup ds => ds.length = n ∧ m ds env Q
  | _ => False
theorem zc_tup {es : List Expr} {kk : Nat} {m : ZMCs} {n : Nat} {pos : Pos} (h : ZCs Z vs es m) (hn : ∀ env, (assignEach es env).length = n := by intro _; rfl) (hst : ∀ env, (assignEach es env).findIdx? (·.1) = none := by intro _; rfl) : ZC Z vs (.Tuple es kk pos) (cT n m) := by
  obtain ⟨g, a1, a2⟩ := h.ex
  refine ⟨gTup G.K n g, fun i => ?_, fun A H σ env x d Q Qz hs v s hm hq => ?_⟩
  · have := pg_tup (pos := pos) (k := kk) (Z.calm i) (a1 i) (hn _) (hst _)
    rw [Z.hK i] at this
    exact this
  · unfold cT at hm
    split at hm
    · simp only [Shr] at s
      obtain ⟨a, xs, rfl, h1, h2⟩ := s
      exact ⟨a, xs, rfl, sqT_of hs h1, by rw [h2.length]; exact hm.1, a2 A H σ env xs _ Q Qz hs v h2 hm.2 hq⟩
    · exact hm.elim
/-- the tests of a block -/
structure ZTs (Z : Zc G N sc fn W k) (es : List Expr) (m : ZMT) : Prop where
  ex : ∃ t, (∀ i, PTs (Z.X i) es t) ∧ SndT G W t m
def mYes : ZMT := fun _ Q _ => Q true
theorem zts_nil : ZTs Z [] mYes := ⟨_, fun _ => pts_nil, fun A H σ env Q Qz Ez h v hm hq he => hq true H A (Gr.refl h) hm⟩
theorem zts_one {c : Expr} {m : ZMT} (h : ZT Z c m) : ZTs Z [c] m := by
  obtain ⟨t, a1, a2⟩ := h.ex
  exact ⟨t, fun i => pts_one (a1 i), a2⟩
/-- the turns -/
def mCompL (g : ZMC) (c : ZMT) (e : ZM) (env : SEnv) : List D → List D → (List D → Prop) → Prop
  | [], acc, Q => Q acc
  | d :: ds, acc, Q => g d env (fun env' => c env' (fun b => if b = true then e env' (fun _ x => acc.length < sizeLine ∧ mCompL g c e env ds (acc ++ [x]) Q) (fun _ => False) else mCompL g c e env ds acc Q) (fun _ => False))
def mComp (it : ZMI) (vs : List Nat) (g : ZMC) (c : ZMT) (e : ZM) : ZM := fun env Q E => it env (fun ds => mCompL g c e (wipeE env vs) ds [] (fun acc => Q (.ls .sh) (.lst acc))) E
theorem esc0 {A H : Hp} {σ : L2.St} : Esc G W0 A H σ (fun _ => False) := fun _ _ _ _ _ _ _ q => q
theorem snd_comp {wi : TI} {g : TG} {tt : TT} {te : TE} {mi : ZMI} {mg : ZMC} {mt : ZMT} {me : ZM} (hi : SndI G W wi mi) (hg : SndC G vs g mg) (ht : SndT G W0 tt mt) (he : Snd G W0 te me) : Snd G W (tLc wi g tt te vs) (mComp mi vs mg mt me) := fun A H σ env Q Qz Ez h v hm hq hx => by
  refine hi A H σ env _ _ _ h v hm (fun J H1 A1 ds g1 W1 q1 => ?_) hx
  intro D hD
  have aD : A1 D = none := Same.free (H := A1) (H' := H1) g1.ah hD
  have v1 := (v.mono g1.aa).wipe vs
  -- the state in the middle: D holds what is made so far, nobody shares it
  let St : Nat → Hp → Prop := fun i H' => ∃ A' acc va, Sub A1 A' ∧ Sub A' H' ∧ Sub H1 H' ∧ (∀ a, A1 a = none → A' a ≠ none → H1 a = none) ∧ A' D = none ∧ H' D = some (.lst va) ∧ ShrL G.K G.mg A' va acc ∧ mCompL mg mt me (wipeE env vs) (ds.drop i) acc (fun acc => Qz (.ls .sh) (.lst acc))
  refine ⟨fun i m H' => m + i = ds.length ∧ St i H', ⟨ds.length, rfl, A1, [], [], sub_refl, fun a o e => ?_, fun a o e => ?_, fun a e n => absurd e n, aD, upd_same, by simp [ShrL], by simpa using q1⟩, ?_⟩
  · rw [upd_ne (ne_of_none e aD)]; exact g1.ah a o e
  · rw [upd_ne (ne_of_none e hD)]; exact e
  rintro i m H2 ⟨hm2, A2, acc, va, s12, s2, s3, nw2, aD2, hD2, sa, q2⟩
  obtain ⟨w1, w2⟩ := W1 A2 H2 s12 s2
  by_cases hi2 : i < ds.length
  · obtain ⟨d, hd⟩ : ∃ d, ds[i]? = some d := ⟨ds[i], by simp [hi2]⟩
    have hdrop : ds.drop i = d :: ds.drop (i + 1) := by
      rw [List.drop_eq_getElem_cons hi2]
      congr 1
      rw [List.getElem?_eq_getElem hi2] at hd
      exact Option.some.inj hd
    rw [hdrop] at q2
    obtain ⟨go, y⟩ := w1 i d hd
    refine .inr ⟨go, St (i + 1), fun H' s => ⟨m - 1, by omega, by omega, s⟩, fun x H3 hy => ?_⟩
    obtain ⟨A3, g3, sx⟩ := y x H3 hy
    -- the step keeps all that
    have step : ∀ {A' H' : Hp}, Gr A2 H2 A' H' → Sub A1 A' ∧ Sub H1 H' ∧ (∀ a, A1 a = none → A' a ≠ none → H1 a = none) ∧ A' D = none ∧ H' D = some (.lst va) ∧ ShrL G.K G.mg A' va acc := fun {A' H'} g => by
      refine ⟨sub_trans s12 g.aa, sub_trans s3 g.hh, fun a e n => ?_, ?_, g.hh _ _ hD2, sa.mono g.aa⟩
      · by_cases z : A2 a = none
        · exact Same.free (H := H1) (H' := H2) s3 (g.nw a z n)
        · exact nw2 a e z
      · cases z : A' D with
        | none => rfl
        | some o =>
          have := g.nw D aD2 (by rw [z]; exact Option.some_ne_none _)
          rw [hD2] at this; cases this
    refine hg A3 H3 (wipe σ vs) (wipeE env vs) x d _ _ g3.ah (v1.mono (sub_trans s12 g3.aa)) sx q2 fun σ' env' v' hw' q' => ⟨by rw [hw']; exact wipe_wipe, ?_⟩
    refine ht A3 H3 σ' env' _ _ _ g3.ah v' q' (fun b H4 A4 g4 q4 => ?_) esc0
    have g24 := g3.trans g4
    cases b with
    | false =>
      simp only [Bool.false_eq_true, if_false] at q4 ⊢
      obtain ⟨t1, t2, t3, t4, t5, t6⟩ := step g24
      exact ⟨A4, acc, va, t1, g4.ah, t2, t3, t4, t5, t6, q4⟩
    | true =>
      simp only [if_true] at q4 ⊢
      refine he.go g4.ah (v'.mono g4.aa) q4 (fun z H5 A5 _ dz g5 sz q5 => ?_) esc0
      have g25 := g24.trans g5
      obtain ⟨t1, t2, t3, t4, t5, t6⟩ := step g25
      refine ⟨va, t5, by rw [t6.length]; exact q5.1, A5, acc ++ [dz], va ++ [z], t1, fun a o e => ?_, fun a o e => ?_, t3, t4, upd_same, t6.append (by simp only [ShrL]; exact ⟨sz, trivial⟩), q5.2⟩
      · rw [upd_ne (ne_of_none e t4)]; exact g5.ah a o e
      · rw [upd_ne (ne_of_none e hD)]; exact t2 a o e
  · have hi2 : i = ds.length := by omega
    subst hi2
    rw [List.drop_length] at q2
    refine .inl ⟨w2, ?_⟩
    have gg : Gr A1 H1 A2 H2 := ⟨s12, s2, s3, nw2⟩
    exact hq (.ref D) H2 A2 (.ls .sh) (.lst acc) [D] (g1.trans gg) (own_ls_mk hD2 sa) ⟨by simp, fun a m => by
      have : a = D := by simpa using m
      subst this
      exact ⟨Same.free (H := H) (H' := H1) g1.hh hD, aD2⟩⟩ q2
where
  wipe_wipe {σ : L2.St} {vs : List Nat} : wipe (wipe σ vs) vs = wipe σ vs := by
    apply List.ext_getElem?
    intro j
    by_cases hj : j ∈ vs
    · rw [mem_wipe hj, mem_wipe hj, wipe_length]
    · rw [wipe_out hj]
theorem ze_comp {elt tg iter : Expr} {ifs : List Expr} {scope : Scope} (own : List (Str × Nat)) {pos : Pos} {mi : ZMI} {mg : ZMC} {mt : ZMT} {me : ZM} (hi : ZIE Z tg iter mi) (hb : blkC N sc scope own = true) (hg : ZC (Z.blk scope) (own.map (·.2)) tg mg)
    (ht : ZTs (Z.blk scope) ifs mt) (he : ZE (Z.blk scope) elt me) (hs : ∀ env x, foldedSetIterable iter env x = pure x := by intro _ _; rfl) : ZE Z (.ListComp elt [⟨tg, iter, ifs, 0⟩] scope pos) (mComp mi (own.map (·.2)) mg mt me) := by
  obtain ⟨wi, i1, i2⟩ := hi.ex
  obtain ⟨g, g1, g2⟩ := hg.ex
  obtain ⟨tt, t1, t2⟩ := ht.ex
  obtain ⟨te, e1, e2⟩ := he.ex
  exact ⟨_, fun i => pe_lc (Z.calm i) (by rw [Z.hN]; exact Z.nd) (i1 i) (by rw [Z.hN, Z.hsc]; exact blkOk_by hb) (fun s H C cl fp => g1 (i, s, H, C, cl, fp)) (fun s H C cl fp => t1 (i, s, H, C, cl, fp)) (fun s H C cl fp => e1 (i, s, H, C, cl, fp)) (hs _), snd_comp i2 g2 t2 e2⟩
/-- y = [..] with y a plain local name of the def, on one line -/
theorem zs_setComp {i : Nat} {y : Str} {py : Pos} {elt tg iter : Expr} {ifs : List Expr} {scope : Scope} (own : List (Str × Nat)) {pos spos : Pos} {mi : ZMI} {mg : ZMC} {mt : ZMT} {me : ZM} {wr : ZM → ZMV} (hwr : ∀ {t m}, Snd G W t m → SndV G W t (wr m)) (hi : ZIE Z tg iter mi) (hb : blkC N sc scope own = true) (hg : ZC (Z.blk scope) (own.map (·.2)) tg mg)
    (ht : ZTs (Z.blk scope) ifs mt) (he : ZE (Z.blk scope) elt me) (hy : N[i]? = some y := by rfl) (hyl : sc.names.lookup y = some .local := by rfl) (hk : sc.kind = .function := by rfl) (hl : (py.line == pos.line) = true := by rfl)
    (hno : (scope.names.any fun (n, k) => n == y && (k == .local || k == .cell)) = false := by decide +kernel) (hs : ∀ env x, foldedSetIterable iter env x = pure x := by intro _ _; rfl) :
    ZS Z (.Assign [.Name y py] (.ListComp elt [⟨tg, iter, ifs, 0⟩] scope pos) spos) (wSet i (wr (mComp mi (own.map (·.2)) mg mt me))) := by
  obtain ⟨wi, i1, i2⟩ := hi.ex
  obtain ⟨g, g1, g2⟩ := hg.ex
  obtain ⟨tt, t1, t2⟩ := ht.ex
  obtain ⟨te, e1, e2⟩ := he.ex
  refine ⟨_, fun j => ps_setLc (Z.calm j) (by rw [Z.hN]; exact Z.nd) (by rw [Z.hN]; exact hy) (by rw [Z.hsc]; exact hyl) (sw_true (by rw [Z.hsc]; exact hk) (by rw [Z.hsc]; exact hyl) hl hno) (i1 j) (by rw [Z.hN, Z.hsc]; exact blkOk_by hb) (fun s H C cl fp => g1 (j, s, H, C, cl, fp)) (fun s H C cl fp => t1 (j, s, H, C, cl, fp)) (fun s H C cl fp => e1 (j, s, H, C, cl, fp)) (hs _), fun A0 H0 A H σ env fp D Zz I w mm => ?_⟩
  have a2 := hwr (snd_comp (vs := own.map (·.2)) i2 g2 t2 e2)
  exact a2 A0 H0 A H σ env fp _ _ _ I w (fun v H' A' env' fp' k d f I' s o fr q => mm.nx A' H' _ _ _ (I'.put o fr q.1) s q.2) fun x cls dx H' A' I' s xa q => mm.ex A' H' σ env fp x cls dx I' s xa q
end
end ZL


namespace ZL
open PySem PySem.Spec PyProof.Rows L2
theorem def_run {G : Glob} {x : Str} {params : Arguments} {body : List Stmt} {scope : Scope} {dvs : List V} {kws : List (Str × V)} {f : Addr} {fd : FuncData} {N ps : List Str} {k n : Nat} {sp : ZSpec} {w : ZMS} {qual : Str}
    (F : FunD G.K x qual params body scope dvs kws f fd) (S : FnScope N ps scope) (hn : ps.length = n)
    (hw : ∀ (W : WX) (Z : Zc G N scope (fun _ => true) W k), Zst Z → ZSs Z body w) (hsp : ∀ ds Q E, sp ds Q E → w (env0 N ds) (ends0 Q E)) : G.FnOk (k + 1) f fd ps (spZ G n sp) := by
  refine FunD.ok F S (fun vs H Q E h => ?_) fun cdv A outer s H vs Q E hr h => ?_
  · obtain ⟨_, _, _, _, h, _⟩ := h
    rw [hn]; exact h
  · obtain ⟨A0, xs, Qz, Ez, hl, hs, sv, hsp', hq, hx⟩ := h
    let X := cxOf (L2.CX G.P G.w) G.P G.w G.K G.mg G.base N qual scope f cdv A outer s H E
    have tk : Takes X (fun cls d _ H => E cls d H) := takes_of rfl rfl rfl rfl
    let Z : Zc G N scope (fun _ => true) (fun cls d _ H => E cls d H) k := ⟨Unit, fun _ => X, fun _ => rfl, S.nd, fun _ => rfl, fun _ => rfl, fun _ => rfl, fun _ => rfl, fun _ => rfl, fun _ => rfl, fun _ => rfl, fun _ => rfl, fun _ => hr, fun _ => tk⟩
    have st : Zst Z := ⟨fun _ => passes_of rfl, fun _ => rfl, fun _ => rfl⟩
    obtain ⟨t, a1, a2⟩ := (hw _ Z st).ex
    refine ⟨t, a1 (), a2 A0 H A0 H _ _ _ _ _ (zi_start hs sv) (hsp xs Qz Ez hsp') ⟨fun A' H' σ' env' fp' I s q => ?_, fun A' H' v k d f g o fr q => hq v H' A' k d f g o fr q, fun A' H' σ' env' fp' I s q => q.elim, fun A' H' σ' env' fp' I s q => q.elim, fun A' H' σ' env' fp' y cls dx I s xa q => hx y cls dx H' A' I.gr xa q⟩⟩
    exact hq .non H' A' .sh .non [] I.gr (own_sh (by simp [Shr])) Fresh.nil q
/-- a law: of every script it says True -/
def spLaw : ZSpec := fun ds Q _ => ∃ ns : List Int, ds = [.scr ns] ∧ ns.length ≤ 63 ∧ Q .sh (.bl true)
theorem ar_law : ZSpec.Ar spLaw 1 := fun ds Q E h => by
  obtain ⟨ns, rfl, _⟩ := h
  rfl
theorem law_sp {G : Glob} {H : Hp} {a : Addr} {ns : List Int} (hl : ns.length ≤ 63) (hS : SqL G.K H a (ns.map V.int)) : spZ G 1 spLaw [.ref a] H (fun v _ => v = .bl true) fun _ _ _ => False :=
  ⟨H, [.scr ns], fun k d => k = .sh ∧ d = .bl true, fun _ => False, rfl, sub_refl, by simp only [ShrL, Shr]; exact ⟨⟨a, rfl, hS⟩, trivial⟩, ⟨ns, rfl, hl, rfl, rfl⟩, fun v H' A' k d fp g o fr q => by
    obtain ⟨rfl, rfl⟩ := q
    simp only [Own, Shr] at o
    exact o.1, fun _ _ _ _ _ _ _ q => q⟩
/-- a law whose exits' promise hangs on the world -/
theorem walk_zl {l : PySem.W.OpenLaw} {top k : Nat} {q : Program} {loose : List Str} {XP : (Str → Option Value) → Heap → Prop} {YP : World → Heap → Prop} {d : DefRec} {cx : World → CXT} {x : Str}
    (most : l.most = some top) (small : top ≤ sizeLine) (plain : d.params.defaults = []) (room : Room k callerA)
    (F : ∀ (w : World) (mg : Str → Option Value) (at_ : Addr) (h : Heap), YP w h → h.Ns mainGlobals mg → mg d.name = some (.ref at_) →
      ∃ (K : PySem.W.Frag) (fd : FuncData) (sp : Sp), K.In h ∧ (∀ (s : Shared) (u : Value), BindsTo s fd ⟨[u], []⟩ [(x, u)]) ∧
        (∀ (H : Hp) (a : Addr) (ns : List Int), ns.length ≤ top → SqL K H a (ns.map V.int) → sp [.ref a] H (fun v _ => v = .bl true) fun _ _ _ => False) ∧
        ∀ base : Heap, K.In base → base.Ns mainGlobals mg → L2.FnOk l.prog w K mg base (cx w) k at_ fd [x] sp)
    (no : ∀ (w : World) (H : Hp) (s : Shared) (e : Value) (s' : Shared), cx w [] H s (fun _ _ _ => False) e s' → False) :
    PySem.W.WalkO q loose XP YP l.row.toRowW d [] (fun f vs => PySem.call f vs) :=
  Att.attach_call most plain fun w _ s1 mg _ at_ _ _ _ _ _ _ ns G Y _ _ _ at_mg obj hints len g => by
    obtain ⟨K, fd, sp, inK, binds, says, keeps⟩ := F w mg at_ _ Y G.T.g at_mg
    exact law_call inK G.T.g G.T.b G.T.builtins G.T.nolimit g obj hints (Nat.le_trans len small) room keeps binds (fun H _ hS => says H _ ns len hS) fun H e s' => no w H s1 e s'
theorem cx_none {P : Program} {w : World} {H : Hp} {s s' : Shared} {e : Value} (h : L2.CX P w [] H s (fun _ _ _ => False) e s') : False := by
  obtain ⟨_, _, _, _, _, _, _, _, _, _, _, _, z⟩ := h
  exact z
end ZL


namespace ZL
open PySem PySem.Spec PyProof.Rows L2
section
variable {G : Glob} {N : List Str} {sc : Scope} {fn : Str → Bool} {W : WX} {k : Nat} {Z : Zc G N sc fn W k}
/-- - of an int -/
def mNeg (m : ZM) : ZM := fun env Q E => m env (fun _ d => match d with
  | .int i => Q .sh (.int (-i))
  | _ => False) E
theorem ze_neg {a : Expr} {m : ZM} {pos} (h : ZE Z a m) : ZE Z (.UnaryOp .USub a pos) (mNeg m) := by
  obtain ⟨t, a1, a2⟩ := h.ex
  refine ⟨_, fun i => pe_un un_neg (a1 i), fun A H σ env Q Qz Ez hh v hm hq he => ?_⟩
  refine a2.go hh v hm (fun x H1 A1 _ d g1 s1 q1 => ?_) he
  cases d with
  | int i =>
    simp only [Shr] at s1
    exact ⟨i, s1, hq _ H1 A1 .sh _ [] g1 (own_sh (by simp [Shr])) Fresh.nil q1⟩
  | _ => exact q1.elim
theorem sw_false {elt : Expr} {gs : List Comprehension} {scope : Scope} {pos py : Pos} {y : Str} {l : Nat} {env : Env} (h : env.scope.names.lookup y = some .cell) : swapsWith (.ListComp elt gs scope pos) (some (.Name y py)) l env = pure false := by
  have e : (env.kindOf y == some NameKind.local) = false := by
    unfold Env.kindOf
    rw [h]; rfl
  simp [swapsWith, e]
end
end ZL


namespace ZL
open PySem PySem.Spec PyProof.Rows L2

section
variable {G : Glob} {N : List Str} {sc : Scope} {fn : Str → Bool} {W : WX} {k : Nat} {Z : Zc G N sc fn W k}
/-! ### code that is never reached -/
def wNever : ZMS := fun _ _ => False
theorem zs_never {st : Stmt} : ZS Z st wNever := ⟨tNever, fun _ => ps_never, fun A0 H0 A H σ env fp D Zz I w mm => w.elim⟩
theorem zss_never {st : List Stmt} : ZSs Z st wNever := ⟨tNever, fun _ => pss_never, fun A0 H0 A H σ env fp D Zz I w mm => w.elim⟩
def mNever : ZM := fun _ _ _ => False
/-! ### chains -/
def mChain2 (o o' : DOp) (a b c : ZM) : ZM := fun env Q E => a env (fun _ x => b env (fun _ y => o x y (fun _ z => match z with
  | .bl t => if t = true then c env (fun _ w => o' y w Q) E else Q .sh (.bl false)
  | _ => False)) E) E
theorem snd_chain2 {r r' : R2} {o o' : DOp} {ta tb tc : TE} {ma mb mc : ZM} (ho : SndOp G r o) (ho' : SndOp G r' o') (ha : Snd G W ta ma) (hb : Snd G W tb mb) (hc : Snd G W tc mc) : Snd G W (tChain r r' ta tb tc) (mChain2 o o' ma mb mc) := fun A H σ env Q Qz Ez h v hm hq he => by
  refine ha.go h v hm (fun x H1 A1 _ dx g1 s1 q1 => ?_) he
  refine hb.go g1.ah (v.mono g1.aa) q1 (fun y H2 A2 _ dy g2 s2 q2 => ?_) (he.gr g1)
  refine ho A2 H2 x y dx dy _ _ g2.ah (s1.mono g2.aa) s2 q2 fun z H3 A3 k3 dz f3 g3 o3 fr3 q3 => ?_
  have g123 := (g1.trans g2).trans g3
  cases dz with
  | bl t =>
    have hz : z = .bl t := by
      cases k3 <;> simp only [Own] at o3
      · simpa [Shr] using o3.1
      · obtain ⟨_, _, _, _, _, z, _⟩ := o3; cases z
      · obtain ⟨_, _, _, _, _, z, _⟩ := o3; cases z
      · obtain ⟨_, _, _, _, _, z, _⟩ := o3; cases z
      · obtain ⟨_, _, _, _, _, _, _, z, _⟩ := o3; cases z
    refine ⟨t, hz, ?_⟩
    cases t with
    | true =>
      simp only [if_true] at q3 ⊢
      refine hc.go g3.ah (v.mono g123.aa) q3 (fun w H4 A4 _ dw g4 s4 q4 => ?_) (he.gr g123)
      exact ho' A4 H4 y w dy dw _ _ g4.ah (s2.mono (sub_trans g3.aa g4.aa)) s4 q4 fun v H5 A5 k5 d5 f5 g5 o5 fr5 q5 => hq v H5 A5 k5 d5 f5 ((g123.trans g4).trans g5) o5 (fr5.back (sub_trans g123.hh g4.hh)) q5
    | false =>
      simp only [Bool.false_eq_true, if_false] at q3 ⊢
      exact hq _ H3 A3 .sh _ [] g123 (own_sh (by simp [Shr])) Fresh.nil q3
  | _ => exact q3.elim
theorem ze_chain2 {op op' : CmpOp} {o o' : DOp} {a b c : Expr} {ma mb mc : ZM} {pos : Pos} (ho : ZOp Z (compareOp op) o) (ho' : ZOp Z (compareOp op') o') (ha : ZE Z a ma) (hb : ZE Z b mb) (hc : ZE Z c mc) (hm : lastMarks [op, op'] [b, c] = false := by with_unfolding_all rfl) :
    ZE Z (.Compare a [op, op'] [b, c] pos) (mChain2 o o' ma mb mc) := by
  obtain ⟨r, r1, r2⟩ := ho
  obtain ⟨r', p1, p2⟩ := ho'
  obtain ⟨ta, a1, a2⟩ := ha.ex
  obtain ⟨tb, b1, b2⟩ := hb.ex
  obtain ⟨tc, c1, c2⟩ := hc.ex
  exact ⟨_, fun i => pe_chain (r1 i) (p1 i) (a1 i) (b1 i) (c1 i) hm, snd_chain2 r2 p2 a2 b2 c2⟩
theorem sndT_T {t : TE} {m : ZM} (s : Snd G W t m) : SndT G W (tTest t) (mB m) := sndT_B s
theorem zt_chain2 {op op' : CmpOp} {o o' : DOp} {a b c : Expr} {ma mb mc : ZM} {pos : Pos} (ho : ZOp Z (compareOp op) o) (ho' : ZOp Z (compareOp op') o') (ha : ZE Z a ma) (hb : ZE Z b mb) (hc : ZE Z c mc) (hm : lastMarks [op, op'] [b, c] = false := by with_unfolding_all rfl) :
    ZT Z (.Compare a [op, op'] [b, c] pos) (mB (mChain2 o o' ma mb mc)) := by
  obtain ⟨r, r1, r2⟩ := ho
  obtain ⟨r', p1, p2⟩ := ho'
  obtain ⟨ta, a1, a2⟩ := ha.ex
  obtain ⟨tb, b1, b2⟩ := hb.ex
  obtain ⟨tc, c1, c2⟩ := hc.ex
  exact ⟨_, fun i => pt_chain (r1 i) (p1 i) (a1 i) (b1 i) (c1 i) hm, sndT_T (snd_chain2 r2 p2 a2 b2 c2)⟩
/-- three links, as a test: a op b op' c op'' d -/
def tChain3 (r r' r'' : R2) (ta tb tc td : TE) : TT := fun σ H Q => ta σ H fun x H1 => tb σ H1 fun y H2 => r x y H2 fun z H3 => ∃ k, z = .bl k ∧
  (if k = true then tc σ H3 fun w H4 => r' y w H4 fun z' H5 => ∃ k', z' = .bl k' ∧ (if k' = true then td σ H5 fun u H6 => r'' w u H6 fun z'' H7 => ∃ k'', z'' = .bl k'' ∧ Q k'' H7 else Q false H5) else Q false H3)
theorem pt_chain3 {X : Cx} {a b c d : Expr} {ta tb tc td : TE} {pos : Pos} {op op' op'' : CmpOp} {r r' r'' : R2} (ho : OpR X (compareOp op) r) (ho' : OpR X (compareOp op') r') (ho'' : OpR X (compareOp op'') r'') (ha : PE X a ta) (hb : PE X b tb) (hc : PE X c tc) (hd : PE X d td)
    (hm : lastMarks [op, op', op''] [b, c, d] = false := by with_unfolding_all rfl) : PT X (.Compare a [op, op', op''] [b, c, d] pos) (tChain3 r r' r'' ta tb tc td) := by
  refine ⟨fun pins s σ H Q I h => ?_⟩
  refine isTrue_chain (thn (ha.run pins s σ H _ I h) fun v s1 ⟨x, H1, I1, r1, q1⟩ => test_link (thn (hb.run pins s1 σ H1 _ I1 q1) fun u s2 ⟨y, H2, I2, r2, q2⟩ =>
    thn (ho pins s2 σ H2 x y v u _ I2 r1 r2 q2) fun d' s3 ⟨z, H3, I3, r3, k, e, q3⟩ => ?_)) hm
  subst e
  cases r3
  refine wpAny_truthy_bool ?_
  cases k with
  | false => exact ite_ff ⟨H3, I3, q3⟩
  | true =>
    refine ite_tt (test_link (thn (hc.run pins s3 σ H3 _ I3 q3) fun w' s4 ⟨z', H4, I4, r4, q4⟩ => thn (ho' pins s4 σ H4 y z' u w' _ I4 r2 r4 q4) fun d' s5 ⟨z2, H5, I5, r5, k2, e2, q5⟩ => ?_))
    subst e2
    cases r5
    refine wpAny_truthy_bool ?_
    cases k2 with
    | false => exact ite_ff ⟨H5, I5, q5⟩
    | true =>
      refine ite_tt (test_last (thn (hd.run pins s5 σ H5 _ I5 q5) fun w2 s6 ⟨z3, H6, I6, r6, q6⟩ => thn (ho'' pins s6 σ H6 z' z3 w' w2 _ I6 r4 r6 q6) fun d' s7 ⟨z4, H7, I7, r7, k3, e3, q7⟩ => ?_))
      subst e3
      cases r7
      exact wpAny_truthy_bool ⟨H7, I7, q7⟩
def mChain3 (o o' o'' : DOp) (a b c d : ZM) : ZMT := fun env Q E => a env (fun _ x => b env (fun _ y => o x y (fun _ z => match z with
  | .bl t => if t = true then c env (fun _ w => o' y w (fun _ z' => match z' with
      | .bl t' => if t' = true then d env (fun _ u => o'' w u (fun _ z'' => match z'' with
          | .bl t'' => Q t''
          | _ => False)) E else Q false
      | _ => False)) E else Q false
  | _ => False)) E) E
theorem own_bl {K : PySem.W.Frag} {mg : Str → Option Value} {A H : Hp} {k : Kd} {z : V} {t : Bool} {f : List Addr} (o3 : Own K mg A H k z (.bl t) f) : z = .bl t := by
  cases k <;> simp only [Own] at o3
  · simpa [Shr] using o3.1
  · obtain ⟨_, _, _, _, _, z, _⟩ := o3; cases z
  · obtain ⟨_, _, _, _, _, z, _⟩ := o3; cases z
  · obtain ⟨_, _, _, _, _, z, _⟩ := o3; cases z
  · obtain ⟨_, _, _, _, _, _, _, z, _⟩ := o3; cases z
theorem zt_chain3 {op op' op'' : CmpOp} {o o' o'' : DOp} {a b c d : Expr} {ma mb mc md : ZM} {pos : Pos} (ho : ZOp Z (compareOp op) o) (ho' : ZOp Z (compareOp op') o') (ho'' : ZOp Z (compareOp op'') o'') (ha : ZE Z a ma) (hb : ZE Z b mb) (hc : ZE Z c mc) (hd : ZE Z d md) (hm : lastMarks [op, op', op''] [b, c, d] = false := by with_unfolding_all rfl) :
    ZT Z (.Compare a [op, op', op''] [b, c, d] pos) (mChain3 o o' o'' ma mb mc md) := by
  obtain ⟨r, r1, r2⟩ := ho
  obtain ⟨r', p1, p2⟩ := ho'
  obtain ⟨r'', n1, n2⟩ := ho''
  obtain ⟨ta, a1, a2⟩ := ha.ex
  obtain ⟨tb, b1, b2⟩ := hb.ex
  obtain ⟨tc, c1, c2⟩ := hc.ex
  obtain ⟨td, d1, d2⟩ := hd.ex
  refine ⟨_, fun i => pt_chain3 (r1 i) (p1 i) (n1 i) (a1 i) (b1 i) (c1 i) (d1 i) hm, fun A H σ env Q Qz Ez h v hm hq he => ?_⟩
  refine a2.go h v hm (fun x H1 A1 _ dx g1 s1 q1 => ?_) he
  refine b2.go g1.ah (v.mono g1.aa) q1 (fun y H2 A2 _ dy g2 s2 q2 => ?_) (he.gr g1)
  refine r2 A2 H2 x y dx dy _ _ g2.ah (s1.mono g2.aa) s2 q2 fun z H3 A3 k3 dz f3 g3 o3 fr3 q3 => ?_
  have g123 := (g1.trans g2).trans g3
  cases dz with
  | bl t =>
    refine ⟨t, own_bl o3, ?_⟩
    cases t with
    | false =>
      simp only [Bool.false_eq_true, if_false] at q3 ⊢
      exact hq _ H3 A3 g123 q3
    | true =>
      simp only [if_true] at q3 ⊢
      refine c2.go g3.ah (v.mono g123.aa) q3 (fun w H4 A4 _ dw g4 s4 q4 => ?_) (he.gr g123)
      refine p2 A4 H4 y w dy dw _ _ g4.ah (s2.mono (sub_trans g3.aa g4.aa)) s4 q4 fun z' H5 A5 k5 dz' f5 g5 o5 fr5 q5 => ?_
      have g15 := (g123.trans g4).trans g5
      cases dz' with
      | bl t' =>
        refine ⟨t', own_bl o5, ?_⟩
        cases t' with
        | false =>
          simp only [Bool.false_eq_true, if_false] at q5 ⊢
          exact hq _ H5 A5 g15 q5
        | true =>
          simp only [if_true] at q5 ⊢
          refine d2.go g5.ah (v.mono g15.aa) q5 (fun u H6 A6 _ du g6 s6 q6 => ?_) (he.gr g15)
          refine n2 A6 H6 w u dw du _ _ g6.ah (s4.mono (sub_trans g5.aa g6.aa)) s6 q6 fun z3 H7 A7 k7 dz3 f7 g7 o7 fr7 q7 => ?_
          cases dz3 with
          | bl t3 => exact ⟨t3, own_bl o7, hq _ H7 A7 ((g15.trans g6).trans g7) q7⟩
          | _ => exact q7.elim
      | _ => exact q5.elim
  | _ => exact q3.elim
/-! ### xs[::-1], xs[::2], xs[1::2] -/
def mRev (m : ZM) : ZM := fun env Q E => m env (fun _ d => match d with
  | .lst ds => Q (.ls .sh) (.lst ds.reverse)
  | _ => False) E
theorem shrL_rev {K : PySem.W.Frag} {mg : Str → Option Value} {A : Hp} : ∀ {vs : List V} {ds : List D}, ShrL K mg A vs ds → ShrL K mg A vs.reverse ds.reverse
  | [], [], _ => by simp [ShrL]
  | [], _ :: _, s => by simp [ShrL] at s
  | _ :: _, [], s => by simp [ShrL] at s
  | v :: vs, d :: ds, s => by
    simp only [ShrL] at s
    rw [List.reverse_cons, List.reverse_cons]
    exact (shrL_rev s.2).append (by simp only [ShrL]; exact ⟨s.1, trivial⟩)
theorem ze_revL {e : Expr} {m : ZM} {kk : Nat} {p1 p2 p3 pos : Pos} (h : ZE Z e m) : ZE Z (.Subscript e (.Slice none none (some (.UnaryOp .USub (.Constant (.int 1) kk p1) p2)) p3) pos) (mRev m) := by
  obtain ⟨t, a1, a2⟩ := h.ex
  refine ⟨tRevL G.K t, fun i => ?_, fun A H σ env Q Qz Ez hh v hm hq he => ?_⟩
  · have := pe_revL (k := kk) (p1 := p1) (p2 := p2) (p3 := p3) (pos := pos) (a1 i)
    rw [Z.hK i] at this
    exact this
  · refine a2.go hh v hm (fun x H1 A1 _ d g1 s1 q1 => ?_) he
    cases d with
    | lst ds =>
      simp only [Shr] at s1
      obtain ⟨a, xs, rfl, h1, h2⟩ := s1
      refine ⟨a, xs, rfl, sqL_of g1.ah h1, fun p hp => ?_⟩
      exact putL g1.ah (fun v H' A' k d fp g o f q => hq v H' A' k d fp (g1.trans g) o (f.back g1.hh) q) (shrL_rev h2) q1 hp
    | _ => exact q1.elim
end
end ZL


namespace ZL
open PySem PySem.Spec PyProof.Rows L2

section
variable {G : Glob} {N : List Str} {sc : Scope} {fn : Str → Bool} {W : WX} {k : Nat} {Z : Zc G N sc fn W k}
/-! ### two for clauses -/
/-- the inner turns: as mCompL, but the turns' end goes on with what is made so far -/
def mInner (g : ZMC) (c : ZMT) (e : ZM) (env : SEnv) : List D → List D → (List D → Prop) → Prop
  | [], acc, Q => Q acc
  | d :: ds, acc, Q => g d env (fun env' => c env' (fun b => if b = true then e env' (fun _ x => acc.length < sizeLine ∧ mInner g c e env ds (acc ++ [x]) Q) (fun _ => False) else mInner g c e env ds acc Q) (fun _ => False))
def mComp2L (g : ZMC) (it1 : ZMI) (vs1 : List Nat) (g1 : ZMC) (c : ZMT) (e : ZM) (env : SEnv) : List D → List D → (List D → Prop) → Prop
  | [], acc, Q => Q acc
  | d :: ds, acc, Q => g d env (fun env' => it1 env' (fun ds1 => mInner g1 c e (wipeE env' vs1) ds1 acc (fun acc' => mComp2L g it1 vs1 g1 c e env ds acc' Q)) (fun _ => False))
def mComp2 (it : ZMI) (vs : List Nat) (g : ZMC) (it1 : ZMI) (vs1 : List Nat) (g1 : ZMC) (c : ZMT) (e : ZM) : ZM := fun env Q E => it env (fun ds => mComp2L g it1 vs1 g1 c e (wipeE env vs) ds [] (fun acc => Q (.ls .sh) (.lst acc))) E
theorem wipe_wipe {σ : L2.St} {vs : List Nat} : wipe (wipe σ vs) vs = wipe σ vs := by
  apply List.ext_getElem?
  intro j
  by_cases hj : j ∈ vs
  · rw [mem_wipe hj, mem_wipe hj, wipe_length]
  · rw [wipe_out hj]
theorem snd_comp2 {vs vs1 : List Nat} {wi wi1 : TI} {g g1 : TG} {tt : TT} {te : TE} {mi mi1 : ZMI} {mg mg1 : ZMC} {mt : ZMT} {me : ZM} (hi : SndI G W wi mi) (hg : SndC G vs g mg) (hi1 : SndI G W0 wi1 mi1) (hg1 : SndC G vs1 g1 mg1) (ht : SndT G W0 tt mt) (he : Snd G W0 te me) :
    Snd G W (tLc2 wi g tYes wi1 g1 tt te vs vs1) (mComp2 mi vs mg mi1 vs1 mg1 mt me) := fun A H σ env Q Qz Ez h v hm hq hx => by
  refine hi A H σ env _ _ _ h v hm (fun J H1 A1 ds gr1 W1 q1 => ?_) hx
  intro D hD
  have aD : A1 D = none := Same.free (H := A1) (H' := H1) gr1.ah hD
  have v1 := (v.mono gr1.aa).wipe vs
  -- the state in the middle, R what is still to be done
  let St : (List ZL.D → Prop) → Hp → Prop := fun R H' => ∃ A' acc va, Sub A1 A' ∧ Sub A' H' ∧ Sub H1 H' ∧ (∀ a, A1 a = none → A' a ≠ none → H1 a = none) ∧ A' D = none ∧ H' D = some (.lst va) ∧ ShrL G.K G.mg A' va acc ∧ R acc
  let Rest : Nat → List ZL.D → Prop := fun i acc => mComp2L mg mi1 vs1 mg1 mt me (wipeE env vs) (ds.drop i) acc (fun acc => Qz (.ls .sh) (.lst acc))
  have step : ∀ {A2 H2 A' H' : Hp} {acc : List ZL.D} {va : List V}, Sub A1 A2 → Sub H1 H2 → (∀ a, A1 a = none → A2 a ≠ none → H1 a = none) → A2 D = none → H2 D = some (.lst va) → ShrL G.K G.mg A2 va acc → Gr A2 H2 A' H' →
      Sub A1 A' ∧ Sub H1 H' ∧ (∀ a, A1 a = none → A' a ≠ none → H1 a = none) ∧ A' D = none ∧ H' D = some (.lst va) ∧ ShrL G.K G.mg A' va acc := fun {A2 H2 A' H' acc va} s12 s3 nw2 aD2 hD2 sa g => by
    refine ⟨sub_trans s12 g.aa, sub_trans s3 g.hh, fun a e n => ?_, ?_, g.hh _ _ hD2, sa.mono g.aa⟩
    · by_cases z : A2 a = none
      · exact Same.free (H := H1) (H' := H2) s3 (g.nw a z n)
      · exact nw2 a e z
    · cases z : A' D with
      | none => rfl
      | some o =>
        have := g.nw D aD2 (by rw [z]; exact Option.some_ne_none _)
        rw [hD2] at this; cases this
  refine ⟨fun i m H' => m + i = ds.length ∧ St (Rest i) H', ⟨ds.length, rfl, A1, [], [], sub_refl, fun a o e => ?_, fun a o e => ?_, fun a e n => absurd e n, aD, upd_same, by simp [ShrL], by simpa [Rest] using q1⟩, ?_⟩
  · rw [upd_ne (ne_of_none e aD)]; exact gr1.ah a o e
  · rw [upd_ne (ne_of_none e hD)]; exact e
  rintro i m H2 ⟨hm2, A2, acc, va, s12, s2, s3, nw2, aD2, hD2, sa, q2⟩
  obtain ⟨w1, w2⟩ := W1 A2 H2 s12 s2
  by_cases hi2 : i < ds.length
  · obtain ⟨d, hd⟩ : ∃ d, ds[i]? = some d := ⟨ds[i], by simp [hi2]⟩
    have hdrop : ds.drop i = d :: ds.drop (i + 1) := by
      rw [List.drop_eq_getElem_cons hi2]
      congr 1
      rw [List.getElem?_eq_getElem hi2] at hd
      exact Option.some.inj hd
    simp only [Rest] at q2
    rw [hdrop] at q2
    obtain ⟨go, y⟩ := w1 i d hd
    refine .inr ⟨go, St (Rest (i + 1)), fun H' s => ⟨m - 1, by omega, by omega, s⟩, fun x H3 hy => ?_⟩
    obtain ⟨A3, g3, sx⟩ := y x H3 hy
    obtain ⟨r1, r2, r3, r4, r5, r6⟩ := step s12 s3 nw2 aD2 hD2 sa g3
    refine hg A3 H3 (wipe σ vs) (wipeE env vs) x d _ _ g3.ah (v1.mono (sub_trans s12 g3.aa)) sx q2 fun σ' env' v' hw' q' => ⟨by rw [hw']; exact wipe_wipe, ?_⟩
    unfold tYes
    refine iteT ?_
    refine hi1 A3 H3 σ' env' _ _ _ g3.ah v' q' (fun J1 H4 A4 ds1 g4 W4 q4 => ?_) esc0
    obtain ⟨t1, t2, t3, t4, t5, t6⟩ := step r1 r2 r3 r4 r5 r6 g4
    have v4 := (v'.mono g4.aa).wipe vs1
    -- the inner loop
    let In : Nat → List ZL.D → Prop := fun j acc => mInner mg1 mt me (wipeE env' vs1) (ds1.drop j) acc (fun acc' => Rest (i + 1) acc')
    let St1 : Nat → Hp → Prop := fun j H' => ∃ A' acc va, Sub A4 A' ∧ Sub A1 A' ∧ Sub A' H' ∧ Sub H1 H' ∧ (∀ a, A1 a = none → A' a ≠ none → H1 a = none) ∧ A' D = none ∧ H' D = some (.lst va) ∧ ShrL G.K G.mg A' va acc ∧ In j acc
    refine ⟨fun j m H' => m + j = ds1.length ∧ St1 j H', ⟨ds1.length, rfl, A4, acc, va, sub_refl, t1, g4.ah, t2, t3, t4, t5, t6, by simpa [In, Rest] using q4⟩, ?_⟩
    rintro j m5 H5 ⟨hm5, A5, acc5, va5, s45, s15, s5, sH5, nw5, aD5, hD5, sa5, q5⟩
    obtain ⟨x1, x2⟩ := W4 A5 H5 s45 s5
    by_cases hj : j < ds1.length
    · obtain ⟨d1, hd1⟩ : ∃ d, ds1[j]? = some d := ⟨ds1[j], by simp [hj]⟩
      have hdrop1 : ds1.drop j = d1 :: ds1.drop (j + 1) := by
        rw [List.drop_eq_getElem_cons hj]
        congr 1
        rw [List.getElem?_eq_getElem hj] at hd1
        exact Option.some.inj hd1
      simp only [In] at q5
      rw [hdrop1] at q5
      obtain ⟨go1, y1⟩ := x1 j d1 hd1
      refine .inr ⟨go1, St1 (j + 1), fun H' s => ⟨m5 - 1, by omega, by omega, s⟩, fun x5 H6 hy1 => ?_⟩
      obtain ⟨A6, g6, sx6⟩ := y1 x5 H6 hy1
      refine hg1 A6 H6 (wipe σ' vs1) (wipeE env' vs1) x5 d1 _ _ g6.ah (v4.mono (sub_trans s45 g6.aa)) sx6 q5 fun σ6 env6 v6 hw6 q6 => ⟨by rw [hw6]; exact wipe_wipe, ?_⟩
      refine ht A6 H6 σ6 env6 _ _ _ g6.ah v6 q6 (fun b H7 A7 g7 q7 => ?_) esc0
      have g67 := g6.trans g7
      cases b with
      | false =>
        simp only [Bool.false_eq_true, if_false] at q7 ⊢
        obtain ⟨u1, u2, u3, u4, u5, u6⟩ := step s15 sH5 nw5 aD5 hD5 sa5 g67
        exact ⟨A7, acc5, va5, sub_trans s45 g67.aa, u1, g7.ah, u2, u3, u4, u5, u6, q7⟩
      | true =>
        simp only [if_true] at q7 ⊢
        refine he.go g7.ah (v6.mono g7.aa) q7 (fun z H8 A8 _ dz g8 sz q8 => ?_) esc0
        have g58 := g67.trans g8
        obtain ⟨u1, u2, u3, u4, u5, u6⟩ := step s15 sH5 nw5 aD5 hD5 sa5 g58
        refine ⟨va5, u5, by rw [u6.length]; exact q8.1, A8, acc5 ++ [dz], va5 ++ [z], sub_trans s45 g58.aa, u1, fun a o e => ?_, fun a o e => ?_, u3, u4, upd_same, u6.append (by simp only [ShrL]; exact ⟨sz, trivial⟩), q8.2⟩
        · rw [upd_ne (ne_of_none e u4)]; exact g8.ah a o e
        · rw [upd_ne (ne_of_none e hD)]; exact u2 a o e
    · have hj : j = ds1.length := by omega
      subst hj
      simp only [In] at q5
      rw [List.drop_length] at q5
      exact .inl ⟨x2, A5, acc5, va5, s15, s5, sH5, nw5, aD5, hD5, sa5, q5⟩
  · have hi2 : i = ds.length := by omega
    subst hi2
    simp only [Rest] at q2
    rw [List.drop_length] at q2
    refine .inl ⟨w2, ?_⟩
    have gg : Gr A1 H1 A2 H2 := ⟨s12, s2, s3, nw2⟩
    exact hq (.ref D) H2 A2 (.ls .sh) (.lst acc) [D] (gr1.trans gg) (own_ls_mk hD2 sa) ⟨by simp, fun a m => by
      have : a = D := by simpa using m
      subst this
      exact ⟨Same.free (H := H) (H' := H1) gr1.hh hD, aD2⟩⟩ q2
theorem ze_comp2 {elt tg iter tg1 iter1 : Expr} {ifs1 : List Expr} {scope : Scope} (own : List (Str × Nat)) (vs1 : List Nat) {pos : Pos} {mi mi1 : ZMI} {mg mg1 : ZMC} {mt : ZMT} {me : ZM} (hi : ZIE Z tg iter mi) (hb : blkC N sc scope own = true) (hv : ∀ i ∈ vs1, i ∈ own.map (·.2)) (hg : ZC (Z.blk scope) (own.map (·.2)) tg mg)
    (hi1 : ZIE (Z.blk scope) tg1 iter1 mi1) (hg1 : ZC (Z.blk scope) vs1 tg1 mg1) (ht : ZTs (Z.blk scope) ifs1 mt) (he : ZE (Z.blk scope) elt me) (hs : ∀ env x, foldedSetIterable iter env x = pure x := by intro _ _; rfl) (hs1 : ∀ env x, foldedSetIterable iter1 env x = pure x := by intro _ _; rfl) :
    ZE Z (.ListComp elt [⟨tg, iter, [], 0⟩, ⟨tg1, iter1, ifs1, 0⟩] scope pos) (mComp2 mi (own.map (·.2)) mg mi1 vs1 mg1 mt me) := by
  obtain ⟨wi, i1, i2⟩ := hi.ex
  obtain ⟨g, g1, g2⟩ := hg.ex
  obtain ⟨wi1, j1, j2⟩ := hi1.ex
  obtain ⟨g', h1, h2⟩ := hg1.ex
  obtain ⟨tt, t1, t2⟩ := ht.ex
  obtain ⟨te, e1, e2⟩ := he.ex
  exact ⟨_, fun i => pe_lc2 (Z.calm i) (by rw [Z.hN]; exact Z.nd) (i1 i) (by rw [Z.hN, Z.hsc]; exact blkOk_by hb) hv (fun s H C cl fp => g1 (i, s, H, C, cl, fp)) (fun s H C cl fp => pts_nil) (fun s H C cl fp => j1 (i, s, H, C, cl, fp)) (fun s H C cl fp => h1 (i, s, H, C, cl, fp)) (fun s H C cl fp => t1 (i, s, H, C, cl, fp)) (fun s H C cl fp => e1 (i, s, H, C, cl, fp)) (hs _) hs1, snd_comp2 i2 g2 j2 h2 t2 e2⟩
end
end ZL


namespace ZL
open PySem PySem.Spec PyProof.Rows L2
section
variable {G : Glob} {N : List Str} {sc : Scope} {fn : Str → Bool} {W : WX} {k : Nat} {Z : Zc G N sc fn W k}
/-! ### y = [.. for .. in .. for .. in ..] -/
theorem zs_setComp2 {i : Nat} {y : Str} {py : Pos} {elt tg iter tg1 iter1 : Expr} {ifs1 : List Expr} {scope : Scope} (own : List (Str × Nat)) (vs1 : List Nat) {pos spos : Pos} {mi mi1 : ZMI} {mg mg1 : ZMC} {mt : ZMT} {me : ZM} {wr : ZM → ZMV} (hwr : ∀ {t m}, Snd G W t m → SndV G W t (wr m)) (hi : ZIE Z tg iter mi) (hb : blkC N sc scope own = true) (hv : ∀ i ∈ vs1, i ∈ own.map (·.2)) (hg : ZC (Z.blk scope) (own.map (·.2)) tg mg)
    (hi1 : ZIE (Z.blk scope) tg1 iter1 mi1) (hg1 : ZC (Z.blk scope) vs1 tg1 mg1) (ht : ZTs (Z.blk scope) ifs1 mt) (he : ZE (Z.blk scope) elt me) (hy : N[i]? = some y := by rfl) (hyl : sc.names.lookup y = some .local := by rfl) (hk : sc.kind = .function := by rfl) (hl : (py.line == pos.line) = true := by rfl)
    (hno : (scope.names.any fun (n, k) => n == y && (k == .local || k == .cell)) = false := by decide +kernel) (hs : ∀ env x, foldedSetIterable iter env x = pure x := by intro _ _; rfl) (hs1 : ∀ env x, foldedSetIterable iter1 env x = pure x := by intro _ _; rfl) :
    ZS Z (.Assign [.Name y py] (.ListComp elt [⟨tg, iter, [], 0⟩, ⟨tg1, iter1, ifs1, 0⟩] scope pos) spos) (wSet i (wr (mComp2 mi (own.map (·.2)) mg mi1 vs1 mg1 mt me))) := by
  obtain ⟨wi, i1, i2⟩ := hi.ex
  obtain ⟨g, g1, g2⟩ := hg.ex
  obtain ⟨wi1, j1, j2⟩ := hi1.ex
  obtain ⟨g', h1, h2⟩ := hg1.ex
  obtain ⟨tt, t1, t2⟩ := ht.ex
  obtain ⟨te, e1, e2⟩ := he.ex
  refine ⟨_, fun j => ps_setLc2 (Z.calm j) (by rw [Z.hN]; exact Z.nd) (by rw [Z.hN]; exact hy) (by rw [Z.hsc]; exact hyl) (sw_true (by rw [Z.hsc]; exact hk) (by rw [Z.hsc]; exact hyl) hl hno) (i1 j) (by rw [Z.hN, Z.hsc]; exact blkOk_by hb) hv (fun s H C cl fp => g1 (j, s, H, C, cl, fp)) (fun s H C cl fp => pts_nil) (fun s H C cl fp => j1 (j, s, H, C, cl, fp)) (fun s H C cl fp => h1 (j, s, H, C, cl, fp)) (fun s H C cl fp => t1 (j, s, H, C, cl, fp)) (fun s H C cl fp => e1 (j, s, H, C, cl, fp)) (hs _) hs1, fun A0 H0 A H σ env fp D Zz I w mm => ?_⟩
  have a2 := hwr (snd_comp2 i2 g2 j2 h2 t2 e2)
  exact a2 A0 H0 A H σ env fp _ _ _ I w (fun v H' A' env' fp' k d f I' s o fr q => mm.nx A' H' _ _ _ (I'.put o fr q.1) s q.2) fun x cls dx H' A' I' s xa q => mm.ex A' H' σ env fp x cls dx I' s xa q
/-! ### xs[a:b:c] of a list -/
def ixs (lo hi st : Option Int) (n : Nat) : List Nat := sliceRange (sliceBounds lo hi st n).1 (sliceBounds lo hi st n).2.1 (sliceBounds lo hi st n).2.2
def pick {α : Type} (xs : List α) (lo hi st : Option Int) : List α := (ixs lo hi st xs.length).filterMap (xs[·]?)
theorem pick_vals {xs : List V} {its : List Value} (r : Vals xs its) (lo hi st : Option Int) : Vals (pick xs lo hi st) (pick its lo hi st) := by
  unfold pick
  rw [r.length]
  induction ixs lo hi st its.length with
  | nil => exact .nil
  | cons i l ih =>
    rw [List.filterMap_cons, List.filterMap_cons]
    cases e : xs[i]? with
    | none => rw [r.none_of e]; exact ih
    | some x =>
      obtain ⟨u, hu, ru⟩ := r.get e
      rw [hu]
      exact .cons ru ih
theorem pick_array (its : List Value) (lo hi st : Option Int) : slicePick its.toArray lo hi st = (pick its lo hi st).toArray := by
  unfold slicePick pick ixs
  rw [List.size_toArray]
  simp only [List.getElem?_toArray]
theorem pick_length {α : Type} (xs : List α) (lo hi st : Option Int) : (pick xs lo hi st).length ≤ xs.length := by
  have h := slicePick_size_le (xs.map fun _ => Value.none).toArray lo hi st
  rw [pick_array, List.size_toArray, List.size_toArray, List.length_map] at h
  have e : pick (xs.map fun _ => Value.none) lo hi st = (pick xs lo hi st).map fun _ => Value.none := by
    unfold pick
    rw [List.length_map]
    induction ixs lo hi st xs.length with
    | nil => rfl
    | cons i l ih =>
      rw [List.filterMap_cons, List.filterMap_cons, List.getElem?_map]
      cases e : xs[i]? with
      | none => exact ih
      | some x => simp only [Option.map_some, List.map_cons]; rw [ih]
  rw [e, List.length_map] at h
  exact h
theorem pick_shr {K : PySem.W.Frag} {mg : Str → Option Value} {A : Hp} {vs : List V} {ds : List D} (s : ShrL K mg A vs ds) (lo hi st : Option Int) : ShrL K mg A (pick vs lo hi st) (pick ds lo hi st) := by
  unfold pick
  rw [s.length]
  induction ixs lo hi st ds.length with
  | nil => simp [ShrL]
  | cons i l ih =>
    rw [List.filterMap_cons, List.filterMap_cons]
    cases e : vs[i]? with
    | none =>
      have : ds[i]? = none := by
        rw [List.getElem?_eq_none_iff] at e ⊢
        rw [← s.length]; exact e
      rw [this]; exact ih
    | some x =>
      have hi : i < ds.length := by
        rw [← s.length]
        exact (List.getElem?_eq_some_iff.1 e).1
      obtain ⟨d, hd⟩ : ∃ d, ds[i]? = some d := ⟨ds[i], by simp [hi]⟩
      rw [hd]
      simp only [ShrL]
      obtain ⟨v, hv, sv⟩ := s.get hd
      rw [e] at hv
      cases hv
      exact ⟨sv, ih⟩
def tPk (K : PySem.W.Frag) (te : TE) (tl th ts : TO) : TE := fun σ H Q => te σ H fun x H1 => tl σ H1 fun l H2 => th σ H2 fun u H3 => ts σ H3 fun st H4 => st ≠ some 0 ∧ ∃ a xs, x = .ref a ∧ SqL K H4 a xs ∧ ∀ p, H4 p = none → Q (.ref p) (upd H4 p (.lst (pick xs l u st)))
theorem pe_pk {X : Cx} {e s : Expr} {lo hi : Option Expr} {te : TE} {tl th ts : TO} {p3 pos : Pos} (he : PE X e te) (hl : PO X lo tl) (hh : PO X hi th) (hs : PO X (some s) ts) : PE X (.Subscript e (.Slice lo hi (some s) p3) pos) (tPk X.K te tl th ts) := by
  refine ⟨fun pins s0 σ H Q I h => ?_⟩
  refine Subscript_ (thn (he.run pins s0 σ H _ I h) fun v s1 ⟨x, H1, I1, r1, q1⟩ => ?_)
  refine wpAny_Slice (thn (hl.run pins s1 σ H1 _ I1 q1) fun vl s2 ⟨l, H2, I2, pl, q2⟩ => thn (hh.run pins s2 σ H2 _ I2 q2) fun vu s3 ⟨u, H3, I3, pu, q3⟩ => ?_)
  refine thn (hs.run pins s3 σ H3 _ I3 q3) fun vs s4 ⟨o, H4, I4, ps, q4⟩ => ?_
  obtain ⟨h0, a, xs, rfl, hx, q⟩ := q4
  cases r1
  have I5 : Inv X pins σ H4 { s4 with heap := s4.heap.push { cls := .type "slice", data := .fields #[vl, vu, vs] } } := I4.kept (t' := s4.toks) fun b ob q => Heap.get?_push_of_some _ q
  obtain ⟨its, r, ht, hz⟩ := I5.list hx
  have hlen := r.length
  show wpAny (model X.prog X.w) X.A (subscriptTail e (.Slice lo hi (some s) p3) (.ref a) (.ref s4.heap.objs.size)) (EP X pins σ Q) X.xe { s4 with heap := s4.heap.push { cls := .type "slice", data := .fields #[vl, vu, vs] } }
  refine tail_any (ops := [.ref a, .ref s4.heap.objs.size]) ht.isList.typeIs (PySem.slot_list_getitem.lookup) ?_ (by with_unfolding_all rfl)
  refine wpAny_getItem_list_slice ht.isList (Heap.IsSliceOf.new _ vl vu vs) pl pu ps h0 ?_ (by rw [List.size_toArray]; omega)
  rw [pick_array]
  refine ⟨.ref _, _, I5.laid (t' := s4.toks) (o := .lst (pick xs l u o)) (fun b ob q => Heap.get?_push_of_some _ q) (Nat.le_refl _) ?_, rfl, q _ (I5.hok.fresh (Nat.le_refl _))⟩
  exact ⟨Nat.le_trans (pick_length xs l u o) hz, _, 0, pick_vals r l u o, Heap.get?_push_size _ rfl⟩
/-- xs[a:b:c] -/
def mPk (m : ZM) (lo hi st : DPart) : ZM := fun env Q E => m env (fun _ x => lo env (fun a => hi env (fun b => st env (fun c => c ≠ some 0 ∧ match x with
  | .lst ds => Q (.ls .sh) (.lst (pick ds a b c))
  | _ => False) E) E) E) E
theorem ze_pk {e s : Expr} {lo hi : Option Expr} {m : ZM} {ml mh ms : DPart} {pos p2 : Pos} (he : ZE Z e m) (hl : ZO Z lo ml) (hh : ZO Z hi mh) (hst : ZO Z (some s) ms) : ZE Z (.Subscript e (.Slice lo hi (some s) p2) pos) (mPk m ml mh ms) := by
  obtain ⟨t, a1, a2⟩ := he.ex
  obtain ⟨tl, b1, b2⟩ := hl.ex
  obtain ⟨th, c1, c2⟩ := hh.ex
  obtain ⟨ts, d1, d2⟩ := hst.ex
  refine ⟨tPk G.K t tl th ts, fun i => ?_, fun A H σ env Q Qz Ez h v hm hq he => ?_⟩
  · have := pe_pk (p3 := p2) (pos := pos) (a1 i) (b1 i) (c1 i) (d1 i)
    rw [Z.hK i] at this
    exact this
  refine a2.go h v hm (fun x H1 A1 _ d g1 s1 q1 => ?_) he
  refine b2 A1 H1 σ env _ _ Ez g1.ah (v.mono g1.aa) q1 (fun a H2 A2 g2 q2 => ?_) (he.gr g1)
  refine c2 A2 H2 σ env _ _ Ez g2.ah (v.mono (g1.trans g2).aa) q2 (fun b H3 A3 g3 q3 => ?_) (he.gr (g1.trans g2))
  refine d2 A3 H3 σ env _ _ Ez g3.ah (v.mono ((g1.trans g2).trans g3).aa) q3 (fun c H4 A4 g4 q4 => ?_) (he.gr ((g1.trans g2).trans g3))
  have g := ((g1.trans g2).trans g3).trans g4
  have s3 := ((s1.mono g2.aa).mono g3.aa).mono g4.aa
  refine ⟨q4.1, ?_⟩
  have q5 := q4.2
  cases d with
  | lst ds =>
    simp only [Shr] at s3
    obtain ⟨p, xs, e1, h1, h2⟩ := s3
    exact ⟨p, xs, e1, sqL_of g4.ah h1, fun l hl => putL g4.ah (fun v H' A' k d fp g5 o4 f4 q4 => hq v H' A' k d fp (g.trans g5) o4 (f4.back g.hh) q4) (pick_shr h2 a b c) q5 hl⟩
  | _ => exact q5.elim
end
end ZL


namespace ZL
open PySem PySem.Spec PyProof.Rows L2
/-! ### plain laws of loops and comprehensions -/
theorem for_items {α : Type} {g : ZMG} {b : ZMS} {Z : ZEnds} {env : DEnv} (xs : List α) (h : α → D) (I : Nat → DEnv → Prop) (h0 : I 0 env)
    (hs : ∀ i x, xs[i]? = some x → ∀ env K, I i env → (∀ e, I (i + 1) e → K e) → g (h x) env fun env' => b env' ⟨K, Z.rt, Z.nx, K, Z.ex⟩)
    (hn : ∀ env, I xs.length env → Z.nx env) : wForL g b (xs.map h) env Z := by
  have aux : ∀ (k j : Nat) (env : DEnv), j + k = xs.length → I j env → wForL g b ((xs.drop j).map h) env Z := by
    intro k
    induction k with
    | zero =>
      intro j env e i
      have : j = xs.length := by omega
      subst this
      rw [List.drop_length]
      exact hn env i
    | succ k ih =>
      intro j env e i
      have hj : j < xs.length := by omega
      rw [List.drop_eq_getElem_cons hj, List.map_cons]
      simp only [wForL]
      exact hs j _ (List.getElem?_eq_getElem hj) env _ i fun e' i' => ih (j + 1) e' (by omega) i'
  have := aux xs.length 0 env (by omega) h0
  simpa using this
theorem for_range {g : ZMG} {b : ZMS} {Z : ZEnds} {env : DEnv} {lo : Int} {n : Nat} (I : Nat → DEnv → Prop) (h0 : I 0 env)
    (hs : ∀ i, i < n → ∀ env K, I i env → (∀ e, I (i + 1) e → K e) → g (.int (lo + (i : Int))) env fun env' => b env' ⟨K, Z.rt, Z.nx, K, Z.ex⟩)
    (hn : ∀ env, I n env → Z.nx env) : wForL g b (rangeD lo n) env Z := by
  unfold rangeD
  refine for_items (List.range n) (fun (i : Nat) => D.int (lo + (i : Int))) I h0 (fun i x hx => ?_) fun env h => hn env (by rw [List.length_range] at h; exact h)
  have hi : i < n := by
    have := (List.getElem?_eq_some_iff.1 hx).1
    rwa [List.length_range] at this
  rw [List.getElem?_range hi] at hx
  cases hx
  exact hs i hi
/-- the turns of a comprehension -/
theorem compL_of {α : Type} {g : ZMC} {c : ZMT} {e : ZM} {env : SEnv} (h : α → D) (f : α → Option D) : ∀ (xs : List α) (acc : List D) (Q : List D → Prop),
    (∀ x, x ∈ xs → ∀ (K : D → Prop) (S : Prop), (match f x with | some y => K y | none => S) → g (h x) env (fun env' => c env' (fun b => if b = true then e env' (fun _ y => K y) (fun _ => False) else S) (fun _ => False))) →
    acc.length + xs.length ≤ sizeLine → Q (acc ++ xs.filterMap f) → mCompL g c e env (xs.map h) acc Q
  | [], acc, Q, _, _, q => by simpa [mCompL] using q
  | x :: xs, acc, Q, hs, hl, q => by
    rw [List.map_cons]
    simp only [mCompL]
    simp only [List.length_cons] at hl
    refine hs x List.mem_cons_self (fun y => acc.length < sizeLine ∧ mCompL g c e env (xs.map h) (acc ++ [y]) Q) (mCompL g c e env (xs.map h) acc Q) ?_
    cases hf : f x with
    | none =>
      refine compL_of h f xs acc Q (fun y m => hs y (List.mem_cons_of_mem _ m)) (by omega) ?_
      rw [List.filterMap_cons, hf] at q
      exact q
    | some y =>
      refine ⟨by omega, compL_of h f xs (acc ++ [y]) Q (fun y m => hs y (List.mem_cons_of_mem _ m)) (by simp only [List.length_append, List.length_cons, List.length_nil]; omega) ?_⟩
      rw [List.filterMap_cons, hf] at q
      simpa using q
theorem comp_map {α : Type} {g : ZMC} {e : ZM} {env : SEnv} {Q : List D → Prop} (xs : List α) (h : α → D) (f : α → D)
    (hs : ∀ x, x ∈ xs → ∀ K : D → Prop, K (f x) → g (h x) env (fun env' => e env' (fun _ y => K y) (fun _ => False))) (hl : xs.length ≤ sizeLine) (q : Q (xs.map f)) : mCompL g mYes e env (xs.map h) [] Q := by
  refine compL_of h (fun x => some (f x)) xs [] Q (fun x m K S k => ?_) (by simpa using hl) (by simpa using q)
  have := hs x m K k
  simpa [mYes] using this
theorem inner_eq {g : ZMC} {c : ZMT} {e : ZM} {env : SEnv} : ∀ (ds acc : List D) (Q : List D → Prop), mInner g c e env ds acc Q = mCompL g c e env ds acc Q
  | [], acc, Q => rfl
  | d :: ds, acc, Q => by
    simp only [mInner, mCompL]
    congr 1
    funext env'
    congr 1
    funext b
    split
    · congr 1
      funext _ x
      rw [inner_eq]
    · rw [inner_eq]
theorem comp2L_of {α : Type} {g : ZMC} {it1 : ZMI} {vs1 : List Nat} {g1 : ZMC} {c : ZMT} {e : ZM} {env : SEnv} (h : α → D) (f : α → List D) (B : Nat) : ∀ (xs : List α) (acc : List D) (Q : List D → Prop),
    (∀ x, x ∈ xs → ∀ (acc : List D) (K : List D → Prop), acc.length + (f x).length ≤ B → K (acc ++ f x) → g (h x) env (fun env' => it1 env' (fun ds1 => mInner g1 c e (wipeE env' vs1) ds1 acc K) (fun _ => False))) →
    acc.length + (xs.flatMap f).length ≤ B → Q (acc ++ xs.flatMap f) → mComp2L g it1 vs1 g1 c e env (xs.map h) acc Q
  | [], acc, Q, _, _, q => by simpa [mComp2L] using q
  | x :: xs, acc, Q, hs, hl, q => by
    rw [List.map_cons]
    simp only [mComp2L]
    simp only [List.flatMap_cons, List.length_append] at hl q
    refine hs x List.mem_cons_self acc _ (by omega) ?_
    refine comp2L_of h f B xs _ Q (fun y m => hs y (List.mem_cons_of_mem _ m)) (by simp only [List.length_append]; omega) ?_
    rw [List.append_assoc]
    exact q
theorem rangeD_zero {n : Nat} : rangeD 0 n = (List.range n).map fun (i : Nat) => D.int (i : Int) := by
  unfold rangeD
  simp
theorem atI_of {α : Type} {xs : List α} {i : Nat} {x : α} (h : xs[i]? = some x) : atI xs (i : Int) = some x := by
  have hi := (List.getElem?_eq_some_iff.1 h).1
  unfold atI ixN
  rw [if_pos (by omega), if_pos (by omega)]
  simpa using h
theorem atI_nat {α : Type} {xs : List α} {i : Int} {x : α} (h0 : 0 ≤ i) (h : xs[i.toNat]? = some x) : atI xs i = some x := by
  have := atI_of h
  rwa [Int.toNat_of_nonneg h0] at this
theorem atI_0 {α : Type} {a : α} {l : List α} : atI (a :: l) 0 = some a := atI_of (i := 0) rfl
theorem atI_1 {α : Type} {a b : α} {l : List α} : atI (a :: b :: l) 1 = some b := atI_of (i := 1) rfl
theorem atI_2 {α : Type} {a b c : α} {l : List α} : atI (a :: b :: c :: l) 2 = some c := atI_of (i := 2) rfl
theorem atI_3 {α : Type} {a b c d : α} {l : List α} : atI (a :: b :: c :: d :: l) 3 = some d := atI_of (i := 3) rfl
theorem atI_4 {α : Type} {a b c d e : α} {l : List α} : atI (a :: b :: c :: d :: e :: l) 4 = some e := atI_of (i := 4) rfl
theorem atI_5 {α : Type} {a b c d e f : α} {l : List α} : atI (a :: b :: c :: d :: e :: f :: l) 5 = some f := atI_of (i := 5) rfl
theorem atI_6 {α : Type} {a b c d e f g : α} {l : List α} : atI (a :: b :: c :: d :: e :: f :: g :: l) 6 = some g := atI_of (i := 6) rfl
theorem ty_int : tyNm "int" = some .int := by rfl
theorem ty_bool : tyNm "bool" = some .bool := by rfl
theorem ty_str : tyNm "str" = some .str := by rfl
theorem ty_list : tyNm "list" = some .list := by rfl
theorem ty_tuple : tyNm "tuple" = some .tuple := by rfl
theorem ty_dict : tyNm "dict" = some .dict := by rfl
theorem eqOk_int {i : Int} : eqOk (.int i) = true := by rfl
theorem eqOk_non : eqOk .non = true := by rfl
theorem eqOk_bl {b : Bool} : eqOk (.bl b) = true := by rfl
theorem eqD_int {i j : Int} : eqD (.int i) (.int j) = (i == j) := by rfl
theorem eqD_bl {i j : Bool} : eqD (.bl i) (.bl j) = (i == j) := by rfl
theorem eqD_str {i j : Str} : eqD (.str i) (.str j) = (i == j) := by rfl
theorem eqD_non : eqD .non .non = true := by rfl
theorem nc_0 : ((0 : Nat) : Int) = 0 := rfl
theorem nc_1 : ((1 : Nat) : Int) = 1 := rfl
theorem nc_2 : ((2 : Nat) : Int) = 2 := rfl
theorem nc_3 : ((3 : Nat) : Int) = 3 := rfl
theorem nc_4 : ((4 : Nat) : Int) = 4 := rfl
theorem nc_5 : ((5 : Nat) : Int) = 5 := rfl
theorem nc_6 : ((6 : Nat) : Int) = 6 := rfl
theorem cpow_of {i j : Int} (h1 : 0 ≤ j) (h2 : j ≤ 1000000) (h3 : i.natAbs < 2 ^ 64) : CPow i j := ⟨h1, h2, h3⟩
/-! ### the law's own first rows -/
def DrawOk : List Int → List Int → Prop
  | [], [] => True
  | s :: ss, r :: rs => (0 ≤ r ∧ r < s) ∧ DrawOk ss rs
  | _, _ => False
theorem DrawOk.length : ∀ {ss rs : List Int}, DrawOk ss rs → rs.length = ss.length
  | [], [], _ => rfl
  | _ :: _, _ :: _, h => by simp only [List.length_cons, DrawOk.length h.2]
  | [], _ :: _, h => h.elim
  | _ :: _, [], h => h.elim
theorem DrawOk.snoc : ∀ {ss rs : List Int} {s r : Int}, DrawOk ss rs → 0 ≤ r → r < s → DrawOk (ss ++ [s]) (rs ++ [r])
  | [], [], _, _, _, h1, h2 => ⟨⟨h1, h2⟩, trivial⟩
  | _ :: _, _ :: _, _, _, h, h1, h2 => ⟨h.1, DrawOk.snoc h.2 h1 h2⟩
  | [], _ :: _, _, _, h, _, _ => h.elim
  | _ :: _, [], _, _, h, _, _ => h.elim
def sp__law_cell : ZSpec := fun ds Q _ => ∃ (ns : List Int) (k : Int), ds = [.scr ns, .int k] ∧ 0 ≤ k ∧ ∀ c, Q .sh (.int c)
theorem ar__law_cell : ZSpec.Ar sp__law_cell 2 := fun ds Q E h => by
  obtain ⟨ns, k, rfl, _⟩ := h
  rfl
def sp__law_draws : ZSpec := fun ds Q _ => ∃ (c : Int) (ss : List Int), ds = [.int c, .lst (ss.map D.int)] ∧ ss.length < 10 ^ 6 ∧ (∀ s ∈ ss, 0 < s ∧ s ≤ 10 ^ 100) ∧ ∀ rs : List Int, DrawOk ss rs → Q (.ls .sh) (.lst (rs.map D.int))
theorem ar__law_draws : ZSpec.Ar sp__law_draws 2 := fun ds Q E h => by
  obtain ⟨ns, k, rfl, _⟩ := h
  rfl
def sp__law_is_integer : ZSpec := fun ds Q _ => ∃ d, ds = [d] ∧ (match d with
  | .int _ => Q .sh (.bl true)
  | .non => Q .sh (.bl false)
  | .bl _ => Q .sh (.bl false)
  | .str _ => Q .sh (.bl false)
  | .tup _ => Q .sh (.bl false)
  | .lst _ => Q .sh (.bl false)
  | _ => False)
theorem ar__law_is_integer : ZSpec.Ar sp__law_is_integer 1 := fun ds Q E h => by
  obtain ⟨d, rfl, _⟩ := h
  rfl
end ZL


namespace ZL.K26
open PySem PySem.Spec PyProof.Rows L2 ZL
/-! ### the plain law -/
def pr (p : Nat × Nat) : D := .tup [.int (p.1 : Int), .int (p.2 : Int)]
theorem all_pr (xs : List (Nat × Nat)) : ((xs.map pr).all fun x => clnS x) = true := by
  rw [List.all_eq_true]
  intro x hx
  obtain ⟨p, _, rfl⟩ := List.mem_map.1 hx
  rfl
theorem all_int (xs : List Int) : ((xs.map D.int).all fun x => clnS x) = true := by
  rw [List.all_eq_true]
  intro x hx
  obtain ⟨p, _, rfl⟩ := List.mem_map.1 hx
  rfl
def row (n i : Nat) : List (Nat × Nat) := (List.range (n - (i + 1))).map fun j => (i, i + 1 + j)
def apairs (n : Nat) : List (Nat × Nat) := (List.range n).flatMap (row n)
def ringP (n s : Nat) : List (Nat × Nat) := (List.range n).map fun k => (min k ((k + s) % n), max k ((k + s) % n))
def restP (n r : Nat) : List (Nat × Nat) :=
  if r / n = (n - 1) / 2 then (List.range' 1 ((n - 1) / 2)).flatMap (ringP n) ++ (List.range (r % n)).map (fun k => (k, k + n / 2))
  else (List.range' 2 (r / n)).flatMap (ringP n) ++ ((pick (ringP n 1) none none (some 2) ++ pick (ringP n 1) (some 1) none (some 2)).take (r % n))
def evenP (n p : Nat) : List (Nat × Nat) := (List.replicate (p / (apairs n).length) (apairs n)).flatten ++ restP n (p % (apairs n).length)
theorem pick_map {α β : Type} (f : α → β) (xs : List α) (lo hi st : Option Int) : pick (xs.map f) lo hi st = (pick xs lo hi st).map f := by
  unfold pick
  rw [List.length_map]
  induction ixs lo hi st xs.length with
  | nil => rfl
  | cons i l ih =>
    rw [List.filterMap_cons, List.filterMap_cons, List.getElem?_map]
    cases e : xs[i]? with
    | none => simpa using ih
    | some x => simp only [Option.map_some, List.map_cons]; rw [ih]
theorem cutD_take (xs : List D) (l : Nat) : cutD xs none (some (l : Int)) = xs.take l := by
  unfold cutD HT.sIx
  simp only [Nat.sub_zero, List.drop_zero]
  by_cases h : l ≤ xs.length
  · have : ¬ ((l : Int) < 0) := by omega
    simp only [this, if_false]
    congr 1
    omega
  · have : ¬ ((l : Int) < 0) := by omega
    simp only [this, if_false]
    rw [List.take_of_length_le (by omega), List.take_of_length_le (by omega)]
theorem row_length (n i : Nat) : (row n i).length = n - (i + 1) := by simp [row]
theorem flat_le {α : Type} (f : Nat → List α) (b : Nat) : ∀ xs : List Nat, (∀ x ∈ xs, (f x).length ≤ b) → (xs.flatMap f).length ≤ xs.length * b
  | [], _ => by simp
  | x :: xs, h => by
    have h1 := h x List.mem_cons_self
    have h2 := flat_le f b xs fun y m => h y (List.mem_cons_of_mem _ m)
    simp only [List.flatMap_cons, List.length_append, List.length_cons, Nat.add_mul, Nat.one_mul]
    omega
theorem apairs_le (n : Nat) : (apairs n).length ≤ n * n := by
  have := flat_le (row n) n (List.range n) fun x _ => by rw [row_length]; omega
  rw [List.length_range] at this
  exact this
def sp_all_pairs : ZSpec := fun ds Q _ => ∃ n : Nat, ds = [.int (n : Int)] ∧ n ≤ 1000 ∧ Q (.ls .sh) (.lst ((apairs n).map pr))
theorem ar_all_pairs : ZSpec.Ar sp_all_pairs 1 := fun ds Q E h => by
  obtain ⟨n, rfl, _⟩ := h
  rfl
def sp_ring : ZSpec := fun ds Q _ => ∃ n s : Nat, ds = [.int (n : Int), .int (s : Int)] ∧ 0 < n ∧ n ≤ 1000 ∧ Q (.ls .sh) (.lst ((ringP n s).map pr))
theorem ar_ring : ZSpec.Ar sp_ring 2 := fun ds Q E h => by
  obtain ⟨n, s, rfl, _⟩ := h
  rfl
def sp_rest_pairs : ZSpec := fun ds Q _ => ∃ n r : Nat, ds = [.int (n : Int), .int (r : Int)] ∧ 0 < n ∧ n ≤ 100 ∧ r ≤ 10000 ∧ Q (.ls .sh) (.lst ((restP n r).map pr))
theorem ar_rest_pairs : ZSpec.Ar sp_rest_pairs 2 := fun ds Q E h => by
  obtain ⟨n, s, rfl, _⟩ := h
  rfl
def sp_even_pairs : ZSpec := fun ds Q _ => ∃ n p : Nat, ds = [.int (n : Int), .int (p : Int)] ∧ 2 ≤ n ∧ n ≤ 12 ∧ p ≤ 200 ∧ Q (.ls .sh) (.lst ((evenP n p).map pr))
theorem ar_even_pairs : ZSpec.Ar sp_even_pairs 2 := fun ds Q E h => by
  obtain ⟨n, s, rfl, _⟩ := h
  rfl
def capP (n p : Nat) : Nat := (p + (apairs n).length - 1) / (apairs n).length
def sp_least_even_cap : ZSpec := fun ds Q _ => ∃ n p : Nat, ds = [.int (n : Int), .int (p : Int)] ∧ 2 ≤ n ∧ n ≤ 12 ∧ p ≤ 200 ∧ Q .sh (.int (capP n p : Nat))
theorem ar_least_even_cap : ZSpec.Ar sp_least_even_cap 2 := fun ds Q E h => by
  obtain ⟨n, s, rfl, _⟩ := h
  rfl
def sp__law_case : ZSpec := fun ds Q _ => ∃ c : Int, ds = [.int c] ∧ ∀ n p : Nat, 2 ≤ n → n ≤ 12 → p ≤ 200 → Q .sh (.tup [.int (n : Int), .int (p : Int)])
theorem ar__law_case : ZSpec.Ar sp__law_case 1 := fun ds Q E h => by
  obtain ⟨n, rfl, _⟩ := h
  rfl
def spot (n : Nat) (p : Nat × Nat) : Nat := p.1 * n + p.2
def cnt (n : Nat) (ps : List (Nat × Nat)) (k : Nat) : Nat := (ps.map (spot n)).count k
def deg (ps : List (Nat × Nat)) (k : Nat) : Nat := (ps.map (·.1)).count k + (ps.map (·.2)).count k
def Okp (n : Nat) (ps : List (Nat × Nat)) : Prop := ∀ p ∈ ps, p.1 < p.2 ∧ p.2 < n
def worn (n : Nat) (ps : List (Nat × Nat)) : List Int := (apairs n).map fun q => (cnt n ps (spot n q) : Int)
def degs (n : Nat) (ps : List (Nat × Nat)) : List Int := (List.range n).map fun k => (deg ps k : Int)
def sp__law_occurrences : ZSpec := fun ds Q _ => ∃ (n : Nat) (ps : List (Nat × Nat)), ds = [.lst (ps.map pr), .int (n : Int)] ∧ n ≤ 100 ∧ Okp n ps ∧ Q .sh (.tup [.lst ((worn n ps).map D.int), .lst ((degs n ps).map D.int)])
theorem ar__law_occurrences : ZSpec.Ar sp__law_occurrences 2 := fun ds Q E h => by
  obtain ⟨n, s, rfl, _⟩ := h
  rfl
def Even (n : Nat) (ps : List (Nat × Nat)) (cap : Int) : Prop := Okp n ps ∧ (∀ x ∈ worn n ps, ∀ y ∈ worn n ps, x - y ≤ 1) ∧ (∀ x ∈ degs n ps, ∀ y ∈ degs n ps, x - y ≤ 1) ∧ ∀ x ∈ worn n ps, x ≤ cap
def sp__law_is_even : ZSpec := fun ds Q _ => ∃ (n : Nat) (ps : List (Nat × Nat)) (cap : Int), ds = [.lst (ps.map pr), .int (n : Int), .int (ps.length : Int), .int cap] ∧ 2 ≤ n ∧ n ≤ 12 ∧ Even n ps cap ∧ Q .sh (.bl true)
theorem ar__law_is_even : ZSpec.Ar sp__law_is_even 4 := fun ds Q E h => by
  obtain ⟨n, s, c, rfl, _⟩ := h
  rfl
def sp__law_is_least_cap : ZSpec := fun ds Q _ => ∃ (n p c : Nat), ds = [.int (c : Int), .int (n : Int), .int (p : Int)] ∧ 1 ≤ n ∧ n ≤ 12 ∧ p ≤ 200 ∧ c ≤ 200 ∧ p ≤ c * (n * (n - 1) / 2) ∧ (c = 0 ∨ (c - 1) * (n * (n - 1) / 2) < p) ∧ Q .sh (.bl true)
theorem ar__law_is_least_cap : ZSpec.Ar sp__law_is_least_cap 3 := fun ds Q E h => by
  obtain ⟨n, s, c, rfl, _⟩ := h
  rfl
abbrev sp_law : ZSpec := spLaw
abbrev ar_law := ZL.ar_law
/-! the finite part -/
def chk (n r : Nat) : Bool := (restP n r).length == r && (restP n r).all (fun p => decide (p.1 < p.2) && decide (p.2 < n) && Nat.ble (((restP n r).map (spot n)).count (spot n p)) 1) && (List.range n).all fun k => Nat.ble (2 * r / n) (deg (restP n r) k) && Nat.ble (deg (restP n r) k) (2 * r / n + 1)
def chkA (n : Nat) : Bool := ((apairs n).length == n * (n - 1) / 2) && (apairs n).all (fun p => decide (p.1 < p.2) && decide (p.2 < n) && (((apairs n).map (spot n)).count (spot n p) == 1)) && (List.range n).all fun k => deg (apairs n) k == n - 1
theorem chkA_all : ((List.range 11).all fun i => chkA (i + 2)) = true := by decide +kernel
theorem chk_all : ((List.range 11).all fun i => (List.range ((i + 2) * (i + 1) / 2)).all fun r => chk (i + 2) r) = true := by decide +kernel
abbrev N_all_pairs : List Str := ["seats", "low", "high"]
def w_all_pairs : ZMS := (wRet (mL (mComp2 (mRng oRng1 (mCons (mVar 0) mNil)) [1, 2] (cN 1) (mRng oRng2 (mCons (mOp oAdd (mVar 1) (mC (.int 1))) (mCons (mVar 0) mNil))) [2] (cN 2) mYes (mTup (mCons (mVar 1) (mCons (mVar 2) mNil))))))
abbrev N_ring : List Str := ["seats", "step", "seat"]
def w_ring : ZMS := (wRet (mL (mComp (mRng oRng1 (mCons (mVar 0) mNil)) [2] (cN 2) mYes (mTup (mCons (mCB fMin (mCons (mVar 2) (mCons (mOp oMod (mOp oAdd (mVar 2) (mVar 1)) (mVar 0)) mNil))) (mCons (mCB fMax (mCons (mVar 2) (mCons (mOp oMod (mOp oAdd (mVar 2) (mVar 1)) (mVar 0)) mNil))) mNil))))))
abbrev N_rest_pairs : List Str := ["seats", "rest", "whole", "left", "rings", "pairs", "step", "broken", "seat"]
def w_rest_pairs : ZMS := (wSeq (wSet 2 (mL (mOp oDiv (mVar 1) (mVar 0))))
    (wSeq (wSet 3 (mL (mOp oMod (mVar 1) (mVar 0))))
    (wSeq (wSet 4 (mL (mOp oDiv (mOp oSub (mVar 0) (mC (.int 1))) (mC (.int 2)))))
    (wSeq (wSet 5 (mL (mLst mNil)))
    (wSeq (wIf (mLT (mB (mOp (oEq false) (mVar 2) (mVar 4)))) (wSeq (wFor (mRngV oRng2 (mCons (mC (.int 1)) (mCons (mOp oAdd (mVar 4) (mC (.int 1))) mNil))) (gN 6) (wSet 5 (mL (mOp oAdd (mVar 5) (mCall sp_ring [] (mCons (mVar 0) (mCons (mVar 6) mNil)))))))
    (wRet (mL (mOp oAdd (mVar 5) (mComp (mRng oRng1 (mCons (mVar 3) mNil)) [8] (cN 8) mYes (mTup (mCons (mVar 8) (mCons (mOp oAdd (mVar 8) (mOp oDiv (mVar 0) (mC (.int 2)))) mNil)))))))) wNext)
    (wSeq (wFor (mRngV oRng2 (mCons (mC (.int 2)) (mCons (mOp oAdd (mVar 2) (mC (.int 2))) mNil))) (gN 6) (wSet 5 (mL (mOp oAdd (mVar 5) (mCall sp_ring [] (mCons (mVar 0) (mCons (mVar 6) mNil)))))))
    (wSeq (wSet 7 (mL (mCall sp_ring [] (mCons (mVar 0) (mCons (mC (.int 1)) mNil)))))
    (wRet (mL (mOp oAdd (mVar 5) (mSl (mOp oAdd (mPk (mVar 7) mNo mNo (mPart (mC (.int 2)))) (mPk (mVar 7) (mPart (mC (.int 1))) mNo (mPart (mC (.int 2))))) mNo (mPart (mVar 3)))))))))))))
abbrev N_even_pairs : List Str := ["seats", "pieces", "pairs"]
def w_even_pairs : ZMS := (wSeq (wSet 2 (mL (mCall sp_all_pairs [] (mCons (mVar 0) mNil))))
    (wRet (mL (mOp oAdd (mOp oMul (mVar 2) (mOp oDiv (mVar 1) (mCB fLen (mCons (mVar 2) mNil)))) (mCall sp_rest_pairs [] (mCons (mVar 0) (mCons (mOp oMod (mVar 1) (mCB fLen (mCons (mVar 2) mNil))) mNil)))))))
abbrev N_least_even_cap : List Str := ["seats", "pieces", "count"]
def w_least_even_cap : ZMS := (wSeq (wSet 2 (mL (mCB fLen (mCons (mCall sp_all_pairs [] (mCons (mVar 0) mNil)) mNil))))
    (wRet (mL (mOp oDiv (mOp oSub (mOp oAdd (mVar 1) (mVar 2)) (mC (.int 1))) (mVar 2)))))
abbrev N__law_cell : List Str := ["_law_script", "_law_k"]
def w__law_cell : ZMS := (wSeq (wIf (mLT (mB (mOp (oB fun i j => decide (i < j)) (mVar 1) (mCB fLen (mCons (mVar 0) mNil))))) (wRet (mL (mOp oIx (mVar 0) (mVar 1)))) wNext)
    (wRet (mL (mC (.int 0)))))
abbrev N__law_draws : List Str := ["_law_cell_here", "_law_sizes", "_law_left", "_law_digits", "_law_drawn", "_law_k", "_law_size", "_law_mixed"]
def w__law_draws : ZMS := (wSeq (wSet 2 (mL (mCB fAbs (mCons (mCB fInt (mCons (mVar 0) mNil)) mNil))))
    (wSeq (wSet 3 (mL (mOp (oB fun i j => decide (j ≤ i)) (mVar 2) (mOp oPow (mC (.int 10)) (mC (.int 18))))))
    (wSeq (wSet 4 (mL (mLst mNil)))
    (wSeq (wFor (mRngV oRng1 (mCons (mCB fLen (mCons (mVar 1) mNil)) mNil)) (gN 5) (wSeq (wSet 6 (mL (mOp oIx (mVar 1) (mVar 5))))
    (wIf (mLT (mAnd (mB (mVar 3)) (mB (mOp (oB fun i j => decide (j < i)) (mVar 2) (mC (.int 0)))))) (wSeq (wAppend 4 (mL (mOp oMod (mCB fInt (mCons (mVar 2) mNil)) (mVar 6))))
    (wSet 2 (mL (mOp oDiv (mVar 2) (mVar 6))))) (wSeq (wSet 7 (mL (mOp oMod (mCB fInt (mCons (mOp oAdd (mOp oAdd (mCB fAbs (mCons (mCB fInt (mCons (mVar 0) mNil)) mNil)) (mOp oMul (mC (.int 7919)) (mVar 5))) (mC (.int 13))) mNil)) (mC (.int 2147483647)))))
    (wSeq (wSet 7 (mL (mOp oMod (mCB fInt (mCons (mOp oMul (mVar 7) (mOp oAdd (mVar 7) (mC (.int 48271)))) mNil)) (mC (.int 2147483629)))))
    (wSeq (wSet 7 (mL (mOp oMod (mCB fInt (mCons (mOp oAdd (mOp oMul (mVar 7) (mOp oAdd (mVar 7) (mC (.int 69621)))) (mOp oMul (mC (.int 31)) (mVar 5))) mNil)) (mC (.int 2147483647)))))
    (wAppend 4 (mL (mOp oMod (mCB fInt (mCons (mOp oDiv (mVar 7) (mC (.int 9))) mNil)) (mVar 6))))))))))
    (wRet (mMv 4))))))
abbrev N__law_is_integer : List Str := ["_law_actual"]
def w__law_is_integer : ZMS := (wRet (mL (mAndV (mCB fIsi (mCons (mVar 0) (mCons (mC (.ty "int")) mNil))) (mNotV (mCB fIsi (mCons (mVar 0) (mCons (mC (.ty "bool")) mNil)))))))
abbrev N__law_case : List Str := ["_law_cell_here", "_law_drawn"]
def w__law_case : ZMS := (wSeq (wSet 1 (mL (mCall sp__law_draws [] (mCons (mVar 0) (mCons (mLst (mCons (mC (.int 2)) (mCons (mC (.int 11)) (mCons (mC (.int 4)) (mCons (mC (.int 201)) mNil))))) mNil)))))
    (wSeq (wIf (mLT (mB (mOp (oEq false) (mOp oIx (mVar 1) (mC (.int 0))) (mC (.int 1))))) (wRet (mL (mTup (mCons (mOp oAdd (mOp oIx (mVar 1) (mC (.int 2))) (mC (.int 9))) (mCons (mOp oIx (mVar 1) (mC (.int 3))) mNil))))) wNext)
    (wRet (mL (mTup (mCons (mOp oAdd (mOp oIx (mVar 1) (mC (.int 1))) (mC (.int 2))) (mCons (mOp oIx (mVar 1) (mC (.int 3))) mNil)))))))
abbrev N__law_occurrences : List Str := ["_law_actual", "_law_seats", "_law_by_pair", "_law_by_seat", "_law_pair", "_law_worn", "_law_low", "_law_spot", "_law_high"]
def w__law_occurrences : ZMS := (wSeq (wSet 2 (mL (mOp oMul (mLst (mCons (mC (.int 0)) mNil)) (mOp oMul (mVar 1) (mVar 1)))))
    (wSeq (wSet 3 (mL (mOp oMul (mLst (mCons (mC (.int 0)) mNil)) (mVar 1))))
    (wSeq (wFor (mIV (mItems okL (mVar 0))) (gN 4) (wSeq (wIf (mLT (mOr (mNot (mB (mCB fIsi (mCons (mVar 4) (mCons (mC (.ty "tuple")) mNil))))) (mB (mOp (oEq true) (mCB fLen (mCons (mVar 4) mNil)) (mC (.int 2)))))) (wRet (mL (mC .non))) wNext)
    (wSeq (wIf (mLT (mOr (mNot (mB (mCall sp__law_is_integer [] (mCons (mOp oIx (mVar 4) (mC (.int 0))) mNil)))) (mNot (mB (mCall sp__law_is_integer [] (mCons (mOp oIx (mVar 4) (mC (.int 1))) mNil)))))) (wRet (mL (mC .non))) wNext)
    (wSeq (wIf (mLT (mNot (mChain3 (oB fun i j => decide (i ≤ j)) (oB fun i j => decide (i < j)) (oB fun i j => decide (i < j)) (mC (.int 0)) (mOp oIx (mVar 4) (mC (.int 0))) (mOp oIx (mVar 4) (mC (.int 1))) (mVar 1)))) (wRet (mL (mC .non))) wNext)
    (wSeq (wSet 7 (mL (mOp oAdd (mOp oMul (mOp oIx (mVar 4) (mC (.int 0))) (mVar 1)) (mOp oIx (mVar 4) (mC (.int 1))))))
    (wSeq (wSetIx 2 (mL (mOp oAdd (mOp oIx (mVar 2) (mVar 7)) (mC (.int 1)))) (mL (mVar 7)))
    (wSeq (wSetIx 3 (mL (mOp oAdd (mOp oIx (mVar 3) (mOp oIx (mVar 4) (mC (.int 0)))) (mC (.int 1)))) (mL (mOp oIx (mVar 4) (mC (.int 0)))))
    (wSetIx 3 (mL (mOp oAdd (mOp oIx (mVar 3) (mOp oIx (mVar 4) (mC (.int 1)))) (mC (.int 1)))) (mL (mOp oIx (mVar 4) (mC (.int 1))))))))))))
    (wSeq (wSet 5 (mL (mLst mNil)))
    (wSeq (wFor (mRngV oRng1 (mCons (mVar 1) mNil)) (gN 6) (wFor (mRngV oRng2 (mCons (mOp oAdd (mVar 6) (mC (.int 1))) (mCons (mVar 1) mNil))) (gN 8) (wAppend 5 (mL (mOp oIx (mVar 2) (mOp oAdd (mOp oMul (mVar 6) (mVar 1)) (mVar 8)))))))
    (wFrz 5 (wFrz 3 (wRet (mS (mTup (mCons (mVar 5) (mCons (mVar 3) mNil))))))))))))
abbrev N__law_is_even : List Str := ["_law_actual", "_law_seats", "_law_count", "_law_cap", "_law_counts", "_law_row"]
def w__law_is_even : ZMS := (wSeq (wIf (mLT (mOr (mNot (mB (mCB fIsi (mCons (mVar 0) (mCons (mC (.ty "list")) mNil))))) (mB (mOp (oEq true) (mCB fLen (mCons (mVar 0) mNil)) (mVar 2))))) (wRet (mL (mC (.bl false)))) wNext)
    (wSeq (wSet 4 (mS (mCall sp__law_occurrences [] (mCons (mVar 0) (mCons (mVar 1) mNil)))))
    (wSeq (wIf (mLT (mB (mOp (oIs false) (mVar 4) (mC .non)))) (wRet (mL (mC (.bl false)))) wNext)
    (wSeq (wFor (mIV (mItems okT (mVar 4))) (gN 5) (wIf (mLT (mB (mOp (oB fun i j => decide (j < i)) (mOp oSub (mCB fMax (mCons (mVar 5) mNil)) (mCB fMin (mCons (mVar 5) mNil))) (mC (.int 1))))) (wRet (mL (mC (.bl false)))) wNext))
    (wRet (mL (mOp (oB fun i j => decide (i ≤ j)) (mCB fMax (mCons (mOp oIx (mVar 4) (mC (.int 0))) mNil)) (mVar 3))))))))
abbrev N__law_is_least_cap : List Str := ["_law_cap", "_law_seats", "_law_count", "_law_total"]
def w__law_is_least_cap : ZMS := (wSeq (wSet 3 (mL (mOp oDiv (mCB fInt (mCons (mOp oMul (mVar 1) (mOp oSub (mVar 1) (mC (.int 1)))) mNil)) (mC (.int 2)))))
    (wSeq (wIf (mLT (mOr (mNot (mB (mCall sp__law_is_integer [] (mCons (mVar 0) mNil)))) (mOr (mB (mOp (oB fun i j => decide (i < j)) (mVar 0) (mC (.int 0)))) (mB (mOp (oB fun i j => decide (i < j)) (mOp oMul (mVar 0) (mVar 3)) (mVar 2)))))) (wRet (mL (mC (.bl false)))) wNext)
    (wRet (mL (mOrV (mOp (oEq false) (mVar 0) (mC (.int 0))) (mOp (oB fun i j => decide (i < j)) (mOp oMul (mOp oSub (mVar 0) (mC (.int 1))) (mVar 3)) (mVar 2)))))))
abbrev N_law : List Str := ["_law_script", "_law_first", "_law_second", "_law_case_here", "_law_cap", "_law_actual"]
def w_law : ZMS := (wSeq (wSet 1 (mL (mCall sp__law_case [] (mCons (mCall sp__law_cell [] (mCons (mVar 0) (mCons (mC (.int 0)) mNil))) mNil))))
    (wSeq (wSet 2 (mL (mCall sp__law_case [] (mCons (mCall sp__law_cell [] (mCons (mVar 0) (mCons (mC (.int 1)) mNil))) mNil))))
    (wSeq (wFor (mIV (mItems okL (mLst (mCons (mVar 1) (mCons (mVar 2) (mCons (mVar 1) mNil)))))) (gN 3) (wSeq (wSet 4 (mL (mCall sp_least_even_cap [] (mCons (mOp oIx (mVar 3) (mC (.int 0))) (mCons (mOp oIx (mVar 3) (mC (.int 1))) mNil)))))
    (wSeq (wIf (mLT (mNot (mB (mCall sp__law_is_least_cap [] (mCons (mVar 4) (mCons (mOp oIx (mVar 3) (mC (.int 0))) (mCons (mOp oIx (mVar 3) (mC (.int 1))) mNil))))))) (wRet (mL (mC (.bl false)))) wNext)
    (wSeq (wSet 5 (mL (mCall sp_even_pairs [] (mCons (mOp oIx (mVar 3) (mC (.int 0))) (mCons (mOp oIx (mVar 3) (mC (.int 1))) mNil)))))
    (wSeq (wIf (mLT (mNot (mB (mCall sp__law_is_even [] (mCons (mVar 5) (mCons (mOp oIx (mVar 3) (mC (.int 0))) (mCons (mOp oIx (mVar 3) (mC (.int 1))) (mCons (mVar 4) mNil)))))))) (wRet (mL (mC (.bl false)))) wNext)
    (wSeq (wAppend 5 (mL (mTup (mCons (mC (.int 0)) (mCons (mOp oIx (mVar 3) (mC (.int 0))) mNil)))))
    (wSetIx 5 (mL (mTup (mCons (mOp oIx (mVar 3) (mC (.int 0))) (mCons (mC (.int 0)) mNil)))) (mL (mC (.int 0))))))))))
    (wRet (mL (mC (.bl true)))))))
theorem u__law_cell : ∀ ds Q E, sp__law_cell ds Q E → w__law_cell (env0 N__law_cell ds) (ends0 Q E) := by
  intro ds Q E h
  obtain ⟨ns, k, rfl, h0, q⟩ := h
  simp only [w__law_cell, N__law_cell, wSeq, wSet, wRet, wRetN, wIf, wDrop, wFor, wNext, wBreak, wCont, wAppend, wSetIx, wAug, wFrz, wAsg, gN, gT, gNil', gCons', mL, mS, mLT, mMv, mIV, mRng, mRngV, mItems, mOp, mB, mC, mVar, mCons, mNil, mTup, mLst, mCB, mCall, mAnd, mOr, mNot, mAndV, mOrV, mNotV, mIf, mNeg, mSl, mNo, mPart, mPk, mChain2, mChain3, mFld, mComp, mComp2, cN, cT, cNil, cCons, mEnum, mYes, oAdd, oSub, oMul, oDiv, oMod, oPow, oB, oI, oEq, oIs, oIn, oIx, oMulI, oAddI, oSl, oRng1, oRng2, okL, okT, okS, fLen, fAbs, fInt, fMin, fMax, fSum, fSorted, fList, fTuple, fIsi, tyOf, Ty.isi, ty_int, ty_bool, ty_str, ty_list, ty_tuple, ty_dict, isNon, eqOk_int, eqOk_non, eqOk_bl, eqD_int, eqD_bl, eqD_str, eqD_non, beq_self_eq_true, beq_iff_eq, Bool.and_self, atI_0, atI_1, atI_2, atI_3, atI_4, atI_5, atI_6, vw, vs, lendS, ownS, wipeE, ZL.frz, lendS, hasOb, env0, List.replicate_zero, List.replicate_succ, List.cons_append, Nat.reduceSub, List.map_cons, List.map_nil, List.getElem?_cons_zero, List.getElem?_cons_succ, List.getElem?_nil, List.set_cons_zero, List.set_cons_succ, List.length_cons, List.length_nil, List.length_set, Nat.reduceAdd, Nat.reduceLT, Nat.lt_add_one, Nat.zero_lt_succ, List.append_nil, List.nil_append, cln, clnS, clnL, clnX, List.all_cons, List.all_nil, Bool.and_true, Bool.true_and, and_true, true_and, if_true, if_false, Bool.false_eq_true, decide_eq_true_eq, Bool.true_or, Bool.or_true, Bool.false_or, Bool.or_false, decide_true, decide_false, Bool.and_false, Bool.false_and, reduceCtorEq, Int.reduceBEq, nc_0, nc_1, nc_2, nc_3, nc_4, nc_5, nc_6, Bool.not_true, Bool.not_false, reduceIte]
  split
  · rename_i hk
    rw [atI_nat h0 (List.getElem?_eq_getElem (by omega))]
    exact q _
  · exact q _

theorem u__law_is_integer : ∀ ds Q E, sp__law_is_integer ds Q E → w__law_is_integer (env0 N__law_is_integer ds) (ends0 Q E) := by
  intro ds Q E h
  obtain ⟨d, rfl, q⟩ := h
  cases d <;> first | exact q.elim | (simp only [w__law_is_integer, N__law_is_integer, wSeq, wSet, wRet, wRetN, wIf, wDrop, wFor, wNext, wBreak, wCont, wAppend, wSetIx, wAug, wFrz, wAsg, gN, gT, gNil', gCons', mL, mS, mLT, mMv, mIV, mRng, mRngV, mItems, mOp, mB, mC, mVar, mCons, mNil, mTup, mLst, mCB, mCall, mAnd, mOr, mNot, mAndV, mOrV, mNotV, mIf, mNeg, mSl, mNo, mPart, mPk, mChain2, mChain3, mFld, mComp, mComp2, cN, cT, cNil, cCons, mEnum, mYes, oAdd, oSub, oMul, oDiv, oMod, oPow, oB, oI, oEq, oIs, oIn, oIx, oMulI, oAddI, oSl, oRng1, oRng2, okL, okT, okS, fLen, fAbs, fInt, fMin, fMax, fSum, fSorted, fList, fTuple, fIsi, tyOf, Ty.isi, ty_int, ty_bool, ty_str, ty_list, ty_tuple, ty_dict, isNon, eqOk_int, eqOk_non, eqOk_bl, eqD_int, eqD_bl, eqD_str, eqD_non, beq_self_eq_true, beq_iff_eq, Bool.and_self, atI_0, atI_1, atI_2, atI_3, atI_4, atI_5, atI_6, vw, vs, lendS, ownS, wipeE, ZL.frz, lendS, hasOb, env0, List.replicate_zero, List.replicate_succ, List.cons_append, Nat.reduceSub, List.map_cons, List.map_nil, List.getElem?_cons_zero, List.getElem?_cons_succ, List.getElem?_nil, List.set_cons_zero, List.set_cons_succ, List.length_cons, List.length_nil, List.length_set, Nat.reduceAdd, Nat.reduceLT, Nat.lt_add_one, Nat.zero_lt_succ, List.append_nil, List.nil_append, cln, clnS, clnL, clnX, List.all_cons, List.all_nil, Bool.and_true, Bool.true_and, and_true, true_and, if_true, if_false, Bool.false_eq_true, decide_eq_true_eq, Bool.true_or, Bool.or_true, Bool.false_or, Bool.or_false, decide_true, decide_false, Bool.and_false, Bool.false_and, reduceCtorEq, Int.reduceBEq, nc_0, nc_1, nc_2, nc_3, nc_4, nc_5, nc_6, Bool.not_true, Bool.not_false, reduceIte]; exact q)

theorem u__law_draws : ∀ ds Q E, sp__law_draws ds Q E → w__law_draws (env0 N__law_draws ds) (ends0 Q E) := by
  intro ds Q E h
  obtain ⟨c, ss, rfl, hl, hs, q⟩ := h
  simp only [w__law_draws, N__law_draws, wSeq, wSet, wRet, wRetN, wIf, wDrop, wFor, wNext, wBreak, wCont, wAppend, wSetIx, wAug, wFrz, wAsg, gN, gT, gNil', gCons', mL, mS, mLT, mMv, mIV, mRng, mRngV, mItems, mOp, mB, mC, mVar, mCons, mNil, mTup, mLst, mCB, mCall, mAnd, mOr, mNot, mAndV, mOrV, mNotV, mIf, mNeg, mSl, mNo, mPart, mPk, mChain2, mChain3, mFld, mComp, mComp2, cN, cT, cNil, cCons, mEnum, mYes, oAdd, oSub, oMul, oDiv, oMod, oPow, oB, oI, oEq, oIs, oIn, oIx, oMulI, oAddI, oSl, oRng1, oRng2, okL, okT, okS, fLen, fAbs, fInt, fMin, fMax, fSum, fSorted, fList, fTuple, fIsi, tyOf, Ty.isi, ty_int, ty_bool, ty_str, ty_list, ty_tuple, ty_dict, isNon, eqOk_int, eqOk_non, eqOk_bl, eqD_int, eqD_bl, eqD_str, eqD_non, beq_self_eq_true, beq_iff_eq, Bool.and_self, atI_0, atI_1, atI_2, atI_3, atI_4, atI_5, atI_6, vw, vs, lendS, ownS, wipeE, ZL.frz, lendS, hasOb, env0, List.replicate_zero, List.replicate_succ, List.cons_append, Nat.reduceSub, List.map_cons, List.map_nil, List.getElem?_cons_zero, List.getElem?_cons_succ, List.getElem?_nil, List.set_cons_zero, List.set_cons_succ, List.length_cons, List.length_nil, List.length_set, Nat.reduceAdd, Nat.reduceLT, Nat.lt_add_one, Nat.zero_lt_succ, List.append_nil, List.nil_append, cln, clnS, clnL, clnX, List.all_cons, List.all_nil, Bool.and_true, Bool.true_and, and_true, true_and, if_true, if_false, Bool.false_eq_true, decide_eq_true_eq, Bool.true_or, Bool.or_true, Bool.false_or, Bool.or_false, decide_true, decide_false, Bool.and_false, Bool.false_and, reduceCtorEq, Int.reduceBEq, nc_0, nc_1, nc_2, nc_3, nc_4, nc_5, nc_6, Bool.not_true, Bool.not_false, reduceIte]
  refine ⟨cpow_of (by decide) (by decide) (by decide), Nat.zero_le _, by rw [List.length_map]; omega, ?_⟩
  generalize decide (10 ^ Int.toNat 18 ≤ (c.natAbs : Int)) = dg
  have ef : ((List.map D.int ss).length : Int).toNat = ss.length := by simp
  rw [ef]
  refine for_range (fun i env => ∃ (lf : Int) (rs : List Int) (x y z : Option (Kd × D)), env = [some (.sh, .int c), some (.sh, .lst (ss.map D.int)), some (.sh, .int lf), some (.sh, .bl dg), some (.ls .sh, .lst (rs.map D.int)), x, y, z] ∧ DrawOk (ss.take i) rs) ⟨_, [], _, _, _, rfl, by simp [DrawOk]⟩ ?_ ?_
  · rintro i hi env K ⟨lf, rs, x, y, z, rfl, dr⟩ hK
    have hg : (ss.map D.int)[i]? = some (.int ss[i]) := by simp [hi]
    have hb := hs _ (List.getElem_mem hi)
    have hrl := dr.length
    have hmin : (ss.take i).length = i := by rw [List.length_take]; omega
    have fin : ∀ (lf' v : Int) (x y z : Option (Kd × D)), 0 ≤ v → v < ss[i] → K [some (.sh, .int c), some (.sh, .lst (ss.map D.int)), some (.sh, .int lf'), some (.sh, .bl dg), some (.ls .sh, .lst (rs.map D.int ++ [.int v])), x, y, z] := fun lf' v x y z h0 h1 => by
      refine hK _ ⟨lf', rs ++ [v], x, y, z, by simp, ?_⟩
      have e : ss.take (i + 1) = ss.take i ++ [ss[i]] := by rw [List.take_succ]; simp [hi]
      rw [e]
      exact dr.snoc h0 h1
    have hlen : (rs.map D.int).length < sizeLine := by
      rw [List.length_map, hrl, hmin]
      have : (10 : Nat) ^ 6 < sizeLine := by decide
      omega
    simp only [wSeq, wSet, wRet, wRetN, wIf, wDrop, wFor, wNext, wBreak, wCont, wAppend, wSetIx, wAug, wFrz, wAsg, gN, gT, gNil', gCons', mL, mS, mLT, mMv, mIV, mRng, mRngV, mItems, mOp, mB, mC, mVar, mCons, mNil, mTup, mLst, mCB, mCall, mAnd, mOr, mNot, mAndV, mOrV, mNotV, mIf, mNeg, mSl, mNo, mPart, mPk, mChain2, mChain3, mFld, mComp, mComp2, cN, cT, cNil, cCons, mEnum, mYes, oAdd, oSub, oMul, oDiv, oMod, oPow, oB, oI, oEq, oIs, oIn, oIx, oMulI, oAddI, oSl, oRng1, oRng2, okL, okT, okS, fLen, fAbs, fInt, fMin, fMax, fSum, fSorted, fList, fTuple, fIsi, tyOf, Ty.isi, ty_int, ty_bool, ty_str, ty_list, ty_tuple, ty_dict, isNon, eqOk_int, eqOk_non, eqOk_bl, eqD_int, eqD_bl, eqD_str, eqD_non, beq_self_eq_true, beq_iff_eq, Bool.and_self, atI_0, atI_1, atI_2, atI_3, atI_4, atI_5, atI_6, vw, vs, lendS, ownS, wipeE, ZL.frz, lendS, hasOb, env0, List.replicate_zero, List.replicate_succ, List.cons_append, Nat.reduceSub, List.map_cons, List.map_nil, List.getElem?_cons_zero, List.getElem?_cons_succ, List.getElem?_nil, List.set_cons_zero, List.set_cons_succ, List.length_cons, List.length_nil, List.length_set, Nat.reduceAdd, Nat.reduceLT, Nat.lt_add_one, Nat.zero_lt_succ, List.append_nil, List.nil_append, cln, clnS, clnL, clnX, List.all_cons, List.all_nil, Bool.and_true, Bool.true_and, and_true, true_and, if_true, if_false, Bool.false_eq_true, decide_eq_true_eq, Bool.true_or, Bool.or_true, Bool.false_or, Bool.or_false, decide_true, decide_false, Bool.and_false, Bool.false_and, reduceCtorEq, Int.reduceBEq, nc_0, nc_1, nc_2, nc_3, nc_4, nc_5, nc_6, Bool.not_true, Bool.not_false, reduceIte, Int.zero_add, atI_of hg, cMod, cDiv, cMul]
    have fb : ∀ v : Int, 0 ≤ v → v ≤ 10 ^ 40 → fit v := fun v a b => fit_of (by omega) (by omega)
    have low : fit ss[i] := fit_of (by omega) (by have := hb.2; omega)
    have mx : ∀ v m : Int, 0 < m → 0 ≤ v % m ∧ v % m < m := fun v m h => ⟨Int.emod_nonneg _ (by omega), Int.emod_lt_of_pos _ h⟩
    have big : ∃ c0 : Int, (c.natAbs : Int) = c0 := ⟨_, rfl⟩
    have st : ∀ (B : Prop), B → (fit 7919 ∧ fit (i : Int)) ∧ 0 < (2147483647 : Int) ∧ B := fun B b => ⟨⟨fb _ (by decide) (by decide), fb _ (by omega) (by omega)⟩, by decide, b⟩
    have ci : (i : Int) ≤ 10 ^ 6 := by omega
    have els : ∀ (P : Prop), (∀ v1 v2 v3 : Int, (0 ≤ v1 ∧ v1 < 2147483647) → (0 ≤ v2 ∧ v2 < 2147483647) → (0 ≤ v3 ∧ v3 < 2147483647) → P) → P := fun P h => h 0 0 0 (by omega) (by omega) (by omega)
    have m1 := mx ((c.natAbs : Int) + 7919 * (i : Int) + 13) 2147483647 (by decide)
    generalize ((c.natAbs : Int) + 7919 * (i : Int) + 13) % 2147483647 = v1 at m1 ⊢
    have m2 := mx (v1 * (v1 + 48271)) 2147483629 (by decide)
    generalize v1 * (v1 + 48271) % 2147483629 = v2 at m2 ⊢
    have m3 := mx (v2 * (v2 + 69621) + 31 * (i : Int)) 2147483647 (by decide)
    generalize (v2 * (v2 + 69621) + 31 * (i : Int)) % 2147483647 = v3 at m3 ⊢
    have rest : (fit 7919 ∧ fit (i : Int)) ∧ 0 < (2147483647 : Int) ∧ (fit v1 ∧ fit (v1 + 48271)) ∧ 0 < (2147483629 : Int) ∧ (fit v2 ∧ fit (v2 + 69621)) ∧ (fit 31 ∧ fit (i : Int)) ∧ 0 < (2147483647 : Int) ∧ (0 < (9 : Int) ∧ fit 9) ∧ 0 < ss[i] ∧ (rs.map D.int).length < sizeLine :=
      ⟨⟨fb _ (by decide) (by decide), fb _ (by omega) (by omega)⟩, by decide, ⟨fb _ (by omega) (by omega), fb _ (by omega) (by omega)⟩, by decide, ⟨fb _ (by omega) (by omega), fb _ (by omega) (by omega)⟩, ⟨fb _ (by decide) (by decide), fb _ (by omega) (by omega)⟩, by decide, ⟨by decide, fb _ (by decide) (by decide)⟩, hb.1, hlen⟩
    obtain ⟨r1, r2, r3, r4, r5, r6, r7, r8, r9, r10⟩ := rest
    have f1 := fin
    cases dg with
    | true =>
      simp only [if_true]
      by_cases hp : 0 < lf
      · simp only [hp, if_true]
        exact ⟨hb.1, hlen, ⟨hb.1, low⟩, fin _ _ _ _ _ (mx _ _ hb.1).1 (mx _ _ hb.1).2⟩
      · simp only [hp, if_false]
        exact ⟨r1, r2, r3, r4, r5, r6, r7, r8, r9, r10, fin _ _ _ _ _ (mx _ _ hb.1).1 (mx _ _ hb.1).2⟩
    | false =>
      simp only [Bool.false_eq_true, if_false]
      exact ⟨r1, r2, r3, r4, r5, r6, r7, r8, r9, r10, fin _ _ _ _ _ (mx _ _ hb.1).1 (mx _ _ hb.1).2⟩
  · rintro env ⟨lf, rs, x, y, z, rfl, dr⟩
    simp only [wSeq, wSet, wRet, wRetN, wIf, wDrop, wFor, wNext, wBreak, wCont, wAppend, wSetIx, wAug, wFrz, wAsg, gN, gT, gNil', gCons', mL, mS, mLT, mMv, mIV, mRng, mRngV, mItems, mOp, mB, mC, mVar, mCons, mNil, mTup, mLst, mCB, mCall, mAnd, mOr, mNot, mAndV, mOrV, mNotV, mIf, mNeg, mSl, mNo, mPart, mPk, mChain2, mChain3, mFld, mComp, mComp2, cN, cT, cNil, cCons, mEnum, mYes, oAdd, oSub, oMul, oDiv, oMod, oPow, oB, oI, oEq, oIs, oIn, oIx, oMulI, oAddI, oSl, oRng1, oRng2, okL, okT, okS, fLen, fAbs, fInt, fMin, fMax, fSum, fSorted, fList, fTuple, fIsi, tyOf, Ty.isi, ty_int, ty_bool, ty_str, ty_list, ty_tuple, ty_dict, isNon, eqOk_int, eqOk_non, eqOk_bl, eqD_int, eqD_bl, eqD_str, eqD_non, beq_self_eq_true, beq_iff_eq, Bool.and_self, atI_0, atI_1, atI_2, atI_3, atI_4, atI_5, atI_6, vw, vs, lendS, ownS, wipeE, ZL.frz, lendS, hasOb, env0, List.replicate_zero, List.replicate_succ, List.cons_append, Nat.reduceSub, List.map_cons, List.map_nil, List.getElem?_cons_zero, List.getElem?_cons_succ, List.getElem?_nil, List.set_cons_zero, List.set_cons_succ, List.length_cons, List.length_nil, List.length_set, Nat.reduceAdd, Nat.reduceLT, Nat.lt_add_one, Nat.zero_lt_succ, List.append_nil, List.nil_append, cln, clnS, clnL, clnX, List.all_cons, List.all_nil, Bool.and_true, Bool.true_and, and_true, true_and, if_true, if_false, Bool.false_eq_true, decide_eq_true_eq, Bool.true_or, Bool.or_true, Bool.false_or, Bool.or_false, decide_true, decide_false, Bool.and_false, Bool.false_and, reduceCtorEq, Int.reduceBEq, nc_0, nc_1, nc_2, nc_3, nc_4, nc_5, nc_6, Bool.not_true, Bool.not_false, reduceIte]
    rw [List.take_length] at dr
    exact q rs dr

end ZL.K26


namespace ZL.K26
open PySem PySem.Spec PyProof.Rows L2 ZL
theorem u_all_pairs : ∀ ds Q E, sp_all_pairs ds Q E → w_all_pairs (env0 N_all_pairs ds) (ends0 Q E) := by
  intro ds Q E h
  obtain ⟨n, rfl, hn, q⟩ := h
  simp only [w_all_pairs, N_all_pairs, wSeq, wSet, wRet, wRetN, wIf, wDrop, wFor, wNext, wBreak, wCont, wAppend, wSetIx, wAug, wFrz, wAsg, gN, gT, gNil', gCons', mL, mS, mLT, mMv, mIV, mRng, mRngV, mItems, mOp, mB, mC, mVar, mCons, mNil, mTup, mLst, mCB, mCall, mAnd, mOr, mNot, mAndV, mOrV, mNotV, mIf, mNeg, mSl, mNo, mPart, mPk, mChain2, mChain3, mFld, mComp, mComp2, cN, cT, cNil, cCons, mEnum, mYes, oAdd, oSub, oMul, oDiv, oMod, oPow, oB, oI, oEq, oIs, oIn, oIx, oMulI, oAddI, oSl, oRng1, oRng2, okL, okT, okS, fLen, fAbs, fInt, fMin, fMax, fSum, fSorted, fList, fTuple, fIsi, tyOf, Ty.isi, ty_int, ty_bool, ty_str, ty_list, ty_tuple, ty_dict, isNon, eqOk_int, eqOk_non, eqOk_bl, eqD_int, eqD_bl, eqD_str, eqD_non, beq_self_eq_true, beq_iff_eq, Bool.and_self, atI_0, atI_1, atI_2, atI_3, atI_4, atI_5, atI_6, vw, vs, lendS, ownS, wipeE, ZL.frz, lendS, hasOb, env0, List.replicate_zero, List.replicate_succ, List.cons_append, Nat.reduceSub, List.map_cons, List.map_nil, List.getElem?_cons_zero, List.getElem?_cons_succ, List.getElem?_nil, List.set_cons_zero, List.set_cons_succ, List.length_cons, List.length_nil, List.length_set, Nat.reduceAdd, Nat.reduceLT, Nat.lt_add_one, Nat.zero_lt_succ, List.append_nil, List.nil_append, cln, clnS, clnL, clnX, List.all_cons, List.all_nil, Bool.and_true, Bool.true_and, and_true, true_and, if_true, if_false, Bool.false_eq_true, decide_eq_true_eq, Bool.true_or, Bool.or_true, Bool.false_or, Bool.or_false, decide_true, decide_false, Bool.and_false, Bool.false_and, reduceCtorEq, Int.reduceBEq, nc_0, nc_1, nc_2, nc_3, nc_4, nc_5, nc_6, Bool.not_true, Bool.not_false, reduceIte]
  refine ⟨by omega, ?_⟩
  rw [show ((n : Int)).toNat = n from Int.toNat_natCast n, rangeD_zero]
  have hs : n * n ≤ sizeLine := Nat.le_trans (Nat.mul_le_mul hn hn) (by decide)
  refine comp2L_of (fun (i : Nat) => D.int (i : Int)) (fun i => (row n i).map pr) (n * n) (List.range n) [] _ (fun i hi acc K hb hk => ?_) ?_ ?_
  · rw [List.mem_range] at hi
    rw [List.length_map, row_length] at hb
    simp only [wSeq, wSet, wRet, wRetN, wIf, wDrop, wFor, wNext, wBreak, wCont, wAppend, wSetIx, wAug, wFrz, wAsg, gN, gT, gNil', gCons', mL, mS, mLT, mMv, mIV, mRng, mRngV, mItems, mOp, mB, mC, mVar, mCons, mNil, mTup, mLst, mCB, mCall, mAnd, mOr, mNot, mAndV, mOrV, mNotV, mIf, mNeg, mSl, mNo, mPart, mPk, mChain2, mChain3, mFld, mComp, mComp2, cN, cT, cNil, cCons, mEnum, mYes, oAdd, oSub, oMul, oDiv, oMod, oPow, oB, oI, oEq, oIs, oIn, oIx, oMulI, oAddI, oSl, oRng1, oRng2, okL, okT, okS, fLen, fAbs, fInt, fMin, fMax, fSum, fSorted, fList, fTuple, fIsi, tyOf, Ty.isi, ty_int, ty_bool, ty_str, ty_list, ty_tuple, ty_dict, isNon, eqOk_int, eqOk_non, eqOk_bl, eqD_int, eqD_bl, eqD_str, eqD_non, beq_self_eq_true, beq_iff_eq, Bool.and_self, atI_0, atI_1, atI_2, atI_3, atI_4, atI_5, atI_6, vw, vs, lendS, ownS, wipeE, ZL.frz, lendS, hasOb, env0, List.replicate_zero, List.replicate_succ, List.cons_append, Nat.reduceSub, List.map_cons, List.map_nil, List.getElem?_cons_zero, List.getElem?_cons_succ, List.getElem?_nil, List.set_cons_zero, List.set_cons_succ, List.length_cons, List.length_nil, List.length_set, Nat.reduceAdd, Nat.reduceLT, Nat.lt_add_one, Nat.zero_lt_succ, List.append_nil, List.nil_append, cln, clnS, clnL, clnX, List.all_cons, List.all_nil, Bool.and_true, Bool.true_and, and_true, true_and, if_true, if_false, Bool.false_eq_true, decide_eq_true_eq, Bool.true_or, Bool.or_true, Bool.false_or, Bool.or_false, decide_true, decide_false, Bool.and_false, Bool.false_and, reduceCtorEq, Int.reduceBEq, nc_0, nc_1, nc_2, nc_3, nc_4, nc_5, nc_6, Bool.not_true, Bool.not_false, reduceIte]
    refine ⟨by omega, ?_⟩
    rw [inner_eq]
    unfold rangeD
    refine compL_of (fun (j : Nat) => D.int ((i : Int) + 1 + (j : Int))) (fun j => some (pr (i, i + 1 + j))) _ acc K (fun j hj K S hk => ?_) ?_ ?_
    · simp only [wSeq, wSet, wRet, wRetN, wIf, wDrop, wFor, wNext, wBreak, wCont, wAppend, wSetIx, wAug, wFrz, wAsg, gN, gT, gNil', gCons', mL, mS, mLT, mMv, mIV, mRng, mRngV, mItems, mOp, mB, mC, mVar, mCons, mNil, mTup, mLst, mCB, mCall, mAnd, mOr, mNot, mAndV, mOrV, mNotV, mIf, mNeg, mSl, mNo, mPart, mPk, mChain2, mChain3, mFld, mComp, mComp2, cN, cT, cNil, cCons, mEnum, mYes, oAdd, oSub, oMul, oDiv, oMod, oPow, oB, oI, oEq, oIs, oIn, oIx, oMulI, oAddI, oSl, oRng1, oRng2, okL, okT, okS, fLen, fAbs, fInt, fMin, fMax, fSum, fSorted, fList, fTuple, fIsi, tyOf, Ty.isi, ty_int, ty_bool, ty_str, ty_list, ty_tuple, ty_dict, isNon, eqOk_int, eqOk_non, eqOk_bl, eqD_int, eqD_bl, eqD_str, eqD_non, beq_self_eq_true, beq_iff_eq, Bool.and_self, atI_0, atI_1, atI_2, atI_3, atI_4, atI_5, atI_6, vw, vs, lendS, ownS, wipeE, ZL.frz, lendS, hasOb, env0, List.replicate_zero, List.replicate_succ, List.cons_append, Nat.reduceSub, List.map_cons, List.map_nil, List.getElem?_cons_zero, List.getElem?_cons_succ, List.getElem?_nil, List.set_cons_zero, List.set_cons_succ, List.length_cons, List.length_nil, List.length_set, Nat.reduceAdd, Nat.reduceLT, Nat.lt_add_one, Nat.zero_lt_succ, List.append_nil, List.nil_append, cln, clnS, clnL, clnX, List.all_cons, List.all_nil, Bool.and_true, Bool.true_and, and_true, true_and, if_true, if_false, Bool.false_eq_true, decide_eq_true_eq, Bool.true_or, Bool.or_true, Bool.false_or, Bool.or_false, decide_true, decide_false, Bool.and_false, Bool.false_and, reduceCtorEq, Int.reduceBEq, nc_0, nc_1, nc_2, nc_3, nc_4, nc_5, nc_6, Bool.not_true, Bool.not_false, reduceIte]
      refine ⟨by decide, ?_⟩
      simpa [pr] using hk
    · rw [List.length_range]; omega
    · rw [show ((n : Int) - ((i : Int) + 1)).toNat = n - (i + 1) by omega]
      have e : (List.range (n - (i + 1))).filterMap (fun j => some (pr (i, i + 1 + j))) = (row n i).map pr := by
        unfold row
        rw [List.map_map, ← List.filterMap_eq_map]
        rfl
      rw [e]
      exact hk
  · have e : (List.range n).flatMap (fun i => (row n i).map pr) = (apairs n).map pr := by
      unfold apairs
      rw [List.map_flatMap]
    rw [e, List.length_map]
    have := apairs_le n
    simpa using this
  · have e : (List.range n).flatMap (fun i => (row n i).map pr) = (apairs n).map pr := by
      unfold apairs
      rw [List.map_flatMap]
    rw [e]
    simp only [wSeq, wSet, wRet, wRetN, wIf, wDrop, wFor, wNext, wBreak, wCont, wAppend, wSetIx, wAug, wFrz, wAsg, gN, gT, gNil', gCons', mL, mS, mLT, mMv, mIV, mRng, mRngV, mItems, mOp, mB, mC, mVar, mCons, mNil, mTup, mLst, mCB, mCall, mAnd, mOr, mNot, mAndV, mOrV, mNotV, mIf, mNeg, mSl, mNo, mPart, mPk, mChain2, mChain3, mFld, mComp, mComp2, cN, cT, cNil, cCons, mEnum, mYes, oAdd, oSub, oMul, oDiv, oMod, oPow, oB, oI, oEq, oIs, oIn, oIx, oMulI, oAddI, oSl, oRng1, oRng2, okL, okT, okS, fLen, fAbs, fInt, fMin, fMax, fSum, fSorted, fList, fTuple, fIsi, tyOf, Ty.isi, ty_int, ty_bool, ty_str, ty_list, ty_tuple, ty_dict, isNon, eqOk_int, eqOk_non, eqOk_bl, eqD_int, eqD_bl, eqD_str, eqD_non, beq_self_eq_true, beq_iff_eq, Bool.and_self, atI_0, atI_1, atI_2, atI_3, atI_4, atI_5, atI_6, vw, vs, lendS, ownS, wipeE, ZL.frz, lendS, hasOb, env0, List.replicate_zero, List.replicate_succ, List.cons_append, Nat.reduceSub, List.map_cons, List.map_nil, List.getElem?_cons_zero, List.getElem?_cons_succ, List.getElem?_nil, List.set_cons_zero, List.set_cons_succ, List.length_cons, List.length_nil, List.length_set, Nat.reduceAdd, Nat.reduceLT, Nat.lt_add_one, Nat.zero_lt_succ, List.append_nil, List.nil_append, cln, clnS, clnL, clnX, List.all_cons, List.all_nil, Bool.and_true, Bool.true_and, and_true, true_and, if_true, if_false, Bool.false_eq_true, decide_eq_true_eq, Bool.true_or, Bool.or_true, Bool.false_or, Bool.or_false, decide_true, decide_false, Bool.and_false, Bool.false_and, reduceCtorEq, Int.reduceBEq, nc_0, nc_1, nc_2, nc_3, nc_4, nc_5, nc_6, Bool.not_true, Bool.not_false, reduceIte, all_pr]
    exact q
theorem u_ring : ∀ ds Q E, sp_ring ds Q E → w_ring (env0 N_ring ds) (ends0 Q E) := by
  intro ds Q E h
  obtain ⟨n, s, rfl, h0, hn, q⟩ := h
  simp only [w_ring, N_ring, wSeq, wSet, wRet, wRetN, wIf, wDrop, wFor, wNext, wBreak, wCont, wAppend, wSetIx, wAug, wFrz, wAsg, gN, gT, gNil', gCons', mL, mS, mLT, mMv, mIV, mRng, mRngV, mItems, mOp, mB, mC, mVar, mCons, mNil, mTup, mLst, mCB, mCall, mAnd, mOr, mNot, mAndV, mOrV, mNotV, mIf, mNeg, mSl, mNo, mPart, mPk, mChain2, mChain3, mFld, mComp, mComp2, cN, cT, cNil, cCons, mEnum, mYes, oAdd, oSub, oMul, oDiv, oMod, oPow, oB, oI, oEq, oIs, oIn, oIx, oMulI, oAddI, oSl, oRng1, oRng2, okL, okT, okS, fLen, fAbs, fInt, fMin, fMax, fSum, fSorted, fList, fTuple, fIsi, tyOf, Ty.isi, ty_int, ty_bool, ty_str, ty_list, ty_tuple, ty_dict, isNon, eqOk_int, eqOk_non, eqOk_bl, eqD_int, eqD_bl, eqD_str, eqD_non, beq_self_eq_true, beq_iff_eq, Bool.and_self, atI_0, atI_1, atI_2, atI_3, atI_4, atI_5, atI_6, vw, vs, lendS, ownS, wipeE, ZL.frz, lendS, hasOb, env0, List.replicate_zero, List.replicate_succ, List.cons_append, Nat.reduceSub, List.map_cons, List.map_nil, List.getElem?_cons_zero, List.getElem?_cons_succ, List.getElem?_nil, List.set_cons_zero, List.set_cons_succ, List.length_cons, List.length_nil, List.length_set, Nat.reduceAdd, Nat.reduceLT, Nat.lt_add_one, Nat.zero_lt_succ, List.append_nil, List.nil_append, cln, clnS, clnL, clnX, List.all_cons, List.all_nil, Bool.and_true, Bool.true_and, and_true, true_and, if_true, if_false, Bool.false_eq_true, decide_eq_true_eq, Bool.true_or, Bool.or_true, Bool.false_or, Bool.or_false, decide_true, decide_false, Bool.and_false, Bool.false_and, reduceCtorEq, Int.reduceBEq, nc_0, nc_1, nc_2, nc_3, nc_4, nc_5, nc_6, Bool.not_true, Bool.not_false, reduceIte]
  refine ⟨by omega, ?_⟩
  rw [show ((n : Int)).toNat = n from Int.toNat_natCast n, rangeD_zero]
  refine comp_map (List.range n) (fun (i : Nat) => D.int (i : Int)) (fun k => pr (min k ((k + s) % n), max k ((k + s) % n))) (fun k hk K hK => ?_) ?_ ?_
  · simp only [wSeq, wSet, wRet, wRetN, wIf, wDrop, wFor, wNext, wBreak, wCont, wAppend, wSetIx, wAug, wFrz, wAsg, gN, gT, gNil', gCons', mL, mS, mLT, mMv, mIV, mRng, mRngV, mItems, mOp, mB, mC, mVar, mCons, mNil, mTup, mLst, mCB, mCall, mAnd, mOr, mNot, mAndV, mOrV, mNotV, mIf, mNeg, mSl, mNo, mPart, mPk, mChain2, mChain3, mFld, mComp, mComp2, cN, cT, cNil, cCons, mEnum, mYes, oAdd, oSub, oMul, oDiv, oMod, oPow, oB, oI, oEq, oIs, oIn, oIx, oMulI, oAddI, oSl, oRng1, oRng2, okL, okT, okS, fLen, fAbs, fInt, fMin, fMax, fSum, fSorted, fList, fTuple, fIsi, tyOf, Ty.isi, ty_int, ty_bool, ty_str, ty_list, ty_tuple, ty_dict, isNon, eqOk_int, eqOk_non, eqOk_bl, eqD_int, eqD_bl, eqD_str, eqD_non, beq_self_eq_true, beq_iff_eq, Bool.and_self, atI_0, atI_1, atI_2, atI_3, atI_4, atI_5, atI_6, vw, vs, lendS, ownS, wipeE, ZL.frz, lendS, hasOb, env0, List.replicate_zero, List.replicate_succ, List.cons_append, Nat.reduceSub, List.map_cons, List.map_nil, List.getElem?_cons_zero, List.getElem?_cons_succ, List.getElem?_nil, List.set_cons_zero, List.set_cons_succ, List.length_cons, List.length_nil, List.length_set, Nat.reduceAdd, Nat.reduceLT, Nat.lt_add_one, Nat.zero_lt_succ, List.append_nil, List.nil_append, cln, clnS, clnL, clnX, List.all_cons, List.all_nil, Bool.and_true, Bool.true_and, and_true, true_and, if_true, if_false, Bool.false_eq_true, decide_eq_true_eq, Bool.true_or, Bool.or_true, Bool.false_or, Bool.or_false, decide_true, decide_false, Bool.and_false, Bool.false_and, reduceCtorEq, Int.reduceBEq, nc_0, nc_1, nc_2, nc_3, nc_4, nc_5, nc_6, Bool.not_true, Bool.not_false, reduceIte, cMod]
    refine ⟨by omega, by omega, by decide, ?_⟩
    have e : ((k : Int) + (s : Int)) % (n : Int) = (((k + s) % n : Nat) : Int) := by push_cast; rfl
    rw [e]
    have e1 : min (k : Int) (((k + s) % n : Nat) : Int) = ((min k ((k + s) % n) : Nat) : Int) := by omega
    have e2 : max (k : Int) (((k + s) % n : Nat) : Int) = ((max k ((k + s) % n) : Nat) : Int) := by omega
    rw [e1, e2]
    exact hK
  · rw [List.length_range]
    exact Nat.le_trans hn (by decide)
  · have e : (List.range n).map (fun k => pr (min k ((k + s) % n), max k ((k + s) % n))) = (ringP n s).map pr := by
      unfold ringP
      rw [List.map_map]
      rfl
    rw [e]
    simp only [wSeq, wSet, wRet, wRetN, wIf, wDrop, wFor, wNext, wBreak, wCont, wAppend, wSetIx, wAug, wFrz, wAsg, gN, gT, gNil', gCons', mL, mS, mLT, mMv, mIV, mRng, mRngV, mItems, mOp, mB, mC, mVar, mCons, mNil, mTup, mLst, mCB, mCall, mAnd, mOr, mNot, mAndV, mOrV, mNotV, mIf, mNeg, mSl, mNo, mPart, mPk, mChain2, mChain3, mFld, mComp, mComp2, cN, cT, cNil, cCons, mEnum, mYes, oAdd, oSub, oMul, oDiv, oMod, oPow, oB, oI, oEq, oIs, oIn, oIx, oMulI, oAddI, oSl, oRng1, oRng2, okL, okT, okS, fLen, fAbs, fInt, fMin, fMax, fSum, fSorted, fList, fTuple, fIsi, tyOf, Ty.isi, ty_int, ty_bool, ty_str, ty_list, ty_tuple, ty_dict, isNon, eqOk_int, eqOk_non, eqOk_bl, eqD_int, eqD_bl, eqD_str, eqD_non, beq_self_eq_true, beq_iff_eq, Bool.and_self, atI_0, atI_1, atI_2, atI_3, atI_4, atI_5, atI_6, vw, vs, lendS, ownS, wipeE, ZL.frz, lendS, hasOb, env0, List.replicate_zero, List.replicate_succ, List.cons_append, Nat.reduceSub, List.map_cons, List.map_nil, List.getElem?_cons_zero, List.getElem?_cons_succ, List.getElem?_nil, List.set_cons_zero, List.set_cons_succ, List.length_cons, List.length_nil, List.length_set, Nat.reduceAdd, Nat.reduceLT, Nat.lt_add_one, Nat.zero_lt_succ, List.append_nil, List.nil_append, cln, clnS, clnL, clnX, List.all_cons, List.all_nil, Bool.and_true, Bool.true_and, and_true, true_and, if_true, if_false, Bool.false_eq_true, decide_eq_true_eq, Bool.true_or, Bool.or_true, Bool.false_or, Bool.or_false, decide_true, decide_false, Bool.and_false, Bool.false_and, reduceCtorEq, Int.reduceBEq, nc_0, nc_1, nc_2, nc_3, nc_4, nc_5, nc_6, Bool.not_true, Bool.not_false, reduceIte, all_pr]
    exact q
theorem ringP_length (n s : Nat) : (ringP n s).length = n := by simp [ringP]
theorem rings_le (n a b : Nat) : ((List.range' a b).flatMap (ringP n)).length = b * n := by
  induction b generalizing a with
  | zero => simp
  | succ b ih =>
    rw [List.range'_succ, List.flatMap_cons, List.length_append, ringP_length, ih, Nat.succ_mul]
    omega
theorem pr_app (a b : List (Nat × Nat)) : a.map pr ++ b.map pr = (a ++ b).map pr := by rw [List.map_append]
theorem rest_loop {n : Nat} {x1 x2 x3 x4 : Option (Kd × D)} (h0 : 0 < n) (hn : n ≤ 100) (a b : Nat) (hb : b ≤ 10000) (Z : ZEnds)
    (hz : ∀ x6, Z.nx [some (.sh, .int (n : Int)), x1, x2, x3, x4, some (.ls .sh, .lst (((List.range' a b).flatMap (ringP n)).map pr)), x6, none, none]) :
    wForL (gN 6) (wSet 5 (mL (mOp oAdd (mVar 5) (mCall sp_ring [] (mCons (mVar 0) (mCons (mVar 6) mNil)))))) (rangeD (a : Int) b) [some (.sh, .int (n : Int)), x1, x2, x3, x4, some (.ls .sh, .lst []), none, none, none] Z := by
  refine for_range (fun i env => ∃ x6, env = [some (.sh, .int (n : Int)), x1, x2, x3, x4, some (.ls .sh, .lst (((List.range' a i).flatMap (ringP n)).map pr)), x6, none, none]) ⟨none, rfl⟩ ?_ ?_
  · rintro i hi env K ⟨x6, rfl⟩ hK
    simp only [wSeq, wSet, wRet, wRetN, wIf, wDrop, wFor, wNext, wBreak, wCont, wAppend, wSetIx, wAug, wFrz, wAsg, gN, gT, gNil', gCons', mL, mS, mLT, mMv, mIV, mRng, mRngV, mItems, mOp, mB, mC, mVar, mCons, mNil, mTup, mLst, mCB, mCall, mAnd, mOr, mNot, mAndV, mOrV, mNotV, mIf, mNeg, mSl, mNo, mPart, mPk, mChain2, mChain3, mFld, mComp, mComp2, cN, cT, cNil, cCons, mEnum, mYes, oAdd, oSub, oMul, oDiv, oMod, oPow, oB, oI, oEq, oIs, oIn, oIx, oMulI, oAddI, oSl, oRng1, oRng2, okL, okT, okS, fLen, fAbs, fInt, fMin, fMax, fSum, fSorted, fList, fTuple, fIsi, tyOf, Ty.isi, ty_int, ty_bool, ty_str, ty_list, ty_tuple, ty_dict, isNon, eqOk_int, eqOk_non, eqOk_bl, eqD_int, eqD_bl, eqD_str, eqD_non, beq_self_eq_true, beq_iff_eq, Bool.and_self, atI_0, atI_1, atI_2, atI_3, atI_4, atI_5, atI_6, vw, vs, lendS, ownS, wipeE, ZL.frz, lendS, hasOb, env0, List.replicate_zero, List.replicate_succ, List.cons_append, Nat.reduceSub, List.map_cons, List.map_nil, List.getElem?_cons_zero, List.getElem?_cons_succ, List.getElem?_nil, List.set_cons_zero, List.set_cons_succ, List.length_cons, List.length_nil, List.length_set, Nat.reduceAdd, Nat.reduceLT, Nat.lt_add_one, Nat.zero_lt_succ, List.append_nil, List.nil_append, cln, clnS, clnL, clnX, List.all_cons, List.all_nil, Bool.and_true, Bool.true_and, and_true, true_and, if_true, if_false, Bool.false_eq_true, decide_eq_true_eq, Bool.true_or, Bool.or_true, Bool.false_or, Bool.or_false, decide_true, decide_false, Bool.and_false, Bool.false_and, reduceCtorEq, Int.reduceBEq, nc_0, nc_1, nc_2, nc_3, nc_4, nc_5, nc_6, Bool.not_true, Bool.not_false, reduceIte, sp_ring]
    refine ⟨n, a + i, ?_, h0, Nat.le_trans hn (by decide), ?_, ?_, ?_⟩
    · simp
    · have h1 := rings_le n a i
      simp only [List.length_map, h1, ringP_length]
      have : i * n ≤ 10000 * 100 := Nat.mul_le_mul (by omega) hn
      have : 10000 * 100 + 100 ≤ sizeLine := by decide
      omega
    · rw [pr_app]; exact all_pr _
    · refine hK _ ⟨some (.sh, .int ((a : Int) + (i : Int))), ?_⟩
      rw [pr_app]
      have e : (List.range' a (i + 1)).flatMap (ringP n) = (List.range' a i).flatMap (ringP n) ++ ringP n (a + i) := by
        rw [List.range'_concat]
        simp
      rw [e]
  · rintro env ⟨x6, rfl⟩
    exact hz x6
theorem ifI {c : Prop} [Decidable c] {A B : Prop} (h1 : c → A) (h2 : ¬ c → B) : if c then A else B := by
  by_cases h : c
  · rw [if_pos h]; exact h1 h
  · rw [if_neg h]; exact h2 h
theorem u_rest_pairs : ∀ ds Q E, sp_rest_pairs ds Q E → w_rest_pairs (env0 N_rest_pairs ds) (ends0 Q E) := by
  intro ds Q E h
  obtain ⟨n, r, rfl, h0, hn, hr, q⟩ := h
  have fn : fit (n : Int) := fit_of (by omega) (by omega)
  have hw : r / n ≤ 10000 := Nat.le_trans (Nat.div_le_self r n) hr
  have hl : r % n < n := Nat.mod_lt _ h0
  have e1 : (r : Int) / (n : Int) = ((r / n : Nat) : Int) := by push_cast; rfl
  have e2 : (r : Int) % (n : Int) = ((r % n : Nat) : Int) := by push_cast; rfl
  have e3 : ((n : Int) - 1) / 2 = (((n - 1) / 2 : Nat) : Int) := by omega
  have hz : 10000 * 100 + 10000 ≤ sizeLine := by decide
  have g0 := Int.natCast_nonneg (r / n)
  simp only [w_rest_pairs, N_rest_pairs, wSeq, wSet, wRet, wRetN, wIf, wDrop, wFor, wNext, wBreak, wCont, wAppend, wSetIx, wAug, wFrz, wAsg, gN, gT, gNil', gCons', mL, mS, mLT, mMv, mIV, mRng, mRngV, mItems, mOp, mB, mC, mVar, mCons, mNil, mTup, mLst, mCB, mCall, mAnd, mOr, mNot, mAndV, mOrV, mNotV, mIf, mNeg, mSl, mNo, mPart, mPk, mChain2, mChain3, mFld, mComp, mComp2, cN, cT, cNil, cCons, mEnum, mYes, oAdd, oSub, oMul, oDiv, oMod, oPow, oB, oI, oEq, oIs, oIn, oIx, oMulI, oAddI, oSl, oRng1, oRng2, okL, okT, okS, fLen, fAbs, fInt, fMin, fMax, fSum, fSorted, fList, fTuple, fIsi, tyOf, Ty.isi, ty_int, ty_bool, ty_str, ty_list, ty_tuple, ty_dict, isNon, eqOk_int, eqOk_non, eqOk_bl, eqD_int, eqD_bl, eqD_str, eqD_non, beq_self_eq_true, beq_iff_eq, Bool.and_self, atI_0, atI_1, atI_2, atI_3, atI_4, atI_5, atI_6, vw, vs, lendS, ownS, wipeE, ZL.frz, lendS, hasOb, env0, List.replicate_zero, List.replicate_succ, List.cons_append, Nat.reduceSub, List.map_cons, List.map_nil, List.getElem?_cons_zero, List.getElem?_cons_succ, List.getElem?_nil, List.set_cons_zero, List.set_cons_succ, List.length_cons, List.length_nil, List.length_set, Nat.reduceAdd, Nat.reduceLT, Nat.lt_add_one, Nat.zero_lt_succ, List.append_nil, List.nil_append, cln, clnS, clnL, clnX, List.all_cons, List.all_nil, Bool.and_true, Bool.true_and, and_true, true_and, if_true, if_false, Bool.false_eq_true, decide_eq_true_eq, Bool.true_or, Bool.or_true, Bool.false_or, Bool.or_false, decide_true, decide_false, Bool.and_false, Bool.false_and, reduceCtorEq, Int.reduceBEq, nc_0, nc_1, nc_2, nc_3, nc_4, nc_5, nc_6, Bool.not_true, Bool.not_false, reduceIte, cDiv, cMod]
  refine ⟨⟨by omega, fn⟩, by omega, ⟨by decide, fit_of (by decide) (by decide)⟩, by decide, ?_⟩
  rw [e1, e2, e3]
  refine ifI (fun hc => ?_) fun hc => ?_
  · have hc : r / n = (n - 1) / 2 := by omega
    refine ⟨by omega, ?_⟩
    rw [show ((((n - 1) / 2 : Nat) : Int) + 1 - 1).toNat = (n - 1) / 2 by omega]
    refine rest_loop h0 hn 1 ((n - 1) / 2) (by omega) _ fun x6 => ?_
    simp only [wSeq, wSet, wRet, wRetN, wIf, wDrop, wFor, wNext, wBreak, wCont, wAppend, wSetIx, wAug, wFrz, wAsg, gN, gT, gNil', gCons', mL, mS, mLT, mMv, mIV, mRng, mRngV, mItems, mOp, mB, mC, mVar, mCons, mNil, mTup, mLst, mCB, mCall, mAnd, mOr, mNot, mAndV, mOrV, mNotV, mIf, mNeg, mSl, mNo, mPart, mPk, mChain2, mChain3, mFld, mComp, mComp2, cN, cT, cNil, cCons, mEnum, mYes, oAdd, oSub, oMul, oDiv, oMod, oPow, oB, oI, oEq, oIs, oIn, oIx, oMulI, oAddI, oSl, oRng1, oRng2, okL, okT, okS, fLen, fAbs, fInt, fMin, fMax, fSum, fSorted, fList, fTuple, fIsi, tyOf, Ty.isi, ty_int, ty_bool, ty_str, ty_list, ty_tuple, ty_dict, isNon, eqOk_int, eqOk_non, eqOk_bl, eqD_int, eqD_bl, eqD_str, eqD_non, beq_self_eq_true, beq_iff_eq, Bool.and_self, atI_0, atI_1, atI_2, atI_3, atI_4, atI_5, atI_6, vw, vs, lendS, ownS, wipeE, ZL.frz, lendS, hasOb, env0, List.replicate_zero, List.replicate_succ, List.cons_append, Nat.reduceSub, List.map_cons, List.map_nil, List.getElem?_cons_zero, List.getElem?_cons_succ, List.getElem?_nil, List.set_cons_zero, List.set_cons_succ, List.length_cons, List.length_nil, List.length_set, Nat.reduceAdd, Nat.reduceLT, Nat.lt_add_one, Nat.zero_lt_succ, List.append_nil, List.nil_append, cln, clnS, clnL, clnX, List.all_cons, List.all_nil, Bool.and_true, Bool.true_and, and_true, true_and, if_true, if_false, Bool.false_eq_true, decide_eq_true_eq, Bool.true_or, Bool.or_true, Bool.false_or, Bool.or_false, decide_true, decide_false, Bool.and_false, Bool.false_and, reduceCtorEq, Int.reduceBEq, nc_0, nc_1, nc_2, nc_3, nc_4, nc_5, nc_6, Bool.not_true, Bool.not_false, reduceIte]
    refine ⟨by omega, ?_⟩
    rw [show (((r % n : Nat) : Int)).toNat = r % n from Int.toNat_natCast _, rangeD_zero]
    refine comp_map (List.range (r % n)) (fun (i : Nat) => D.int (i : Int)) (fun k => pr (k, k + n / 2)) (fun k hk K hK => ?_) ?_ ?_
    · simp only [wSeq, wSet, wRet, wRetN, wIf, wDrop, wFor, wNext, wBreak, wCont, wAppend, wSetIx, wAug, wFrz, wAsg, gN, gT, gNil', gCons', mL, mS, mLT, mMv, mIV, mRng, mRngV, mItems, mOp, mB, mC, mVar, mCons, mNil, mTup, mLst, mCB, mCall, mAnd, mOr, mNot, mAndV, mOrV, mNotV, mIf, mNeg, mSl, mNo, mPart, mPk, mChain2, mChain3, mFld, mComp, mComp2, cN, cT, cNil, cCons, mEnum, mYes, oAdd, oSub, oMul, oDiv, oMod, oPow, oB, oI, oEq, oIs, oIn, oIx, oMulI, oAddI, oSl, oRng1, oRng2, okL, okT, okS, fLen, fAbs, fInt, fMin, fMax, fSum, fSorted, fList, fTuple, fIsi, tyOf, Ty.isi, ty_int, ty_bool, ty_str, ty_list, ty_tuple, ty_dict, isNon, eqOk_int, eqOk_non, eqOk_bl, eqD_int, eqD_bl, eqD_str, eqD_non, beq_self_eq_true, beq_iff_eq, Bool.and_self, atI_0, atI_1, atI_2, atI_3, atI_4, atI_5, atI_6, vw, vs, lendS, ownS, wipeE, ZL.frz, lendS, hasOb, env0, List.replicate_zero, List.replicate_succ, List.cons_append, Nat.reduceSub, List.map_cons, List.map_nil, List.getElem?_cons_zero, List.getElem?_cons_succ, List.getElem?_nil, List.set_cons_zero, List.set_cons_succ, List.length_cons, List.length_nil, List.length_set, Nat.reduceAdd, Nat.reduceLT, Nat.lt_add_one, Nat.zero_lt_succ, List.append_nil, List.nil_append, cln, clnS, clnL, clnX, List.all_cons, List.all_nil, Bool.and_true, Bool.true_and, and_true, true_and, if_true, if_false, Bool.false_eq_true, decide_eq_true_eq, Bool.true_or, Bool.or_true, Bool.false_or, Bool.or_false, decide_true, decide_false, Bool.and_false, Bool.false_and, reduceCtorEq, Int.reduceBEq, nc_0, nc_1, nc_2, nc_3, nc_4, nc_5, nc_6, Bool.not_true, Bool.not_false, reduceIte, cDiv]
      refine ⟨⟨by decide, fit_of (by decide) (by decide)⟩, by decide, ?_⟩
      have e4 : (n : Int) / 2 = ((n / 2 : Nat) : Int) := by omega
      rw [e4]
      simpa [pr] using hK
    · rw [List.length_range]; omega
    · have e : (List.range (r % n)).map (fun k => pr (k, k + n / 2)) = ((List.range (r % n)).map (fun k => (k, k + n / 2))).map pr := by rw [List.map_map]; rfl
      rw [e, pr_app]
      have hq : restP n r = (List.range' 1 ((n - 1) / 2)).flatMap (ringP n) ++ (List.range (r % n)).map (fun k => (k, k + n / 2)) := by unfold restP; rw [if_pos hc]
      rw [← hq]
      refine ⟨?_, all_pr _, q⟩
      have h1 := rings_le n 1 ((n - 1) / 2)
      have : (n - 1) / 2 * n ≤ 100 * 100 := Nat.mul_le_mul (by omega) hn
      simp only [List.length_map, List.length_range, h1]
      omega
  · have hc : ¬ (r / n = (n - 1) / 2) := by omega
    refine ⟨by omega, ?_⟩
    rw [show ((((r / n : Nat) : Int)) + 2 - 2).toNat = r / n by omega]
    refine rest_loop h0 hn 2 (r / n) hw _ fun x6 => ?_
    simp only [wSeq, wSet, wRet, wRetN, wIf, wDrop, wFor, wNext, wBreak, wCont, wAppend, wSetIx, wAug, wFrz, wAsg, gN, gT, gNil', gCons', mL, mS, mLT, mMv, mIV, mRng, mRngV, mItems, mOp, mB, mC, mVar, mCons, mNil, mTup, mLst, mCB, mCall, mAnd, mOr, mNot, mAndV, mOrV, mNotV, mIf, mNeg, mSl, mNo, mPart, mPk, mChain2, mChain3, mFld, mComp, mComp2, cN, cT, cNil, cCons, mEnum, mYes, oAdd, oSub, oMul, oDiv, oMod, oPow, oB, oI, oEq, oIs, oIn, oIx, oMulI, oAddI, oSl, oRng1, oRng2, okL, okT, okS, fLen, fAbs, fInt, fMin, fMax, fSum, fSorted, fList, fTuple, fIsi, tyOf, Ty.isi, ty_int, ty_bool, ty_str, ty_list, ty_tuple, ty_dict, isNon, eqOk_int, eqOk_non, eqOk_bl, eqD_int, eqD_bl, eqD_str, eqD_non, beq_self_eq_true, beq_iff_eq, Bool.and_self, atI_0, atI_1, atI_2, atI_3, atI_4, atI_5, atI_6, vw, vs, lendS, ownS, wipeE, ZL.frz, lendS, hasOb, env0, List.replicate_zero, List.replicate_succ, List.cons_append, Nat.reduceSub, List.map_cons, List.map_nil, List.getElem?_cons_zero, List.getElem?_cons_succ, List.getElem?_nil, List.set_cons_zero, List.set_cons_succ, List.length_cons, List.length_nil, List.length_set, Nat.reduceAdd, Nat.reduceLT, Nat.lt_add_one, Nat.zero_lt_succ, List.append_nil, List.nil_append, cln, clnS, clnL, clnX, List.all_cons, List.all_nil, Bool.and_true, Bool.true_and, and_true, true_and, if_true, if_false, Bool.false_eq_true, decide_eq_true_eq, Bool.true_or, Bool.or_true, Bool.false_or, Bool.or_false, decide_true, decide_false, Bool.and_false, Bool.false_and, reduceCtorEq, Int.reduceBEq, nc_0, nc_1, nc_2, nc_3, nc_4, nc_5, nc_6, Bool.not_true, Bool.not_false, reduceIte, sp_ring]
    refine ⟨n, 1, rfl, h0, Nat.le_trans hn (by decide), all_pr _, ?_⟩
    rw [pick_map, pick_map, pr_app, cutD_take, ← List.map_take, pr_app]
    have hq : restP n r = (List.range' 2 (r / n)).flatMap (ringP n) ++ ((pick (ringP n 1) none none (some 2) ++ pick (ringP n 1) (some 1) none (some 2)).take (r % n)) := by unfold restP; rw [if_neg hc]
    rw [← hq]
    have p1 := pick_length (ringP n 1) none none (some 2)
    have p2 := pick_length (ringP n 1) (some 1) none (some 2)
    rw [ringP_length] at p1 p2
    have h1 := rings_le n 2 (r / n)
    have h3 : r / n * n ≤ 10000 := Nat.le_trans (Nat.div_mul_le_self r n) hr
    refine ⟨by decide, by decide, ?_, ?_, all_pr _, q⟩
    · simp only [List.length_map]; omega
    · simp only [List.length_map, List.length_take, h1, List.length_append]; omega
theorem apairs_pos {n : Nat} (h : 2 ≤ n) : 0 < (apairs n).length := by
  unfold apairs
  obtain ⟨m, rfl⟩ : ∃ m, n = m + 1 := ⟨n - 1, by omega⟩
  rw [List.range_succ_eq_map, List.flatMap_cons, List.length_append, row_length]
  omega
theorem rep_length (k : Nat) (xs : List (Nat × Nat)) : ((List.replicate k xs).flatten).length = k * xs.length := by simp
theorem u_even_pairs : ∀ ds Q E, sp_even_pairs ds Q E → w_even_pairs (env0 N_even_pairs ds) (ends0 Q E) := by
  intro ds Q E h
  obtain ⟨n, p, rfl, h2, hn, hp, q⟩ := h
  have hpos := apairs_pos h2
  have hle := apairs_le n
  have h12 : n * n ≤ 12 * 12 := Nat.mul_le_mul hn hn
  simp only [w_even_pairs, N_even_pairs, wSeq, wSet, wRet, wRetN, wIf, wDrop, wFor, wNext, wBreak, wCont, wAppend, wSetIx, wAug, wFrz, wAsg, gN, gT, gNil', gCons', mL, mS, mLT, mMv, mIV, mRng, mRngV, mItems, mOp, mB, mC, mVar, mCons, mNil, mTup, mLst, mCB, mCall, mAnd, mOr, mNot, mAndV, mOrV, mNotV, mIf, mNeg, mSl, mNo, mPart, mPk, mChain2, mChain3, mFld, mComp, mComp2, cN, cT, cNil, cCons, mEnum, mYes, oAdd, oSub, oMul, oDiv, oMod, oPow, oB, oI, oEq, oIs, oIn, oIx, oMulI, oAddI, oSl, oRng1, oRng2, okL, okT, okS, fLen, fAbs, fInt, fMin, fMax, fSum, fSorted, fList, fTuple, fIsi, tyOf, Ty.isi, ty_int, ty_bool, ty_str, ty_list, ty_tuple, ty_dict, isNon, eqOk_int, eqOk_non, eqOk_bl, eqD_int, eqD_bl, eqD_str, eqD_non, beq_self_eq_true, beq_iff_eq, Bool.and_self, atI_0, atI_1, atI_2, atI_3, atI_4, atI_5, atI_6, vw, vs, lendS, ownS, wipeE, ZL.frz, lendS, hasOb, env0, List.replicate_zero, List.replicate_succ, List.cons_append, Nat.reduceSub, List.map_cons, List.map_nil, List.getElem?_cons_zero, List.getElem?_cons_succ, List.getElem?_nil, List.set_cons_zero, List.set_cons_succ, List.length_cons, List.length_nil, List.length_set, Nat.reduceAdd, Nat.reduceLT, Nat.lt_add_one, Nat.zero_lt_succ, List.append_nil, List.nil_append, cln, clnS, clnL, clnX, List.all_cons, List.all_nil, Bool.and_true, Bool.true_and, and_true, true_and, if_true, if_false, Bool.false_eq_true, decide_eq_true_eq, Bool.true_or, Bool.or_true, Bool.false_or, Bool.or_false, decide_true, decide_false, Bool.and_false, Bool.false_and, reduceCtorEq, Int.reduceBEq, nc_0, nc_1, nc_2, nc_3, nc_4, nc_5, nc_6, Bool.not_true, Bool.not_false, reduceIte, cDiv, cMod, sp_all_pairs]
  refine ⟨n, rfl, by omega, all_pr _, ?_⟩
  have e1 : (p : Int) / ((apairs n).length : Int) = ((p / (apairs n).length : Nat) : Int) := by push_cast; rfl
  have e2 : (p : Int) % ((apairs n).length : Int) = ((p % (apairs n).length : Nat) : Int) := by push_cast; rfl
  have hd : p / (apairs n).length ≤ 200 := Nat.le_trans (Nat.div_le_self _ _) hp
  have hm : p % (apairs n).length ≤ 200 := Nat.le_trans (Nat.mod_le _ _) hp
  have hz : 200 * 144 + 20000 ≤ sizeLine := by decide
  simp only [List.length_map, sp_rest_pairs]
  rw [e1, e2]
  have g0 := Int.natCast_nonneg (p / (apairs n).length)
  have hd' : ((p / (apairs n).length : Nat) : Int) ≤ 200 := by exact_mod_cast hd
  have tn : (((p / (apairs n).length : Nat) : Int)).toNat = p / (apairs n).length := Int.toNat_natCast _
  have hq : (List.replicate (p / (apairs n).length) ((apairs n).map pr)).flatten = ((List.replicate (p / (apairs n).length) (apairs n)).flatten).map pr := by
    rw [List.map_flatten, List.map_replicate]
  rw [tn, hq]
  have hmul : p / (apairs n).length * (apairs n).length ≤ 200 := Nat.le_trans (Nat.div_mul_le_self _ _) hp
  have hmul2 : (apairs n).length * (p / (apairs n).length) ≤ 200 := by rw [Nat.mul_comm]; exact hmul
  refine ⟨⟨by omega, fit_of (by omega) (by omega)⟩, ⟨by omega, by omega, by omega⟩, by omega, n, p % (apairs n).length, rfl, by omega, by omega, by omega, ?_⟩
  simp only [wSeq, wSet, wRet, wRetN, wIf, wDrop, wFor, wNext, wBreak, wCont, wAppend, wSetIx, wAug, wFrz, wAsg, gN, gT, gNil', gCons', mL, mS, mLT, mMv, mIV, mRng, mRngV, mItems, mOp, mB, mC, mVar, mCons, mNil, mTup, mLst, mCB, mCall, mAnd, mOr, mNot, mAndV, mOrV, mNotV, mIf, mNeg, mSl, mNo, mPart, mPk, mChain2, mChain3, mFld, mComp, mComp2, cN, cT, cNil, cCons, mEnum, mYes, oAdd, oSub, oMul, oDiv, oMod, oPow, oB, oI, oEq, oIs, oIn, oIx, oMulI, oAddI, oSl, oRng1, oRng2, okL, okT, okS, fLen, fAbs, fInt, fMin, fMax, fSum, fSorted, fList, fTuple, fIsi, tyOf, Ty.isi, ty_int, ty_bool, ty_str, ty_list, ty_tuple, ty_dict, isNon, eqOk_int, eqOk_non, eqOk_bl, eqD_int, eqD_bl, eqD_str, eqD_non, beq_self_eq_true, beq_iff_eq, Bool.and_self, atI_0, atI_1, atI_2, atI_3, atI_4, atI_5, atI_6, vw, vs, lendS, ownS, wipeE, ZL.frz, lendS, hasOb, env0, List.replicate_zero, List.replicate_succ, List.cons_append, Nat.reduceSub, List.map_cons, List.map_nil, List.getElem?_cons_zero, List.getElem?_cons_succ, List.getElem?_nil, List.set_cons_zero, List.set_cons_succ, List.length_cons, List.length_nil, List.length_set, Nat.reduceAdd, Nat.reduceLT, Nat.lt_add_one, Nat.zero_lt_succ, List.append_nil, List.nil_append, cln, clnS, clnL, clnX, List.all_cons, List.all_nil, Bool.and_true, Bool.true_and, and_true, true_and, if_true, if_false, Bool.false_eq_true, decide_eq_true_eq, Bool.true_or, Bool.or_true, Bool.false_or, Bool.or_false, decide_true, decide_false, Bool.and_false, Bool.false_and, reduceCtorEq, Int.reduceBEq, nc_0, nc_1, nc_2, nc_3, nc_4, nc_5, nc_6, Bool.not_true, Bool.not_false, reduceIte, List.length_map]
  rw [pr_app]
  have hr : (restP n (p % (apairs n).length)).length ≤ 20000 := by
    have h1 := rings_le n 1 ((n - 1) / 2)
    have h2' := rings_le n 2 ((p % (apairs n).length) / n)
    have h3 : (n - 1) / 2 * n ≤ 100 * 100 := Nat.mul_le_mul (by omega) (by omega)
    have h4 : (p % (apairs n).length) / n * n ≤ p % (apairs n).length := Nat.div_mul_le_self _ _
    have h5 : (p % (apairs n).length) % n < n := Nat.mod_lt _ (by omega)
    unfold restP
    split
    · simp only [List.length_append, List.length_map, List.length_range, h1]
      omega
    · simp only [List.length_append, List.length_take, h2']
      omega
  refine ⟨?_, all_pr _, q⟩
  rw [rep_length]
  omega
theorem u_least_even_cap : ∀ ds Q E, sp_least_even_cap ds Q E → w_least_even_cap (env0 N_least_even_cap ds) (ends0 Q E) := by
  intro ds Q E h
  obtain ⟨n, p, rfl, h2, hn, hp, q⟩ := h
  have hpos := apairs_pos h2
  have hle := apairs_le n
  have h12 : n * n ≤ 12 * 12 := Nat.mul_le_mul hn hn
  simp only [w_least_even_cap, N_least_even_cap, wSeq, wSet, wRet, wRetN, wIf, wDrop, wFor, wNext, wBreak, wCont, wAppend, wSetIx, wAug, wFrz, wAsg, gN, gT, gNil', gCons', mL, mS, mLT, mMv, mIV, mRng, mRngV, mItems, mOp, mB, mC, mVar, mCons, mNil, mTup, mLst, mCB, mCall, mAnd, mOr, mNot, mAndV, mOrV, mNotV, mIf, mNeg, mSl, mNo, mPart, mPk, mChain2, mChain3, mFld, mComp, mComp2, cN, cT, cNil, cCons, mEnum, mYes, oAdd, oSub, oMul, oDiv, oMod, oPow, oB, oI, oEq, oIs, oIn, oIx, oMulI, oAddI, oSl, oRng1, oRng2, okL, okT, okS, fLen, fAbs, fInt, fMin, fMax, fSum, fSorted, fList, fTuple, fIsi, tyOf, Ty.isi, ty_int, ty_bool, ty_str, ty_list, ty_tuple, ty_dict, isNon, eqOk_int, eqOk_non, eqOk_bl, eqD_int, eqD_bl, eqD_str, eqD_non, beq_self_eq_true, beq_iff_eq, Bool.and_self, atI_0, atI_1, atI_2, atI_3, atI_4, atI_5, atI_6, vw, vs, lendS, ownS, wipeE, ZL.frz, lendS, hasOb, env0, List.replicate_zero, List.replicate_succ, List.cons_append, Nat.reduceSub, List.map_cons, List.map_nil, List.getElem?_cons_zero, List.getElem?_cons_succ, List.getElem?_nil, List.set_cons_zero, List.set_cons_succ, List.length_cons, List.length_nil, List.length_set, Nat.reduceAdd, Nat.reduceLT, Nat.lt_add_one, Nat.zero_lt_succ, List.append_nil, List.nil_append, cln, clnS, clnL, clnX, List.all_cons, List.all_nil, Bool.and_true, Bool.true_and, and_true, true_and, if_true, if_false, Bool.false_eq_true, decide_eq_true_eq, Bool.true_or, Bool.or_true, Bool.false_or, Bool.or_false, decide_true, decide_false, Bool.and_false, Bool.false_and, reduceCtorEq, Int.reduceBEq, nc_0, nc_1, nc_2, nc_3, nc_4, nc_5, nc_6, Bool.not_true, Bool.not_false, reduceIte, cDiv, cMod, sp_all_pairs, List.length_map]
  refine ⟨n, rfl, by omega, ⟨by omega, fit_of (by omega) (by omega)⟩, ?_⟩
  have e1 : ((p : Int) + ((apairs n).length : Int) - 1) / ((apairs n).length : Int) = (capP n p : Int) := by
    unfold capP
    rw [show (p : Int) + ((apairs n).length : Int) - 1 = ((p + (apairs n).length - 1 : Nat) : Int) by omega]
    push_cast
    rfl
  rw [e1]
  exact q
theorem u__law_case : ∀ ds Q E, sp__law_case ds Q E → w__law_case (env0 N__law_case ds) (ends0 Q E) := by
  intro ds Q E h
  obtain ⟨c, rfl, q⟩ := h
  simp only [w__law_case, N__law_case, wSeq, wSet, wRet, wRetN, wIf, wDrop, wFor, wNext, wBreak, wCont, wAppend, wSetIx, wAug, wFrz, wAsg, gN, gT, gNil', gCons', mL, mS, mLT, mMv, mIV, mRng, mRngV, mItems, mOp, mB, mC, mVar, mCons, mNil, mTup, mLst, mCB, mCall, mAnd, mOr, mNot, mAndV, mOrV, mNotV, mIf, mNeg, mSl, mNo, mPart, mPk, mChain2, mChain3, mFld, mComp, mComp2, cN, cT, cNil, cCons, mEnum, mYes, oAdd, oSub, oMul, oDiv, oMod, oPow, oB, oI, oEq, oIs, oIn, oIx, oMulI, oAddI, oSl, oRng1, oRng2, okL, okT, okS, fLen, fAbs, fInt, fMin, fMax, fSum, fSorted, fList, fTuple, fIsi, tyOf, Ty.isi, ty_int, ty_bool, ty_str, ty_list, ty_tuple, ty_dict, isNon, eqOk_int, eqOk_non, eqOk_bl, eqD_int, eqD_bl, eqD_str, eqD_non, beq_self_eq_true, beq_iff_eq, Bool.and_self, atI_0, atI_1, atI_2, atI_3, atI_4, atI_5, atI_6, vw, vs, lendS, ownS, wipeE, ZL.frz, lendS, hasOb, env0, List.replicate_zero, List.replicate_succ, List.cons_append, Nat.reduceSub, List.map_cons, List.map_nil, List.getElem?_cons_zero, List.getElem?_cons_succ, List.getElem?_nil, List.set_cons_zero, List.set_cons_succ, List.length_cons, List.length_nil, List.length_set, Nat.reduceAdd, Nat.reduceLT, Nat.lt_add_one, Nat.zero_lt_succ, List.append_nil, List.nil_append, cln, clnS, clnL, clnX, List.all_cons, List.all_nil, Bool.and_true, Bool.true_and, and_true, true_and, if_true, if_false, Bool.false_eq_true, decide_eq_true_eq, Bool.true_or, Bool.or_true, Bool.false_or, Bool.or_false, decide_true, decide_false, Bool.and_false, Bool.false_and, reduceCtorEq, Int.reduceBEq, nc_0, nc_1, nc_2, nc_3, nc_4, nc_5, nc_6, Bool.not_true, Bool.not_false, reduceIte, sp__law_draws]
  refine ⟨by decide, c, [2, 11, 4, 201], rfl, by decide, by decide, fun rs dr => ?_⟩
  obtain ⟨a, b, d, e, rfl, h1, h2, h3, h4⟩ : ∃ a b d e, rs = [a, b, d, e] ∧ (0 ≤ a ∧ a < 2) ∧ (0 ≤ b ∧ b < 11) ∧ (0 ≤ d ∧ d < 4) ∧ (0 ≤ e ∧ e < 201) := by
    match rs, dr with
    | [a, b, d, e], ⟨h1, h2, h3, h4, _⟩ => exact ⟨a, b, d, e, rfl, h1, h2, h3, h4⟩
  simp only [wSeq, wSet, wRet, wRetN, wIf, wDrop, wFor, wNext, wBreak, wCont, wAppend, wSetIx, wAug, wFrz, wAsg, gN, gT, gNil', gCons', mL, mS, mLT, mMv, mIV, mRng, mRngV, mItems, mOp, mB, mC, mVar, mCons, mNil, mTup, mLst, mCB, mCall, mAnd, mOr, mNot, mAndV, mOrV, mNotV, mIf, mNeg, mSl, mNo, mPart, mPk, mChain2, mChain3, mFld, mComp, mComp2, cN, cT, cNil, cCons, mEnum, mYes, oAdd, oSub, oMul, oDiv, oMod, oPow, oB, oI, oEq, oIs, oIn, oIx, oMulI, oAddI, oSl, oRng1, oRng2, okL, okT, okS, fLen, fAbs, fInt, fMin, fMax, fSum, fSorted, fList, fTuple, fIsi, tyOf, Ty.isi, ty_int, ty_bool, ty_str, ty_list, ty_tuple, ty_dict, isNon, eqOk_int, eqOk_non, eqOk_bl, eqD_int, eqD_bl, eqD_str, eqD_non, beq_self_eq_true, beq_iff_eq, Bool.and_self, atI_0, atI_1, atI_2, atI_3, atI_4, atI_5, atI_6, vw, vs, lendS, ownS, wipeE, ZL.frz, lendS, hasOb, env0, List.replicate_zero, List.replicate_succ, List.cons_append, Nat.reduceSub, List.map_cons, List.map_nil, List.getElem?_cons_zero, List.getElem?_cons_succ, List.getElem?_nil, List.set_cons_zero, List.set_cons_succ, List.length_cons, List.length_nil, List.length_set, Nat.reduceAdd, Nat.reduceLT, Nat.lt_add_one, Nat.zero_lt_succ, List.append_nil, List.nil_append, cln, clnS, clnL, clnX, List.all_cons, List.all_nil, Bool.and_true, Bool.true_and, and_true, true_and, if_true, if_false, Bool.false_eq_true, decide_eq_true_eq, Bool.true_or, Bool.or_true, Bool.false_or, Bool.or_false, decide_true, decide_false, Bool.and_false, Bool.false_and, reduceCtorEq, Int.reduceBEq, nc_0, nc_1, nc_2, nc_3, nc_4, nc_5, nc_6, Bool.not_true, Bool.not_false, reduceIte]
  obtain ⟨b', rfl⟩ := Int.eq_ofNat_of_zero_le h2.1
  obtain ⟨d', rfl⟩ := Int.eq_ofNat_of_zero_le h3.1
  obtain ⟨e', rfl⟩ := Int.eq_ofNat_of_zero_le h4.1
  refine ifI (fun _ => ?_) fun _ => ?_
  · refine ⟨by decide, ?_⟩
    exact q (d' + 9) e' (by omega) (by omega) (by omega)
  · refine ⟨by decide, ?_⟩
    exact q (b' + 2) e' (by omega) (by omega) (by omega)
theorem u__law_is_least_cap : ∀ ds Q E, sp__law_is_least_cap ds Q E → w__law_is_least_cap (env0 N__law_is_least_cap ds) (ends0 Q E) := by
  intro ds Q E h
  obtain ⟨n, p, c, rfl, h1, hn, hp, hc, hlo, hhi, q⟩ := h
  simp only [w__law_is_least_cap, N__law_is_least_cap, wSeq, wSet, wRet, wRetN, wIf, wDrop, wFor, wNext, wBreak, wCont, wAppend, wSetIx, wAug, wFrz, wAsg, gN, gT, gNil', gCons', mL, mS, mLT, mMv, mIV, mRng, mRngV, mItems, mOp, mB, mC, mVar, mCons, mNil, mTup, mLst, mCB, mCall, mAnd, mOr, mNot, mAndV, mOrV, mNotV, mIf, mNeg, mSl, mNo, mPart, mPk, mChain2, mChain3, mFld, mComp, mComp2, cN, cT, cNil, cCons, mEnum, mYes, oAdd, oSub, oMul, oDiv, oMod, oPow, oB, oI, oEq, oIs, oIn, oIx, oMulI, oAddI, oSl, oRng1, oRng2, okL, okT, okS, fLen, fAbs, fInt, fMin, fMax, fSum, fSorted, fList, fTuple, fIsi, tyOf, Ty.isi, ty_int, ty_bool, ty_str, ty_list, ty_tuple, ty_dict, isNon, eqOk_int, eqOk_non, eqOk_bl, eqD_int, eqD_bl, eqD_str, eqD_non, beq_self_eq_true, beq_iff_eq, Bool.and_self, atI_0, atI_1, atI_2, atI_3, atI_4, atI_5, atI_6, vw, vs, lendS, ownS, wipeE, ZL.frz, lendS, hasOb, env0, List.replicate_zero, List.replicate_succ, List.cons_append, Nat.reduceSub, List.map_cons, List.map_nil, List.getElem?_cons_zero, List.getElem?_cons_succ, List.getElem?_nil, List.set_cons_zero, List.set_cons_succ, List.length_cons, List.length_nil, List.length_set, Nat.reduceAdd, Nat.reduceLT, Nat.lt_add_one, Nat.zero_lt_succ, List.append_nil, List.nil_append, cln, clnS, clnL, clnX, List.all_cons, List.all_nil, Bool.and_true, Bool.true_and, and_true, true_and, if_true, if_false, Bool.false_eq_true, decide_eq_true_eq, Bool.true_or, Bool.or_true, Bool.false_or, Bool.or_false, decide_true, decide_false, Bool.and_false, Bool.false_and, reduceCtorEq, Int.reduceBEq, nc_0, nc_1, nc_2, nc_3, nc_4, nc_5, nc_6, Bool.not_true, Bool.not_false, reduceIte, sp__law_is_integer, cMul, cDiv]
  have e : ((n : Int) * ((n : Int) - 1)) / 2 = ((n * (n - 1) / 2 : Nat) : Int) := by
    obtain ⟨m, rfl⟩ : ∃ m, n = m + 1 := ⟨n - 1, by omega⟩
    push_cast
    simp
  have ht : n * (n - 1) / 2 ≤ 66 := by
    have : n * (n - 1) ≤ 12 * 11 := Nat.mul_le_mul hn (by omega)
    omega
  rw [e]
  generalize n * (n - 1) / 2 = t at *
  have hlo' : (p : Int) ≤ (c : Int) * (t : Int) := by exact_mod_cast hlo
  refine ⟨⟨fit_of (by omega) (by omega), fit_of (by omega) (by omega)⟩, ⟨by decide, fit_of (by decide) (by decide)⟩, _, rfl, ?_⟩
  simp only [wSeq, wSet, wRet, wRetN, wIf, wDrop, wFor, wNext, wBreak, wCont, wAppend, wSetIx, wAug, wFrz, wAsg, gN, gT, gNil', gCons', mL, mS, mLT, mMv, mIV, mRng, mRngV, mItems, mOp, mB, mC, mVar, mCons, mNil, mTup, mLst, mCB, mCall, mAnd, mOr, mNot, mAndV, mOrV, mNotV, mIf, mNeg, mSl, mNo, mPart, mPk, mChain2, mChain3, mFld, mComp, mComp2, cN, cT, cNil, cCons, mEnum, mYes, oAdd, oSub, oMul, oDiv, oMod, oPow, oB, oI, oEq, oIs, oIn, oIx, oMulI, oAddI, oSl, oRng1, oRng2, okL, okT, okS, fLen, fAbs, fInt, fMin, fMax, fSum, fSorted, fList, fTuple, fIsi, tyOf, Ty.isi, ty_int, ty_bool, ty_str, ty_list, ty_tuple, ty_dict, isNon, eqOk_int, eqOk_non, eqOk_bl, eqD_int, eqD_bl, eqD_str, eqD_non, beq_self_eq_true, beq_iff_eq, Bool.and_self, atI_0, atI_1, atI_2, atI_3, atI_4, atI_5, atI_6, vw, vs, lendS, ownS, wipeE, ZL.frz, lendS, hasOb, env0, List.replicate_zero, List.replicate_succ, List.cons_append, Nat.reduceSub, List.map_cons, List.map_nil, List.getElem?_cons_zero, List.getElem?_cons_succ, List.getElem?_nil, List.set_cons_zero, List.set_cons_succ, List.length_cons, List.length_nil, List.length_set, Nat.reduceAdd, Nat.reduceLT, Nat.lt_add_one, Nat.zero_lt_succ, List.append_nil, List.nil_append, cln, clnS, clnL, clnX, List.all_cons, List.all_nil, Bool.and_true, Bool.true_and, and_true, true_and, if_true, if_false, Bool.false_eq_true, decide_eq_true_eq, Bool.true_or, Bool.or_true, Bool.false_or, Bool.or_false, decide_true, decide_false, Bool.and_false, Bool.false_and, reduceCtorEq, Int.reduceBEq, nc_0, nc_1, nc_2, nc_3, nc_4, nc_5, nc_6, Bool.not_true, Bool.not_false, reduceIte]
  refine ifI (fun z => by omega) fun _ => ⟨⟨fit_of (by omega) (by omega), fit_of (by omega) (by omega)⟩, ifI (fun z => by omega) fun _ => ifI (fun _ => q) fun z => ⟨⟨fit_of (by omega) (by omega), fit_of (by omega) (by omega)⟩, ?_⟩⟩
  have : ((c : Int) - 1) * (t : Int) < (p : Int) := by
    rcases hhi with hhi | hhi
    · omega
    · have e : ((c - 1 : Nat) : Int) = (c : Int) - 1 := by omega
      rw [← e]
      exact_mod_cast hhi
  rw [decide_eq_true this]
  exact q
/-! tables -/
def tab (n : Nat) (f : Nat → Nat) : List D := (List.range n).map fun k => D.int (f k : Int)
theorem tab_length (n : Nat) (f : Nat → Nat) : (tab n f).length = n := by simp [tab]
theorem tab_get {n : Nat} {f : Nat → Nat} {k : Nat} (h : k < n) : (tab n f)[k]? = some (.int (f k : Int)) := by simp [tab, h]
theorem tab_set {n : Nat} {f : Nat → Nat} {m : Nat} : (tab n f).set m (.int ((f m : Int) + 1)) = tab n fun k => f k + if m = k then 1 else 0 := by
  apply List.ext_getElem?
  intro k
  rw [List.getElem?_set]
  by_cases hk : k < n
  · rw [tab_get hk, tab_get hk, tab_length]
    by_cases e : m = k
    · subst e
      simp [hk]
    · simp [e]
  · have : (tab n f)[k]? = none := List.getElem?_eq_none (by rw [tab_length]; omega)
    have h2 : (tab n fun k => f k + if m = k then 1 else 0)[k]? = none := List.getElem?_eq_none (by rw [tab_length]; omega)
    rw [this, h2, tab_length]
    by_cases e : m = k
    · subst e; simp [hk]
    · simp [e]
theorem tab_zero (n : Nat) : (List.replicate n [D.int 0]).flatten = tab n fun _ => 0 := by
  induction n with
  | zero => rfl
  | succ n ih =>
    unfold tab at ih ⊢
    rw [List.replicate_succ', List.flatten_append, ih, List.range_succ, List.map_append]
    rfl
theorem ixN_of {n i : Nat} (h : i < n) : ixN n (i : Int) = some i := by
  unfold ixN
  rw [if_pos (by omega), if_pos (by omega)]
  simp
theorem spot_lt {n : Nat} {p : Nat × Nat} (h : p.1 < p.2 ∧ p.2 < n) : spot n p < n * n := by
  unfold spot
  have : p.1 * n + n ≤ n * n := by
    have : (p.1 + 1) * n ≤ n * n := Nat.mul_le_mul_right n (by omega)
    rw [Nat.succ_mul] at this
    exact this
  omega
theorem clnS_int (i : Int) : clnS (.int i) = true := rfl
theorem all_tab (n : Nat) (f : Nat → Nat) : ((tab n f).all fun x => clnS x) = true := by
  unfold tab
  rw [List.all_eq_true]
  intro x hx
  obtain ⟨p, _, rfl⟩ := List.mem_map.1 hx
  rfl
theorem u__law_occurrences : ∀ ds Q E, sp__law_occurrences ds Q E → w__law_occurrences (env0 N__law_occurrences ds) (ends0 Q E) := by
  intro ds Q E h
  obtain ⟨n, ps, rfl, hn, hok, q⟩ := h
  have h2 : n * n ≤ 100 * 100 := Nat.mul_le_mul hn hn
  have hz : 100 * 100 + 1000 ≤ sizeLine := by decide
  have en : ((n : Int) * (n : Int)) = ((n * n : Nat) : Int) := by push_cast; rfl
  simp only [w__law_occurrences, N__law_occurrences, wSeq, wSet, wRet, wRetN, wIf, wDrop, wFor, wNext, wBreak, wCont, wAppend, wSetIx, wAug, wFrz, wAsg, gN, gT, gNil', gCons', mL, mS, mLT, mMv, mIV, mRng, mRngV, mItems, mOp, mB, mC, mVar, mCons, mNil, mTup, mLst, mCB, mCall, mAnd, mOr, mNot, mAndV, mOrV, mNotV, mIf, mNeg, mSl, mNo, mPart, mPk, mChain2, mChain3, mFld, mComp, mComp2, cN, cT, cNil, cCons, mEnum, mYes, oAdd, oSub, oMul, oDiv, oMod, oPow, oB, oI, oEq, oIs, oIn, oIx, oMulI, oAddI, oSl, oRng1, oRng2, okL, okT, okS, fLen, fAbs, fInt, fMin, fMax, fSum, fSorted, fList, fTuple, fIsi, tyOf, Ty.isi, ty_int, ty_bool, ty_str, ty_list, ty_tuple, ty_dict, isNon, eqOk_int, eqOk_non, eqOk_bl, eqD_int, eqD_bl, eqD_str, eqD_non, beq_self_eq_true, beq_iff_eq, Bool.and_self, atI_0, atI_1, atI_2, atI_3, atI_4, atI_5, atI_6, vw, vs, lendS, ownS, wipeE, ZL.frz, lendS, hasOb, env0, List.replicate_zero, List.replicate_succ, List.cons_append, Nat.reduceSub, List.map_cons, List.map_nil, List.getElem?_cons_zero, List.getElem?_cons_succ, List.getElem?_nil, List.set_cons_zero, List.set_cons_succ, List.length_cons, List.length_nil, List.length_set, Nat.reduceAdd, Nat.reduceLT, Nat.lt_add_one, Nat.zero_lt_succ, List.append_nil, List.nil_append, cln, clnS, clnL, clnX, List.all_cons, List.all_nil, Bool.and_true, Bool.true_and, and_true, true_and, if_true, if_false, Bool.false_eq_true, decide_eq_true_eq, Bool.true_or, Bool.or_true, Bool.false_or, Bool.or_false, decide_true, decide_false, Bool.and_false, Bool.false_and, reduceCtorEq, Int.reduceBEq, nc_0, nc_1, nc_2, nc_3, nc_4, nc_5, nc_6, Bool.not_true, Bool.not_false, reduceIte, cMul]
  rw [en]
  simp only [Int.toNat_natCast, tab_zero, all_tab, vw, vs, lendS, ownS, wipeE, ZL.frz, lendS, hasOb, env0, List.replicate_zero, List.replicate_succ, List.cons_append, Nat.reduceSub, List.map_cons, List.map_nil, List.getElem?_cons_zero, List.getElem?_cons_succ, List.getElem?_nil, List.set_cons_zero, List.set_cons_succ, List.length_cons, List.length_nil, List.length_set, Nat.reduceAdd, Nat.reduceLT, Nat.lt_add_one, Nat.zero_lt_succ, List.append_nil, List.nil_append, cln, clnS, clnL, clnX, List.all_cons, List.all_nil, Bool.and_true, Bool.true_and, and_true, true_and, if_true, if_false, Bool.false_eq_true, decide_eq_true_eq, Bool.true_or, Bool.or_true, Bool.false_or, Bool.or_false, decide_true, decide_false, Bool.and_false, Bool.false_and, reduceCtorEq, Int.reduceBEq, nc_0, nc_1, nc_2, nc_3, nc_4, nc_5, nc_6, Bool.not_true, Bool.not_false, reduceIte]
  refine ⟨by decide, ⟨fit_of (by omega) (by omega), fit_of (by omega) (by omega)⟩, ⟨by omega, by omega, by omega⟩, by decide, ⟨by omega, by omega, by omega⟩, ?_⟩
  refine for_items ps pr (fun i env => ∃ x y z u v, env = [some (.sh, .lst (ps.map pr)), some (.sh, .int (n : Int)), some (.ls .sh, .lst (tab (n * n) (cnt n (ps.take i)))), some (.ls .sh, .lst (tab n (deg (ps.take i)))), x, y, z, u, v]) ⟨none, none, none, none, none, ?_⟩ ?_ ?_
  · have a : cnt n [] = fun _ => 0 := by funext k; simp [cnt]
    have b : deg [] = fun _ => 0 := by funext k; simp [deg]
    rw [List.take_zero, a, b]
  · rintro i p hp env K ⟨x, y, z, u, v, rfl⟩ hK
    have hpm := hok p (List.mem_of_getElem? hp)
    have hs := spot_lt hpm
    have e1 : (p.1 : Int) * (n : Int) + (p.2 : Int) = ((spot n p : Nat) : Int) := by unfold spot; push_cast; rfl
    have g1 : (p.1 : Int) < (p.2 : Int) := by omega
    have g2 : (p.2 : Int) < (n : Int) := by omega
    have e2 : p.1 < n := by omega
    simp only [wSeq, wSet, wRet, wRetN, wIf, wDrop, wFor, wNext, wBreak, wCont, wAppend, wSetIx, wAug, wFrz, wAsg, gN, gT, gNil', gCons', mL, mS, mLT, mMv, mIV, mRng, mRngV, mItems, mOp, mB, mC, mVar, mCons, mNil, mTup, mLst, mCB, mCall, mAnd, mOr, mNot, mAndV, mOrV, mNotV, mIf, mNeg, mSl, mNo, mPart, mPk, mChain2, mChain3, mFld, mComp, mComp2, cN, cT, cNil, cCons, mEnum, mYes, oAdd, oSub, oMul, oDiv, oMod, oPow, oB, oI, oEq, oIs, oIn, oIx, oMulI, oAddI, oSl, oRng1, oRng2, okL, okT, okS, fLen, fAbs, fInt, fMin, fMax, fSum, fSorted, fList, fTuple, fIsi, tyOf, Ty.isi, ty_int, ty_bool, ty_str, ty_list, ty_tuple, ty_dict, isNon, eqOk_int, eqOk_non, eqOk_bl, eqD_int, eqD_bl, eqD_str, eqD_non, beq_self_eq_true, beq_iff_eq, Bool.and_self, atI_0, atI_1, atI_2, atI_3, atI_4, atI_5, atI_6, vw, vs, lendS, ownS, wipeE, ZL.frz, lendS, hasOb, env0, List.replicate_zero, List.replicate_succ, List.cons_append, Nat.reduceSub, List.map_cons, List.map_nil, List.getElem?_cons_zero, List.getElem?_cons_succ, List.getElem?_nil, List.set_cons_zero, List.set_cons_succ, List.length_cons, List.length_nil, List.length_set, Nat.reduceAdd, Nat.reduceLT, Nat.lt_add_one, Nat.zero_lt_succ, List.append_nil, List.nil_append, cln, clnS, clnL, clnX, List.all_cons, List.all_nil, Bool.and_true, Bool.true_and, and_true, true_and, if_true, if_false, Bool.false_eq_true, decide_eq_true_eq, Bool.true_or, Bool.or_true, Bool.false_or, Bool.or_false, decide_true, decide_false, Bool.and_false, Bool.false_and, reduceCtorEq, Int.reduceBEq, nc_0, nc_1, nc_2, nc_3, nc_4, nc_5, nc_6, Bool.not_true, Bool.not_false, reduceIte, pr, sp__law_is_integer, cMul, Int.natCast_nonneg, e1, g1, g2, atI_of (tab_get hs), atI_of (tab_get e2), atI_of (tab_get hpm.2), ixN_of hs, ixN_of e2, ixN_of hpm.2, tab_length, tab_set, all_tab]
    refine ⟨_, rfl, _, rfl, ⟨fit_of (by omega) (by omega), fit_of (by omega) (by omega)⟩, hK _ ⟨some (.sh, .tup [.int (p.1 : Int), .int (p.2 : Int)]), y, z, some (.sh, .int (spot n p : Int)), v, ?_⟩⟩
    have et : ps.take (i + 1) = ps.take i ++ [p] := by rw [List.take_succ, hp]; rfl
    have c1 : (fun k => cnt n (ps.take i) k + if spot n p = k then 1 else 0) = cnt n (ps.take (i + 1)) := by
      funext k
      rw [et]
      unfold cnt
      simp [List.count_cons, List.count_nil]
    have c2 : (fun k => (deg (ps.take i) k + if p.1 = k then 1 else 0) + if p.2 = k then 1 else 0) = deg (ps.take (i + 1)) := by
      funext k
      rw [et]
      unfold deg
      simp [List.count_cons, List.count_nil]
      omega
    rw [c1, c2]
  · rintro env ⟨x, y, z, u, v, rfl⟩
    rw [List.take_length]
    simp only [wSeq, wSet, wRet, wRetN, wIf, wDrop, wFor, wNext, wBreak, wCont, wAppend, wSetIx, wAug, wFrz, wAsg, gN, gT, gNil', gCons', mL, mS, mLT, mMv, mIV, mRng, mRngV, mItems, mOp, mB, mC, mVar, mCons, mNil, mTup, mLst, mCB, mCall, mAnd, mOr, mNot, mAndV, mOrV, mNotV, mIf, mNeg, mSl, mNo, mPart, mPk, mChain2, mChain3, mFld, mComp, mComp2, cN, cT, cNil, cCons, mEnum, mYes, oAdd, oSub, oMul, oDiv, oMod, oPow, oB, oI, oEq, oIs, oIn, oIx, oMulI, oAddI, oSl, oRng1, oRng2, okL, okT, okS, fLen, fAbs, fInt, fMin, fMax, fSum, fSorted, fList, fTuple, fIsi, tyOf, Ty.isi, ty_int, ty_bool, ty_str, ty_list, ty_tuple, ty_dict, isNon, eqOk_int, eqOk_non, eqOk_bl, eqD_int, eqD_bl, eqD_str, eqD_non, beq_self_eq_true, beq_iff_eq, Bool.and_self, atI_0, atI_1, atI_2, atI_3, atI_4, atI_5, atI_6, vw, vs, lendS, ownS, wipeE, ZL.frz, lendS, hasOb, env0, List.replicate_zero, List.replicate_succ, List.cons_append, Nat.reduceSub, List.map_cons, List.map_nil, List.getElem?_cons_zero, List.getElem?_cons_succ, List.getElem?_nil, List.set_cons_zero, List.set_cons_succ, List.length_cons, List.length_nil, List.length_set, Nat.reduceAdd, Nat.reduceLT, Nat.lt_add_one, Nat.zero_lt_succ, List.append_nil, List.nil_append, cln, clnS, clnL, clnX, List.all_cons, List.all_nil, Bool.and_true, Bool.true_and, and_true, true_and, if_true, if_false, Bool.false_eq_true, decide_eq_true_eq, Bool.true_or, Bool.or_true, Bool.false_or, Bool.or_false, decide_true, decide_false, Bool.and_false, Bool.false_and, reduceCtorEq, Int.reduceBEq, nc_0, nc_1, nc_2, nc_3, nc_4, nc_5, nc_6, Bool.not_true, Bool.not_false, reduceIte]
    refine ⟨by decide, ⟨by omega, by omega⟩, ?_⟩
    have er : ∀ m : Nat, ((m : Int)).toNat = m := fun m => Int.toNat_natCast m
    rw [er]
    refine for_range (fun i env => ∃ x z u v, env = [some (.sh, .lst (ps.map pr)), some (.sh, .int (n : Int)), some (.ls .sh, .lst (tab (n * n) (cnt n ps))), some (.ls .sh, .lst (tab n (deg ps))), x, some (.ls .sh, .lst ((((List.range i).flatMap (row n)).map fun q => (cnt n ps (spot n q) : Int)).map D.int)), z, u, v]) ⟨_, _, _, _, rfl⟩ ?_ ?_
    · rintro i hi env K ⟨x, z, u, v, rfl⟩ hK
      simp only [wSeq, wSet, wRet, wRetN, wIf, wDrop, wFor, wNext, wBreak, wCont, wAppend, wSetIx, wAug, wFrz, wAsg, gN, gT, gNil', gCons', mL, mS, mLT, mMv, mIV, mRng, mRngV, mItems, mOp, mB, mC, mVar, mCons, mNil, mTup, mLst, mCB, mCall, mAnd, mOr, mNot, mAndV, mOrV, mNotV, mIf, mNeg, mSl, mNo, mPart, mPk, mChain2, mChain3, mFld, mComp, mComp2, cN, cT, cNil, cCons, mEnum, mYes, oAdd, oSub, oMul, oDiv, oMod, oPow, oB, oI, oEq, oIs, oIn, oIx, oMulI, oAddI, oSl, oRng1, oRng2, okL, okT, okS, fLen, fAbs, fInt, fMin, fMax, fSum, fSorted, fList, fTuple, fIsi, tyOf, Ty.isi, ty_int, ty_bool, ty_str, ty_list, ty_tuple, ty_dict, isNon, eqOk_int, eqOk_non, eqOk_bl, eqD_int, eqD_bl, eqD_str, eqD_non, beq_self_eq_true, beq_iff_eq, Bool.and_self, atI_0, atI_1, atI_2, atI_3, atI_4, atI_5, atI_6, vw, vs, lendS, ownS, wipeE, ZL.frz, lendS, hasOb, env0, List.replicate_zero, List.replicate_succ, List.cons_append, Nat.reduceSub, List.map_cons, List.map_nil, List.getElem?_cons_zero, List.getElem?_cons_succ, List.getElem?_nil, List.set_cons_zero, List.set_cons_succ, List.length_cons, List.length_nil, List.length_set, Nat.reduceAdd, Nat.reduceLT, Nat.lt_add_one, Nat.zero_lt_succ, List.append_nil, List.nil_append, cln, clnS, clnL, clnX, List.all_cons, List.all_nil, Bool.and_true, Bool.true_and, and_true, true_and, if_true, if_false, Bool.false_eq_true, decide_eq_true_eq, Bool.true_or, Bool.or_true, Bool.false_or, Bool.or_false, decide_true, decide_false, Bool.and_false, Bool.false_and, reduceCtorEq, Int.reduceBEq, nc_0, nc_1, nc_2, nc_3, nc_4, nc_5, nc_6, Bool.not_true, Bool.not_false, reduceIte, Int.zero_add]
      refine ⟨by omega, ?_⟩
      rw [show ((n : Int) - ((i : Int) + 1)).toNat = n - (i + 1) by omega]
      have hrl : ((List.range i).flatMap (row n)).length ≤ 100 * 100 := by
        have := flat_le (row n) n (List.range i) fun x _ => by rw [row_length]; omega
        rw [List.length_range] at this
        exact Nat.le_trans this (Nat.mul_le_mul (by omega) hn)
      refine for_range (fun j env => ∃ x v, env = [some (.sh, .lst (ps.map pr)), some (.sh, .int (n : Int)), some (.ls .sh, .lst (tab (n * n) (cnt n ps))), some (.ls .sh, .lst (tab n (deg ps))), x, some (.ls .sh, .lst ((((List.range i).flatMap (row n) ++ (List.range j).map fun j => (i, i + 1 + j)).map fun q => (cnt n ps (spot n q) : Int)).map D.int)), some (.sh, .int (i : Int)), u, v]) ⟨x, v, by simp⟩ ?_ ?_
      · rintro j hj env K' ⟨x, v, rfl⟩ hK'
        have hpm : (i, i + 1 + j).1 < (i, i + 1 + j).2 ∧ (i, i + 1 + j).2 < n := by
          constructor
          · show i < i + 1 + j
            omega
          · show i + 1 + j < n
            omega
        have hs := spot_lt hpm
        have e1 : (i : Int) * (n : Int) + ((i : Int) + 1 + (j : Int)) = ((spot n (i, i + 1 + j) : Nat) : Int) := by unfold spot; push_cast; rfl
        simp only [wSeq, wSet, wRet, wRetN, wIf, wDrop, wFor, wNext, wBreak, wCont, wAppend, wSetIx, wAug, wFrz, wAsg, gN, gT, gNil', gCons', mL, mS, mLT, mMv, mIV, mRng, mRngV, mItems, mOp, mB, mC, mVar, mCons, mNil, mTup, mLst, mCB, mCall, mAnd, mOr, mNot, mAndV, mOrV, mNotV, mIf, mNeg, mSl, mNo, mPart, mPk, mChain2, mChain3, mFld, mComp, mComp2, cN, cT, cNil, cCons, mEnum, mYes, oAdd, oSub, oMul, oDiv, oMod, oPow, oB, oI, oEq, oIs, oIn, oIx, oMulI, oAddI, oSl, oRng1, oRng2, okL, okT, okS, fLen, fAbs, fInt, fMin, fMax, fSum, fSorted, fList, fTuple, fIsi, tyOf, Ty.isi, ty_int, ty_bool, ty_str, ty_list, ty_tuple, ty_dict, isNon, eqOk_int, eqOk_non, eqOk_bl, eqD_int, eqD_bl, eqD_str, eqD_non, beq_self_eq_true, beq_iff_eq, Bool.and_self, atI_0, atI_1, atI_2, atI_3, atI_4, atI_5, atI_6, vw, vs, lendS, ownS, wipeE, ZL.frz, lendS, hasOb, env0, List.replicate_zero, List.replicate_succ, List.cons_append, Nat.reduceSub, List.map_cons, List.map_nil, List.getElem?_cons_zero, List.getElem?_cons_succ, List.getElem?_nil, List.set_cons_zero, List.set_cons_succ, List.length_cons, List.length_nil, List.length_set, Nat.reduceAdd, Nat.reduceLT, Nat.lt_add_one, Nat.zero_lt_succ, List.append_nil, List.nil_append, cln, clnS, clnL, clnX, List.all_cons, List.all_nil, Bool.and_true, Bool.true_and, and_true, true_and, if_true, if_false, Bool.false_eq_true, decide_eq_true_eq, Bool.true_or, Bool.or_true, Bool.false_or, Bool.or_false, decide_true, decide_false, Bool.and_false, Bool.false_and, reduceCtorEq, Int.reduceBEq, nc_0, nc_1, nc_2, nc_3, nc_4, nc_5, nc_6, Bool.not_true, Bool.not_false, reduceIte, cMul, e1, atI_of (tab_get hs), List.length_map, List.length_append, List.length_range]
        refine ⟨⟨fit_of (by omega) (by omega), fit_of (by omega) (by omega)⟩, by omega, hK' _ ⟨x, some (.sh, .int ((i : Int) + 1 + (j : Int))), ?_⟩⟩
        rw [List.range_succ]
        simp
      · rintro env ⟨x, v, rfl⟩
        refine hK _ ⟨x, some (.sh, .int (i : Int)), u, v, ?_⟩
        rw [List.range_succ, List.flatMap_append]
        simp [row]
    · rintro env ⟨x, z, u, v, rfl⟩
      simp only [wSeq, wSet, wRet, wRetN, wIf, wDrop, wFor, wNext, wBreak, wCont, wAppend, wSetIx, wAug, wFrz, wAsg, gN, gT, gNil', gCons', mL, mS, mLT, mMv, mIV, mRng, mRngV, mItems, mOp, mB, mC, mVar, mCons, mNil, mTup, mLst, mCB, mCall, mAnd, mOr, mNot, mAndV, mOrV, mNotV, mIf, mNeg, mSl, mNo, mPart, mPk, mChain2, mChain3, mFld, mComp, mComp2, cN, cT, cNil, cCons, mEnum, mYes, oAdd, oSub, oMul, oDiv, oMod, oPow, oB, oI, oEq, oIs, oIn, oIx, oMulI, oAddI, oSl, oRng1, oRng2, okL, okT, okS, fLen, fAbs, fInt, fMin, fMax, fSum, fSorted, fList, fTuple, fIsi, tyOf, Ty.isi, ty_int, ty_bool, ty_str, ty_list, ty_tuple, ty_dict, isNon, eqOk_int, eqOk_non, eqOk_bl, eqD_int, eqD_bl, eqD_str, eqD_non, beq_self_eq_true, beq_iff_eq, Bool.and_self, atI_0, atI_1, atI_2, atI_3, atI_4, atI_5, atI_6, vw, vs, lendS, ownS, wipeE, ZL.frz, lendS, hasOb, env0, List.replicate_zero, List.replicate_succ, List.cons_append, Nat.reduceSub, List.map_cons, List.map_nil, List.getElem?_cons_zero, List.getElem?_cons_succ, List.getElem?_nil, List.set_cons_zero, List.set_cons_succ, List.length_cons, List.length_nil, List.length_set, Nat.reduceAdd, Nat.reduceLT, Nat.lt_add_one, Nat.zero_lt_succ, List.append_nil, List.nil_append, cln, clnS, clnL, clnX, List.all_cons, List.all_nil, Bool.and_true, Bool.true_and, and_true, true_and, if_true, if_false, Bool.false_eq_true, decide_eq_true_eq, Bool.true_or, Bool.or_true, Bool.false_or, Bool.or_false, decide_true, decide_false, Bool.and_false, Bool.false_and, reduceCtorEq, Int.reduceBEq, nc_0, nc_1, nc_2, nc_3, nc_4, nc_5, nc_6, Bool.not_true, Bool.not_false, reduceIte]
      refine ⟨by decide, ?_⟩
      have e2 : tab n (deg ps) = (degs n ps).map D.int := by
        unfold tab degs
        rw [List.map_map]
        rfl
      rw [e2]
      exact q
theorem u__law_is_even : ∀ ds Q E, sp__law_is_even ds Q E → w__law_is_even (env0 N__law_is_even ds) (ends0 Q E) := by
  intro ds Q E h
  obtain ⟨n, ps, cap, rfl, h2, hn, ⟨hok, hw, hd, hc⟩, q⟩ := h
  have hpos := apairs_pos h2
  simp only [w__law_is_even, N__law_is_even, wSeq, wSet, wRet, wRetN, wIf, wDrop, wFor, wNext, wBreak, wCont, wAppend, wSetIx, wAug, wFrz, wAsg, gN, gT, gNil', gCons', mL, mS, mLT, mMv, mIV, mRng, mRngV, mItems, mOp, mB, mC, mVar, mCons, mNil, mTup, mLst, mCB, mCall, mAnd, mOr, mNot, mAndV, mOrV, mNotV, mIf, mNeg, mSl, mNo, mPart, mPk, mChain2, mChain3, mFld, mComp, mComp2, cN, cT, cNil, cCons, mEnum, mYes, oAdd, oSub, oMul, oDiv, oMod, oPow, oB, oI, oEq, oIs, oIn, oIx, oMulI, oAddI, oSl, oRng1, oRng2, okL, okT, okS, fLen, fAbs, fInt, fMin, fMax, fSum, fSorted, fList, fTuple, fIsi, tyOf, Ty.isi, ty_int, ty_bool, ty_str, ty_list, ty_tuple, ty_dict, isNon, eqOk_int, eqOk_non, eqOk_bl, eqD_int, eqD_bl, eqD_str, eqD_non, beq_self_eq_true, beq_iff_eq, Bool.and_self, atI_0, atI_1, atI_2, atI_3, atI_4, atI_5, atI_6, vw, vs, lendS, ownS, wipeE, ZL.frz, lendS, hasOb, env0, List.replicate_zero, List.replicate_succ, List.cons_append, Nat.reduceSub, List.map_cons, List.map_nil, List.getElem?_cons_zero, List.getElem?_cons_succ, List.getElem?_nil, List.set_cons_zero, List.set_cons_succ, List.length_cons, List.length_nil, List.length_set, Nat.reduceAdd, Nat.reduceLT, Nat.lt_add_one, Nat.zero_lt_succ, List.append_nil, List.nil_append, cln, clnS, clnL, clnX, List.all_cons, List.all_nil, Bool.and_true, Bool.true_and, and_true, true_and, if_true, if_false, Bool.false_eq_true, decide_eq_true_eq, Bool.true_or, Bool.or_true, Bool.false_or, Bool.or_false, decide_true, decide_false, Bool.and_false, Bool.false_and, reduceCtorEq, Int.reduceBEq, nc_0, nc_1, nc_2, nc_3, nc_4, nc_5, nc_6, Bool.not_true, Bool.not_false, reduceIte, List.length_map, sp__law_occurrences]
  refine ⟨n, ps, rfl, by omega, hok, ?_⟩
  simp only [wForL, wSeq, wSet, wRet, wRetN, wIf, wDrop, wFor, wNext, wBreak, wCont, wAppend, wSetIx, wAug, wFrz, wAsg, gN, gT, gNil', gCons', mL, mS, mLT, mMv, mIV, mRng, mRngV, mItems, mOp, mB, mC, mVar, mCons, mNil, mTup, mLst, mCB, mCall, mAnd, mOr, mNot, mAndV, mOrV, mNotV, mIf, mNeg, mSl, mNo, mPart, mPk, mChain2, mChain3, mFld, mComp, mComp2, cN, cT, cNil, cCons, mEnum, mYes, oAdd, oSub, oMul, oDiv, oMod, oPow, oB, oI, oEq, oIs, oIn, oIx, oMulI, oAddI, oSl, oRng1, oRng2, okL, okT, okS, fLen, fAbs, fInt, fMin, fMax, fSum, fSorted, fList, fTuple, fIsi, tyOf, Ty.isi, ty_int, ty_bool, ty_str, ty_list, ty_tuple, ty_dict, isNon, eqOk_int, eqOk_non, eqOk_bl, eqD_int, eqD_bl, eqD_str, eqD_non, beq_self_eq_true, beq_iff_eq, Bool.and_self, atI_0, atI_1, atI_2, atI_3, atI_4, atI_5, atI_6, vw, vs, lendS, ownS, wipeE, ZL.frz, lendS, hasOb, env0, List.replicate_zero, List.replicate_succ, List.cons_append, Nat.reduceSub, List.map_cons, List.map_nil, List.getElem?_cons_zero, List.getElem?_cons_succ, List.getElem?_nil, List.set_cons_zero, List.set_cons_succ, List.length_cons, List.length_nil, List.length_set, Nat.reduceAdd, Nat.reduceLT, Nat.lt_add_one, Nat.zero_lt_succ, List.append_nil, List.nil_append, cln, clnS, clnL, clnX, List.all_cons, List.all_nil, Bool.and_true, Bool.true_and, and_true, true_and, if_true, if_false, Bool.false_eq_true, decide_eq_true_eq, Bool.true_or, Bool.or_true, Bool.false_or, Bool.or_false, decide_true, decide_false, Bool.and_false, Bool.false_and, reduceCtorEq, Int.reduceBEq, nc_0, nc_1, nc_2, nc_3, nc_4, nc_5, nc_6, Bool.not_true, Bool.not_false, reduceIte]
  have lw : 0 < (worn n ps).length := by unfold worn; rw [List.length_map]; exact hpos
  have ld : 0 < (degs n ps).length := by unfold degs; rw [List.length_map, List.length_range]; omega
  refine ⟨_, rfl, lw, fun m hm _ => ⟨_, rfl, lw, fun m' hm' _ => ifI (fun z => ?_) fun _ => ⟨_, rfl, ld, fun m2 hm2 _ => ⟨_, rfl, ld, fun m3 hm3 _ => ifI (fun z => ?_) fun _ => ⟨_, rfl, lw, fun m4 hm4 _ => ?_⟩⟩⟩⟩⟩
  · have := hw m hm m' hm'
    omega
  · have := hd m2 hm2 m3 hm3
    omega
  · rw [decide_eq_true (hc m4 hm4)]
    exact q
/-! the mathematics -/
theorem chkA_of {n : Nat} (h2 : 2 ≤ n) (hn : n ≤ 12) : chkA n = true := by
  have := List.all_eq_true.1 chkA_all (n - 2) (List.mem_range.2 (by omega))
  rwa [show n - 2 + 2 = n by omega] at this
theorem chk_of {n r : Nat} (h2 : 2 ≤ n) (hn : n ≤ 12) (hr : r < n * (n - 1) / 2) : chk n r = true := by
  have := List.all_eq_true.1 chk_all (n - 2) (List.mem_range.2 (by omega))
  rw [show n - 2 + 2 = n by omega, show n - 2 + 1 = n - 1 by omega] at this
  exact List.all_eq_true.1 this r (List.mem_range.2 hr)
theorem spot_inj {n : Nat} {p q : Nat × Nat} (hp : p.2 < n) (hq : q.2 < n) (h : spot n p = spot n q) : p = q := by
  unfold spot at h
  have h1 : p.1 = q.1 := by
    have a : (p.1 * n + p.2) / n = p.1 := by rw [Nat.mul_comm, Nat.mul_add_div (by omega)]; rw [Nat.div_eq_of_lt hp]; rfl
    have b : (q.1 * n + q.2) / n = q.1 := by rw [Nat.mul_comm, Nat.mul_add_div (by omega)]; rw [Nat.div_eq_of_lt hq]; rfl
    rw [← a, ← b, h]
  have h2 : p.2 = q.2 := by rw [h1] at h; omega
  exact Prod.ext h1 h2
theorem cnt_app (n : Nat) (a b : List (Nat × Nat)) (k : Nat) : cnt n (a ++ b) k = cnt n a k + cnt n b k := by
  unfold cnt
  rw [List.map_append, List.count_append]
theorem deg_app (a b : List (Nat × Nat)) (k : Nat) : deg (a ++ b) k = deg a k + deg b k := by
  unfold deg
  rw [List.map_append, List.count_append, List.map_append, List.count_append]
  omega
theorem cnt_rep (n m : Nat) (a : List (Nat × Nat)) (k : Nat) : cnt n ((List.replicate m a).flatten) k = m * cnt n a k := by
  induction m with
  | zero => simp [cnt]
  | succ m ih => rw [List.replicate_succ, List.flatten_cons, cnt_app, ih, Nat.succ_mul]; omega
theorem deg_rep (m : Nat) (a : List (Nat × Nat)) (k : Nat) : deg ((List.replicate m a).flatten) k = m * deg a k := by
  induction m with
  | zero => simp [deg]
  | succ m ih => rw [List.replicate_succ, List.flatten_cons, deg_app, ih, Nat.succ_mul]; omega
theorem even_all {n p : Nat} (h2 : 2 ≤ n) (hn : n ≤ 12) (hp : p ≤ 200) : (evenP n p).length = p ∧ Even n (evenP n p) (capP n p : Nat) ∧ p ≤ capP n p * (n * (n - 1) / 2) ∧ (capP n p = 0 ∨ (capP n p - 1) * (n * (n - 1) / 2) < p) ∧ capP n p ≤ 200 := by
  have hpos := apairs_pos h2
  have hA := chkA_of h2 hn
  unfold chkA at hA
  simp only [Bool.and_eq_true, beq_iff_eq, List.all_eq_true, decide_eq_true_eq, List.mem_range] at hA
  obtain ⟨⟨lA, pA⟩, dA⟩ := hA
  unfold evenP capP
  rw [lA] at hpos ⊢
  generalize hC : n * (n - 1) / 2 = C at *
  have hr : p % C < C := Nat.mod_lt _ hpos
  have hR := chk_of h2 hn (by rw [hC]; exact hr)
  unfold chk at hR
  simp only [Bool.and_eq_true, beq_iff_eq, List.all_eq_true, decide_eq_true_eq, List.mem_range, Nat.ble_eq] at hR
  obtain ⟨⟨lR, pR⟩, dR⟩ := hR
  have hdm : C * (p / C) + p % C = p := Nat.div_add_mod p C
  have okA : Okp n (apairs n) := fun q hq => (pA q hq).1
  have okR : Okp n (restP n (p % C)) := fun q hq => (pR q hq).1
  have cR : ∀ q : Nat × Nat, q.2 < n → cnt n (restP n (p % C)) (spot n q) ≤ 1 := fun q hq => by
    by_cases hm : spot n q ∈ (restP n (p % C)).map (spot n)
    · obtain ⟨x, hx, e⟩ := List.mem_map.1 hm
      unfold cnt
      rw [← e]
      exact (pR x hx).2
    · unfold cnt
      rw [List.count_eq_zero_of_not_mem hm]
      exact Nat.zero_le _
  have cR0 : p % C = 0 → ∀ k, cnt n (restP n (p % C)) k = 0 := fun h0 k => by
    have : restP n (p % C) = [] := List.eq_nil_of_length_eq_zero (by rw [lR, h0])
    rw [this]
    simp [cnt]
  have cA : ∀ q ∈ apairs n, cnt n (apairs n) (spot n q) = 1 := fun q hq => (pA q hq).2
  have cap : (p + C - 1) / C = p / C + (if p % C = 0 then 0 else 1) := by
    split
    · rename_i h0
      have : p + C - 1 = C * (p / C) + (C - 1) := by omega
      rw [this, Nat.mul_add_div hpos, Nat.div_eq_of_lt (show C - 1 < C by omega)]
    · rename_i h0
      have : p + C - 1 = C * (p / C + 1) + (p % C - 1) := by rw [Nat.mul_add, Nat.mul_one]; omega
      rw [this, Nat.mul_add_div hpos, Nat.div_eq_of_lt (show p % C - 1 < C by omega)]
  have cE : ∀ q ∈ apairs n, p / C ≤ cnt n ((List.replicate (p / C) (apairs n)).flatten ++ restP n (p % C)) (spot n q) ∧ cnt n ((List.replicate (p / C) (apairs n)).flatten ++ restP n (p % C)) (spot n q) ≤ p / C + (if p % C = 0 then 0 else 1) := fun q hq => by
    rw [cnt_app, cnt_rep, cA q hq, Nat.mul_one]
    have := cR q (okA q hq).2
    split
    · rename_i h0
      have := cR0 h0 (spot n q)
      omega
    · omega
  refine ⟨?_, ⟨?_, ?_, ?_, ?_⟩, ?_, ?_, ?_⟩
  · rw [List.length_append, rep_length, lA, lR, Nat.mul_comm]
    exact hdm
  · intro q hq
    rcases List.mem_append.1 hq with hq | hq
    · obtain ⟨l, hl, hq⟩ := List.mem_flatten.1 hq
      rw [List.eq_of_mem_replicate hl] at hq
      exact okA q hq
    · exact okR q hq
  · intro x hx y hy
    obtain ⟨a, ha, rfl⟩ := List.mem_map.1 hx
    obtain ⟨b, hb, rfl⟩ := List.mem_map.1 hy
    have h1 := cE a ha
    have h2 := cE b hb
    split at h1 <;> split at h2 <;> omega
  · intro x hx y hy
    obtain ⟨a, ha, rfl⟩ := List.mem_map.1 hx
    obtain ⟨b, hb, rfl⟩ := List.mem_map.1 hy
    rw [List.mem_range] at ha hb
    rw [deg_app, deg_app, deg_rep, deg_rep, dA a ha, dA b hb]
    have h1 := dR a ha
    have h2 := dR b hb
    omega
  · intro x hx
    obtain ⟨a, ha, rfl⟩ := List.mem_map.1 hx
    have h1 := cE a ha
    rw [cap]
    exact_mod_cast h1.2
  · rw [cap]
    split
    · rename_i h0
      rw [Nat.add_zero, Nat.mul_comm]; omega
    · rw [Nat.add_mul, Nat.one_mul, Nat.mul_comm]; omega
  · rw [cap]
    split
    · rename_i h0
      by_cases hz : p / C = 0
      · left; omega
      · right
        rw [Nat.add_zero]
        obtain ⟨m, hm⟩ := Nat.exists_eq_succ_of_ne_zero hz
        rw [hm] at hdm ⊢
        rw [Nat.mul_succ, Nat.mul_comm] at hdm
        rw [Nat.succ_sub_one]
        omega
    · right
      rw [Nat.add_sub_cancel, Nat.mul_comm]
      omega
  · have : p / C ≤ p := Nat.div_le_self _ _
    rw [cap]
    split
    · omega
    · by_cases h1 : C = 1
      · rename_i h0
        rw [h1, Nat.mod_one] at h0
        exact absurd rfl h0
      · have : p / C ≤ p / 2 := Nat.div_le_div_left (by omega) (by decide)
        omega
theorem u_law : ∀ ds Q E, sp_law ds Q E → w_law (env0 N_law ds) (ends0 Q E) := by
  intro ds Q E h
  obtain ⟨ns, rfl, hl, q⟩ := h
  simp only [w_law, N_law, wSeq, wSet, wRet, wRetN, wIf, wDrop, wFor, wNext, wBreak, wCont, wAppend, wSetIx, wAug, wFrz, wAsg, gN, gT, gNil', gCons', mL, mS, mLT, mMv, mIV, mRng, mRngV, mItems, mOp, mB, mC, mVar, mCons, mNil, mTup, mLst, mCB, mCall, mAnd, mOr, mNot, mAndV, mOrV, mNotV, mIf, mNeg, mSl, mNo, mPart, mPk, mChain2, mChain3, mFld, mComp, mComp2, cN, cT, cNil, cCons, mEnum, mYes, oAdd, oSub, oMul, oDiv, oMod, oPow, oB, oI, oEq, oIs, oIn, oIx, oMulI, oAddI, oSl, oRng1, oRng2, okL, okT, okS, fLen, fAbs, fInt, fMin, fMax, fSum, fSorted, fList, fTuple, fIsi, tyOf, Ty.isi, ty_int, ty_bool, ty_str, ty_list, ty_tuple, ty_dict, isNon, eqOk_int, eqOk_non, eqOk_bl, eqD_int, eqD_bl, eqD_str, eqD_non, beq_self_eq_true, beq_iff_eq, Bool.and_self, atI_0, atI_1, atI_2, atI_3, atI_4, atI_5, atI_6, vw, vs, lendS, ownS, wipeE, ZL.frz, lendS, hasOb, env0, List.replicate_zero, List.replicate_succ, List.cons_append, Nat.reduceSub, List.map_cons, List.map_nil, List.getElem?_cons_zero, List.getElem?_cons_succ, List.getElem?_nil, List.set_cons_zero, List.set_cons_succ, List.length_cons, List.length_nil, List.length_set, Nat.reduceAdd, Nat.reduceLT, Nat.lt_add_one, Nat.zero_lt_succ, List.append_nil, List.nil_append, cln, clnS, clnL, clnX, List.all_cons, List.all_nil, Bool.and_true, Bool.true_and, and_true, true_and, if_true, if_false, Bool.false_eq_true, decide_eq_true_eq, Bool.true_or, Bool.or_true, Bool.false_or, Bool.or_false, decide_true, decide_false, Bool.and_false, Bool.false_and, reduceCtorEq, Int.reduceBEq, nc_0, nc_1, nc_2, nc_3, nc_4, nc_5, nc_6, Bool.not_true, Bool.not_false, reduceIte, sp__law_cell]
  refine ⟨ns, 0, rfl, by decide, fun c1 => ?_⟩
  try simp only [wSeq, wSet, wRet, wRetN, wIf, wDrop, wFor, wNext, wBreak, wCont, wAppend, wSetIx, wAug, wFrz, wAsg, gN, gT, gNil', gCons', mL, mS, mLT, mMv, mIV, mRng, mRngV, mItems, mOp, mB, mC, mVar, mCons, mNil, mTup, mLst, mCB, mCall, mAnd, mOr, mNot, mAndV, mOrV, mNotV, mIf, mNeg, mSl, mNo, mPart, mPk, mChain2, mChain3, mFld, mComp, mComp2, cN, cT, cNil, cCons, mEnum, mYes, oAdd, oSub, oMul, oDiv, oMod, oPow, oB, oI, oEq, oIs, oIn, oIx, oMulI, oAddI, oSl, oRng1, oRng2, okL, okT, okS, fLen, fAbs, fInt, fMin, fMax, fSum, fSorted, fList, fTuple, fIsi, tyOf, Ty.isi, ty_int, ty_bool, ty_str, ty_list, ty_tuple, ty_dict, isNon, eqOk_int, eqOk_non, eqOk_bl, eqD_int, eqD_bl, eqD_str, eqD_non, beq_self_eq_true, beq_iff_eq, Bool.and_self, atI_0, atI_1, atI_2, atI_3, atI_4, atI_5, atI_6, vw, vs, lendS, ownS, wipeE, ZL.frz, lendS, hasOb, env0, List.replicate_zero, List.replicate_succ, List.cons_append, Nat.reduceSub, List.map_cons, List.map_nil, List.getElem?_cons_zero, List.getElem?_cons_succ, List.getElem?_nil, List.set_cons_zero, List.set_cons_succ, List.length_cons, List.length_nil, List.length_set, Nat.reduceAdd, Nat.reduceLT, Nat.lt_add_one, Nat.zero_lt_succ, List.append_nil, List.nil_append, cln, clnS, clnL, clnX, List.all_cons, List.all_nil, Bool.and_true, Bool.true_and, and_true, true_and, if_true, if_false, Bool.false_eq_true, decide_eq_true_eq, Bool.true_or, Bool.or_true, Bool.false_or, Bool.or_false, decide_true, decide_false, Bool.and_false, Bool.false_and, reduceCtorEq, Int.reduceBEq, nc_0, nc_1, nc_2, nc_3, nc_4, nc_5, nc_6, Bool.not_true, Bool.not_false, reduceIte, sp__law_case]
  refine ⟨c1, rfl, fun n1 p1 a1 a2 a3 => ?_⟩
  try simp only [wSeq, wSet, wRet, wRetN, wIf, wDrop, wFor, wNext, wBreak, wCont, wAppend, wSetIx, wAug, wFrz, wAsg, gN, gT, gNil', gCons', mL, mS, mLT, mMv, mIV, mRng, mRngV, mItems, mOp, mB, mC, mVar, mCons, mNil, mTup, mLst, mCB, mCall, mAnd, mOr, mNot, mAndV, mOrV, mNotV, mIf, mNeg, mSl, mNo, mPart, mPk, mChain2, mChain3, mFld, mComp, mComp2, cN, cT, cNil, cCons, mEnum, mYes, oAdd, oSub, oMul, oDiv, oMod, oPow, oB, oI, oEq, oIs, oIn, oIx, oMulI, oAddI, oSl, oRng1, oRng2, okL, okT, okS, fLen, fAbs, fInt, fMin, fMax, fSum, fSorted, fList, fTuple, fIsi, tyOf, Ty.isi, ty_int, ty_bool, ty_str, ty_list, ty_tuple, ty_dict, isNon, eqOk_int, eqOk_non, eqOk_bl, eqD_int, eqD_bl, eqD_str, eqD_non, beq_self_eq_true, beq_iff_eq, Bool.and_self, atI_0, atI_1, atI_2, atI_3, atI_4, atI_5, atI_6, vw, vs, lendS, ownS, wipeE, ZL.frz, lendS, hasOb, env0, List.replicate_zero, List.replicate_succ, List.cons_append, Nat.reduceSub, List.map_cons, List.map_nil, List.getElem?_cons_zero, List.getElem?_cons_succ, List.getElem?_nil, List.set_cons_zero, List.set_cons_succ, List.length_cons, List.length_nil, List.length_set, Nat.reduceAdd, Nat.reduceLT, Nat.lt_add_one, Nat.zero_lt_succ, List.append_nil, List.nil_append, cln, clnS, clnL, clnX, List.all_cons, List.all_nil, Bool.and_true, Bool.true_and, and_true, true_and, if_true, if_false, Bool.false_eq_true, decide_eq_true_eq, Bool.true_or, Bool.or_true, Bool.false_or, Bool.or_false, decide_true, decide_false, Bool.and_false, Bool.false_and, reduceCtorEq, Int.reduceBEq, nc_0, nc_1, nc_2, nc_3, nc_4, nc_5, nc_6, Bool.not_true, Bool.not_false, reduceIte]
  refine ⟨ns, 1, rfl, by decide, fun c2 => ?_⟩
  try simp only [wSeq, wSet, wRet, wRetN, wIf, wDrop, wFor, wNext, wBreak, wCont, wAppend, wSetIx, wAug, wFrz, wAsg, gN, gT, gNil', gCons', mL, mS, mLT, mMv, mIV, mRng, mRngV, mItems, mOp, mB, mC, mVar, mCons, mNil, mTup, mLst, mCB, mCall, mAnd, mOr, mNot, mAndV, mOrV, mNotV, mIf, mNeg, mSl, mNo, mPart, mPk, mChain2, mChain3, mFld, mComp, mComp2, cN, cT, cNil, cCons, mEnum, mYes, oAdd, oSub, oMul, oDiv, oMod, oPow, oB, oI, oEq, oIs, oIn, oIx, oMulI, oAddI, oSl, oRng1, oRng2, okL, okT, okS, fLen, fAbs, fInt, fMin, fMax, fSum, fSorted, fList, fTuple, fIsi, tyOf, Ty.isi, ty_int, ty_bool, ty_str, ty_list, ty_tuple, ty_dict, isNon, eqOk_int, eqOk_non, eqOk_bl, eqD_int, eqD_bl, eqD_str, eqD_non, beq_self_eq_true, beq_iff_eq, Bool.and_self, atI_0, atI_1, atI_2, atI_3, atI_4, atI_5, atI_6, vw, vs, lendS, ownS, wipeE, ZL.frz, lendS, hasOb, env0, List.replicate_zero, List.replicate_succ, List.cons_append, Nat.reduceSub, List.map_cons, List.map_nil, List.getElem?_cons_zero, List.getElem?_cons_succ, List.getElem?_nil, List.set_cons_zero, List.set_cons_succ, List.length_cons, List.length_nil, List.length_set, Nat.reduceAdd, Nat.reduceLT, Nat.lt_add_one, Nat.zero_lt_succ, List.append_nil, List.nil_append, cln, clnS, clnL, clnX, List.all_cons, List.all_nil, Bool.and_true, Bool.true_and, and_true, true_and, if_true, if_false, Bool.false_eq_true, decide_eq_true_eq, Bool.true_or, Bool.or_true, Bool.false_or, Bool.or_false, decide_true, decide_false, Bool.and_false, Bool.false_and, reduceCtorEq, Int.reduceBEq, nc_0, nc_1, nc_2, nc_3, nc_4, nc_5, nc_6, Bool.not_true, Bool.not_false, reduceIte]
  refine ⟨c2, rfl, fun n2 p2 b1 b2 b3 => ?_⟩
  try simp only [wSeq, wSet, wRet, wRetN, wIf, wDrop, wFor, wNext, wBreak, wCont, wAppend, wSetIx, wAug, wFrz, wAsg, gN, gT, gNil', gCons', mL, mS, mLT, mMv, mIV, mRng, mRngV, mItems, mOp, mB, mC, mVar, mCons, mNil, mTup, mLst, mCB, mCall, mAnd, mOr, mNot, mAndV, mOrV, mNotV, mIf, mNeg, mSl, mNo, mPart, mPk, mChain2, mChain3, mFld, mComp, mComp2, cN, cT, cNil, cCons, mEnum, mYes, oAdd, oSub, oMul, oDiv, oMod, oPow, oB, oI, oEq, oIs, oIn, oIx, oMulI, oAddI, oSl, oRng1, oRng2, okL, okT, okS, fLen, fAbs, fInt, fMin, fMax, fSum, fSorted, fList, fTuple, fIsi, tyOf, Ty.isi, ty_int, ty_bool, ty_str, ty_list, ty_tuple, ty_dict, isNon, eqOk_int, eqOk_non, eqOk_bl, eqD_int, eqD_bl, eqD_str, eqD_non, beq_self_eq_true, beq_iff_eq, Bool.and_self, atI_0, atI_1, atI_2, atI_3, atI_4, atI_5, atI_6, vw, vs, lendS, ownS, wipeE, ZL.frz, lendS, hasOb, env0, List.replicate_zero, List.replicate_succ, List.cons_append, Nat.reduceSub, List.map_cons, List.map_nil, List.getElem?_cons_zero, List.getElem?_cons_succ, List.getElem?_nil, List.set_cons_zero, List.set_cons_succ, List.length_cons, List.length_nil, List.length_set, Nat.reduceAdd, Nat.reduceLT, Nat.lt_add_one, Nat.zero_lt_succ, List.append_nil, List.nil_append, cln, clnS, clnL, clnX, List.all_cons, List.all_nil, Bool.and_true, Bool.true_and, and_true, true_and, if_true, if_false, Bool.false_eq_true, decide_eq_true_eq, Bool.true_or, Bool.or_true, Bool.false_or, Bool.or_false, decide_true, decide_false, Bool.and_false, Bool.false_and, reduceCtorEq, Int.reduceBEq, nc_0, nc_1, nc_2, nc_3, nc_4, nc_5, nc_6, Bool.not_true, Bool.not_false, reduceIte]
  refine ⟨by decide, ?_⟩
  have key : ∀ (xs : List (Nat × Nat)) (A B : Option (Kd × D)) (Z : ZEnds), (∀ q ∈ xs, 2 ≤ q.1 ∧ q.1 ≤ 12 ∧ q.2 ≤ 200) → Z.rt = Q → (∀ x y z, Z.nx [some (.sh, .scr ns), A, B, x, y, z]) → wForL (gN 3) (wSeq (wSet 4 (mL (mCall sp_least_even_cap [] (mCons (mOp oIx (mVar 3) (mC (.int 0))) (mCons (mOp oIx (mVar 3) (mC (.int 1))) mNil)))))
    (wSeq (wIf (mLT (mNot (mB (mCall sp__law_is_least_cap [] (mCons (mVar 4) (mCons (mOp oIx (mVar 3) (mC (.int 0))) (mCons (mOp oIx (mVar 3) (mC (.int 1))) mNil))))))) (wRet (mL (mC (.bl false)))) wNext)
    (wSeq (wSet 5 (mL (mCall sp_even_pairs [] (mCons (mOp oIx (mVar 3) (mC (.int 0))) (mCons (mOp oIx (mVar 3) (mC (.int 1))) mNil)))))
    (wSeq (wIf (mLT (mNot (mB (mCall sp__law_is_even [] (mCons (mVar 5) (mCons (mOp oIx (mVar 3) (mC (.int 0))) (mCons (mOp oIx (mVar 3) (mC (.int 1))) (mCons (mVar 4) mNil)))))))) (wRet (mL (mC (.bl false)))) wNext)
    (wSeq (wAppend 5 (mL (mTup (mCons (mC (.int 0)) (mCons (mOp oIx (mVar 3) (mC (.int 0))) mNil)))))
    (wSetIx 5 (mL (mTup (mCons (mOp oIx (mVar 3) (mC (.int 0))) (mCons (mC (.int 0)) mNil)))) (mL (mC (.int 0))))))))) (xs.map pr) [some (.sh, .scr ns), A, B, none, none, none] Z := by
    intro xs A B Z hx hrt hnx
    refine for_items xs pr (fun i env => ∃ x y z, env = [some (.sh, .scr ns), A, B, x, y, z]) ⟨_, _, _, rfl⟩ ?_ (by rintro env ⟨x, y, z, rfl⟩; exact hnx x y z)
    rintro i ⟨n, p⟩ hp env K ⟨x, y, z, rfl⟩ hK
    obtain ⟨a1, a2, a3⟩ := hx _ (List.mem_of_getElem? hp)
    obtain ⟨e1, e2, e3, e4, e5⟩ := even_all a1 a2 a3
    simp only [wSeq, wSet, wRet, wRetN, wIf, wDrop, wFor, wNext, wBreak, wCont, wAppend, wSetIx, wAug, wFrz, wAsg, gN, gT, gNil', gCons', mL, mS, mLT, mMv, mIV, mRng, mRngV, mItems, mOp, mB, mC, mVar, mCons, mNil, mTup, mLst, mCB, mCall, mAnd, mOr, mNot, mAndV, mOrV, mNotV, mIf, mNeg, mSl, mNo, mPart, mPk, mChain2, mChain3, mFld, mComp, mComp2, cN, cT, cNil, cCons, mEnum, mYes, oAdd, oSub, oMul, oDiv, oMod, oPow, oB, oI, oEq, oIs, oIn, oIx, oMulI, oAddI, oSl, oRng1, oRng2, okL, okT, okS, fLen, fAbs, fInt, fMin, fMax, fSum, fSorted, fList, fTuple, fIsi, tyOf, Ty.isi, ty_int, ty_bool, ty_str, ty_list, ty_tuple, ty_dict, isNon, eqOk_int, eqOk_non, eqOk_bl, eqD_int, eqD_bl, eqD_str, eqD_non, beq_self_eq_true, beq_iff_eq, Bool.and_self, atI_0, atI_1, atI_2, atI_3, atI_4, atI_5, atI_6, vw, vs, lendS, ownS, wipeE, ZL.frz, lendS, hasOb, env0, List.replicate_zero, List.replicate_succ, List.cons_append, Nat.reduceSub, List.map_cons, List.map_nil, List.getElem?_cons_zero, List.getElem?_cons_succ, List.getElem?_nil, List.set_cons_zero, List.set_cons_succ, List.length_cons, List.length_nil, List.length_set, Nat.reduceAdd, Nat.reduceLT, Nat.lt_add_one, Nat.zero_lt_succ, List.append_nil, List.nil_append, cln, clnS, clnL, clnX, List.all_cons, List.all_nil, Bool.and_true, Bool.true_and, and_true, true_and, if_true, if_false, Bool.false_eq_true, decide_eq_true_eq, Bool.true_or, Bool.or_true, Bool.false_or, Bool.or_false, decide_true, decide_false, Bool.and_false, Bool.false_and, reduceCtorEq, Int.reduceBEq, nc_0, nc_1, nc_2, nc_3, nc_4, nc_5, nc_6, Bool.not_true, Bool.not_false, reduceIte, pr, sp_least_even_cap]
    refine ⟨n, p, rfl, a1, a2, a3, ?_⟩
    simp only [sp__law_is_least_cap]
    refine ⟨n, p, capP n p, rfl, by omega, a2, a3, e5, e3, e4, ?_⟩
    simp only [wSeq, wSet, wRet, wRetN, wIf, wDrop, wFor, wNext, wBreak, wCont, wAppend, wSetIx, wAug, wFrz, wAsg, gN, gT, gNil', gCons', mL, mS, mLT, mMv, mIV, mRng, mRngV, mItems, mOp, mB, mC, mVar, mCons, mNil, mTup, mLst, mCB, mCall, mAnd, mOr, mNot, mAndV, mOrV, mNotV, mIf, mNeg, mSl, mNo, mPart, mPk, mChain2, mChain3, mFld, mComp, mComp2, cN, cT, cNil, cCons, mEnum, mYes, oAdd, oSub, oMul, oDiv, oMod, oPow, oB, oI, oEq, oIs, oIn, oIx, oMulI, oAddI, oSl, oRng1, oRng2, okL, okT, okS, fLen, fAbs, fInt, fMin, fMax, fSum, fSorted, fList, fTuple, fIsi, tyOf, Ty.isi, ty_int, ty_bool, ty_str, ty_list, ty_tuple, ty_dict, isNon, eqOk_int, eqOk_non, eqOk_bl, eqD_int, eqD_bl, eqD_str, eqD_non, beq_self_eq_true, beq_iff_eq, Bool.and_self, atI_0, atI_1, atI_2, atI_3, atI_4, atI_5, atI_6, vw, vs, lendS, ownS, wipeE, ZL.frz, lendS, hasOb, env0, List.replicate_zero, List.replicate_succ, List.cons_append, Nat.reduceSub, List.map_cons, List.map_nil, List.getElem?_cons_zero, List.getElem?_cons_succ, List.getElem?_nil, List.set_cons_zero, List.set_cons_succ, List.length_cons, List.length_nil, List.length_set, Nat.reduceAdd, Nat.reduceLT, Nat.lt_add_one, Nat.zero_lt_succ, List.append_nil, List.nil_append, cln, clnS, clnL, clnX, List.all_cons, List.all_nil, Bool.and_true, Bool.true_and, and_true, true_and, if_true, if_false, Bool.false_eq_true, decide_eq_true_eq, Bool.true_or, Bool.or_true, Bool.false_or, Bool.or_false, decide_true, decide_false, Bool.and_false, Bool.false_and, reduceCtorEq, Int.reduceBEq, nc_0, nc_1, nc_2, nc_3, nc_4, nc_5, nc_6, Bool.not_true, Bool.not_false, reduceIte, sp_even_pairs]
    refine ⟨n, p, rfl, a1, a2, a3, all_pr _, ?_⟩
    simp only [sp__law_is_even]
    refine ⟨n, evenP n p, _, by rw [e1], a1, a2, e2, ?_⟩
    simp only [wSeq, wSet, wRet, wRetN, wIf, wDrop, wFor, wNext, wBreak, wCont, wAppend, wSetIx, wAug, wFrz, wAsg, gN, gT, gNil', gCons', mL, mS, mLT, mMv, mIV, mRng, mRngV, mItems, mOp, mB, mC, mVar, mCons, mNil, mTup, mLst, mCB, mCall, mAnd, mOr, mNot, mAndV, mOrV, mNotV, mIf, mNeg, mSl, mNo, mPart, mPk, mChain2, mChain3, mFld, mComp, mComp2, cN, cT, cNil, cCons, mEnum, mYes, oAdd, oSub, oMul, oDiv, oMod, oPow, oB, oI, oEq, oIs, oIn, oIx, oMulI, oAddI, oSl, oRng1, oRng2, okL, okT, okS, fLen, fAbs, fInt, fMin, fMax, fSum, fSorted, fList, fTuple, fIsi, tyOf, Ty.isi, ty_int, ty_bool, ty_str, ty_list, ty_tuple, ty_dict, isNon, eqOk_int, eqOk_non, eqOk_bl, eqD_int, eqD_bl, eqD_str, eqD_non, beq_self_eq_true, beq_iff_eq, Bool.and_self, atI_0, atI_1, atI_2, atI_3, atI_4, atI_5, atI_6, vw, vs, lendS, ownS, wipeE, ZL.frz, lendS, hasOb, env0, List.replicate_zero, List.replicate_succ, List.cons_append, Nat.reduceSub, List.map_cons, List.map_nil, List.getElem?_cons_zero, List.getElem?_cons_succ, List.getElem?_nil, List.set_cons_zero, List.set_cons_succ, List.length_cons, List.length_nil, List.length_set, Nat.reduceAdd, Nat.reduceLT, Nat.lt_add_one, Nat.zero_lt_succ, List.append_nil, List.nil_append, cln, clnS, clnL, clnX, List.all_cons, List.all_nil, Bool.and_true, Bool.true_and, and_true, true_and, if_true, if_false, Bool.false_eq_true, decide_eq_true_eq, Bool.true_or, Bool.or_true, Bool.false_or, Bool.or_false, decide_true, decide_false, Bool.and_false, Bool.false_and, reduceCtorEq, Int.reduceBEq, nc_0, nc_1, nc_2, nc_3, nc_4, nc_5, nc_6, Bool.not_true, Bool.not_false, reduceIte]
    have ex : ixN ((evenP n p).map pr ++ [D.tup [D.int 0, D.int (n : Int)]]).length 0 = some 0 := ixN_of (i := 0) (by simp)
    have el : ((evenP n p).map pr).length < sizeLine := by
      rw [List.length_map]
      have : 200 < sizeLine := by decide
      have e1 : (evenP n p).length = p := e1
      have a3 : p ≤ 200 := a3
      omega
    rw [ex]
    exact ⟨by decide, el, by decide, hK _ ⟨_, _, _, rfl⟩⟩
  exact key [(n1, p1), (n2, p2), (n1, p1)] _ _ _ (by intro q hq; simp only [List.mem_cons, List.not_mem_nil, or_false] at hq; rcases hq with rfl | rfl | rfl <;> exact ⟨by assumption, by assumption, by assumption⟩) rfl fun _ _ _ => q

end ZL.K26


namespace ZL.K26
open PySem PySem.Spec PyProof.Rows L2 ZL
def top (i : Nat) : Stmt := PySem.Challenge.pw_pairwarden_k26_even_pairs.main.body.getD i (.Pass ⟨0, 0, 0, 0⟩)
structure Blt (G : Glob) : Prop where
  b_abs : Free G "abs"
  b_bool : Free G "bool"
  b_int : Free G "int"
  b_isinstance : Free G "isinstance"
  b_len : Free G "len"
  b_list : Free G "list"
  b_max : Free G "max"
  b_min : Free G "min"
  b_range : Free G "range"
  b_tuple : Free G "tuple"
abbrev s_all_pairs : Stmt := top 1
theorem sc_all_pairs : FnScope N_all_pairs ["seats"] (defScope s_all_pairs) := ⟨rfl, rfl, rfl, by decide +kernel, rfl, by decide +kernel, by decide +kernel⟩
theorem b_all_pairs {G : Glob} {W : WX} (B : Blt G) (Z : Zc G N_all_pairs (defScope s_all_pairs) (fun _ => true) W 0) (T : Zst Z) : ZSs Z (defBody s_all_pairs) w_all_pairs :=
  (zss_one (zs_ret (zv_L (ze_comp2 [("low", 1), ("high", 2)] [2] (zie_range1 (B.b_range) (za_cons (ze_var 0) za_nil)) (by decide +kernel) (by decide) (zc_name 1) (zie_range2 (B.b_range) (za_cons (ze_op zo_add (ze_var 1) ze_int) (za_cons (ze_var 0) za_nil))) (zc_name 2) zts_nil (ze_tup (za_cons (ze_var 1) (za_cons (ze_var 2) za_nil)))))))
theorem f_all_pairs {G : Glob} {f : Addr} {fd : FuncData} (B : Blt G) (F : FunD G.K "all_pairs" "all_pairs" (defArgs s_all_pairs) (defBody s_all_pairs) (defScope s_all_pairs) [] [] f fd) (hm : G.mg "all_pairs" = some (.ref f)) : FnZ G 1 "all_pairs" 1 [] sp_all_pairs :=
  def_ok F sc_all_pairs hm (F.bindsN fun _ _ _ _ _ _ us hl => match us, hl with | [_], _ => rfl) .nil rfl rfl ar_all_pairs (fun W Z T => b_all_pairs B Z T) u_all_pairs
abbrev s_ring : Stmt := top 3
theorem sc_ring : FnScope N_ring ["seats", "step"] (defScope s_ring) := ⟨rfl, rfl, rfl, by decide +kernel, rfl, by decide +kernel, by decide +kernel⟩
theorem b_ring {G : Glob} {W : WX} (B : Blt G) (Z : Zc G N_ring (defScope s_ring) (fun _ => true) W 0) (T : Zst Z) : ZSs Z (defBody s_ring) w_ring :=
  (zss_one (zs_ret (zv_L (ze_comp [("seat", 2)] (zie_range1 (B.b_range) (za_cons (ze_var 0) za_nil)) (by decide +kernel) (zc_name 2) zts_nil (ze_tup (za_cons (ze_callB zf_min (B.b_min) (za_cons (ze_var 2) (za_cons (ze_op zo_mod (ze_op zo_add (ze_var 2) (ze_var 1)) (ze_var 0)) za_nil))) (za_cons (ze_callB zf_max (B.b_max) (za_cons (ze_var 2) (za_cons (ze_op zo_mod (ze_op zo_add (ze_var 2) (ze_var 1)) (ze_var 0)) za_nil))) za_nil)))))))
theorem f_ring {G : Glob} {f : Addr} {fd : FuncData} (B : Blt G) (F : FunD G.K "ring" "ring" (defArgs s_ring) (defBody s_ring) (defScope s_ring) [] [] f fd) (hm : G.mg "ring" = some (.ref f)) : FnZ G 1 "ring" 2 [] sp_ring :=
  def_ok F sc_ring hm (F.bindsN fun _ _ _ _ _ _ us hl => match us, hl with | [_, _], _ => rfl) .nil rfl rfl ar_ring (fun W Z T => b_ring B Z T) u_ring
abbrev s_rest_pairs : Stmt := top 4
theorem sc_rest_pairs : FnScope N_rest_pairs ["seats", "rest"] (defScope s_rest_pairs) := ⟨rfl, rfl, rfl, by decide +kernel, rfl, by decide +kernel, by decide +kernel⟩
theorem b_rest_pairs {G : Glob} {W : WX} (B : Blt G) (Z : Zc G N_rest_pairs (defScope s_rest_pairs) (fun _ => true) W 1) (T : Zst Z) (F_ring : FnZ G 1 "ring" 2 [] sp_ring) : ZSs Z (defBody s_rest_pairs) w_rest_pairs :=
  (zss_cons (zs_set (zv_L (ze_op zo_div (ze_var 1) (ze_var 0))))
    (zss_cons (zs_set (zv_L (ze_op zo_mod (ze_var 1) (ze_var 0))))
    (zss_cons (zs_set (zv_L (ze_op zo_div (ze_op zo_sub (ze_var 0) ze_int) ze_int)))
    (zss_cons (zs_set (zv_L (ze_lst za_nil)))
    (zss_cons (zs_if (zvt (zt_cmp zo_eq (ze_var 2) (ze_var 4))) (zss_cons (zs_for T (ziv_range2 (B.b_range) (za_cons ze_int (za_cons (ze_op zo_add (ze_var 4) ze_int) za_nil))) (zg_name 6) (zss_one (zs_set (zv_L (ze_op zo_add (ze_var 5) (ze_call F_ring (by decide) (za_cons (ze_var 0) (za_cons (ze_var 6) za_nil))))))))
    (zss_one (zs_ret (zv_L (ze_op zo_add (ze_var 5) (ze_comp [("seat", 8)] (zie_range1 (B.b_range) (za_cons (ze_var 3) za_nil)) (by decide +kernel) (zc_name 8) zts_nil (ze_tup (za_cons (ze_var 8) (za_cons (ze_op zo_add (ze_var 8) (ze_op zo_div (ze_var 0) ze_int)) za_nil))))))))) zss_nil)
    (zss_cons (zs_for T (ziv_range2 (B.b_range) (za_cons ze_int (za_cons (ze_op zo_add (ze_var 2) ze_int) za_nil))) (zg_name 6) (zss_one (zs_set (zv_L (ze_op zo_add (ze_var 5) (ze_call F_ring (by decide) (za_cons (ze_var 0) (za_cons (ze_var 6) za_nil))))))))
    (zss_cons (zs_set (zv_L (ze_call F_ring (by decide) (za_cons (ze_var 0) (za_cons ze_int za_nil)))))
    (zss_one (zs_ret (zv_L (ze_op zo_add (ze_var 5) (ze_slice (ze_op zo_add (ze_pk (ze_var 7) zo_none zo_none (zo_some ze_int)) (ze_pk (ze_var 7) (zo_some ze_int) zo_none (zo_some ze_int))) zo_none (zo_some (ze_var 3))))))))))))))
theorem f_rest_pairs {G : Glob} {f : Addr} {fd : FuncData} (B : Blt G) (F : FunD G.K "rest_pairs" "rest_pairs" (defArgs s_rest_pairs) (defBody s_rest_pairs) (defScope s_rest_pairs) [] [] f fd) (hm : G.mg "rest_pairs" = some (.ref f)) (F_ring : FnZ G 1 "ring" 2 [] sp_ring) : FnZ G 2 "rest_pairs" 2 [] sp_rest_pairs :=
  def_ok F sc_rest_pairs hm (F.bindsN fun _ _ _ _ _ _ us hl => match us, hl with | [_, _], _ => rfl) .nil rfl rfl ar_rest_pairs (fun W Z T => b_rest_pairs B Z T F_ring) u_rest_pairs
abbrev s_even_pairs : Stmt := top 5
theorem sc_even_pairs : FnScope N_even_pairs ["seats", "pieces"] (defScope s_even_pairs) := ⟨rfl, rfl, rfl, by decide +kernel, rfl, by decide +kernel, by decide +kernel⟩
theorem b_even_pairs {G : Glob} {W : WX} (B : Blt G) (Z : Zc G N_even_pairs (defScope s_even_pairs) (fun _ => true) W 2) (T : Zst Z) (F_all_pairs : FnZ G 1 "all_pairs" 1 [] sp_all_pairs) (F_rest_pairs : FnZ G 2 "rest_pairs" 2 [] sp_rest_pairs) : ZSs Z (defBody s_even_pairs) w_even_pairs :=
  (zss_cons (zs_set (zv_L (ze_call F_all_pairs (by decide) (za_cons (ze_var 0) za_nil))))
    (zss_one (zs_ret (zv_L (ze_op zo_add (ze_op zo_mul (ze_var 2) (ze_op zo_div (ze_var 1) (ze_callB zf_len (B.b_len) (za_cons (ze_var 2) za_nil)))) (ze_call F_rest_pairs (by decide) (za_cons (ze_var 0) (za_cons (ze_op zo_mod (ze_var 1) (ze_callB zf_len (B.b_len) (za_cons (ze_var 2) za_nil))) za_nil))))))))
theorem f_even_pairs {G : Glob} {f : Addr} {fd : FuncData} (B : Blt G) (F : FunD G.K "even_pairs" "even_pairs" (defArgs s_even_pairs) (defBody s_even_pairs) (defScope s_even_pairs) [] [] f fd) (hm : G.mg "even_pairs" = some (.ref f)) (F_all_pairs : FnZ G 1 "all_pairs" 1 [] sp_all_pairs) (F_rest_pairs : FnZ G 2 "rest_pairs" 2 [] sp_rest_pairs) : FnZ G 3 "even_pairs" 2 [] sp_even_pairs :=
  def_ok F sc_even_pairs hm (F.bindsN fun _ _ _ _ _ _ us hl => match us, hl with | [_, _], _ => rfl) .nil rfl rfl ar_even_pairs (fun W Z T => b_even_pairs B Z T F_all_pairs F_rest_pairs) u_even_pairs
abbrev s_least_even_cap : Stmt := top 6
theorem sc_least_even_cap : FnScope N_least_even_cap ["seats", "pieces"] (defScope s_least_even_cap) := ⟨rfl, rfl, rfl, by decide +kernel, rfl, by decide +kernel, by decide +kernel⟩
theorem b_least_even_cap {G : Glob} {W : WX} (B : Blt G) (Z : Zc G N_least_even_cap (defScope s_least_even_cap) (fun _ => true) W 1) (T : Zst Z) (F_all_pairs : FnZ G 1 "all_pairs" 1 [] sp_all_pairs) : ZSs Z (defBody s_least_even_cap) w_least_even_cap :=
  (zss_cons (zs_set (zv_L (ze_callB zf_len (B.b_len) (za_cons (ze_call F_all_pairs (by decide) (za_cons (ze_var 0) za_nil)) za_nil))))
    (zss_one (zs_ret (zv_L (ze_op zo_div (ze_op zo_sub (ze_op zo_add (ze_var 1) (ze_var 2)) ze_int) (ze_var 2))))))
theorem f_least_even_cap {G : Glob} {f : Addr} {fd : FuncData} (B : Blt G) (F : FunD G.K "least_even_cap" "least_even_cap" (defArgs s_least_even_cap) (defBody s_least_even_cap) (defScope s_least_even_cap) [] [] f fd) (hm : G.mg "least_even_cap" = some (.ref f)) (F_all_pairs : FnZ G 1 "all_pairs" 1 [] sp_all_pairs) : FnZ G 2 "least_even_cap" 2 [] sp_least_even_cap :=
  def_ok F sc_least_even_cap hm (F.bindsN fun _ _ _ _ _ _ us hl => match us, hl with | [_, _], _ => rfl) .nil rfl rfl ar_least_even_cap (fun W Z T => b_least_even_cap B Z T F_all_pairs) u_least_even_cap
abbrev s__law_cell : Stmt := top 8
theorem sc__law_cell : FnScope N__law_cell ["_law_script", "_law_k"] (defScope s__law_cell) := ⟨rfl, rfl, rfl, by decide +kernel, rfl, by decide +kernel, by decide +kernel⟩
theorem b__law_cell {G : Glob} {W : WX} (B : Blt G) (Z : Zc G N__law_cell (defScope s__law_cell) (fun _ => true) W 0) (T : Zst Z) : ZSs Z (defBody s__law_cell) w__law_cell :=
  (zss_cons (zs_if (zvt (zt_cmp zo_lt (ze_var 1) (ze_callB zf_len (B.b_len) (za_cons (ze_var 0) za_nil)))) (zss_one (zs_ret (zv_L (ze_ix (ze_var 0) (ze_var 1))))) zss_nil)
    (zss_one (zs_ret (zv_L ze_int))))
theorem f__law_cell {G : Glob} {f : Addr} {fd : FuncData} (B : Blt G) (F : FunD G.K "_law_cell" "_law_cell" (defArgs s__law_cell) (defBody s__law_cell) (defScope s__law_cell) [] [] f fd) (hm : G.mg "_law_cell" = some (.ref f)) : FnZ G 1 "_law_cell" 2 [] sp__law_cell :=
  def_ok F sc__law_cell hm (F.bindsN fun _ _ _ _ _ _ us hl => match us, hl with | [_, _], _ => rfl) .nil rfl rfl ar__law_cell (fun W Z T => b__law_cell B Z T) u__law_cell
abbrev s__law_draws : Stmt := top 9
theorem sc__law_draws : FnScope N__law_draws ["_law_cell_here", "_law_sizes"] (defScope s__law_draws) := ⟨rfl, rfl, rfl, by decide +kernel, rfl, by decide +kernel, by decide +kernel⟩
theorem b__law_draws {G : Glob} {W : WX} (B : Blt G) (Z : Zc G N__law_draws (defScope s__law_draws) (fun _ => true) W 0) (T : Zst Z) : ZSs Z (defBody s__law_draws) w__law_draws :=
  (zss_cons (zs_set (zv_L (ze_callB zf_abs (B.b_abs) (za_cons (ze_callTy zf_int (B.b_int) (za_cons (ze_var 0) za_nil)) za_nil))))
    (zss_cons (zs_set (zv_L (ze_cmp zo_ge (ze_var 2) (ze_op zo_pow ze_int ze_int))))
    (zss_cons (zs_set (zv_L (ze_lst za_nil)))
    (zss_cons (zs_for T (ziv_range1 (B.b_range) (za_cons (ze_callB zf_len (B.b_len) (za_cons (ze_var 1) za_nil)) za_nil)) (zg_name 5) (zss_cons (zs_set (zv_L (ze_ix (ze_var 1) (ze_var 5))))
    (zss_one (zs_if (zvt (zt_w (zw_and (zt_val (ze_var 3)) (zw_and1 (zt_cmp zo_gt (ze_var 2) ze_int))))) (zss_cons (zs_append 4 (zv_L (ze_op zo_mod (ze_callTy zf_int (B.b_int) (za_cons (ze_var 2) za_nil)) (ze_var 6))))
    (zss_one (zs_set (zv_L (ze_op zo_div (ze_var 2) (ze_var 6)))))) (zss_cons (zs_set (zv_L (ze_op zo_mod (ze_callTy zf_int (B.b_int) (za_cons (ze_op zo_add (ze_op zo_add (ze_callB zf_abs (B.b_abs) (za_cons (ze_callTy zf_int (B.b_int) (za_cons (ze_var 0) za_nil)) za_nil)) (ze_op zo_mul ze_int (ze_var 5))) ze_int) za_nil)) ze_int)))
    (zss_cons (zs_set (zv_L (ze_op zo_mod (ze_callTy zf_int (B.b_int) (za_cons (ze_op zo_mul (ze_var 7) (ze_op zo_add (ze_var 7) ze_int)) za_nil)) ze_int)))
    (zss_cons (zs_set (zv_L (ze_op zo_mod (ze_callTy zf_int (B.b_int) (za_cons (ze_op zo_add (ze_op zo_mul (ze_var 7) (ze_op zo_add (ze_var 7) ze_int)) (ze_op zo_mul ze_int (ze_var 5))) za_nil)) ze_int)))
    (zss_one (zs_append 4 (zv_L (ze_op zo_mod (ze_callTy zf_int (B.b_int) (za_cons (ze_op zo_div (ze_var 7) ze_int) za_nil)) (ze_var 6))))))))))))
    (zss_one (zs_ret (zv_mv 4)))))))
theorem f__law_draws {G : Glob} {f : Addr} {fd : FuncData} (B : Blt G) (F : FunD G.K "_law_draws" "_law_draws" (defArgs s__law_draws) (defBody s__law_draws) (defScope s__law_draws) [] [] f fd) (hm : G.mg "_law_draws" = some (.ref f)) : FnZ G 1 "_law_draws" 2 [] sp__law_draws :=
  def_ok F sc__law_draws hm (F.bindsN fun _ _ _ _ _ _ us hl => match us, hl with | [_, _], _ => rfl) .nil rfl rfl ar__law_draws (fun W Z T => b__law_draws B Z T) u__law_draws
abbrev s__law_is_integer : Stmt := top 10
theorem sc__law_is_integer : FnScope N__law_is_integer ["_law_actual"] (defScope s__law_is_integer) := ⟨rfl, rfl, rfl, by decide +kernel, rfl, by decide +kernel, by decide +kernel⟩
theorem b__law_is_integer {G : Glob} {W : WX} (B : Blt G) (Z : Zc G N__law_is_integer (defScope s__law_is_integer) (fun _ => true) W 0) (T : Zst Z) : ZSs Z (defBody s__law_is_integer) w__law_is_integer :=
  (zss_one (zs_ret (zv_L (ze_and (ze_callB zf_isi (B.b_isinstance) (za_cons (ze_var 0) (za_cons (ze_ty (B.b_int)) za_nil))) (ze_one (ze_not (ze_callB zf_isi (B.b_isinstance) (za_cons (ze_var 0) (za_cons (ze_ty (B.b_bool)) za_nil)))))))))
theorem f__law_is_integer {G : Glob} {f : Addr} {fd : FuncData} (B : Blt G) (F : FunD G.K "_law_is_integer" "_law_is_integer" (defArgs s__law_is_integer) (defBody s__law_is_integer) (defScope s__law_is_integer) [] [] f fd) (hm : G.mg "_law_is_integer" = some (.ref f)) : FnZ G 1 "_law_is_integer" 1 [] sp__law_is_integer :=
  def_ok F sc__law_is_integer hm (F.bindsN fun _ _ _ _ _ _ us hl => match us, hl with | [_], _ => rfl) .nil rfl rfl ar__law_is_integer (fun W Z T => b__law_is_integer B Z T) u__law_is_integer
abbrev s__law_case : Stmt := top 11
theorem sc__law_case : FnScope N__law_case ["_law_cell_here"] (defScope s__law_case) := ⟨rfl, rfl, rfl, by decide +kernel, rfl, by decide +kernel, by decide +kernel⟩
theorem b__law_case {G : Glob} {W : WX} (B : Blt G) (Z : Zc G N__law_case (defScope s__law_case) (fun _ => true) W 1) (T : Zst Z) (F__law_draws : FnZ G 1 "_law_draws" 2 [] sp__law_draws) : ZSs Z (defBody s__law_case) w__law_case :=
  (zss_cons (zs_set (zv_L (ze_call F__law_draws (by decide) (za_cons (ze_var 0) (za_cons (ze_lst (za_cons ze_int (za_cons ze_int (za_cons ze_int (za_cons ze_int za_nil))))) za_nil)))))
    (zss_cons (zs_if (zvt (zt_cmp zo_eq (ze_ix (ze_var 1) ze_int) ze_int)) (zss_one (zs_ret (zv_L (ze_tup (za_cons (ze_op zo_add (ze_ix (ze_var 1) ze_int) ze_int) (za_cons (ze_ix (ze_var 1) ze_int) za_nil)))))) zss_nil)
    (zss_one (zs_ret (zv_L (ze_tup (za_cons (ze_op zo_add (ze_ix (ze_var 1) ze_int) ze_int) (za_cons (ze_ix (ze_var 1) ze_int) za_nil))))))))
theorem f__law_case {G : Glob} {f : Addr} {fd : FuncData} (B : Blt G) (F : FunD G.K "_law_case" "_law_case" (defArgs s__law_case) (defBody s__law_case) (defScope s__law_case) [] [] f fd) (hm : G.mg "_law_case" = some (.ref f)) (F__law_draws : FnZ G 1 "_law_draws" 2 [] sp__law_draws) : FnZ G 2 "_law_case" 1 [] sp__law_case :=
  def_ok F sc__law_case hm (F.bindsN fun _ _ _ _ _ _ us hl => match us, hl with | [_], _ => rfl) .nil rfl rfl ar__law_case (fun W Z T => b__law_case B Z T F__law_draws) u__law_case
abbrev s__law_occurrences : Stmt := top 12
theorem sc__law_occurrences : FnScope N__law_occurrences ["_law_actual", "_law_seats"] (defScope s__law_occurrences) := ⟨rfl, rfl, rfl, by decide +kernel, rfl, by decide +kernel, by decide +kernel⟩
theorem b__law_occurrences {G : Glob} {W : WX} (B : Blt G) (Z : Zc G N__law_occurrences (defScope s__law_occurrences) (fun _ => true) W 1) (T : Zst Z) (F__law_is_integer : FnZ G 1 "_law_is_integer" 1 [] sp__law_is_integer) : ZSs Z (defBody s__law_occurrences) w__law_occurrences :=
  (zss_cons (zs_set (zv_L (ze_op zo_mul (ze_lst (za_cons ze_int za_nil)) (ze_op zo_mul (ze_var 1) (ze_var 1)))))
    (zss_cons (zs_set (zv_L (ze_op zo_mul (ze_lst (za_cons ze_int za_nil)) (ze_var 1))))
    (zss_cons (zs_for T (ziv_S (zie_list (ze_var 0))) (zg_name 4) (zss_cons (zs_if (zvt (zt_w (zw_or (zt_not (zt_val (ze_callB zf_isi (B.b_isinstance) (za_cons (ze_var 4) (za_cons (ze_ty (B.b_tuple)) za_nil))))) (zw_or1 (zt_cmp zo_ne (ze_callB zf_len (B.b_len) (za_cons (ze_var 4) za_nil)) ze_int))))) (zss_one (zs_ret (zv_L ze_non))) zss_nil)
    (zss_cons (zs_if (zvt (zt_w (zw_or (zt_not (zt_val (ze_call F__law_is_integer (by decide) (za_cons (ze_ix (ze_var 4) ze_int) za_nil)))) (zw_or1 (zt_not (zt_val (ze_call F__law_is_integer (by decide) (za_cons (ze_ix (ze_var 4) ze_int) za_nil)))))))) (zss_one (zs_ret (zv_L ze_non))) zss_nil)
    (zss_cons (zs_if (zvt (zt_not (zt_chain3 zo_le zo_lt zo_lt ze_int (ze_ix (ze_var 4) ze_int) (ze_ix (ze_var 4) ze_int) (ze_var 1)))) (zss_one (zs_ret (zv_L ze_non))) zss_nil)
    (zss_cons (zs_set (zv_L (ze_op zo_add (ze_op zo_mul (ze_ix (ze_var 4) ze_int) (ze_var 1)) (ze_ix (ze_var 4) ze_int))))
    (zss_cons (zs_setix 2 (zv_L (ze_op zo_add (ze_ix (ze_var 2) (ze_var 7)) ze_int)) (zv_L (ze_var 7)))
    (zss_cons (zs_setix 3 (zv_L (ze_op zo_add (ze_ix (ze_var 3) (ze_ix (ze_var 4) ze_int)) ze_int)) (zv_L (ze_ix (ze_var 4) ze_int)))
    (zss_one (zs_setix 3 (zv_L (ze_op zo_add (ze_ix (ze_var 3) (ze_ix (ze_var 4) ze_int)) ze_int)) (zv_L (ze_ix (ze_var 4) ze_int)))))))))))
    (zss_cons (zs_set (zv_L (ze_lst za_nil)))
    (zss_cons (zs_for T (ziv_range1 (B.b_range) (za_cons (ze_var 1) za_nil)) (zg_name 6) (zss_one (zs_for T (ziv_range2 (B.b_range) (za_cons (ze_op zo_add (ze_var 6) ze_int) (za_cons (ze_var 1) za_nil))) (zg_name 8) (zss_one (zs_append 5 (zv_L (ze_ix (ze_var 2) (ze_op zo_add (ze_op zo_mul (ze_var 6) (ze_var 1)) (ze_var 8)))))))))
    (zss_one (zs_frz 5 (zs_frz 3 (zs_ret (zv_S (ze_tup (za_cons (ze_var 5) (za_cons (ze_var 3) za_nil)))))))))))))
theorem f__law_occurrences {G : Glob} {f : Addr} {fd : FuncData} (B : Blt G) (F : FunD G.K "_law_occurrences" "_law_occurrences" (defArgs s__law_occurrences) (defBody s__law_occurrences) (defScope s__law_occurrences) [] [] f fd) (hm : G.mg "_law_occurrences" = some (.ref f)) (F__law_is_integer : FnZ G 1 "_law_is_integer" 1 [] sp__law_is_integer) : FnZ G 2 "_law_occurrences" 2 [] sp__law_occurrences :=
  def_ok F sc__law_occurrences hm (F.bindsN fun _ _ _ _ _ _ us hl => match us, hl with | [_, _], _ => rfl) .nil rfl rfl ar__law_occurrences (fun W Z T => b__law_occurrences B Z T F__law_is_integer) u__law_occurrences
abbrev s__law_is_even : Stmt := top 13
theorem sc__law_is_even : FnScope N__law_is_even ["_law_actual", "_law_seats", "_law_count", "_law_cap"] (defScope s__law_is_even) := ⟨rfl, rfl, rfl, by decide +kernel, rfl, by decide +kernel, by decide +kernel⟩
theorem b__law_is_even {G : Glob} {W : WX} (B : Blt G) (Z : Zc G N__law_is_even (defScope s__law_is_even) (fun _ => true) W 2) (T : Zst Z) (F__law_occurrences : FnZ G 2 "_law_occurrences" 2 [] sp__law_occurrences) : ZSs Z (defBody s__law_is_even) w__law_is_even :=
  (zss_cons (zs_if (zvt (zt_w (zw_or (zt_not (zt_val (ze_callB zf_isi (B.b_isinstance) (za_cons (ze_var 0) (za_cons (ze_ty (B.b_list)) za_nil))))) (zw_or1 (zt_cmp zo_ne (ze_callB zf_len (B.b_len) (za_cons (ze_var 0) za_nil)) (ze_var 2)))))) (zss_one (zs_ret (zv_L ze_bl))) zss_nil)
    (zss_cons (zs_set (zv_S (ze_call F__law_occurrences (by decide) (za_cons (ze_var 0) (za_cons (ze_var 1) za_nil)))))
    (zss_cons (zs_if (zvt (zt_cmp zo_is (ze_var 4) ze_non)) (zss_one (zs_ret (zv_L ze_bl))) zss_nil)
    (zss_cons (zs_for T (ziv_S (zie_tup (ze_var 4))) (zg_name 5) (zss_one (zs_if (zvt (zt_cmp zo_gt (ze_op zo_sub (ze_callB zf_max (B.b_max) (za_cons (ze_var 5) za_nil)) (ze_callB zf_min (B.b_min) (za_cons (ze_var 5) za_nil))) ze_int)) (zss_one (zs_ret (zv_L ze_bl))) zss_nil)))
    (zss_one (zs_ret (zv_L (ze_cmp zo_le (ze_callB zf_max (B.b_max) (za_cons (ze_ix (ze_var 4) ze_int) za_nil)) (ze_var 3)))))))))
theorem f__law_is_even {G : Glob} {f : Addr} {fd : FuncData} (B : Blt G) (F : FunD G.K "_law_is_even" "_law_is_even" (defArgs s__law_is_even) (defBody s__law_is_even) (defScope s__law_is_even) [] [] f fd) (hm : G.mg "_law_is_even" = some (.ref f)) (F__law_occurrences : FnZ G 2 "_law_occurrences" 2 [] sp__law_occurrences) : FnZ G 3 "_law_is_even" 4 [] sp__law_is_even :=
  def_ok F sc__law_is_even hm (F.bindsN fun _ _ _ _ _ _ us hl => match us, hl with | [_, _, _, _], _ => rfl) .nil rfl rfl ar__law_is_even (fun W Z T => b__law_is_even B Z T F__law_occurrences) u__law_is_even
abbrev s__law_is_least_cap : Stmt := top 14
theorem sc__law_is_least_cap : FnScope N__law_is_least_cap ["_law_cap", "_law_seats", "_law_count"] (defScope s__law_is_least_cap) := ⟨rfl, rfl, rfl, by decide +kernel, rfl, by decide +kernel, by decide +kernel⟩
theorem b__law_is_least_cap {G : Glob} {W : WX} (B : Blt G) (Z : Zc G N__law_is_least_cap (defScope s__law_is_least_cap) (fun _ => true) W 1) (T : Zst Z) (F__law_is_integer : FnZ G 1 "_law_is_integer" 1 [] sp__law_is_integer) : ZSs Z (defBody s__law_is_least_cap) w__law_is_least_cap :=
  (zss_cons (zs_set (zv_L (ze_op zo_div (ze_callTy zf_int (B.b_int) (za_cons (ze_op zo_mul (ze_var 1) (ze_op zo_sub (ze_var 1) ze_int)) za_nil)) ze_int)))
    (zss_cons (zs_if (zvt (zt_w (zw_or (zt_not (zt_val (ze_call F__law_is_integer (by decide) (za_cons (ze_var 0) za_nil)))) (zw_or (zt_cmp zo_lt (ze_var 0) ze_int) (zw_or1 (zt_cmp zo_lt (ze_op zo_mul (ze_var 0) (ze_var 3)) (ze_var 2))))))) (zss_one (zs_ret (zv_L ze_bl))) zss_nil)
    (zss_one (zs_ret (zv_L (ze_or (ze_cmp zo_eq (ze_var 0) ze_int) (ze_one (ze_cmp zo_lt (ze_op zo_mul (ze_op zo_sub (ze_var 0) ze_int) (ze_var 3)) (ze_var 2)))))))))
theorem f__law_is_least_cap {G : Glob} {f : Addr} {fd : FuncData} (B : Blt G) (F : FunD G.K "_law_is_least_cap" "_law_is_least_cap" (defArgs s__law_is_least_cap) (defBody s__law_is_least_cap) (defScope s__law_is_least_cap) [] [] f fd) (hm : G.mg "_law_is_least_cap" = some (.ref f)) (F__law_is_integer : FnZ G 1 "_law_is_integer" 1 [] sp__law_is_integer) : FnZ G 2 "_law_is_least_cap" 3 [] sp__law_is_least_cap :=
  def_ok F sc__law_is_least_cap hm (F.bindsN fun _ _ _ _ _ _ us hl => match us, hl with | [_, _, _], _ => rfl) .nil rfl rfl ar__law_is_least_cap (fun W Z T => b__law_is_least_cap B Z T F__law_is_integer) u__law_is_least_cap
abbrev s_law : Stmt := top 15
theorem sc_law : FnScope N_law ["_law_script"] (defScope s_law) := ⟨rfl, rfl, rfl, by decide +kernel, rfl, by decide +kernel, by decide +kernel⟩
theorem b_law {G : Glob} {W : WX} (B : Blt G) (Z : Zc G N_law (defScope s_law) (fun _ => true) W 3) (T : Zst Z) (F__law_case : FnZ G 2 "_law_case" 1 [] sp__law_case) (F__law_cell : FnZ G 1 "_law_cell" 2 [] sp__law_cell) (F_least_even_cap : FnZ G 2 "least_even_cap" 2 [] sp_least_even_cap) (F_even_pairs : FnZ G 3 "even_pairs" 2 [] sp_even_pairs) (F__law_is_least_cap : FnZ G 2 "_law_is_least_cap" 3 [] sp__law_is_least_cap) (F__law_is_even : FnZ G 3 "_law_is_even" 4 [] sp__law_is_even) : ZSs Z (defBody s_law) w_law :=
  (zss_cons (zs_set (zv_L (ze_call F__law_case (by decide) (za_cons (ze_call F__law_cell (by decide) (za_cons (ze_var 0) (za_cons ze_int za_nil))) za_nil))))
    (zss_cons (zs_set (zv_L (ze_call F__law_case (by decide) (za_cons (ze_call F__law_cell (by decide) (za_cons (ze_var 0) (za_cons ze_int za_nil))) za_nil))))
    (zss_cons (zs_for T (ziv_S (zie_list (ze_lst (za_cons (ze_var 1) (za_cons (ze_var 2) (za_cons (ze_var 1) za_nil)))))) (zg_name 3) (zss_cons (zs_set (zv_L (ze_call F_least_even_cap (by decide) (za_cons (ze_ix (ze_var 3) ze_int) (za_cons (ze_ix (ze_var 3) ze_int) za_nil)))))
    (zss_cons (zs_if (zvt (zt_not (zt_val (ze_call F__law_is_least_cap (by decide) (za_cons (ze_var 4) (za_cons (ze_ix (ze_var 3) ze_int) (za_cons (ze_ix (ze_var 3) ze_int) za_nil))))))) (zss_one (zs_ret (zv_L ze_bl))) zss_nil)
    (zss_cons (zs_set (zv_L (ze_call F_even_pairs (by decide) (za_cons (ze_ix (ze_var 3) ze_int) (za_cons (ze_ix (ze_var 3) ze_int) za_nil)))))
    (zss_cons (zs_if (zvt (zt_not (zt_val (ze_call F__law_is_even (by decide) (za_cons (ze_var 5) (za_cons (ze_ix (ze_var 3) ze_int) (za_cons (ze_ix (ze_var 3) ze_int) (za_cons (ze_var 4) za_nil)))))))) (zss_one (zs_ret (zv_L ze_bl))) zss_nil)
    (zss_cons (zs_append 5 (zv_L (ze_tup (za_cons ze_int (za_cons (ze_ix (ze_var 3) ze_int) za_nil)))))
    (zss_one (zs_setix 5 (zv_L (ze_tup (za_cons (ze_ix (ze_var 3) ze_int) (za_cons ze_int za_nil)))) (zv_L ze_int)))))))))
    (zss_one (zs_ret (zv_L ze_bl))))))
theorem f_law {G : Glob} {f : Addr} {fd : FuncData} (B : Blt G) (F : FunD G.K "law" "law" (defArgs s_law) (defBody s_law) (defScope s_law) [] [] f fd) (hm : G.mg "law" = some (.ref f)) (F__law_case : FnZ G 2 "_law_case" 1 [] sp__law_case) (F__law_cell : FnZ G 1 "_law_cell" 2 [] sp__law_cell) (F_least_even_cap : FnZ G 2 "least_even_cap" 2 [] sp_least_even_cap) (F_even_pairs : FnZ G 3 "even_pairs" 2 [] sp_even_pairs) (F__law_is_least_cap : FnZ G 2 "_law_is_least_cap" 3 [] sp__law_is_least_cap) (F__law_is_even : FnZ G 3 "_law_is_even" 4 [] sp__law_is_even) : FnZ G 4 "law" 1 [] sp_law :=
  def_ok F sc_law hm (F.bindsN fun _ _ _ _ _ _ us hl => match us, hl with | [_], _ => rfl) .nil rfl rfl ar_law (fun W Z T => b_law B Z T F__law_case F__law_cell F_least_even_cap F_even_pairs F__law_is_least_cap F__law_is_even) u_law
end ZL.K26


namespace ZL.K26
open PySem PySem.Spec PyProof.Rows L2 ZL
def d_all_pairs : He.DefD := ⟨("all_pairs", none), "all_pairs", "all_pairs", defArgs s_all_pairs, defBody s_all_pairs, defScope s_all_pairs, [], []⟩
def d_ring : He.DefD := ⟨("ring", none), "ring", "ring", defArgs s_ring, defBody s_ring, defScope s_ring, [], []⟩
def d_rest_pairs : He.DefD := ⟨("rest_pairs", none), "rest_pairs", "rest_pairs", defArgs s_rest_pairs, defBody s_rest_pairs, defScope s_rest_pairs, [], []⟩
def d_even_pairs : He.DefD := ⟨("even_pairs", none), "even_pairs", "even_pairs", defArgs s_even_pairs, defBody s_even_pairs, defScope s_even_pairs, [], []⟩
def d_least_even_cap : He.DefD := ⟨("least_even_cap", none), "least_even_cap", "least_even_cap", defArgs s_least_even_cap, defBody s_least_even_cap, defScope s_least_even_cap, [], []⟩
def d__law_cell : He.DefD := ⟨("_law_cell", none), "_law_cell", "_law_cell", defArgs s__law_cell, defBody s__law_cell, defScope s__law_cell, [], []⟩
def d__law_draws : He.DefD := ⟨("_law_draws", none), "_law_draws", "_law_draws", defArgs s__law_draws, defBody s__law_draws, defScope s__law_draws, [], []⟩
def d__law_is_integer : He.DefD := ⟨("_law_is_integer", none), "_law_is_integer", "_law_is_integer", defArgs s__law_is_integer, defBody s__law_is_integer, defScope s__law_is_integer, [], []⟩
def d__law_case : He.DefD := ⟨("_law_case", none), "_law_case", "_law_case", defArgs s__law_case, defBody s__law_case, defScope s__law_case, [], []⟩
def d__law_occurrences : He.DefD := ⟨("_law_occurrences", none), "_law_occurrences", "_law_occurrences", defArgs s__law_occurrences, defBody s__law_occurrences, defScope s__law_occurrences, [], []⟩
def d__law_is_even : He.DefD := ⟨("_law_is_even", none), "_law_is_even", "_law_is_even", defArgs s__law_is_even, defBody s__law_is_even, defScope s__law_is_even, [], []⟩
def d__law_is_least_cap : He.DefD := ⟨("_law_is_least_cap", none), "_law_is_least_cap", "_law_is_least_cap", defArgs s__law_is_least_cap, defBody s__law_is_least_cap, defScope s__law_is_least_cap, [], []⟩
def d_law : He.DefD := ⟨("law", none), "law", "law", defArgs s_law, defBody s_law, defScope s_law, [], []⟩
def fn : List He.DefD := [d_all_pairs, d_ring, d_rest_pairs, d_even_pairs, d_least_even_cap, d__law_cell, d__law_draws, d__law_is_integer, d__law_case, d__law_occurrences, d__law_is_even, d__law_is_least_cap, d_law]
def fa : List He.Fa := [.glo "all_pairs", .glo "ring", .glo "rest_pairs", .glo "even_pairs", .glo "least_even_cap", .glo "_law_cell", .glo "_law_draws", .glo "_law_is_integer", .glo "_law_case", .glo "_law_occurrences", .glo "_law_is_even", .glo "_law_is_least_cap", .glo "law", .free "abs", .free "bool", .free "int", .free "isinstance", .free "len", .free "list", .free "max", .free "min", .free "range", .free "tuple"]
abbrev R : PySem.W.OpenRow := PySem.W.OpenLaw.row PySem.Challenge.rw_pairwarden_k26_even_pairs
abbrev hk : PySem.W.Hook := He.hookD 4 fa fn
def ob (s : PySem.W.SharedT) : He.AlD := He.obsDG 4 fa fn (HandSHeadRun.getT s)
theorem ob_eq (s : PySem.W.SharedT) : ob s = hk.obs s.abs := He.obsDG_eq (HandSHeadRun.getT_eq s)
def loose : List Str := ["all_pairs", "ring", "rest_pairs", "even_pairs", "least_even_cap", "_law_cell", "_law_draws", "_law_is_integer", "_law_case", "_law_occurrences", "_law_is_even", "_law_is_least_cap"]
theorem run (w : World) : HandSHeadRun.RunEq R (PySem.W.view R.prog [15]) hk ob 4000 loose w := by
  intro os
  kernel_rfl
theorem facts {P : Program} {w : World} {K : PySem.W.Frag} {mg : Str → Option Value} {h : Heap} {fl : Addr} (X : K.In h) (Gh : h.Ns mainGlobals mg) (hfa : mg ("law" : Str) = some (.ref fl)) (c : He.SaysD fa fn K) :
    ∃ fd : FuncData, (∀ (s : Shared) (v : Value), BindsTo s fd ⟨[v], []⟩ [("_law_script", v)]) ∧ ∀ base : Heap, K.In base → base.Ns mainGlobals mg → L2.FnOk P w K mg base (L2.CX P w) 4 fl fd ["_law_script"] (spZ ⟨P, w, K, mg, base⟩ 1 sp_law) := by
  obtain ⟨fd_all_pairs, F_all_pairs⟩ := c.def_ 0 (d := d_all_pairs) rfl
  obtain ⟨fd_ring, F_ring⟩ := c.def_ 1 (d := d_ring) rfl
  obtain ⟨fd_rest_pairs, F_rest_pairs⟩ := c.def_ 2 (d := d_rest_pairs) rfl
  obtain ⟨fd_even_pairs, F_even_pairs⟩ := c.def_ 3 (d := d_even_pairs) rfl
  obtain ⟨fd_least_even_cap, F_least_even_cap⟩ := c.def_ 4 (d := d_least_even_cap) rfl
  obtain ⟨fd__law_cell, F__law_cell⟩ := c.def_ 5 (d := d__law_cell) rfl
  obtain ⟨fd__law_draws, F__law_draws⟩ := c.def_ 6 (d := d__law_draws) rfl
  obtain ⟨fd__law_is_integer, F__law_is_integer⟩ := c.def_ 7 (d := d__law_is_integer) rfl
  obtain ⟨fd__law_case, F__law_case⟩ := c.def_ 8 (d := d__law_case) rfl
  obtain ⟨fd__law_occurrences, F__law_occurrences⟩ := c.def_ 9 (d := d__law_occurrences) rfl
  obtain ⟨fd__law_is_even, F__law_is_even⟩ := c.def_ 10 (d := d__law_is_even) rfl
  obtain ⟨fd__law_is_least_cap, F__law_is_least_cap⟩ := c.def_ 11 (d := d__law_is_least_cap) rfl
  obtain ⟨fd_law, F_law⟩ := c.def_ 12 (d := d_law) rfl
  have e := hfa.symm.trans (He.glo_ok X Gh (c.fact 12 (f := .glo "law") rfl))
  cases e
  refine ⟨fd_law, fun s v => FunD.bindsA (ps := ["_law_script"]) F_law (fun _ _ _ _ _ _ us hl => match us, hl with | [_], _ => rfl) s [v] rfl, fun base hK hG => ?_⟩
  let G : Glob := ⟨P, w, K, mg, base⟩
  have B : Blt G := ⟨He.free_ok X Gh (c.fact 13 (f := .free "abs") rfl), He.free_ok X Gh (c.fact 14 (f := .free "bool") rfl), He.free_ok X Gh (c.fact 15 (f := .free "int") rfl), He.free_ok X Gh (c.fact 16 (f := .free "isinstance") rfl), He.free_ok X Gh (c.fact 17 (f := .free "len") rfl), He.free_ok X Gh (c.fact 18 (f := .free "list") rfl), He.free_ok X Gh (c.fact 19 (f := .free "max") rfl), He.free_ok X Gh (c.fact 20 (f := .free "min") rfl), He.free_ok X Gh (c.fact 21 (f := .free "range") rfl), He.free_ok X Gh (c.fact 22 (f := .free "tuple") rfl)⟩
  have Z_all_pairs := f_all_pairs (G := G) B F_all_pairs (He.glo_ok X Gh (c.fact 0 (f := .glo "all_pairs") rfl))
  have Z_ring := f_ring (G := G) B F_ring (He.glo_ok X Gh (c.fact 1 (f := .glo "ring") rfl))
  have Z__law_cell := f__law_cell (G := G) B F__law_cell (He.glo_ok X Gh (c.fact 5 (f := .glo "_law_cell") rfl))
  have Z__law_draws := f__law_draws (G := G) B F__law_draws (He.glo_ok X Gh (c.fact 6 (f := .glo "_law_draws") rfl))
  have Z__law_is_integer := f__law_is_integer (G := G) B F__law_is_integer (He.glo_ok X Gh (c.fact 7 (f := .glo "_law_is_integer") rfl))
  have Z_rest_pairs := f_rest_pairs (G := G) B F_rest_pairs (He.glo_ok X Gh (c.fact 2 (f := .glo "rest_pairs") rfl)) Z_ring
  have Z_least_even_cap := f_least_even_cap (G := G) B F_least_even_cap (He.glo_ok X Gh (c.fact 4 (f := .glo "least_even_cap") rfl)) Z_all_pairs
  have Z__law_case := f__law_case (G := G) B F__law_case (He.glo_ok X Gh (c.fact 8 (f := .glo "_law_case") rfl)) Z__law_draws
  have Z__law_occurrences := f__law_occurrences (G := G) B F__law_occurrences (He.glo_ok X Gh (c.fact 9 (f := .glo "_law_occurrences") rfl)) Z__law_is_integer
  have Z__law_is_least_cap := f__law_is_least_cap (G := G) B F__law_is_least_cap (He.glo_ok X Gh (c.fact 11 (f := .glo "_law_is_least_cap") rfl)) Z__law_is_integer
  have Z_even_pairs := f_even_pairs (G := G) B F_even_pairs (He.glo_ok X Gh (c.fact 3 (f := .glo "even_pairs") rfl)) Z_all_pairs Z_rest_pairs
  have Z__law_is_even := f__law_is_even (G := G) B F__law_is_even (He.glo_ok X Gh (c.fact 10 (f := .glo "_law_is_even") rfl)) Z__law_occurrences
  exact def_run F_law sc_law rfl (fun W Z T => b_law B Z T Z__law_case Z__law_cell Z_least_even_cap Z_even_pairs Z__law_is_least_cap Z__law_is_even) u_law
end ZL.K26
open PySem PySem.W PySem.Calls PyProof.Rows
theorem PySem.Challenge.cw_pairwarden_k26_even_pairs_holds : PySem.Challenge.rw_pairwarden_k26_even_pairs.Holds := by
  w_on; o_law
  refine HandSHeadRun.head_any (r := OpenLaw.row PySem.Challenge.rw_pairwarden_k26_even_pairs) (q := view (OpenLaw.row PySem.Challenge.rw_pairwarden_k26_even_pairs).prog [15]) (H := ZL.K26.hk) (ob := ZL.K26.ob) (M := 4000) (loose := ZL.K26.loose) (d := HandSHeadRun.topDef (OpenLaw.row PySem.Challenge.rw_pairwarden_k26_even_pairs).prog 15) (kwd := []) ZL.K26.ob_eq
    (by kernel_rfl) (fun s => by kernel_rfl) ZL.K26.run (by kernel_rfl) (by kernel_rfl) (by kernel_rfl) (by rfl) (by first | assumption | decide +kernel) (by decide +kernel) ⟨rfl, rfl, rfl, rfl, rfl, by decide +kernel⟩ ?hw ?hc
  case hw => w_witness2
  case hc =>
    refine ZL.walk_zl (l := PySem.Challenge.rw_pairwarden_k26_even_pairs) (top := 63) (k := 4) (x := "_law_script") (cx := L2.CX (PySem.Challenge.rw_pairwarden_k26_even_pairs).prog) rfl (by decide) (by kernel_rfl) ⟨rfl, by decide, by decide⟩ ?F (fun w H s e s' z => ZL.cx_none z)
    intro w mg fa h Y G hmg0
    obtain ⟨K, KX, c⟩ := Y
    have hmg : mg ("law" : PySem.Str) = some (.ref fa) := by
      have e : (HandSHeadRun.topDef (OpenLaw.row PySem.Challenge.rw_pairwarden_k26_even_pairs).prog 15).name = ("law" : PySem.Str) := by kernel_rfl
      rw [← e]
      exact hmg0
    obtain ⟨fd, hb, hF⟩ := ZL.K26.facts (P := (PySem.Challenge.rw_pairwarden_k26_even_pairs).prog) (w := w) KX G hmg c
    exact ⟨K, fd, ZL.spZ ⟨(PySem.Challenge.rw_pairwarden_k26_even_pairs).prog, w, K, mg, h⟩ 1 ZL.spLaw, KX, hb, fun H a ns hl hS => ZL.law_sp hl hS, hF⟩

